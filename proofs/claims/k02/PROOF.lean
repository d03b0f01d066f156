import PyProof.Rows.All
import Wide.All
import OpenK.AllK
import Wide.FinOn
import HandS.ForMost
import HandS.ForExc
import HandS.IsInst
import HandS.Wide
import HandS.Walk
import HandS.Zip
import HandS.ExcOwn
import HandS.Text
import HandS.EndBits
import HandS.Head0
import HandS.Head1
import HandS.Head2
import HandS.HeadEnd
import HandS.HeadHook1
import HandS.HeadHook2
import HandS.Words
import HandS.Defaults
import HandS.Dict
import HandS.DictComp
import HandS.DictTup
import HandS.Keys
import HandS.Conv
import HandS.SortRule
import HandS.SortKw
import HandS.SetKeys
import HandS.SetFor
import HandS.SetBool
import HandS.Flow
import HandS.StrMore
import HandS.StrSplit
import HandS.FStr
import HandS.Rev
import HandS.RevRange
import HandS.TryMany
import HandS.RaiseOp
import HandS.ExcInit
import HandS.Remove
import HandS.NoneIn
import HandS.TupLen
import HandS.SortInts
import HandS.WideBits
import HandS.Style
import HandS.Small
import HandS.Strs
import HandS.RaiseMore
import KE.SortData
import KE.DataCmp
import HandS.JoinGen
import HandS.SuiteRaise
import HandS.TryElse
import KE.KDictKeyed
import KE.KDictWalk
import KE.KSortTup
import PyProof.Rows.RegFStrParts
import PySem.Challenge.RW_headerclicks_k02_cells_compared
set_option Elab.async false
set_option linter.all false
set_option maxRecDepth 100000
set_option maxHeartbeats 2000000
namespace Hc
open PySem

inductive D where
  | non
  | bl (b : Bool)
  | int (i : Int)
  | str (s : Str)
  | gone
  | tup (xs : List D)
  | lst (o : Bool) (xs : List D)
  | dic (o t : Bool) (ks vs : List D)
  | obj (o : Bool) (c : Str) (fs : List Str) (vs : List D)
  deriving Inhabited

abbrev Slots := List (Option D)
structure Exc where
  c : Str
  d : Option D

inductive R (α : Type) where
  | ok (a : α) (env : Slots)
  | ex (x : Exc) (env : Slots)
  | no
def R.bind {α β : Type} (r : R α) (f : α → Slots → R β) : R β := match r with
  | .ok a e => f a e
  | .ex x e => .ex x e
  | .no => .no
@[simp] theorem R.bind_ok {α β : Type} (a : α) (e : Slots) (f : α → Slots → R β) : (R.ok a e).bind f = f a e := rfl
@[simp] theorem R.bind_ex {α β : Type} (x : Exc) (e : Slots) (f : α → Slots → R β) : (R.ex x e : R α).bind f = .ex x e := rfl
@[simp] theorem R.bind_no {α β : Type} (f : α → Slots → R β) : (R.no : R α).bind f = .no := rfl
inductive Rc where
  | ok (d : D) (ps : List D)
  | ex (x : Exc)
  | no
abbrev Glob := Str → List D → Rc

mutual
def D.fz : D → D
  | .tup xs => .tup (fzs xs)
  | .lst o xs => .lst false (match o with | true => fzs xs | false => xs)
  | .dic o t ks vs => .dic false t ks (match o with | true => fzs vs | false => vs)
  | .obj o c fs vs => .obj false c fs (match o with | true => fzs vs | false => vs)
  | .non => .non
  | .bl b => .bl b
  | .int i => .int i
  | .str s => .str s
  | .gone => .gone
def fzs : List D → List D
  | [] => []
  | d :: ds => d.fz :: fzs ds
end
mutual
def D.noOwn : D → Bool
  | .tup xs => noOwns xs
  | .lst o _ => !o
  | .dic o _ _ _ => !o
  | .obj o _ _ _ => !o
  | .non => true
  | .bl _ => true
  | .int _ => true
  | .str _ => true
  | .gone => true
def noOwns : List D → Bool
  | [] => true
  | d :: ds => d.noOwn && noOwns ds
end
def D.items? : D → Option (List D)
  | .tup xs => some xs
  | .lst _ xs => some xs
  | _ => none
def chars (s : Str) : List D := s.cps.toList.map fun c => .str ⟨#[c]⟩
def D.walk? : D → Option (List D)
  | .tup xs => some xs
  | .lst _ xs => some xs
  | .str s => some (chars s)
  | _ => none
def D.shal : D → Bool
  | .tup xs => noOwns xs
  | .lst _ xs => noOwns xs
  | .dic _ _ _ vs => noOwns vs
  | .obj _ _ _ vs => noOwns vs
  | _ => true
mutual
def D.noFz : D → Bool
  | .tup xs => noFzs xs
  | .lst o xs => o && noFzs xs
  | .dic o _ _ vs => o && noFzs vs
  | .obj o _ _ vs => o && noFzs vs
  | .non => true
  | .bl _ => true
  | .int _ => true
  | .str _ => true
  | .gone => false
def noFzs : List D → Bool
  | [] => true
  | d :: ds => d.noFz && noFzs ds
end

mutual
def D.toP : D → PyData
  | .non => .none
  | .bl b => .bool b
  | .int i => .int i
  | .str s => .str s
  | .gone => .dict []
  | .tup xs => .tuple (toPs xs)
  | .lst _ xs => .list (toPs xs)
  | .dic _ _ _ _ => .dict []
  | .obj _ _ _ _ => .dict []
def toPs : List D → List PyData
  | [] => []
  | d :: ds => d.toP :: toPs ds
end
def flat : Nat → D → Bool
  | _, .non => true
  | _, .bl _ => true
  | _, .int _ => true
  | _, .str s => PyData.strOk s
  | n + 1, .tup xs => xs.all (flat n)
  | n + 1, .lst _ xs => xs.all (flat n)
  | _, _ => false
def deq (x y : D) : Bool := PyData.eqv x.toP y.toP

abbrev sz : Nat := 16777216
inductive Bo where
  | add | sub | mul | mod | fdv | pow | shl | shr | band | bor
  deriving DecidableEq
inductive Cm where
  | eq | ne | lt | le | gt | ge | isn | nin | inn | is_
  deriving DecidableEq
def binop : Bo → D → D → Option D
  | .add, .int i, .int j => some (.int (i + j))
  | .add, .str a, .str b => if a.length + b.length ≤ sz then some (.str (a ++ b)) else none
  | .add, .lst _ a, .lst _ b => if a.length + b.length ≤ sz then some (.lst true (a ++ b)) else none
  | .sub, .int i, .int j => some (.int (i - j))
  | .mul, .int i, .int j => if i.natAbs.log2 + j.natAbs.log2 < 1000000 then some (.int (i * j)) else none
  | .mul, .lst _ a, .int k => if noOwns a = true ∧ a.length * k.toNat ≤ sz ∧ -(2 ^ 63) ≤ k ∧ k < 2 ^ 63 then some (.lst true (List.replicate k.toNat a).flatten) else none
  | .mul, .str a, .int k => if 0 ≤ k ∧ k ≤ 1000 ∧ a.length ≤ 1000 then some (.str (Txt.mul a k)) else none
  | .mod, .int i, .int j => if 0 < j then some (.int (i % j)) else none
  | .fdv, .int i, .int j => if 0 < j ∧ j.natAbs.log2 < 9000 then some (.int (i / j)) else none
  | .pow, .int i, .int j => if 0 ≤ j ∧ (Builtin.Int.intBits i : Int) * j ≤ 2 ^ 27 then some (.int (i ^ j.toNat)) else none
  | .shr, .int i, .int j => if 0 ≤ j then some (.int (i / 2 ^ j.toNat)) else none
  | .shl, .int i, .int j => if 0 ≤ j ∧ j ≤ 1000 ∧ i.natAbs < 2 ^ 64 then some (.int (i * 2 ^ j.toNat)) else none
  | .band, .int i, .int j => some (.int (Builtin.bitAnd i j))
  | .bor, .int i, .int j => some (.int (Builtin.bitOr i j))
  | _, _, _ => none
def kOk : D → Bool
  | .int _ => true
  | .str _ => true
  | _ => false
def keyOk : Bool → D → Bool
  | false, d => kOk d
  | true, .tup xs => xs.all kOk
  | true, _ => false
mutual
def D.same : D → D → Bool
  | .non, .non => true
  | .bl a, .bl b => a == b
  | .int i, .int j => i == j
  | .str x, .str y => decide (x = y)
  | .tup xs, .tup ys => sames xs ys
  | .lst o xs, .lst p ys => o == p && sames xs ys
  | .dic o t ks vs, .dic p u js ws => o == p && t == u && sames ks js && sames vs ws
  | .obj o c fs vs, .obj p d gs ws => o == p && decide (c = d) && decide (fs = gs) && sames vs ws
  | _, _ => false
def sames : List D → List D → Bool
  | [], [] => true
  | x :: xs, y :: ys => D.same x y && sames xs ys
  | _, _ => false
end
def keyAt (ks : List D) (k : D) : Option Nat := ks.findIdx? fun z => D.same z k
def lookD (ks vs : List D) (k : D) : Option D := (keyAt ks k).bind fun i => vs[i]?
def ltD (x y : D) : Bool := PySem.W.dataLt x.toP y.toP
def isSeqD : D → Bool
  | .tup _ => true
  | .lst _ _ => true
  | _ => false
def cmpOk (x y : D) : Bool := isSeqD x && flat 60 x && flat 60 y && PySem.W.alike x.toP y.toP
def fstLt : D → D → Option Bool
  | .tup (.int i :: xs), .tup (.int j :: ys) => if i ≠ j ∧ flat 60 (.tup (.int i :: xs)) = true ∧ flat 60 (.tup (.int j :: ys)) = true then some (decide (i < j)) else none
  | _, _ => none
def cmpop : Cm → D → D → Option Bool
  | .eq, .str a, .str b => some (decide (a = b))
  | .ne, .str a, .str b => some (!decide (a = b))
  | .lt, .str a, .str b => some (decide (a.cps.toList < b.cps.toList))
  | .le, .str a, .str b => some (!decide (b.cps.toList < a.cps.toList))
  | .gt, .str a, .str b => some (decide (b.cps.toList < a.cps.toList))
  | .ge, .str a, .str b => some (!decide (a.cps.toList < b.cps.toList))
  | .eq, x, y => if flat 60 x = true ∧ flat 60 y = true then some (deq x y) else none
  | .ne, x, y => if flat 60 x = true ∧ flat 60 y = true then some (!deq x y) else none
  | .lt, .int i, .int j => some (decide (i < j))
  | .le, .int i, .int j => some (decide (i ≤ j))
  | .gt, .int i, .int j => some (decide (j < i))
  | .ge, .int i, .int j => some (decide (j ≤ i))
  | .is_, .gone, _ => none
  | .isn, .gone, _ => none
  | .is_, .non, .non => some true
  | .is_, _, .non => some false
  | .isn, .non, .non => some false
  | .isn, _, .non => some true
  | .inn, .str a, .str b => some (!(Builtin.Str.occurrences b a 0 b.length 1).isEmpty)
  | .nin, .str a, .str b => some (!(!(Builtin.Str.occurrences b a 0 b.length 1).isEmpty))
  | .inn, x, .dic _ t ks _ => if keyOk t x = true then some (keyAt ks x).isSome else none
  | .nin, x, .dic _ t ks _ => if keyOk t x = true then some (!(keyAt ks x).isSome) else none
  | .inn, x, y => match y.items? with
    | some ys => if flat 0 x = true ∧ ys.all (flat 0) = true then some (ys.any (fun z => deq z x)) else none
    | none => none
  | .nin, x, y => match y.items? with
    | some ys => if flat 0 x = true ∧ ys.all (flat 0) = true then some (!ys.any (fun z => deq z x)) else none
    | none => none
  | .lt, x, y => if cmpOk x y = true then some (ltD x y) else fstLt x y
  | .gt, x, y => if cmpOk x y = true then some (ltD y x) else fstLt y x
  | .le, x, y => if cmpOk x y = true then some (!ltD y x) else none
  | .ge, x, y => if cmpOk x y = true then some (!ltD x y) else none
  | _, _, _ => none
def truth : D → Option Bool
  | .non => some false
  | .bl b => some b
  | .int i => some (i != 0)
  | .lst _ xs => some (!xs.isEmpty)
  | .tup xs => some (!xs.isEmpty)
  | _ => none
inductive Ty where
  | int | bool | str | list | tuple
  deriving DecidableEq
def Ty.name : Ty → String
  | .int => "int" | .bool => "bool" | .str => "str" | .list => "list" | .tuple => "tuple"
def isTy : D → Ty → Bool
  | .int _, .int => true
  | .bl _, .int => true
  | .bl _, .bool => true
  | .str _, .str => true
  | .lst _ _, .list => true
  | .tup _, .tuple => true
  | _, _ => false
def pick (x k : D) : Option D := match x, k with
  | .lst _ xs, .int i => L2.atI xs i
  | .tup xs, .int i => L2.atI xs i
  | _, _ => none
def dgetOp (x k : D) : Option D := match x with
  | .dic _ t ks vs => if keyOk t k = true then (lookD ks vs k).bind fun r => if r.noOwn = true then some r else none else none
  | _ => none
def putD (ks vs : List D) (k v : D) : List D × List D := match keyAt ks k with
  | some i => (ks, vs.set i v)
  | none => (ks ++ [k], vs ++ [v])
def dputOp (x k v : D) : Option D := match x with
  | .dic true t ks vs => if keyOk t k = true ∧ ks.length < sz then (let p := putD ks vs k v; some (.dic true t p.1 p.2)) else none
  | _ => none
def D.nat? : D → Option Nat
  | .int i => if 0 ≤ i then some i.toNat else none
  | _ => none

inductive Bl where
  | len | int | all | max2 | min2 | list | listR | repr | str | sum | sorted | tuple | divmod | abs | bool
  deriving DecidableEq
def boolsOf : List D → Option (List Bool)
  | [] => some []
  | .bl b :: r => (boolsOf r).map (b :: ·)
  | _ :: _ => none
def intsOf : List D → Option (List Int)
  | [] => some []
  | .int i :: r => (intsOf r).map (i :: ·)
  | _ :: _ => none
def sclK : D → Nat
  | .int _ => 1
  | .str _ => 2
  | _ => 0
def pairK : D → D → Bool
  | .tup [.int i, x], .tup [.int j, y] => sclK x != 0 && sclK y != 0 && (i != j || sclK x == sclK y)
  | _, _ => false
def tupN : D → Bool
  | .tup (_ :: _) => true
  | _ => false
def notN : D → Bool
  | .non => false
  | .tup _ => false
  | _ => true
def allTwo (f : D → D → Bool) (xs : List D) : Bool := xs.all fun x => xs.all fun y => f x y
def sortOk (xs : List D) : Bool := xs.all (flat 60) && ((allTwo (fun x y => PySem.W.alike x.toP y.toP) xs && (xs.all tupN || xs.all notN)) || allTwo pairK xs)
def sortD (xs : List D) : List D := xs.mergeSort fun x y => !ltD y x
def bltop : Bl → List D → Option D
  | .len, [.lst _ xs] => some (.int (xs.length : Int))
  | .len, [.tup xs] => some (.int (xs.length : Int))
  | .len, [.dic _ _ ks _] => some (.int (ks.length : Int))
  | .len, [.str s] => if s.length ≤ sz then some (.int (s.length : Int)) else none
  | .int, [.int i] => some (.int i)
  | .int, [.bl b] => some (.int (if b then 1 else 0))
  | .all, [.lst _ xs] => (boolsOf xs).map fun bs => .bl (bs.all id)
  | .max2, [.int i, .int j] => some (.int (if j > i then j else i))
  | .min2, [.int i, .int j] => some (.int (if j < i then j else i))
  | .sum, [.lst _ xs] => (intsOf xs).map fun ns => .int ns.sum
  | .repr, [x] => if flat 60 x = true ∧ x.toP.showable = true ∧ x.toP.shown.length ≤ sz then some (.str x.toP.shown) else none
  | .str, [.int i] => if i.natAbs.log2 < 1920 then some (.str (toString i)) else none
  | .str, [.str s] => some (.str s)
  | .list, [.lst _ xs] => if noOwns xs = true then some (.lst true xs) else none
  | .list, [.tup xs] => if noOwns xs = true then some (.lst true xs) else none
  | .tuple, [.lst _ xs] => if noOwns xs = true then some (.tup xs) else none
  | .tuple, [.tup xs] => if noOwns xs = true then some (.tup xs) else none
  | .sorted, [.lst _ xs] => if noOwns xs = true ∧ xs.length ≤ sz ∧ sortOk xs = true then some (.lst true (sortD xs)) else none
  | .divmod, [.int i, .int j] => if 0 < j ∧ j < 1073741824 then some (.tup [.int (i / j), .int (i % j)]) else none
  | .abs, [.int i] => some (.int (if i < 0 then -i else i))
  | .bool, [.int i] => some (.bl (i != 0))
  | .bool, [.bl b] => some (.bl b)
  | _, _ => none
inductive Vm where
  | index | count | lower | join | split
  deriving DecidableEq
def strsOf : List D → Option (List Str)
  | [] => some []
  | .str s :: r => (strsOf r).map (s :: ·)
  | _ :: _ => none
def vmop : Vm → D → List D → Option D
  | .index, .lst _ xs, [y] => if flat 0 y = true ∧ xs.all (flat 0) = true then (xs.findIdx? fun z => deq z y).map fun (k : Nat) => D.int (k : Int) else none
  | .count, .lst _ xs, [.int k] => (intsOf xs).map fun (ns : List Int) => D.int ((ns.count k : Nat) : Int)
  | .lower, .str s, [] => if s.length ≤ 5000000 then some (.str (Txt.lower s)) else none
  | .join, .str s, [.lst _ xs] => (strsOf xs).bind fun ys => if (ys.map (·.length)).sum + ys.length * s.length ≤ 16777216 then some (.str (Txt.join s ys)) else none
  | .split, .str s, [.str u] => if (u.length == 0) = false ∧ s.length + 2 ≤ sz then some (.lst true ((Txt.split s u).map .str)) else none
  | _, _, _ => none
inductive Mu where
  | append | extend | pop | popAt | reverse | clear | insert | remove
  deriving DecidableEq
def muop : Mu → D → List D → Option (D × D)
  | .append, .lst true xs, [y] => if xs.length < sz then some (.lst true (xs ++ [y]), .non) else none
  | .extend, .lst true xs, [.lst _ ys] => if xs.length + ys.length ≤ sz then some (.lst true (xs ++ ys), .non) else none
  | .pop, .lst true xs, [] => (xs[xs.length - 1]?).map fun y => (.lst true xs.dropLast, y)
  | .popAt, .lst true xs, [.int i] => if -(2 ^ 63) ≤ i ∧ i < 2 ^ 63 then (seqIndex? i xs.length).bind fun k => (xs[k]?).map fun y => (.lst true (xs.eraseIdx k), y) else none
  | .reverse, .lst true xs, [] => some (.lst true xs.reverse, .non)
  | .clear, .lst true _, [] => some (.lst true [], .non)
  | .insert, .lst true xs, [.int i, y] => if xs.length < sz ∧ 0 ≤ i ∧ i < 2 ^ 63 then some (.lst true (xs.take i.toNat ++ [y] ++ xs.drop i.toNat), .non) else none
  | .remove, .lst true xs, [.int k] => (intsOf xs).bind fun ns => (ns.findIdx? fun n => n == k).map fun j => (.lst true (xs.eraseIdx j), .non)
  | _, _, _ => none

inductive Tg where
  | nm (i : Nat)
  | tup (ts : List Nat)
  | nst (i : Nat) (ts : List Nat)
  | lst (ts : List Nat)
def tgS : Tg → List Nat
  | .nm i => [i]
  | .tup is => is
  | .nst i is => i :: is
  | .lst is => is
inductive CE where
  | nm (i : Nat)
  | lit (d : D)
  | gc (x : Str) (d : D)
  | tup (es : List CE)
  | lst (es : List CE)
  | bin (o : Bo) (a b : CE)
  | neg (a : CE)
  | andE (a b : CE)
  | orE (a b : CE)
  | notE (a : CE)
  | cmp (o : Cm) (a b : CE)
  | chain (o p : Cm) (a b c : CE)
  | ife (c a b : CE)
  | isi (a : CE) (ts : List Ty)
  | blt (f : Bl) (es : List CE)
  | call (f : Str) (es : List CE)
  | callk (f : Str) (es : List CE) (perm : List Nat)
  | bw (i : Nat)
  | io (i : Nat)
  | sub (a b : CE)
  | sli (a lo hi : CE)
  | nop
  | mv (i : Nat)
  | ow (a : CE)
  | fzE (a : CE)
  | lnd (k : Nat) (a : CE)
  | mu (m : Mu) (r : CE) (es : List CE)
  | comp (vs : List Nat) (tg : Tg) (it c e : CE)
  | rng1 (a : CE)
  | rng2 (a b : CE)
  | enu (a : CE)
  | zip (a b : CE)
  | dnew (t : Bool)
  | dget (a b : CE)
  | vm (m : Vm) (a : CE) (es : List CE)
  | vi (m : Vm) (i : Nat) (b : CE)
  | rngd (a b : CE)
  | rev (a : CE)
  | lrng1 (a : CE)
  | lrng2 (a b : CE)
  | dcomp (vs : List Nat) (tg : Tg) (it c k e : CE)
  | ddisp (ks vs : List CE)
mutual
def CE.calm : CE → Bool
  | .tup es => calms es
  | .lst es => calms es
  | .bin _ a b => a.calm && b.calm
  | .neg a => a.calm
  | .andE a b => a.calm && b.calm
  | .orE a b => a.calm && b.calm
  | .notE a => a.calm
  | .cmp _ a b => a.calm && b.calm
  | .chain _ _ a b c => a.calm && b.calm && c.calm
  | .ife c a b => c.calm && a.calm && b.calm
  | .isi a _ => a.calm
  | .blt _ es => calms es
  | .call _ _ => false
  | .callk _ _ _ => false
  | .sub a b => a.calm && b.calm
  | .sli a lo hi => a.calm && lo.calm && hi.calm
  | .mu _ _ _ => false
  | .comp _ _ it c e => it.calm && c.calm && e.calm
  | .rng1 a => a.calm
  | .rng2 a b => a.calm && b.calm
  | .enu a => a.calm
  | .zip a b => a.calm && b.calm
  | .nm _ => true
  | .lit _ => true
  | .gc _ _ => true
  | .bw _ => true
  | .io _ => true
  | .nop => true
  | .mv _ => true
  | .ow a => a.calm
  | .fzE a => a.calm
  | .lnd _ a => a.calm
  | .dnew _ => true
  | .dget a b => a.calm && b.calm
  | .vm _ a es => a.calm && calms es
  | .vi _ _ b => b.calm
  | .rngd a b => a.calm && b.calm
  | .rev a => a.calm
  | .lrng1 a => a.calm
  | .lrng2 a b => a.calm && b.calm
  | .dcomp _ _ it c k e => it.calm && c.calm && k.calm && e.calm
  | .ddisp ks vs => calms ks && calms vs
def calms : List CE → Bool
  | [] => true
  | c :: cs => c.calm && calms cs
end
inductive CS where
  | set (i : Nat) (e : CE)
  | unp (tg : Tg) (e : CE)
  | par (i j : Nat) (a b : CE)
  | setsub (r k e : CE)
  | expr (e : CE)
  | ret (e : CE)
  | retN
  | ifS (c : CE) (a b : List CS)
  | forS (tg : Tg) (it : CE) (b : List CS)
  | brk
  | cont
  | pass
  | never
  | dset (i : Nat) (k e : CE)
  | whileS (c : CE) (b : List CS)
  | aug (i : Nat) (o : Bo) (e : CE)

def Slots.at (env : Slots) (i : Nat) : Option D := match env[i]? with
  | some o => o
  | none => none
def lift {α : Type} (o : Option α) (env : Slots) : R α := match o with
  | some a => .ok a env
  | none => .no
@[simp] theorem lift_some {α : Type} (a : α) (env : Slots) : lift (some a) env = .ok a env := rfl
@[simp] theorem lift_none {α : Type} (env : Slots) : (lift none env : R α) = .no := rfl
def peek : CE → Slots → Option D
  | .nm i, env => env.at i
  | .lit d, _ => some d
  | .gc _ d, _ => some d
  | .neg a, env => match peek a env with
    | some (.int i) => some (.int (-i))
    | _ => none
  | .bin .add a b, env => match peek a env, peek b env with
    | some (.int i), some (.int j) => some (.int (i + j))
    | _, _ => none
  | .bin .sub a b, env => match peek a env, peek b env with
    | some (.int i), some (.int j) => some (.int (i - j))
    | _, _ => none
  | .sub a b, env => match peek a env, peek b env with
    | some x, some k => pick x k
    | _, _ => none
  | .ife (.cmp .eq a b) x y, env => match peek a env, peek b env with
    | some (.int i), some (.int j) => if i = j then peek x env else peek y env
    | _, _ => none
  | .blt .len [a], env => match peek a env with
    | some x => bltop .len [x]
    | none => none
  | _, _ => none
def view (c : CE) (r : Slots → R D) (env : Slots) : R D := match peek c env with
  | some d => .ok d env
  | none => r env
def CE.isNm : CE → Bool
  | .nm _ => true
  | _ => false
def opd (sh : Bool) (c : CE) (r : Slots → R D) (env : Slots) : R D := match c with
  | .nm i => (match env.at i with
    | some d => if (!sh || d.shal) = true then .ok d env else .no
    | none => .no)
  | _ => r env
def two (sh : Bool) (a : CE) (ra : Slots → R D) (b : CE) (rb : Slots → R D) (env : Slots) : R (D × D) := match a with
  | .nm i => (lift (env.at i) env).bind fun _ env => (opd sh b rb env).bind fun y e => (opd sh a ra e).bind fun x e => .ok (x, y) e
  | _ => (ra env).bind fun x e => (opd sh b rb e).bind fun y e => .ok (x, y) e
def cNm (i : Nat) (env : Slots) : R D := match env.at i with
  | some d => .ok d.fz (env.set i (some d.fz))
  | none => .no
def cFz (r : Slots → R D) (env : Slots) : R D := (r env).bind fun d e => .ok d.fz e
def keepS : Option D → Option D → Option D
  | _, none => none
  | none, some d => if d.noFz = true then some d else none
  | some o, some d => if d.noFz = true then some d else if (o.noOwn && D.same o d) = true then some d else none
def lendBack : Slots → Slots → Slots
  | o :: os, n :: ns => keepS o n :: lendBack os ns
  | [], n :: ns => keepS none n :: lendBack [] ns
  | _, [] => []
def lnd2 (k : Nat) (x : D) (env : Slots) : R D → R D
  | .ok d e => if d.noFz = true then .ok d ((lendBack env e).set k (some x)) else .no
  | _ => .no
def cLnd (k : Nat) (r : Slots → R D) (env : Slots) : R D := match env.at k with
  | some x => lnd2 k x env (r (env.set k (some x.fz)))
  | none => .no
def cMv (i : Nat) (env : Slots) : R D := match env.at i with
  | some d => .ok d (env.set i none)
  | none => .no
def cBin (o : Bo) (a : CE) (ra : Slots → R D) (b : CE) (rb : Slots → R D) (env : Slots) : R D := (two true a ra b rb env).bind fun p e => lift (binop o p.1 p.2) e
def cCmp (o : Cm) (a : CE) (ra : Slots → R D) (b : CE) (rb : Slots → R D) (env : Slots) : R D := (two false a ra b rb env).bind fun p e => (lift (cmpop o p.1 p.2) e).bind fun r e => .ok (.bl r) e
def cNeg (ra : Slots → R D) (env : Slots) : R D := (ra env).bind fun x e => match x with
  | .int i => .ok (.int (-i)) e
  | _ => .no
def cAnd (ra rb : Slots → R D) (env : Slots) : R D := (ra env).bind fun x e => match x with
  | .bl true => rb e
  | .bl false => .ok (.bl false) e
  | _ => .no
def cOr (ra rb : Slots → R D) (env : Slots) : R D := (ra env).bind fun x e => match x with
  | .bl true => .ok (.bl true) e
  | .bl false => rb e
  | _ => .no
def cAndT (ta tb : Slots → R Bool) (env : Slots) : R Bool := (ta env).bind fun c e => if c = true then tb e else .ok false e
def cOrT (ta tb : Slots → R Bool) (env : Slots) : R Bool := (ta env).bind fun c e => if c = true then .ok true e else tb e
def cNotT (ta : Slots → R Bool) (env : Slots) : R Bool := (ta env).bind fun c e => .ok (!c) e
def cNot (ra : Slots → R D) (env : Slots) : R D := (ra env).bind fun x e => match x with
  | .bl b => .ok (.bl (!b)) e
  | _ => .no
def cChain (o p : Cm) (a : CE) (ra : Slots → R D) (b : CE) (rb : Slots → R D) (c : CE) (rc : Slots → R D) (env : Slots) : R D :=
  (two false a ra b rb env).bind fun q e => if flat 0 q.2 = true then (lift (cmpop o q.1 q.2) e).bind fun r e =>
    if r = true then (opd false c rc e).bind fun z e => (lift (cmpop p q.2 z) e).bind fun r e => .ok (.bl r) e else .ok (.bl false) e
  else .no
def cIf (tc : Slots → R Bool) (ra rb : Slots → R D) (env : Slots) : R D := (tc env).bind fun c e => if c = true then ra e else rb e
def cIsi (a : CE) (ra : Slots → R D) (ts : List Ty) (env : Slots) : R D := (opd false a ra env).bind fun x e => match x with
  | .gone => .no
  | _ => .ok (.bl (ts.any (isTy x))) e
def pickA (x k : D) : Option D := match x, k with
  | .str s, .int i => if s.length ≤ sz then (L2.atI s.cps.toList i).map fun c => .str ⟨#[c]⟩ else none
  | _, _ => pick x k
def cSub (a : CE) (ra : Slots → R D) (b : CE) (rb : Slots → R D) (env : Slots) : R D := match peek (.sub a b) env with
  | some r => if r.noOwn = true then .ok r env else .no
  | none => (match a with
    | .nm i => (lift (env.at i) env).bind fun _ env => (rb env).bind fun k e => (lift (e.at i) e).bind fun x e => (lift (pickA x k) e).bind fun r e => if r.noOwn = true then .ok r e else .no
    | _ => (ra env).bind fun x e => (rb e).bind fun k e => lift (pickA x k) e)
def cDget (a : CE) (ra : Slots → R D) (b : CE) (rb : Slots → R D) (env : Slots) : R D := (two false a ra b rb env).bind fun p e => lift (dgetOp p.1 p.2) e
def cutD (xs : List D) (lo hi : Option Int) : List D := (xs.drop (HT.sIx xs.length 0 lo)).take (HT.sIx xs.length xs.length hi - HT.sIx xs.length 0 lo)
def cutOp (x : D) (lo hi : Option Int) : Option D := match x with
  | .lst _ xs => some (.lst true (cutD xs lo hi))
  | .str z => if z.length ≤ sz then some (.str (L2.cutS z lo hi)) else none
  | _ => none
def revOp (x : D) : Option D := match x with
  | .lst _ xs => some (.lst true xs.reverse)
  | _ => none
def cRev (a : CE) (ra : Slots → R D) (env : Slots) : R D := (opd true a ra env).bind fun x e => lift (revOp x) e
def cVm0 (m : Vm) (a : CE) (ra : Slots → R D) (env : Slots) : R D := (opd false a ra env).bind fun x e => match x with
  | .str s => lift (vmop m (.str s) []) e
  | _ => .no
def cVm1 (m : Vm) (a : CE) (ra : Slots → R D) (b : CE) (rb : Slots → R D) (env : Slots) : R D := (opd false a ra env).bind fun x e => match x with
  | .str s => (view b rb e).bind fun y e => lift (vmop m (.str s) [y]) e
  | _ => .no
def eNop (c : CE) (r : Slots → R D) (env : Slots) : R (Option Int) := match c with
  | .nop => .ok none env
  | _ => (r env).bind fun d e => match d with
    | .int i => .ok (some i) e
    | _ => .no
def cSli (a : CE) (ra : Slots → R D) (lo : CE) (rl : Slots → R D) (hi : CE) (rh : Slots → R D) (env : Slots) : R D := match a with
  | .nm i => (lift (env.at i) env).bind fun _ env => (eNop lo rl env).bind fun l e => (eNop hi rh e).bind fun h e => (opd true a ra e).bind fun x e => lift (cutOp x l h) e
  | _ => (ra env).bind fun x e => (eNop lo rl e).bind fun l e => (eNop hi rh e).bind fun h e => lift (cutOp x l h) e
def Bl.looks : Bl → Bool
  | .len => true
  | .all => true
  | .repr => true
  | .sum => true
  | .sorted => true
  | .list => true
  | .tuple => true
  | _ => false
def seqE : List (Slots → R D) → Slots → R (List D)
  | [], env => .ok [] env
  | r :: rs, env => (r env).bind fun d e => (seqE rs e).bind fun ds e => .ok (d :: ds) e
def cTup (rs : List (Slots → R D)) (env : Slots) : R D := (seqE rs env).bind fun ds e => if ds.length ≤ sz then .ok (.tup ds) e else .no
def cLst (rs : List (Slots → R D)) (env : Slots) : R D := (seqE rs env).bind fun ds e => if ds.length ≤ sz then .ok (.lst true ds) e else .no
def cBl1 (f : Bl) (a : CE) (ra : Slots → R D) (env : Slots) : R D := (view a ra env).bind fun x e => lift (bltop f [x]) e
def cBl (f : Bl) (rs : List (Slots → R D)) (env : Slots) : R D := (seqE rs env).bind fun ds e => lift (bltop f ds) e
def argE (c : CE) (r : Slots → R D) (env : Slots) : R D := match c with
  | .bw i => lift ((env.at i).map fun _ => D.non) env
  | .io i => lift ((env.at i).map fun _ => D.non) env
  | .ow _ => r env
  | _ => (r env).bind fun d e => .ok d.fz e
def seqA : List (CE × (Slots → R D)) → Slots → R (List (CE × D))
  | [], env => .ok [] env
  | (c, r) :: rs, env => (argE c r env).bind fun d e => (seqA rs e).bind fun ds e => .ok ((c, d) :: ds) e
def fetch : List (CE × D) → Slots → Option (List D × Slots)
  | [], env => some ([], env)
  | (c, d) :: r, env => match c with
    | .bw i => (match env.at i with
      | some x => (match fetch r env with
        | some (ds, e) => if (e.at i).isSome = true then some (x.fz :: ds, e) else none
        | none => none)
      | none => none)
    | .io i => (match env.at i with
      | some x => (match fetch r (env.set i none) with
        | some (ds, e) => some (x :: ds, e)
        | none => none)
      | none => none)
    | _ => (match fetch r env with
        | some (ds, e) => some (d :: ds, e)
        | none => none)
def lent : List (CE × D) → Bool
  | [] => false
  | (.bw _, _) :: _ => true
  | _ :: r => lent r
def giveBack : List (CE × D) → List D → Slots → Slots
  | (.io i, _) :: r, p :: ps, env => giveBack r ps (env.set i (some p))
  | _ :: r, _ :: ps, env => giveBack r ps env
  | _, _, env => env
def backOk : List (CE × D) → List D → Bool
  | (.io _, _) :: r, p :: ps => p.noFz && backOk r ps
  | _ :: r, _ :: ps => backOk r ps
  | _, _ => true
def cCall (Γ : Glob) (f : Str) (l : List (CE × (Slots → R D))) (env : Slots) : R D := (seqA l env).bind fun xs e => match fetch xs e with
  | none => .no
  | some (ds, e) => (match Γ f ds with
    | .ok r ps => if (!lent xs || (r.noFz && backOk xs ps)) = true then .ok r (giveBack xs ps e) else .no
    | .ex x => .ex x e
    | .no => .no)
def noIo : List (CE × D) → Bool
  | [] => true
  | (.io _, _) :: _ => false
  | _ :: r => noIo r
def cCallk (Γ : Glob) (f : Str) (perm : List Nat) (l : List (CE × (Slots → R D))) (env : Slots) : R D := (seqA l env).bind fun xs e => match fetch xs e with
  | none => .no
  | some (ds, e) => if (noOwns ds && perm.all fun j => decide (j < ds.length)) = true then (match Γ f (perm.map fun j => ds.getD j .non) with
    | .ok r _ => if (!lent xs || r.noFz) = true then .ok r e else .no
    | .ex x => .ex x e
    | .no => .no) else .no

def its (c : CE) (d : D) : Option (List D) := if c.isNm = true then d.walk? else d.fz.walk?
def enumD (n : Nat) : List D → List D
  | [] => []
  | d :: ds => .tup [.int n, d] :: enumD (n + 1) ds
def zipD : List D → List D → List D
  | x :: xs, y :: ys => .tup [x, y] :: zipD xs ys
  | _, _ => []
def D.lst? : D → Option (List D)
  | .lst _ xs => some xs
  | _ => none
def cEnu (a : CE) (ra : Slots → R D) (env : Slots) : R D := (opd true a ra env).bind fun d e => lift (d.lst?.bind fun _ => (its a d).map fun xs => .lst false (enumD 0 xs)) e
def zipOp (a b : CE) (x y : D) : Option D := match x, y with
  | .lst _ _, .lst _ _ => (its a x).bind fun xs => (its b y).map fun ys => .lst false (zipD xs ys)
  | .tup _, .tup _ => (its a x).bind fun xs => (its b y).map fun ys => .lst false (zipD xs ys)
  | _, _ => none
def cZip (a : CE) (ra : Slots → R D) (b : CE) (rb : Slots → R D) (env : Slots) : R D := (two true a ra b rb env).bind fun p e => lift (zipOp a b p.1 p.2) e
def upto (lo : Int) (n : Nat) : List D := (List.range n).map fun (i : Nat) => .int (lo + i)
def inR (i : Int) : Prop := -(2 ^ 62) ≤ i ∧ i < 2 ^ 62
instance inRdec (i : Int) : Decidable (inR i) := match i with
  | .ofNat n => if h : n < 4611686018427387904 then .isTrue (show -(2 ^ 62) ≤ ((n : Nat) : Int) ∧ ((n : Nat) : Int) < 2 ^ 62 from ⟨by omega, by omega⟩) else .isFalse fun z => h (by have z : -(2 ^ 62) ≤ ((n : Nat) : Int) ∧ ((n : Nat) : Int) < 2 ^ 62 := z; omega)
  | .negSucc n => if h : n < 4611686018427387904 then .isTrue ⟨by omega, by omega⟩ else .isFalse fun z => h (by have := z.1; omega)
def cRng1 (ra : Slots → R D) (env : Slots) : R D := (ra env).bind fun d e => match d with
  | .int j => if inR j then .ok (.lst false (upto 0 j.toNat)) e else .no
  | _ => .no
def cRng2 (ra rb : Slots → R D) (env : Slots) : R D := (ra env).bind fun x e => (rb e).bind fun y e => match x, y with
  | .int i, .int j => if inR i ∧ inR j then .ok (.lst false (upto i (j - i).toNat)) e else .no
  | _, _ => .no
def cLr1 (ra : Slots → R D) (env : Slots) : R D := (ra env).bind fun d e => match d with
  | .int j => if 0 ≤ j ∧ j ≤ 16777216 then .ok (.lst true (upto 0 j.toNat)) e else .no
  | _ => .no
def cLr2 (ra rb : Slots → R D) (env : Slots) : R D := (ra env).bind fun x e => (rb e).bind fun y e => match x, y with
  | .int i, .int j => if (0 ≤ i ∧ i ≤ 16777216) ∧ (0 ≤ j ∧ j ≤ 16777216) then .ok (.lst true (upto i (j - i).toNat)) e else .no
  | _, _ => .no
def downto (hi : Int) (n : Nat) : List D := (List.range n).map fun (i : Nat) => .int (hi + (i : Int) * -1)
def cRngd (ra rb : Slots → R D) (env : Slots) : R D := (ra env).bind fun x e => (rb e).bind fun y e => match x, y with
  | .int i, .int j => if inR i ∧ inR j then .ok (.lst false (downto i (i - j).toNat)) e else .no
  | _, _ => .no
def guards : CE → Slots → List (Nat × D)
  | .nm i, env => (match env.at i with
    | some (.lst true xs) => [(i, .lst true xs)]
    | _ => [])
  | .enu a, env => guards a env
  | .zip a b, env => guards a env ++ guards b env
  | _, _ => []
def stays (g : List (Nat × D)) (env : Slots) : Bool := g.all fun p => match env.at p.1 with
  | some d => D.same d p.2
  | none => false
def setAll : List Nat → List D → Slots → Option Slots
  | [], [], env => some env
  | i :: is, d :: ds, env => setAll is ds (env.set i (some d))
  | _, _, _ => none
def bindTg (tg : Tg) (d : D) (env : Slots) : Option Slots := match tg, d with
  | .nm i, d => some (env.set i (some d))
  | .tup is, .tup ds => setAll is ds env
  | .nst i is, .tup [x, .tup ds] => setAll is ds (env.set i (some x))
  | .lst is, .lst true ds => setAll is ds env
  | _, _ => none
def wipeE (env : Slots) : List Nat → Slots
  | [] => env
  | v :: vs => (wipeE env vs).set v none
def again (old : Slots) (env : Slots) : List Nat → Slots
  | [] => env
  | v :: vs => (again old env vs).set v (match old.at v with
    | some d => if d.noOwn = true then some d else none
    | none => none)
def compL (g : List (Nat × D)) (vs : List Nat) (step : D → Slots → R (Option D)) : List D → List D → Slots → R (List D)
  | acc, [], env => if stays g env = true then .ok acc env else .no
  | acc, d :: ds, env => if stays g env = true then (step d env).bind fun o e => (match o with
      | some y => if acc.length < sz then compL g vs step (acc ++ [y]) ds (wipeE e vs) else .no
      | none => compL g vs step acc ds (wipeE e vs)) else .no
def mute {α : Type} (r : R α) : R α := match r with
  | .ex _ _ => .no
  | r => r
def turnE (tg : Tg) (c : CE) (tc : Slots → R Bool) (re : Slots → R D) (d : D) (e : Slots) : R (Option D) := mute (match bindTg tg d e with
  | none => .no
  | some e => (match c with
    | .nop => (R.ok true e : R Bool)
    | _ => tc e).bind fun b e => if b = true then (re e).bind fun y e => .ok (some y) e else .ok none e)
def cIt (it : CE) (ri : Slots → R D) (env : Slots) : R (List D × List (Nat × D)) := (opd true it ri env).bind fun d e => lift ((its it d).map fun xs => (xs, guards it e)) e
def cComp (vs : List Nat) (tg : Tg) (it : CE) (ri : Slots → R D) (c : CE) (tc : Slots → R Bool) (re : Slots → R D) (env : Slots) : R D :=
  (cIt it ri env).bind fun p e => (compL p.2 vs (turnE tg c tc re) [] p.1 (wipeE e vs)).bind fun ys e2 => .ok (.lst true ys) (again e e2 vs)

def dcompL (g : List (Nat × D)) (vs : List Nat) (step : D → Slots → R (Option (D × D))) : List D → List D → List D → Slots → R (List D × List D)
  | ks, us, [], env => if stays g env = true then .ok (ks, us) env else .no
  | ks, us, d :: ds, env => if stays g env = true then (step d env).bind fun o e => (match o with
      | some (k, y) => if kOk k = true ∧ ks.length < sz then dcompL g vs step (putD ks us k y).1 (putD ks us k y).2 ds (wipeE e vs) else .no
      | none => dcompL g vs step ks us ds (wipeE e vs)) else .no
def turnK (tg : Tg) (c : CE) (tc : Slots → R Bool) (rk re : Slots → R D) (d : D) (e : Slots) : R (Option (D × D)) := mute (match bindTg tg d e with
  | none => .no
  | some e => (match c with
    | .nop => (R.ok true e : R Bool)
    | _ => tc e).bind fun b e => if b = true then (rk e).bind fun k e => (re e).bind fun y e => .ok (some (k, y)) e else .ok none e)
def cDcomp (vs : List Nat) (tg : Tg) (it : CE) (ri : Slots → R D) (c : CE) (tc : Slots → R Bool) (rk re : Slots → R D) (env : Slots) : R D :=
  (cIt it ri env).bind fun p e => (dcompL p.2 vs (turnK tg c tc rk re) [] [] p.1 (wipeE e vs)).bind fun ys e2 => .ok (.dic true false ys.1 ys.2) (again e e2 vs)
def seqP : List (Slots → R D) → List (Slots → R D) → Slots → R (List (D × D))
  | rk :: rks, rv :: rvs, env => (rk env).bind fun k e => (rv e).bind fun v e => (seqP rks rvs e).bind fun ps e => .ok ((k, v) :: ps) e
  | [], [], env => .ok [] env
  | _, _, _ => .no
def mergeD : List D → List D → List (D × D) → List D × List D
  | ks, us, [] => (ks, us)
  | ks, us, (k, v) :: ps => mergeD (putD ks us k v).1 (putD ks us k v).2 ps
def cDdisp (rks rvs : List (Slots → R D)) (env : Slots) : R D := (seqP rks rvs env).bind fun ps e => if ps.all (fun p => kOk p.1) = true ∧ ps.length ≤ 15 then .ok (.dic true false (mergeD [] [] ps).1 (mergeD [] [] ps).2) e else .no

def isL0 : D → Bool
  | .lst _ _ => true
  | _ => false
def cVi (m : Vm) (i : Nat) (b : CE) (rb : Slots → R D) (env : Slots) : R D := (lift (env.at i) env).bind fun x0 env => if isL0 x0 = true then (view b rb env).bind fun y e => (lift (e.at i) e).bind fun x e => lift (vmop m x [y]) e else .no

def pathOf : CE → Slots → Option (Nat × List D)
  | .nm i, _ => some (i, [])
  | .sub a b, env => match pathOf a env, peek b env with
    | some (i, ks), some k => some (i, ks ++ [k])
    | _, _ => none
  | _, _ => none
def getK : D → List D → Option D
  | d, [] => some d
  | d, k :: ks => match pick d k with
    | some x => getK x ks
    | none => none
def set1 (x k d : D) : Option D := match x, k with
  | .lst true xs, .int i => (L2.ixN xs.length i).map fun j => .lst true (xs.set j d)
  | _, _ => none
def put1 (x k d : D) : Option D := match x, k with
  | .lst true xs, .int i => (L2.ixN xs.length i).map fun j => .lst true (xs.set j d)
  | .tup xs, .int i => (L2.ixN xs.length i).map fun j => .tup (xs.set j d)
  | _, _ => none
def putK : D → List D → D → Option D
  | _, [], n => some n
  | d, k :: ks, n => match pick d k with
    | some x => (match putK x ks n with
      | some y => put1 d k y
      | none => none)
    | none => none
def isL : Option D → Bool
  | some (.lst _ _) => true
  | _ => false
def cMuEnd (m : Mu) (i : Nat) (ks ys : List D) (e : Slots) : R D := (lift (e.at i) e).bind fun x e => (lift (getK x ks) e).bind fun l e => (lift (muop m l ys) e).bind fun p e =>
  (lift (putK x ks p.1) e).bind fun x e => .ok p.2 (e.set i (some x))
def cMu (m : Mu) (r : CE) (args : List CE) (rs : List (Slots → R D)) (env : Slots) : R D := match r with
  | .nm i => if isL (env.at i) = true then (seqE rs env).bind fun ys e => cMuEnd m i [] ys e else .no
  | _ => if calms args = true then (match pathOf r env with
    | some (i, ks) => if isL ((env.at i).bind fun x => getK x ks) = true then (seqE rs env).bind fun ys e => cMuEnd m i ks ys e else .no
    | none => .no) else .no
def cSetEnd (i : Nat) (ks : List D) (kd d : D) (e : Slots) : R Unit := (lift (e.at i) e).bind fun x e => (lift (getK x ks) e).bind fun l e => (lift (set1 l kd d) e).bind fun l e =>
  (lift (putK x ks l) e).bind fun x e => .ok () (e.set i (some x))
def hidS (i : Nat) (ks : List D) (rk : Slots → R D) (d : D) (e : Slots) : R Unit := match e.at i with
  | some x => if (getK x ks).isSome = true then (rk (e.set i none)).bind fun kd e2 => (match e2.at i with
    | none => cSetEnd i ks kd d (e2.set i (some x))
    | some _ => .no) else .no
  | none => .no
def cSetSub (r k : CE) (rk re : Slots → R D) (env : Slots) : R Unit := (re env).bind fun d e => match r with
  | .nm i => if (e.at i).isSome = true then (rk e).bind fun kd e => cSetEnd i [] kd d e else .no
  | _ => (match pathOf r e, peek k e with
    | some (i, ks), some kd => if ((e.at i).bind fun x => getK x ks).isSome = true then cSetEnd i ks kd d e else .no
    | some (i, ks), none => hidS i ks rk d e
    | _, _ => .no)

structure Ev where
  e : Slots → R D
  t : Slots → R Bool
def mkE (c : CE) (r : Slots → R D) : Ev := ⟨r, fun env => (view c r env).bind fun d e => lift (truth d) e⟩
def bad : Slots → R D := fun _ => .no
mutual
def ev (Γ : Glob) : CE → Ev
  | .nm i => mkE (.nm i) (cNm i)
  | .lit d => mkE (.lit d) fun env => .ok d env
  | .gc x d => mkE (.gc x d) fun env => .ok d env
  | .tup es => mkE .nop (cTup (evL Γ es))
  | .lst es => mkE .nop (cLst (evL Γ es))
  | .bin o a b => mkE .nop (cBin o a (ev Γ a).e b (ev Γ b).e)
  | .neg a => mkE .nop (cNeg (ev Γ a).e)
  | .andE a b => ⟨cAnd (ev Γ a).e (ev Γ b).e, cAndT (ev Γ a).t (ev Γ b).t⟩
  | .orE a b => ⟨cOr (ev Γ a).e (ev Γ b).e, cOrT (ev Γ a).t (ev Γ b).t⟩
  | .notE a => ⟨cNot (ev Γ a).e, cNotT (ev Γ a).t⟩
  | .cmp o a b => mkE .nop (cCmp o a (ev Γ a).e b (ev Γ b).e)
  | .chain o p a b c => mkE .nop (cChain o p a (ev Γ a).e b (ev Γ b).e c (ev Γ c).e)
  | .ife c a b => mkE .nop (cIf (ev Γ c).t (ev Γ a).e (ev Γ b).e)
  | .isi a ts => mkE .nop (cIsi a (ev Γ a).e ts)
  | .blt f [a] => mkE .nop (if f.looks = true then cBl1 f a (ev Γ a).e else cBl f [(ev Γ a).e])
  | .blt f es => mkE .nop (cBl f (evL Γ es))
  | .call f es => mkE .nop (cCall Γ f (evA Γ es))
  | .callk f es p => mkE .nop (cCallk Γ f p (evA Γ es))
  | .bw _ => mkE .nop bad
  | .io _ => mkE .nop bad
  | .sub a b => mkE (.sub a b) (cSub a (ev Γ a).e b (ev Γ b).e)
  | .sli a lo hi => mkE .nop (cSli a (ev Γ a).e lo (ev Γ lo).e hi (ev Γ hi).e)
  | .nop => mkE .nop bad
  | .mv i => mkE .nop (cMv i)
  | .ow a => mkE .nop (ev Γ a).e
  | .fzE a => mkE .nop (cFz (ev Γ a).e)
  | .lnd k a => mkE .nop (cLnd k (ev Γ a).e)
  | .mu m r es => mkE .nop (cMu m r es (evL Γ es))
  | .comp vs tg it c e => mkE .nop (cComp vs tg it (ev Γ it).e c (ev Γ c).t (ev Γ e).e)
  | .rng1 a => mkE .nop (cRng1 (ev Γ a).e)
  | .rng2 a b => mkE .nop (cRng2 (ev Γ a).e (ev Γ b).e)
  | .enu a => mkE .nop (cEnu a (ev Γ a).e)
  | .zip a b => mkE .nop (cZip a (ev Γ a).e b (ev Γ b).e)
  | .dnew t => mkE .nop fun env => .ok (.dic true t [] []) env
  | .dget a b => mkE .nop (cDget a (ev Γ a).e b (ev Γ b).e)
  | .vm m a [] => mkE .nop (cVm0 m a (ev Γ a).e)
  | .vm m a [b] => mkE .nop (cVm1 m a (ev Γ a).e b (ev Γ b).e)
  | .vm _ _ _ => mkE .nop bad
  | .vi m i b => mkE .nop (cVi m i b (ev Γ b).e)
  | .rngd a b => mkE .nop (cRngd (ev Γ a).e (ev Γ b).e)
  | .rev a => mkE .nop (cRev a (ev Γ a).e)
  | .lrng1 a => mkE .nop (cLr1 (ev Γ a).e)
  | .lrng2 a b => mkE .nop (cLr2 (ev Γ a).e (ev Γ b).e)
  | .dcomp vs tg it c k e => mkE .nop (cDcomp vs tg it (ev Γ it).e c (ev Γ c).t (ev Γ k).e (ev Γ e).e)
  | .ddisp ks vs => mkE .nop (cDdisp (evL Γ ks) (evL Γ vs))
def evL (Γ : Glob) : List CE → List (Slots → R D)
  | [] => []
  | c :: cs => (ev Γ c).e :: evL Γ cs
def evA (Γ : Glob) : List CE → List (CE × (Slots → R D))
  | [] => []
  | c :: cs => (c, (ev Γ c).e) :: evA Γ cs
end
inductive Fw where
  | nx
  | ret (d : D)
  | brk
  | ct
mutual
def asg : CS → List Nat
  | .set i _ => [i]
  | .unp tg _ => tgS tg
  | .par i j _ _ => [i, j]
  | .ifS _ a b => asgs a ++ asgs b
  | .forS tg _ b => tgS tg ++ asgs b
  | .whileS _ b => asgs b
  | .aug i _ _ => [i]
  | _ => []
def asgs : List CS → List Nat
  | [] => []
  | s :: r => asg s ++ asgs r
end
def forL (g : List (Nat × D)) (tg : Tg) (body : Slots → R Fw) : List D → Slots → R Fw
  | [], env => if stays g env = true then .ok .nx env else .no
  | d :: ds, env => if stays g env = true then (match bindTg tg d env with
      | none => .no
      | some e => (body e).bind fun f e => match f with
        | .nx => forL g tg body ds e
        | .ct => forL g tg body ds e
        | .brk => .ok .nx e
        | .ret d => .ok (.ret d) e) else .no
def whileL (tc : Slots → R Bool) (body : Slots → R Fw) : Nat → Slots → R Fw
  | 0, _ => .no
  | n + 1, env => (tc env).bind fun k e => if k = true then (body e).bind fun f e => match f with
      | .nx => whileL tc body n e
      | .ct => whileL tc body n e
      | .brk => .ok .nx e
      | .ret d => .ok (.ret d) e else .ok .nx e
open Classical in
noncomputable def whileW (tc : Slots → R Bool) (body : Slots → R Fw) (env : Slots) : R Fw := if h : ∃ n, whileL tc body n env ≠ .no then whileL tc body h.choose env else .no
def augOp : Bo → D → D → Option D
  | .add, .int i, .int j => some (.int (i + j))
  | .sub, .int i, .int j => some (.int (i - j))
  | .mul, .int i, .int j => if i.natAbs.log2 + j.natAbs.log2 < 1000000 then some (.int (i * j)) else none
  | _, _, _ => none
mutual
noncomputable def exec (Γ : Glob) : CS → Slots → R Fw
  | .set i e, env => ((ev Γ e).e env).bind fun d e => .ok .nx (e.set i (some d))
  | .unp tg e, env => ((ev Γ e).e env).bind fun d e => match bindTg tg d e with
    | some e => .ok .nx e
    | none => .no
  | .par i j a b, env => ((ev Γ a).e env).bind fun x e => ((ev Γ b).e e).bind fun y e => .ok .nx ((e.set i (some x)).set j (some y))
  | .setsub r k e, env => (cSetSub r k (ev Γ k).e (ev Γ e).e env).bind fun _ e => .ok .nx e
  | .expr e, env => ((ev Γ e).e env).bind fun _ e => .ok .nx e
  | .ret e, env => ((ev Γ e).e env).bind fun d e => .ok (.ret d) e
  | .retN, env => .ok (.ret .non) env
  | .ifS c a b, env => ((ev Γ c).t env).bind fun k e => if k = true then execs Γ a e else execs Γ b e
  | .forS tg it b, env => (cIt it (ev Γ it).e env).bind fun p e => if p.2.all (fun q => !(tgS tg ++ asgs b).contains q.1) = true then forL p.2 tg (execs Γ b) p.1 e else .no
  | .brk, env => .ok .brk env
  | .cont, env => .ok .ct env
  | .pass, env => .ok .nx env
  | .never, _ => .no
  | .whileS c b, env => whileW (ev Γ c).t (execs Γ b) env
  | .aug i o e, env => (lift (env.at i) env).bind fun x env => ((ev Γ e).e env).bind fun y e => (lift (augOp o x y) e).bind fun z e => .ok .nx (e.set i (some z))
  | .dset i k e, env => ((ev Γ e).e env).bind fun d e => if (e.at i).isSome = true then ((ev Γ k).e e).bind fun kd e => (lift (e.at i) e).bind fun x e => (lift (dputOp x kd d) e).bind fun x e => .ok .nx (e.set i (some x)) else .no
noncomputable def execs (Γ : Glob) : List CS → Slots → R Fw
  | [], env => .ok .nx env
  | s :: r, env => (exec Γ s env).bind fun f e => match f with
    | .nx => execs Γ r e
    | .ret d => .ok (.ret d) e
    | .brk => .ok .brk e
    | .ct => .ok .ct e
end
def finals (keep : Nat → Bool) (env : Slots) : Nat → List D
  | 0 => []
  | n + 1 => finals keep env n ++ [if keep n = true then (env.at n).getD .gone else .gone]
noncomputable def runDef (Γ : Glob) (n : Nat) (body : List CS) (ds : List D) : Rc :=
  match execs Γ body (ds.map some ++ List.replicate (n - ds.length) none) with
  | .ok (.ret d) e => .ok d (finals (fun k => !(asgs body).contains k) e ds.length)
  | .ok .nx e => .ok .non (finals (fun k => !(asgs body).contains k) e ds.length)
  | .ok .brk _ => .no
  | .ok .ct _ => .no
  | .ex x _ => .ex x
  | .no => .no
end Hc

set_option Elab.async false
set_option linter.all false
set_option maxRecDepth 100000
set_option maxHeartbeats 2000000
namespace Hc
open PySem PySem.Spec PyProof.Rows L2
abbrev Wr := Addr → Prop
def Ownable : HO → Prop
  | .lst _ => True
  | .dK _ => True
  | .dT _ => True
  | .ins _ _ _ => True
  | _ => False
def FzL (K : PySem.W.Frag) (H : Hp) (a : Addr) (xs : List V) : Prop :=
  Rd H a (.lst xs) ∨ ∃ (its : List Value) (n : Nat), K.lookup a = some { cls := .type "list", data := .seq its.toArray n } ∧ its.length ≤ sizeLine ∧ Vals xs its
theorem FzL.sq {K : PySem.W.Frag} {H : Hp} {a : Addr} {xs : List V} (h : FzL K H a xs) : SqL K H a xs := h.imp id fun ⟨its, n, e, z, r⟩ => ⟨_, its.toArray, n, e, rfl, rfl, rfl, by simpa using z, by simpa using r⟩
theorem FzL.at {X : Cx} {pins : List (Addr × Obj)} {σ : L2.St} {H : Hp} {s : Shared} {a : Addr} {xs : List V} (h : FzL X.K H a xs) (I : Inv X pins σ H s) :
    xs.length ≤ sizeLine ∧ ∃ (its : List Value) (n : Nat), Vals xs its ∧ xs.length = its.length ∧ s.heap.get? a = some { cls := .type "list", data := .seq its.toArray n } := by
  rcases h with h | ⟨its, n, e, z, r⟩
  · obtain ⟨z, its, n, r, e⟩ := Rd.ok h I.hok
    exact ⟨z, its, n, r, r.length, e⟩
  · exact ⟨by rw [r.length]; exact z, its, n, r, r.length, I.kIn a _ e⟩
def keyD : Key → D
  | .inl n => .int n
  | .inr s => .str s
def keyTD (k : List Key) : D := .tup (k.map keyD)
inductive DK : Bool → List D → List V → HO → Prop
  | k (ks : List Key) (vs : List V) : ks.length = vs.length → ks.Nodup → DK false (ks.map keyD) vs (.dK (ks.zip vs))
  | t (ks : List (List Key)) (vs : List V) : ks.length = vs.length → ks.Nodup → DK true (ks.map keyTD) vs (.dT (ks.zip vs))
mutual
inductive VR (K : PySem.W.Frag) (W : Wr) (H : Hp) : D → V → List Addr → Prop
  | non : VR K W H .non .non []
  | bl (b : Bool) : VR K W H (.bl b) (.bl b) []
  | int (i : Int) : VR K W H (.int i) (.int i) []
  | str (s : Str) : VR K W H (.str s) (.str s) []
  | gone (v : V) : VR K W H .gone v []
  | tup {a : Addr} {xs : List V} {ds : List D} {fp : List Addr} : H a = some (.tup xs) → VRs K W H ds xs fp → VR K W H (.tup ds) (.ref a) fp
  | own {a : Addr} {xs : List V} {ds : List D} {fp : List Addr} : H a = some (.lst xs) → VRs K W H ds xs fp → VR K W H (.lst true ds) (.ref a) (a :: fp)
  | frz {a : Addr} {xs : List V} {ds : List D} : FzL K H a xs → ¬ W a → VRs K W H ds xs [] → VR K W H (.lst false ds) (.ref a) []
  | dicO {a : Addr} {o : HO} {t : Bool} {ks : List D} {vs : List V} {ds : List D} {fp : List Addr} : H a = some o → DK t ks vs o → VRs K W H ds vs fp → VR K W H (.dic true t ks ds) (.ref a) (a :: fp)
  | dicF {a : Addr} {o : HO} {t : Bool} {ks : List D} {vs : List V} {ds : List D} : H a = some o → ¬ W a → DK t ks vs o → VRs K W H ds vs [] → VR K W H (.dic false t ks ds) (.ref a) []
inductive VRs (K : PySem.W.Frag) (W : Wr) (H : Hp) : List D → List V → List Addr → Prop
  | nil : VRs K W H [] [] []
  | cons {d : D} {v : V} {ds : List D} {vs : List V} {f g : List Addr} : VR K W H d v f → VRs K W H ds vs g → VRs K W H (d :: ds) (v :: vs) (f ++ g)
end
inductive ER (K : PySem.W.Frag) (W : Wr) (H : Hp) : Slots → L2.St → List Addr → Prop
  | nil : ER K W H [] [] []
  | no {x : Option V} {env : Slots} {σ : L2.St} {g : List Addr} : ER K W H env σ g → ER K W H (none :: env) (x :: σ) g
  | so {d : D} {v : V} {env : Slots} {σ : L2.St} {f g : List Addr} : VR K W H d v f → ER K W H env σ g → ER K W H (some d :: env) (some v :: σ) (f ++ g)
def Wok (W : Wr) (H : Hp) : Prop := ∀ a, W a → ∃ o, H a = some o ∧ Ownable o
structure Tr (K : PySem.W.Frag) (c : Bool) (W : Wr) (H : Hp) (fp : List Addr) (W' : Wr) (H' : Hp) (fp' : List Addr) : Prop where
  keep : ∀ a o, H a = some o → (a ∉ fp ∨ c = true) → H' a = some o
  new : ∀ a, W' a → W a ∨ (H a = none ∧ K.lookup a = none)
  stay : ∀ a, W a → a ∉ fp → W' a
  src : ∀ a ∈ fp', a ∈ fp ∨ H a = none
  inW : ∀ a ∈ fp', W' a
  nd : fp'.Nodup
  wok0 : Wok W H
  wok : Wok W' H'
  old : ∀ a o, H a = some o → ∃ o', H' a = some o'
section
variable {K : PySem.W.Frag} {W W' W2 : Wr} {H H' H2 : Hp} {fp fp' fp2 f g : List Addr} {c c' : Bool}
theorem Tr.trans (t : Tr K c W H fp W' H' fp') (u : Tr K c' W' H' fp' W2 H2 fp2) : Tr K (c && c') W H fp W2 H2 fp2 where
  keep := fun a o e h => by
    have h1 : a ∉ fp ∨ c = true := h.imp id fun z => (Bool.and_eq_true_iff.mp z).1
    have e1 := t.keep a o e h1
    refine u.keep a o e1 ?_
    rcases h with h | h
    · exact .inl fun z => (t.src a z).elim h fun n => by rw [e] at n; cases n
    · exact .inr (Bool.and_eq_true_iff.mp h).2
  new := fun a w => by
    rcases u.new a w with z | ⟨z, zk⟩
    · exact t.new a z
    · refine .inr ⟨?_, zk⟩
      cases e : H a with
      | none => rfl
      | some o =>
        obtain ⟨o', e'⟩ := t.old a o e
        rw [z] at e'; cases e'
  stay := fun a w h => u.stay a (t.stay a w h) fun z => (t.src a z).elim h fun n => by
    obtain ⟨o, e, _⟩ := t.wok0 a w
    rw [n] at e; cases e
  src := fun a h => by
    rcases u.src a h with z | z
    · exact t.src a z
    · refine .inr ?_
      cases e : H a with
      | none => rfl
      | some o =>
        obtain ⟨o', e'⟩ := t.old a o e
        rw [z] at e'; cases e'
  inW := u.inW
  nd := u.nd
  wok0 := t.wok0
  wok := u.wok
  old := fun a o e => let ⟨o', e'⟩ := t.old a o e; u.old a o' e'
theorem VRs.length : ∀ {ds : List D} {vs : List V} {fp : List Addr}, VRs K W H ds vs fp → ds.length = vs.length
  | _, _, _, .nil => rfl
  | _, _, _, .cons _ t => by simp only [List.length_cons]; rw [t.length]
theorem ER.length : ∀ {env : Slots} {σ : L2.St} {g : List Addr}, ER K W H env σ g → env.length = σ.length
  | _, _, _, .nil => rfl
  | _, _, _, .no t => by simp only [List.length_cons]; rw [t.length]
  | _, _, _, .so _ t => by simp only [List.length_cons]; rw [t.length]
theorem SqT.move {a : Addr} {xs : List V} (h : SqT K H a xs) (k : ∀ u, (∀ ys, u ≠ .lst ys) → ¬ Ownable u → H a = some u → H' a = some u) : SqT K H' a xs := by
  rcases h with h | h
  · refine .inl ?_
    rcases h with h | ⟨o, h⟩
    · exact .inl (k _ (fun _ z => nomatch z) (fun z => z) h)
    · exact .inr ⟨o, k _ (fun _ z => nomatch z) (fun z => z) h⟩
  · exact .inr h
mutual
theorem VR.move (h1 : ∀ a, a ∈ g → ∀ o, H a = some o → H' a = some o) (h2 : ∀ a o, H a = some o → ¬ W a → H' a = some o ∧ ¬ W' a) (h3 : ∀ a o, K.lookup a = some o → ¬ W a → ¬ W' a) (hw : Wok W H) :
    ∀ {d : D} {v : V} {f : List Addr}, VR K W H d v f → (∀ a ∈ f, a ∈ g) → VR K W' H' d v f
  | _, _, _, .non, _ => .non
  | _, _, _, .bl b, _ => .bl b
  | _, _, _, .int i, _ => .int i
  | _, _, _, .str s, _ => .str s
  | _, _, _, .gone v, _ => .gone v
  | _, _, _, .tup q t, s => .tup (h2 _ _ q fun w => by
      obtain ⟨o, e', ow⟩ := hw _ w
      rw [q] at e'; cases e'
      exact ow).1 (VRs.move h1 h2 h3 hw t s)
  | _, _, _, .own e t, s => .own (h1 _ (s _ List.mem_cons_self) _ e) (VRs.move h1 h2 h3 hw t fun a h => s a (List.mem_cons_of_mem _ h))
  | _, _, _, .frz (a := a) e n t, s => by
    have e' : FzL K H' a _ := e.imp (fun q => q.imp (fun z => (h2 a _ z n).1) fun ⟨o, z⟩ => ⟨o, (h2 a _ z n).1⟩) id
    have n' : ¬ W' a := by
      rcases e with (z | ⟨o, z⟩) | ⟨_, _, z, _⟩
      · exact (h2 a _ z n).2
      · exact (h2 a _ z n).2
      · exact h3 a _ z n
    exact .frz e' n' (VRs.move h1 h2 h3 hw t s)
  | _, _, _, .dicO e k t, s => .dicO (h1 _ (s _ List.mem_cons_self) _ e) k (VRs.move h1 h2 h3 hw t fun a h => s a (List.mem_cons_of_mem _ h))
  | _, _, _, .dicF (a := a) e n k t, s => .dicF (h2 a _ e n).1 (h2 a _ e n).2 k (VRs.move h1 h2 h3 hw t s)
theorem VRs.move (h1 : ∀ a, a ∈ g → ∀ o, H a = some o → H' a = some o) (h2 : ∀ a o, H a = some o → ¬ W a → H' a = some o ∧ ¬ W' a) (h3 : ∀ a o, K.lookup a = some o → ¬ W a → ¬ W' a) (hw : Wok W H) :
    ∀ {ds : List D} {vs : List V} {f : List Addr}, VRs K W H ds vs f → (∀ a ∈ f, a ∈ g) → VRs K W' H' ds vs f
  | _, _, _, .nil, _ => .nil
  | _, _, _, .cons t u, s => .cons (VR.move h1 h2 h3 hw t fun a h => s a (List.mem_append_left _ h)) (VRs.move h1 h2 h3 hw u fun a h => s a (List.mem_append_right _ h))
end
theorem ER.move (h1 : ∀ a, a ∈ g → ∀ o, H a = some o → H' a = some o) (h2 : ∀ a o, H a = some o → ¬ W a → H' a = some o ∧ ¬ W' a) (h3 : ∀ a o, K.lookup a = some o → ¬ W a → ¬ W' a) (hw : Wok W H) :
    ∀ {env : Slots} {σ : L2.St} {f : List Addr}, ER K W H env σ f → (∀ a ∈ f, a ∈ g) → ER K W' H' env σ f
  | _, _, _, .nil, _ => .nil
  | _, _, _, .no t, s => .no (ER.move h1 h2 h3 hw t s)
  | _, _, _, .so t u, s => .so (VR.move h1 h2 h3 hw t fun a h => s a (List.mem_append_left _ h)) (ER.move h1 h2 h3 hw u fun a h => s a (List.mem_append_right _ h))
theorem Tr.aside (t : Tr K c W H fp W' H' fp') (hf : ∀ a ∈ fp, W a) (dis : ∀ a ∈ g, a ∉ fp) : (∀ a, a ∈ g → ∀ o, H a = some o → H' a = some o) ∧ (∀ a o, H a = some o → ¬ W a → H' a = some o ∧ ¬ W' a) ∧ (∀ a o, K.lookup a = some o → ¬ W a → ¬ W' a) :=
  ⟨fun a h o e => t.keep a o e (.inl (dis a h)), fun a o e n => ⟨t.keep a o e (.inl fun z => n (hf a z)), fun w => (t.new a w).elim n fun z => by rw [e] at z; cases z.1⟩, fun a o e n w => (t.new a w).elim n fun z => by rw [e] at z; cases z.2⟩
theorem VR.aside {d : D} {v : V} (h : VR K W H d v f) (t : Tr K c W H fp W' H' fp') (hf : ∀ a ∈ fp, W a) (dis : ∀ a ∈ f, a ∉ fp) : VR K W' H' d v f :=
  VR.move (t.aside hf dis).1 (t.aside hf dis).2.1 (t.aside hf dis).2.2 t.wok0 h fun _ z => z
theorem VRs.aside {d : List D} {v : List V} (h : VRs K W H d v f) (t : Tr K c W H fp W' H' fp') (hf : ∀ a ∈ fp, W a) (dis : ∀ a ∈ f, a ∉ fp) : VRs K W' H' d v f :=
  VRs.move (t.aside hf dis).1 (t.aside hf dis).2.1 (t.aside hf dis).2.2 t.wok0 h fun _ z => z
theorem ER.aside {env : Slots} {σ : L2.St} (h : ER K W H env σ f) (t : Tr K c W H fp W' H' fp') (hf : ∀ a ∈ fp, W a) (dis : ∀ a ∈ f, a ∉ fp) : ER K W' H' env σ f :=
  ER.move (t.aside hf dis).1 (t.aside hf dis).2.1 (t.aside hf dis).2.2 t.wok0 h fun _ z => z

structure Pre (K : PySem.W.Frag) (W : Wr) (H : Hp) (env : Slots) (σ : L2.St) (F g : List Addr) : Prop where
  er : ER K W H env σ g
  nd : (F ++ g).Nodup
  inW : ∀ a ∈ F ++ g, W a
  wok : Wok W H
abbrev Rl (α β : Type) := Wr → Hp → α → β → List Addr → Prop
abbrev XW := Exc → Wr → Hp → Slots → L2.St → List Addr → Prop
def Post {α β : Type} (K : PySem.W.Frag) (Ra : Rl α β) (E : XW) (c : Bool) (W : Wr) (H : Hp) (fp : List Addr) (σ : L2.St) (r : R α) (Q : β → Hp → Prop) : Prop := match r with
  | .ok a env' => ∀ W' H' b f g, Tr K c W H fp W' H' (f ++ g) → Ra W' H' a b f → ER K W' H' env' σ g → Q b H'
  | .ex x env' => ∀ W' H' g, Tr K c W H fp W' H' g → ER K W' H' env' σ g → E x W' H' env' σ g
  | .no => False
def tG {α β : Type} (K : PySem.W.Frag) (Ra : Rl α β) (E : XW) (c : Bool) (r : Slots → R α) : L2.St → Hp → (β → Hp → Prop) → Prop := fun σ H Q =>
  ∃ W env g, Pre K W H env σ [] g ∧ Post K Ra E c W H g σ (r env) Q
abbrev tE (K : PySem.W.Frag) (E : XW) (c : Bool) (r : Slots → R D) : TE := tG K (VR K) E c r
abbrev RB : Rl Bool Bool := fun _ _ a b f => a = b ∧ f = []
abbrev tT (K : PySem.W.Frag) (E : XW) (c : Bool) (r : Slots → R Bool) : TT := tG K RB E c r
abbrev tA (K : PySem.W.Frag) (E : XW) (c : Bool) (r : Slots → R (List D)) : TA := tG K (VRs K) E c r
end
section
variable {K : PySem.W.Frag} {W : Wr} {H : Hp} {F g fp : List Addr} {c c1 c2 : Bool} {E : XW} {env : Slots} {σ : L2.St}
theorem Pre.base (P : Pre K W H env σ F g) : Pre K W H env σ [] g :=
  ⟨P.er, by simpa using (List.nodup_append.mp P.nd).2.1, fun a h => P.inW a (List.mem_append_right _ (by simpa using h)), P.wok⟩
theorem Pre.dis (P : Pre K W H env σ F g) : ∀ a ∈ F, a ∉ g := fun a h z => (List.nodup_append.mp P.nd).2.2 a h a z rfl
theorem Pre.Fw (P : Pre K W H env σ F g) : ∀ a ∈ F, W a := fun a h => P.inW a (List.mem_append_left _ h)
theorem Pre.gw (P : Pre K W H env σ F g) : ∀ a ∈ g, W a := fun a h => P.inW a (List.mem_append_right _ h)
theorem Pre.step {W' : Wr} {H' : Hp} {env' : Slots} {σ' : L2.St} {f g' : List Addr} (P : Pre K W H env σ F g) (t : Tr K c W H g W' H' (f ++ g')) (er : ER K W' H' env' σ' g') : Pre K W' H' env' σ' (F ++ f) g' := by
  refine ⟨er, ?_, fun a h => ?_, t.wok⟩
  · rw [List.append_assoc]
    refine List.nodup_append.mpr ⟨(List.nodup_append.mp P.nd).1, t.nd, fun a ha b hb e => ?_⟩
    subst e
    rcases t.src a hb with z | z
    · exact P.dis a ha z
    · obtain ⟨o, e, _⟩ := P.wok a (P.Fw a ha)
      rw [z] at e; cases e
  · rw [List.append_assoc] at h
    rcases List.mem_append.mp h with h | h
    · exact t.stay a (P.Fw a h) (P.dis a h)
    · exact t.inW a h
theorem Pre.wide {W' : Wr} {H' : Hp} {env' : Slots} {σ' : L2.St} {f g' : List Addr} (P : Pre K W H env σ F g) (t : Tr K c W H g W' H' (f ++ g')) (er : ER K W' H' env' σ' g') : Tr K c W H (F ++ g) W' H' ((F ++ f) ++ g') where
  keep := fun a o e h => t.keep a o e (h.imp (fun z y => z (List.mem_append_right _ y)) id)
  new := t.new
  stay := fun a w h => t.stay a w fun z => h (List.mem_append_right _ z)
  src := fun a h => by
    rw [List.append_assoc] at h
    rcases List.mem_append.mp h with h | h
    · exact .inl (List.mem_append_left _ h)
    · exact (t.src a h).imp (List.mem_append_right _) id
  inW := (P.step t er).inW
  nd := (P.step t er).nd
  wok0 := t.wok0
  wok := t.wok
  old := t.old
theorem Pre.drop {W' : Wr} {H' : Hp} {g' : List Addr} (t : Tr K c W H g W' H' g') : Tr K (c && c2) W H (F ++ g) W' H' g' where
  keep := fun a o e h => t.keep a o e (h.imp (fun z y => z (List.mem_append_right _ y)) fun z => (Bool.and_eq_true_iff.mp z).1)
  new := t.new
  stay := fun a w h => t.stay a w fun z => h (List.mem_append_right _ z)
  src := fun a h => (t.src a h).imp (List.mem_append_right _) id
  inW := t.inW
  nd := t.nd
  wok0 := t.wok0
  wok := t.wok
  old := t.old
theorem Post.mono {α β : Type} {Ra : Rl α β} {r : R α} {Q Q' : β → Hp → Prop} (h : Post K Ra E c W H fp σ r Q) (k : ∀ b H, Q b H → Q' b H) : Post K Ra E c W H fp σ r Q' := by
  cases r with
  | no => exact h
  | ex x e => exact h
  | ok a e => exact fun W' H' b f g t ra er => k _ _ (h W' H' b f g t ra er)
theorem Pre.run {α β γ δ : Type} {Ra : Rl α β} {Rc : Rl γ δ} {r : R α} {k : α → Slots → R γ} {Q : δ → Hp → Prop} (P : Pre K W H env σ F g) (h : Post K Rc E (c1 && c2) W H (F ++ g) σ (r.bind k) Q) :
    Post K Ra E c1 W H g σ r fun b H' => ∃ a e W' f g', r = .ok a e ∧ Ra W' H' a b f ∧ Pre K W' H' e σ (F ++ f) g' ∧ Tr K c1 W H g W' H' (f ++ g') ∧ Post K Rc E c2 W' H' ((F ++ f) ++ g') σ (k a e) Q := by
  cases r with
  | no => exact h
  | ex x env' => exact fun W' H' g' t er => h W' H' g' (Pre.drop t) er
  | ok a e =>
    intro W' H' b f g' t ra er
    refine ⟨a, e, W', f, g', rfl, ra, P.step t er, t, ?_⟩
    have w := P.wide t er
    show Post K Rc E c2 W' H' _ σ (k a e) Q
    have h : Post K Rc E (c1 && c2) W H (F ++ g) σ (k a e) Q := h
    cases q : k a e with
    | no => rw [q] at h; exact h
    | ex x env2 =>
      rw [q] at h
      exact fun W2 H2 g2 t2 er2 => h W2 H2 g2 (w.trans t2) er2
    | ok a2 env2 =>
      rw [q] at h
      exact fun W2 H2 b2 f2 g2 t2 ra2 er2 => h W2 H2 b2 f2 g2 (w.trans t2) ra2 er2
end
end Hc

set_option Elab.async false
set_option linter.all false
set_option maxRecDepth 100000
set_option maxHeartbeats 2000000
namespace Hc
open PySem PySem.Spec PyProof.Rows L2
section
variable {K : PySem.W.Frag} {W W' : Wr} {H H' : Hp} {F g fp f fp2 : List Addr} {c c1 c2 : Bool} {E : XW} {env : Slots} {σ : L2.St} {d : D} {v : V} {i : Nat}
theorem at_nil : Slots.at [] i = none := rfl
theorem at_zero {o : Option D} : Slots.at (o :: env) 0 = o := rfl
theorem at_succ {o : Option D} : Slots.at (o :: env) (i + 1) = Slots.at env i := rfl
theorem at_lt (h : env.at i = some d) : i < env.length := by
  induction env generalizing i with
  | nil => cases h
  | cons o r ih => cases i with
    | zero => simp
    | succ i => simp only [List.length_cons]; exact Nat.succ_lt_succ (ih h)
theorem at_set (hi : i < env.length) (o : Option D) : Slots.at (env.set i o) i = o := by
  unfold Slots.at
  rw [List.getElem?_set_self hi]
theorem at_set_ne {j : Nat} (h : i ≠ j) (o : Option D) : Slots.at (env.set i o) j = env.at j := by
  unfold Slots.at
  rw [List.getElem?_set_ne h]
theorem ER.take : ∀ {env : Slots} {σ : L2.St} {g : List Addr} {i : Nat}, ER K W H env σ g → env.at i = some d →
    ∃ v f g', σ[i]? = some (some v) ∧ VR K W H d v f ∧ ER K W H (env.set i none) σ g' ∧ (f ++ g').Perm g
  | _, _, _, _, .nil, e => by cases e
  | _, _, _, 0, .no t, e => by cases e
  | _, _, _, i + 1, .no t, e => by
    obtain ⟨v, f, g', h1, h2, h3, h4⟩ := ER.take (i := i) t e
    exact ⟨v, f, g', by simpa using h1, h2, .no h3, h4⟩
  | _, _, _, 0, .so (f := f) (g := g) r t, e => by
    cases e
    exact ⟨_, f, g, rfl, r, .no t, .refl _⟩
  | _, _, _, i + 1, .so (f := f0) (g := g0) r t, e => by
    obtain ⟨v, f, g', h1, h2, h3, h4⟩ := ER.take (i := i) t e
    refine ⟨v, f, f0 ++ g', by simpa using h1, h2, .so r h3, ?_⟩
    have p : (f ++ (f0 ++ g')).Perm (f0 ++ (f ++ g')) := by
      rw [← List.append_assoc, ← List.append_assoc]
      exact List.perm_append_comm.append (.refl _)
    exact p.trans (h4.append_left f0)
theorem ER.drop : ∀ {env : Slots} {σ : L2.St} {g : List Addr} (i : Nat), ER K W H env σ g → ∃ f g', ER K W H (env.set i none) σ g' ∧ (f ++ g').Perm g
  | _, _, _, _, .nil => ⟨[], [], .nil, .refl _⟩
  | _, _, _, 0, .no t => ⟨[], _, .no t, .refl _⟩
  | _, _, _, i + 1, .no t => by
    obtain ⟨f, g', h1, h2⟩ := ER.drop i t
    exact ⟨f, g', .no h1, h2⟩
  | _, _, _, 0, .so (f := f) r t => ⟨f, _, .no t, .refl _⟩
  | _, _, _, i + 1, .so (f := f0) r t => by
    obtain ⟨f, g', h1, h2⟩ := ER.drop i t
    refine ⟨f, f0 ++ g', .so r h1, ?_⟩
    refine List.Perm.trans ?_ (h2.append_left f0)
    rw [← List.append_assoc, ← List.append_assoc]
    exact List.perm_append_comm.append (.refl _)
theorem ER.store : ∀ {env : Slots} {σ : L2.St} {g : List Addr} {i : Nat}, ER K W H env σ g → env.at i = none → i < env.length → VR K W H d v f →
    ∃ g', ER K W H (env.set i (some d)) (σ.set i (some v)) g' ∧ g'.Perm (f ++ g)
  | _, _, _, _, .nil, _, hi, _ => by cases hi
  | _, _, _, 0, .no t, _, _, r => ⟨_, .so r t, .refl _⟩
  | _, _, _, i + 1, .no t, e, hi, r => by
    obtain ⟨g', h1, h2⟩ := ER.store (i := i) t e (by simpa using hi) r
    exact ⟨g', .no h1, h2⟩
  | _, _, _, 0, .so _ t, e, _, r => by cases e
  | _, _, _, i + 1, .so (f := f0) (g := g0) q t, e, hi, r => by
    obtain ⟨g', h1, h2⟩ := ER.store (i := i) t e (by simpa using hi) r
    refine ⟨f0 ++ g', .so q h1, (h2.append_left f0).trans ?_⟩
    rw [← List.append_assoc, ← List.append_assoc]
    exact List.perm_append_comm.append (.refl _)
theorem ER.put (h : ER K W H env σ g) (e : env.at i = none) (hi : i < env.length) (hs : σ[i]? = some (some v)) (r : VR K W H d v f) : ∃ g', ER K W H (env.set i (some d)) σ g' ∧ g'.Perm (f ++ g) := by
  have q : σ.set i (some v) = σ := by
    apply List.ext_getElem?
    intro j
    by_cases hj : i = j
    · subst hj
      rw [hs]
      exact List.getElem?_set_self (by rw [← h.length]; exact hi)
    · exact List.getElem?_set_ne hj
  have z := h.store e hi r
  rw [q] at z
  exact z
mutual
theorem VR.fzd (hw : Wok W H) (h1 : ∀ a, W' a → W a) : ∀ {d : D} {v : V} {f : List Addr}, VR K W H d v f → (∀ a ∈ f, ¬ W' a) → VR K W' H d.fz v []
  | _, _, _, .non, _ => .non
  | _, _, _, .bl b, _ => .bl b
  | _, _, _, .int i, _ => .int i
  | _, _, _, .str s, _ => .str s
  | _, _, _, .gone v, _ => .gone v
  | _, _, _, .tup q t, s => .tup q (VRs.fzd hw h1 t s)
  | _, _, _, .dicO e k t, s => .dicF e (s _ List.mem_cons_self) k (VRs.fzd hw h1 t fun a h => s a (List.mem_cons_of_mem _ h))
  | _, _, _, .dicF e n k t, s => .dicF e (fun w => n (h1 _ w)) k (VRs.move (g := []) (fun _ h => nomatch h) (fun a o e n => ⟨e, fun w => n (h1 a w)⟩) (fun a o e n w => n (h1 a w)) hw t fun _ h => h)
  | _, _, _, .own e t, s => .frz (.inl (.inl e)) (s _ List.mem_cons_self) (VRs.fzd hw h1 t fun a h => s a (List.mem_cons_of_mem _ h))
  | _, _, _, .frz e n t, s => .frz e (fun w => n (h1 _ w)) (VRs.move (g := []) (fun _ h => nomatch h) (fun a o e n => ⟨e, fun w => n (h1 a w)⟩) (fun a o e n w => n (h1 a w)) hw t fun _ h => h)
theorem VRs.fzd (hw : Wok W H) (h1 : ∀ a, W' a → W a) : ∀ {d : List D} {v : List V} {f : List Addr}, VRs K W H d v f → (∀ a ∈ f, ¬ W' a) → VRs K W' H (fzs d) v []
  | _, _, _, .nil, _ => .nil
  | _, _, _, .cons (f := f) (g := g) t u, s => .cons (f := []) (g := []) (VR.fzd hw h1 t fun a h => s a (List.mem_append_left _ h)) (VRs.fzd hw h1 u fun a h => s a (List.mem_append_right _ h))
end
theorem VR.less (hw : Wok W H) (h1 : ∀ a, W' a → W a) (h : VR K W H d v f) : VR K W' H d v f := VR.move (g := f) (fun _ _ _ e => e) (fun a o e n => ⟨e, fun w => n (h1 a w)⟩) (fun a o e n w => n (h1 a w)) hw h fun _ z => z
theorem ER.less (hw : Wok W H) (h1 : ∀ a, W' a → W a) (h : ER K W H env σ f) : ER K W' H env σ f := ER.move (g := f) (fun _ _ _ e => e) (fun a o e n => ⟨e, fun w => n (h1 a w)⟩) (fun a o e n w => n (h1 a w)) hw h fun _ z => z
mutual
theorem VR.none_of : ∀ {d : D} {v : V} {f : List Addr}, VR K W H d v f → d.noOwn = true → f = []
  | _, _, _, .non, _ => rfl
  | _, _, _, .bl b, _ => rfl
  | _, _, _, .int i, _ => rfl
  | _, _, _, .str s, _ => rfl
  | _, _, _, .gone v, _ => rfl
  | _, _, _, .tup q t, s => VRs.none_of t s
  | _, _, _, .own e t, s => by cases s
  | _, _, _, .frz e n t, s => rfl
  | _, _, _, .dicO e k t, s => by cases s
  | _, _, _, .dicF e n k t, s => rfl
theorem VRs.none_of : ∀ {d : List D} {v : List V} {f : List Addr}, VRs K W H d v f → noOwns d = true → f = []
  | _, _, _, .nil, _ => rfl
  | _, _, _, .cons t u, s => by
    have s' := Bool.and_eq_true_iff.mp s
    rw [VR.none_of t s'.1, VRs.none_of u s'.2]
    rfl
end
theorem Tr.more (t : Tr K c W H fp W' H' f) (h : ∀ a ∈ fp, a ∈ fp2) : Tr K c W H fp2 W' H' f :=
  ⟨fun a o e z => t.keep a o e (z.imp (fun n m => n (h a m)) id), t.new, fun a w n => t.stay a w fun m => n (h a m), fun a m => (t.src a m).imp (h a) id, t.inW, t.nd, t.wok0, t.wok, t.old⟩
theorem Tr.let (hw : Wok W H) (h1 : ∀ a, W' a → W a) (h2 : ∀ a, W a → a ∉ fp → W' a) (h3 : ∀ a ∈ f, a ∈ fp) (h4 : ∀ a ∈ f, W' a) (nd : f.Nodup) : Tr K c W H fp W' H f :=
  ⟨fun _ _ e _ => e, fun a w => .inl (h1 a w), h2, fun a h => .inl (h3 a h), h4, nd, hw, fun a w => hw a (h1 a w), fun _ o e => ⟨o, e⟩⟩
theorem Tr.same (hw : Wok W H) (h3 : ∀ a ∈ f, a ∈ fp) (h4 : ∀ a ∈ f, W a) (nd : f.Nodup) : Tr K c W H fp W H f := Tr.let hw (fun _ w => w) (fun _ w _ => w) h3 h4 nd
def Wr.and (W : Wr) (p : Addr) : Wr := fun a => W a ∨ a = p
theorem Tr.new1 {p : Addr} {o : HO} (hw : Wok W H) (hp : H p = none) (hk : K.lookup p = none) (ho : Ownable o) (h3 : ∀ a ∈ f, a ∈ fp) (h4 : ∀ a ∈ f, W a) (nd : f.Nodup) : Tr K c W H fp (W.and p) (upd H p o) (p :: f) where
  keep := fun a u e _ => by rw [upd_ne (ne_of_none e hp)]; exact e
  new := fun a w => w.imp id fun e => by rw [e]; exact ⟨hp, hk⟩
  stay := fun a w _ => .inl w
  src := fun a h => (List.mem_cons.mp h).elim (fun e => .inr (by rw [e]; exact hp)) fun h => .inl (h3 a h)
  inW := fun a h => (List.mem_cons.mp h).elim (fun e => .inr e) fun h => .inl (h4 a h)
  nd := List.nodup_cons.mpr ⟨fun h => (by
    obtain ⟨o, e, _⟩ := hw p (h4 p h)
    rw [hp] at e; cases e), nd⟩
  wok0 := hw
  wok := fun a w => by
    rcases w with w | e
    · obtain ⟨u, e, ow⟩ := hw a w
      exact ⟨u, by rw [upd_ne (ne_of_none e hp)]; exact e, ow⟩
    · subst e
      exact ⟨o, upd_same, ho⟩
  old := fun a u e => ⟨u, by rw [upd_ne (ne_of_none e hp)]; exact e⟩
theorem Tr.new0 {p : Addr} {o : HO} (hw : Wok W H) (hp : H p = none) (h3 : ∀ a ∈ f, a ∈ fp) (h4 : ∀ a ∈ f, W a) (nd : f.Nodup) : Tr K c W H fp W (upd H p o) f where
  keep := fun a u e _ => by rw [upd_ne (ne_of_none e hp)]; exact e
  new := fun a w => .inl w
  stay := fun a w _ => w
  src := fun a h => .inl (h3 a h)
  inW := h4
  nd := nd
  wok0 := hw
  wok := fun a w => by
    obtain ⟨u, e, ow⟩ := hw a w
    exact ⟨u, by rw [upd_ne (ne_of_none e hp)]; exact e, ow⟩
  old := fun a u e => ⟨u, by rw [upd_ne (ne_of_none e hp)]; exact e⟩
theorem Tr.chg {p : Addr} {o : HO} (hw : Wok W H) (hp : p ∈ fp) (hW : ∀ a ∈ fp, W a) (ho : Ownable o) (h3 : ∀ a ∈ f, a ∈ fp) (nd : f.Nodup) : Tr K false W H fp W (upd H p o) f where
  keep := fun a u e h => by
    have n : a ≠ p := fun z => h.elim (fun y => y (by rw [z]; exact hp)) fun y => by cases y
    rw [upd_ne n]; exact e
  new := fun a w => .inl w
  stay := fun a w _ => w
  src := fun a h => .inl (h3 a h)
  inW := fun a h => hW a (h3 a h)
  nd := nd
  wok0 := hw
  wok := fun a w => by
    obtain ⟨u, e, ow⟩ := hw a w
    by_cases n : a = p
    · subst n; exact ⟨o, upd_same, ho⟩
    · exact ⟨u, by rw [upd_ne n]; exact e, ow⟩
  old := fun a u e => by
    by_cases n : a = p
    · subst n; exact ⟨o, upd_same⟩
    · exact ⟨u, by rw [upd_ne n]; exact e⟩
theorem Pre.done {α β : Type} {Ra : Rl α β} {Q : β → Hp → Prop} {a : α} {b : β} (P : Pre K W H env σ f g) (h : Post K Ra E c W H fp σ (.ok a env) Q) (r : Ra W H a b f) (hs : ∀ a ∈ f ++ g, a ∈ fp) : Q b H :=
  h W H b f g (Tr.same P.wok hs P.inW P.nd) r P.er
theorem Pre.sub {F' : List Addr} (P : Pre K W H env σ F g) (hn : F'.Nodup) (hs : ∀ a ∈ F', a ∈ F) : Pre K W H env σ F' g :=
  ⟨P.er, List.nodup_append.mpr ⟨hn, (List.nodup_append.mp P.nd).2.1, fun a ha b hb e => (List.nodup_append.mp P.nd).2.2 a (hs a ha) b hb e⟩,
    fun a h => (List.mem_append.mp h).elim (fun z => P.Fw a (hs a z)) (P.gw a), P.wok⟩
theorem Pre.noF (P : Pre K W H env σ F g) : Pre K W H env σ [] g := P.base
end
end Hc

set_option Elab.async false
set_option linter.all false
set_option maxRecDepth 100000
set_option maxHeartbeats 2000000
namespace Hc
open PySem PySem.Spec PyProof.Rows L2
theorem pe_imp {X : Cx} {e : Expr} {t t' : TE} (h : PE X e t) (k : ∀ σ H Q, t' σ H Q → t σ H Q) : PE X e t' := ⟨fun pins s σ H Q I q => h.run pins s σ H Q I (k σ H Q q)⟩
theorem pt_imp {X : Cx} {e : Expr} {t t' : TT} (h : PT X e t) (k : ∀ σ H Q, t' σ H Q → t σ H Q) : PT X e t' := ⟨fun pins s σ H Q I q => h.run pins s σ H Q I (k σ H Q q)⟩
theorem pa_imp {X : Cx} {e : List Expr} {t t' : TA} (h : PA X e t) (k : ∀ σ H Q, t' σ H Q → t σ H Q) : PA X e t' := ⟨fun pos pins s σ H Q I q => h.run pos pins s σ H Q I (k σ H Q q)⟩
def KOK (K : PySem.W.Frag) (H : Hp) : Prop := ∀ a o, K.lookup a = some o → H a = none
theorem kok {X : Cx} {pins : List (Addr × Obj)} {σ : L2.St} {H : Hp} {s : Shared} (I : Inv X pins σ H s) : KOK X.K H := fun a o e => (I.bs a o (I.ok.mod.kin a o e)).2
theorem KOK.new {K : PySem.W.Frag} {H : Hp} {p : Addr} {o : HO} (h : KOK K (upd H p o)) : K.lookup p = none := by
  cases e : K.lookup p with
  | none => rfl
  | some u =>
    have z := h p u e
    rw [upd_same] at z; cases z
theorem pe_any {X : Cx} {e : Expr} {t : TE} (h : ∀ σ H Q, t σ H Q → ∃ u : TE, PE X e u ∧ u σ H fun v H' => KOK X.K H' → Q v H') : PE X e t := ⟨fun pins s σ H Q I q => by
  obtain ⟨u, hu, r⟩ := h σ H Q q
  refine thn (hu.run pins s σ H _ I r) fun v s' ⟨x, H', I', rx, k⟩ => ⟨x, H', I', rx, k (kok I')⟩⟩

def tP (K : PySem.W.Frag) (c : CE) : TE := fun σ H Q => ∃ W env g d, Pre K W H env σ [] g ∧ peek c env = some d ∧ ∀ v f, VR K W H d v f → Q v H
inductive Wk (K : PySem.W.Frag) (H : Hp) : V → List D → V → Prop
  | nil (v : V) : Wk K H v [] v
  | cons {p : Addr} {xs : List V} {i : Int} {w u : V} {ks : List D} : SqL K H p xs ∨ SqT K H p xs → atI xs i = some w → Wk K H w ks u → Wk K H (.ref p) (.int i :: ks) u
theorem Wk.snoc {K : PySem.W.Frag} {H : Hp} {v u w : V} {ks : List D} {p : Addr} {xs : List V} {i : Int} (h : Wk K H v ks u) (e : u = .ref p) (hs : SqL K H p xs ∨ SqT K H p xs) (hi : atI xs i = some w) : Wk K H v (ks ++ [.int i]) w := by
  induction h with
  | nil v => subst e; exact .cons hs hi (.nil w)
  | cons h1 h2 h3 ih => exact .cons h1 h2 (ih e)
def tW (K : PySem.W.Frag) (c : CE) : TE := fun σ H Q => ∃ W env g i ks x d, Pre K W H env σ [] g ∧ pathOf c env = some (i, ks) ∧ env.at i = some x ∧ getK x ks = some d ∧
  ∀ v0 u f, σ[i]? = some (some v0) → Wk K H v0 ks u → VR K W H d u f → Q u H
structure Snd (X : Cx) (E : XW) (e : Expr) (c : CE) (r : Slots → R D) : Prop where
  pe : PE X e (tE X.K E c.calm r)
  pk : PE X e (tP X.K c)
  pw : PE X e (tW X.K c)
  nm : ∀ i, c = .nm i → PE X e (tVar i)
def Lk (K : PySem.W.Frag) (sh : Bool) : Rl D V := fun W H d v f => VR K W H d v f ∨ (f = [] ∧ (sh = true → d.shal = true) ∧ ∃ f', VR K W H d v f')
section
variable {X : Cx} {E : XW} {a b e : Expr} {A B C : CE} {ra rb rc r : Slots → R D} {sh : Bool}
theorem tVar_of {K : PySem.W.Frag} {W : Wr} {H : Hp} {env : Slots} {σ : L2.St} {F g : List Addr} {i : Nat} {d : D} (P : Pre K W H env σ F g) (h : env.at i = some d) : ∃ v f, σ[i]? = some (some v) ∧ VR K W H d v f := by
  obtain ⟨v, f, g', h1, h2, _⟩ := P.er.take h
  exact ⟨v, f, h1, h2⟩
theorem Post.cong {α β : Type} {K : PySem.W.Frag} {Ra : Rl α β} {c : Bool} {W : Wr} {H : Hp} {fp : List Addr} {σ : L2.St} {x y : R α} {Q : β → Hp → Prop} (h : Post K Ra E c W H fp σ x Q) (e : x = y) : Post K Ra E c W H fp σ y Q := e ▸ h
theorem sOpd (sh : Bool) (s : Snd X E e C r) : PE X e (tG X.K (Lk X.K sh) E C.calm (opd sh C r)) := by
  refine pe_any fun σ H Q h => ?_
  obtain ⟨W, env, g, P, h⟩ := h
  by_cases hc : ∃ i, C = .nm i
  · obtain ⟨i, rfl⟩ := hc
    refine ⟨_, s.nm i rfl, ?_⟩
    unfold opd at h
    dsimp only at h
    cases q : env.at i with
    | none => rw [q] at h; exact h.elim
    | some d =>
      rw [q] at h
      dsimp only at h
      split at h
      · rename_i hs
        obtain ⟨v, f, h1, h2⟩ := tVar_of P q
        refine ⟨v, h1, fun _ => P.done h (.inr ⟨rfl, fun z => ?_, f, h2⟩) (by simp)⟩
        rw [z] at hs
        simpa using hs
      · exact h.elim
  · refine ⟨_, s.pe, W, env, g, P, ?_⟩
    have q : opd sh C r env = r env := by
      cases C <;> first | rfl | exact absurd ⟨_, rfl⟩ hc
    rw [q] at h
    cases z : r env with
    | no => rw [z] at h; exact h
    | ex x e' => rw [z] at h; exact h
    | ok d e' =>
      rw [z] at h
      exact fun W' H' b f g t ra er _ => h W' H' b f g t (.inl ra) er
theorem Pre.get {K : PySem.W.Frag} {W : Wr} {H : Hp} {F g : List Addr} {env : Slots} {σ : L2.St} {i : Nat} {d : D} {v : V} (P : Pre K W H env σ F g) (h : env.at i = some d) (hs : σ[i]? = some (some v)) : ∃ f, VR K W H d v f := by
  obtain ⟨u, f, h1, h2⟩ := tVar_of P h
  rw [hs] at h1; cases h1
  exact ⟨f, h2⟩
theorem Lk.aside {K : PySem.W.Frag} {W W' : Wr} {H H' : Hp} {fp fp' f : List Addr} {d : D} {v : V} {c : Bool} (h : VR K W H d v f) (t : Tr K c W H fp W' H' fp') (hf : ∀ a ∈ fp, W a) (dis : ∀ a ∈ f, a ∉ fp) : Lk K sh W' H' d v f := .inl (h.aside t hf dis)
structure Two (K : PySem.W.Frag) (E : XW) {γ δ : Type} (Rc : Rl γ δ) (c3 sh : Bool) (σ : L2.St) (k : D × D → Slots → R γ) (Q : δ → Hp → Prop) (x y : V) (H : Hp) where
  d1 : D
  d2 : D
  env : Slots
  W : Wr
  f1 : List Addr
  f2 : List Addr
  g : List Addr
  l1 : Lk K sh W H d1 x f1
  l2 : Lk K sh W H d2 y f2
  pre : Pre K W H env σ (f1 ++ f2) g
  post : Post K Rc E c3 W H ((f1 ++ f2) ++ g) σ (k (d1, d2) env) Q
theorem sTwo {γ δ : Type} (c3 : Bool) {Rc : Rl γ δ} {k : D × D → Slots → R γ} (sa : Snd X E a A ra) (sb : Snd X E b B rb) : ∃ ta tb, PE X a ta ∧ PE X b tb ∧ ∀ σ H (Q : δ → Hp → Prop), tG X.K Rc E (A.calm && B.calm && c3) (fun env => (two sh A ra B rb env).bind k) σ H Q →
    ∀ Rq : V → V → Hp → Prop, (∀ x y H2, Two X.K E Rc c3 sh σ k Q x y H2 → Rq x y H2) → ta σ H fun x H1 => tb σ H1 fun y H2 => Rq x y H2 := by
  by_cases hc : ∃ i, A = .nm i
  · obtain ⟨i, rfl⟩ := hc
    refine ⟨_, _, sa.nm i rfl, sOpd sh sb, fun σ H Q h Rq hR => ?_⟩
    obtain ⟨W, env, g, P, h⟩ := h
    have h : Post X.K Rc E (B.calm && c3) W H ([] ++ g) σ (((lift (env.at i) env).bind fun _ env => (opd sh B rb env).bind fun y e => (opd sh (.nm i) ra e).bind fun x e => .ok (x, y) e).bind k) Q := by
      have q : (CE.calm (.nm i) && B.calm && c3) = (B.calm && c3) := by show (true && B.calm && c3) = _; rw [Bool.true_and]
      rw [q] at h
      exact h
    cases q : env.at i with
    | none => rw [q] at h; exact h.elim
    | some d0 =>
      rw [q] at h
      obtain ⟨v, _, hv, _⟩ := tVar_of P q
      refine ⟨v, hv, W, env, g, P, ?_⟩
      have h : Post X.K Rc E (B.calm && c3) W H ([] ++ g) σ ((opd sh B rb env).bind fun y e => ((opd sh (.nm i) ra e).bind fun x e => (.ok (x, y) e : R (D × D))).bind k) Q := by
        refine Post.cong h ?_
        show ((opd sh B rb env).bind _).bind k = _
        cases opd sh B rb env <;> rfl
      have z := P.run (Ra := Lk X.K sh) h
      refine Post.mono z ?_
      rintro u H' ⟨y', e', W', f', g', _, l, P', t, h'⟩
      simp only [List.nil_append] at P' h'
      unfold opd at h'
      dsimp only at h'
      cases q2 : e'.at i with
      | none => rw [q2] at h'; exact h'.elim
      | some x' =>
        rw [q2] at h'
        dsimp only at h'
        split at h'
        · rename_i hs
          obtain ⟨f, hx⟩ := P'.get q2 hv
          exact hR _ _ _ ⟨x', y', e', W', [], f', g', .inr ⟨rfl, fun z => (by rw [z] at hs; simpa using hs), f, hx⟩, l, P', h'⟩
        · exact h'.elim
  · have q : ∀ env, two sh A ra B rb env = (ra env).bind fun x e => (opd sh B rb e).bind fun y e => .ok (x, y) e := by
      intro env
      cases A <;> first | rfl | exact absurd ⟨_, rfl⟩ hc
    refine ⟨_, _, sa.pe, sOpd sh sb, fun σ H Q h Rq hR => ?_⟩
    obtain ⟨W, env, g, P, h⟩ := h
    refine ⟨W, env, g, P, ?_⟩
    have h : Post X.K Rc E (A.calm && (B.calm && c3)) W H ([] ++ g) σ ((ra env).bind fun x e => ((opd sh B rb e).bind fun y e => (.ok (x, y) e : R (D × D))).bind k) Q := by
      have q2 : (A.calm && (B.calm && c3)) = (A.calm && B.calm && c3) := by rw [Bool.and_assoc]
      rw [q2]
      refine Post.cong h ?_
      show (two sh A ra B rb env).bind k = _
      rw [q]
      cases ra env <;> rfl
    refine Post.mono (P.run (Ra := VR X.K) h) ?_
    rintro u H' ⟨x', e', W', f', g', _, l, P', t, h'⟩
    simp only [List.nil_append] at P' h'
    refine ⟨W', e', g', P'.base, ?_⟩
    have h' : Post X.K Rc E (B.calm && c3) W' H' (f' ++ g') σ ((opd sh B rb e').bind fun y e => k (x', y) e) Q := by
      refine Post.cong h' ?_
      cases opd sh B rb e' <;> rfl
    refine Post.mono (P'.run (Ra := Lk X.K sh) h') ?_
    rintro u2 H2 ⟨y', e2, W2, f2, g2, _, l2, P2, t2, h2⟩
    exact hR _ _ _ ⟨x', y', e2, W2, f', f2, g2, Lk.aside l t2 P'.gw P'.dis, l2, P2, h2⟩
end
end Hc

set_option Elab.async false
set_option linter.all false
set_option maxRecDepth 100000
set_option maxHeartbeats 2000000
namespace Hc
open PySem PySem.Spec PyProof.Rows L2
theorem szEq : (sizeLine : Nat) = sz := sizeLine_eq
section
variable {X : Cx}
theorem op_powW : OpR X (binaryOp .Pow) (rI (fun i j => 0 ≤ j ∧ (Builtin.Int.intBits i : Int) * j ≤ 2 ^ 27) fun i j => .int (i ^ j.toNat)) :=
  opI fun _ _ _ _ _ _ _ hc q => PyProof.Rows.pow_int hc.1 hc.2 q
theorem op_catF : OpR X (binaryOp .Add) (fun x y H Q => ∃ l b xs zs, x = .ref l ∧ y = .ref b ∧ FzL X.K H l xs ∧ FzL X.K H b zs ∧ xs.length + zs.length ≤ sizeLine ∧ ∀ p, H p = none → Q (.ref p) (upd H p (.lst (xs ++ zs)))) := by
  rintro pins s σ H x y v u Q I rx ry ⟨l, b, xs, zs, rfl, rfl, h1, h2, hz, q⟩
  cases rx
  cases ry
  obtain ⟨z, its, n, r, hl, e⟩ := h1.at I
  obtain ⟨z2, its2, n2, r2, hl2, e2⟩ := h2.at I
  refine PySem.P.add_list e e2 ?_ (by simp only [List.size_toArray]; omega)
  have ea : its.toArray ++ its2.toArray = (its ++ its2).toArray := by simp
  rw [ea]
  exact ⟨.ref _, _, I.lnew (t' := s.toks) (r.append r2) (by simp only [List.length_append]; omega), rfl, q _ I.fresh⟩
theorem joined (its : List Value) (m : Nat) : List.foldl (fun p q => p ++ q) #[] (List.replicate m its.toArray) = (List.replicate m its).flatten.toArray := by
  have z := foldl_rep its m []
  simpa using z
theorem op_repF : OpR X (binaryOp .Mult) (fun x y H Q => ∃ l k xs, x = .ref l ∧ y = .int k ∧ FzL X.K H l xs ∧ -(2 ^ 63) ≤ k ∧ k < 2 ^ 63 ∧ xs.length * k.toNat ≤ sizeLine ∧ ∀ p, H p = none → Q (.ref p) (upd H p (.lst (List.replicate k.toNat xs).flatten))) := by
  rintro pins s σ H x y v u Q I rx ry ⟨l, k, xs, rfl, rfl, h1, lo, hi, hz, q⟩
  cases rx
  obtain ⟨t, rfl⟩ := ry
  obtain ⟨z, its, n, r, hl, e⟩ := h1.at I
  have sm : its.toArray.size * k.toNat ≤ sizeLine := by simpa [← hl] using hz
  have big : (sizeLine : Nat) ≤ (2 ^ 63 - 1) / 8 := by decide
  have c1 : ¬ its.toArray.size * k.toNat > (2 ^ 63 - 1) / 8 := fun w => absurd (Nat.le_trans sm big) (by omega)
  have c2 : ¬ (!Builtin.List.listFitsIndex k) = true := fun w => by rw [fitsIndex_both lo hi] at w; cases w
  have c3 : ¬ Builtin.List.listTooLong (its.toArray.size * k.toNat) = true := fun w => by rw [notLongL sm] at w; cases w
  have new : List.foldl (fun p q => p ++ q) #[] (List.replicate (if its.toArray.isEmpty = true then 0 else k.toNat) its.toArray) = (List.replicate k.toNat its).flatten.toArray := by
    rw [joined]
    cases its with
    | nil => simp
    | cons w ws => rw [if_neg (by simp)]
  have back : EP X pins σ Q (.ref s.heap.objs.size) { s with heap := s.heap.push { cls := .type "list", data := .seq (List.replicate k.toNat its).flatten.toArray } } :=
    ⟨.ref _, _, I.lnew (t' := s.toks) (r.rep k.toNat) (by rw [PyProof.Rows.lm_len_rep_flat, Nat.mul_comm]; exact hz), rfl, q _ I.fresh⟩
  refine wpAny_binaryOp_repeat_ref (T := "list") (U := "int") (by decide) ⟨_, e, rfl⟩ (fun s2 => typeIs_int s2 k t) noFill_list_mul F.fills_int_mul F.slot_int_rmul repeat_list F.slot_int_index.lookup ?_
  refine call_meets F.slot_int_rmul (typeIs_int s k t) F.entry_int_rmul (F.args_int_rmul_2 _ _) (int___rmul___int_list k t l its.toArray n) ⟨e, rfl, ⟨_, e, rfl⟩, ?_⟩
  refine call_meets F.slot_list_mul ⟨_, e, rfl⟩ F.entry_list_mul (F.args_list_mul_2 _ _) (AutoListH.list___mul___list_int_3 l its.toArray n k t c2 c1 c3) ⟨e, ?_⟩
  rw [new]
  exact back
end
section
variable {K : PySem.W.Frag} {W W' : Wr} {H H' : Hp} {F g fp f fp2 : List Addr} {sh : Bool} {d : D} {v : V}
theorem VR.lstOf {o : Bool} {xs : List D} (h : VR K W H (.lst o xs) v f) : ∃ a vs f', v = .ref a ∧ FzL K H a vs ∧ VRs K W H xs vs f' ∧ (∀ b ∈ f', b ∈ f) ∧ (f.Nodup → f'.Nodup) := by
  cases h with
  | own e t => exact ⟨_, _, _, rfl, .inl (.inl e), t, fun b h => List.mem_cons_of_mem _ h, fun h => (List.nodup_cons.mp h).2⟩
  | frz e n t => exact ⟨_, _, _, rfl, e, t, fun b h => h, fun h => h⟩
theorem Lk.lstOf {o : Bool} {xs : List D} (h : Lk K true W H (.lst o xs) v f) : ∃ a vs f', v = .ref a ∧ FzL K H a vs ∧ VRs K W H xs vs f' ∧ (∀ b ∈ f', b ∈ f) ∧ (f.Nodup → f'.Nodup) := by
  rcases h with h | ⟨rfl, s, f0, h⟩
  · exact h.lstOf
  · obtain ⟨a, vs, f', e, q, t, h1, h2⟩ := h.lstOf
    have n := VRs.none_of t (s rfl)
    subst n
    exact ⟨a, vs, [], e, q, t, fun _ h => (by cases h), fun _ => List.nodup_nil⟩
theorem Lk.lstAny {o : Bool} {xs : List D} (h : Lk K sh W H (.lst o xs) v f) : ∃ a vs f', v = .ref a ∧ FzL K H a vs ∧ VRs K W H xs vs f' := by
  rcases h with h | ⟨rfl, s, f0, h⟩ <;> (obtain ⟨a, vs, f', e, q, t, _⟩ := h.lstOf; exact ⟨a, vs, f', e, q, t⟩)
theorem Lk.tupAny {xs : List D} (h : Lk K sh W H (.tup xs) v f) : ∃ a vs f', v = .ref a ∧ SqT K H a vs ∧ VRs K W H xs vs f' := by
  rcases h with h | ⟨rfl, s, f0, h⟩ <;> (cases h with | tup q t => exact ⟨_, _, _, rfl, .of q, t⟩)
theorem Lk.intOf {i : Int} (h : Lk K sh W H (.int i) v f) : v = .int i := by
  rcases h with h | ⟨_, _, _, h⟩ <;> (cases h; rfl)
theorem Lk.strOf {i : Str} (h : Lk K sh W H (.str i) v f) : v = .str i := by
  rcases h with h | ⟨_, _, _, h⟩ <;> (cases h; rfl)
theorem Lk.blOf {i : Bool} (h : Lk K sh W H (.bl i) v f) : v = .bl i := by
  rcases h with h | ⟨_, _, _, h⟩ <;> (cases h; rfl)
theorem Lk.nonOf (h : Lk K sh W H .non v f) : v = .non := by
  rcases h with h | ⟨_, _, _, h⟩ <;> (cases h; rfl)
theorem VRs.app : ∀ {ds es : List D} {vs us : List V} {f g : List Addr}, VRs K W H ds vs f → VRs K W H es us g → VRs K W H (ds ++ es) (vs ++ us) (f ++ g)
  | _, _, _, _, _, _, .nil, s => s
  | _, _, _, _, _, _, .cons t u, s => by rw [List.append_assoc]; exact .cons t (u.app s)
theorem VRs.rep {ds : List D} {vs : List V} (h : VRs K W H ds vs []) : ∀ k : Nat, VRs K W H (List.replicate k ds).flatten (List.replicate k vs).flatten []
  | 0 => .nil
  | k + 1 => by
    have q := h.app (VRs.rep h k)
    simpa [List.replicate_succ] using q
theorem Pre.newL {E : XW} {c : Bool} {env : Slots} {σ : L2.St} {ds : List D} {vs : List V} {Q : V → Hp → Prop} {p : Addr} (P : Pre K W H env σ F g) (h : Post K (VR K) E c W H fp σ (.ok (.lst true ds) env) Q)
    (r : VRs K W H ds vs f) (hf : ∀ a ∈ f, a ∈ F) (hn : f.Nodup) (hp : H p = none) (hk : K.lookup p = none) (hs : ∀ a ∈ F ++ g, a ∈ fp) : Q (.ref p) (upd H p (.lst vs)) := by
  have P1 : Pre K W H env σ f g := P.sub hn hf
  have t : Tr K c W H fp (W.and p) (upd H p (.lst vs)) (p :: (f ++ g)) := Tr.new1 P.wok hp hk trivial (fun a h => (List.mem_append.mp h).elim (fun z => hs a (List.mem_append_left _ (hf a z))) fun z => hs a (List.mem_append_right _ z)) P1.inW P1.nd
  have k2 : ∀ a o, H a = some o → ¬ W a → upd H p (.lst vs) a = some o ∧ ¬ W.and p a := fun a o e n => ⟨(by rw [upd_ne (ne_of_none e hp)]; exact e), fun w => w.elim n fun z => by rw [z, hp] at e; cases e⟩
  have k3 : ∀ a o, K.lookup a = some o → ¬ W a → ¬ W.and p a := fun a o e n w => w.elim n fun z => by rw [z, hk] at e; cases e
  have k1 : ∀ l : List Addr, ∀ a, a ∈ l → ∀ o, H a = some o → upd H p (.lst vs) a = some o := fun _ a _ o e => by rw [upd_ne (ne_of_none e hp)]; exact e
  exact h _ _ (.ref p) (p :: f) g t (.own upd_same (VRs.move (k1 f) k2 k3 P.wok r fun _ z => z)) (ER.move (k1 g) k2 k3 P.wok P.er fun _ z => z)
theorem Pre.newT {E : XW} {c : Bool} {env : Slots} {σ : L2.St} {ds : List D} {vs : List V} {Q : V → Hp → Prop} {p : Addr} (P : Pre K W H env σ F g) (h : Post K (VR K) E c W H fp σ (.ok (.tup ds) env) Q)
    (r : VRs K W H ds vs f) (hf : ∀ a ∈ f, a ∈ F) (hn : f.Nodup) (hp : H p = none) (hs : ∀ a ∈ F ++ g, a ∈ fp) : Q (.ref p) (upd H p (.tup vs)) := by
  have P1 : Pre K W H env σ f g := P.sub hn hf
  have t : Tr K c W H fp W (upd H p (.tup vs)) (f ++ g) := Tr.new0 P.wok hp (fun a h => (List.mem_append.mp h).elim (fun z => hs a (List.mem_append_left _ (hf a z))) fun z => hs a (List.mem_append_right _ z)) P1.inW P1.nd
  have k2 : ∀ a o, H a = some o → ¬ W a → upd H p (.tup vs) a = some o ∧ ¬ W a := fun a o e n => ⟨(by rw [upd_ne (ne_of_none e hp)]; exact e), n⟩
  have k1 : ∀ l : List Addr, ∀ a, a ∈ l → ∀ o, H a = some o → upd H p (.tup vs) a = some o := fun _ a _ o e => by rw [upd_ne (ne_of_none e hp)]; exact e
  exact h _ _ (.ref p) f g t (.tup upd_same (VRs.move (k1 f) k2 (fun _ _ _ n => n) P.wok r fun _ z => z)) (ER.move (k1 g) k2 (fun _ _ _ n => n) P.wok P.er fun _ z => z)
theorem Pre.flat0 {E : XW} {c : Bool} {env : Slots} {σ : L2.St} {Q : V → Hp → Prop} (P : Pre K W H env σ F g) (h : Post K (VR K) E c W H fp σ (.ok d env) Q) (r : VR K W H d v []) (hs : ∀ a ∈ F ++ g, a ∈ fp) : Q v H :=
  (P.sub (F' := []) List.nodup_nil fun _ h => (by cases h)).done h r fun a z => hs a (by simpa using List.mem_append_right F (by simpa using z))
end
end Hc

set_option Elab.async false
set_option linter.all false
set_option maxRecDepth 100000
set_option maxHeartbeats 2000000
namespace Hc
open PySem PySem.Spec PyProof.Rows L2
theorem keyD_same (j k : Key) : D.same (keyD j) (keyD k) = decide (j = k) := by
  rcases j with n | s <;> rcases k with m | u
  · show (n == m) = _
    by_cases h : n = m <;> simp [h]
  · show false = _; simp
  · show false = _; simp
  · show decide (s = u) = _
    by_cases h : s = u <;> simp [h]
theorem keysD_same : ∀ (j k : List Key), sames (j.map keyD) (k.map keyD) = decide (j = k)
  | [], [] => rfl
  | [], _ :: _ => rfl
  | _ :: _, [] => rfl
  | a :: j, b :: k => by
    show (D.same (keyD a) (keyD b) && sames (j.map keyD) (k.map keyD)) = _
    rw [keyD_same, keysD_same j k]
    by_cases h1 : a = b <;> by_cases h2 : j = k <;> simp [h1, h2]
theorem keyTD_same (j k : List Key) : D.same (keyTD j) (keyTD k) = decide (j = k) := keysD_same j k
theorem keyAt_map {κ : Type} [DecidableEq κ] (f : κ → D) (hf : ∀ j k, D.same (f j) (f k) = decide (j = k)) (ks : List κ) (k : κ) : keyAt (ks.map f) (f k) = ks.findIdx? fun j => decide (j = k) := by
  unfold keyAt
  rw [List.findIdx?_map]
  congr 1
  funext j
  exact hf j k
theorem val_at {κ : Type} [DecidableEq κ] (k : κ) : ∀ (ks : List κ) (vs : List V), ks.length = vs.length → valV (ks.zip vs) k = (ks.findIdx? fun j => decide (j = k)).bind fun i => vs[i]?
  | [], _, _ => rfl
  | j :: ks, [], h => by cases h
  | j :: ks, v :: vs, h => by
    have ih := val_at k ks vs (by simpa using h)
    rw [List.zip_cons_cons, List.findIdx?_cons]
    by_cases e : j = k
    · rw [valV_pos (p := (j, v)) e]
      simp [e]
    · rw [valV_neg (p := (j, v)) e, ih]
      simp only [e, decide_false, Bool.false_eq_true, if_false]
      cases ks.findIdx? fun j => decide (j = k) <;> simp
section
variable {K : PySem.W.Frag} {W : Wr} {H : Hp} {d : D} {v : V} {f : List Addr}
theorem VR.key1 (h : VR K W H d v f) (z : kOk d = true) : ∃ k, d = keyD k ∧ v = kV k := by
  cases h <;> first | (cases z; done) | skip
  · exact ⟨.inl _, rfl, rfl⟩
  · exact ⟨.inr _, rfl, rfl⟩
theorem VRs.keys : ∀ {ds : List D} {vs : List V} {f : List Addr}, VRs K W H ds vs f → ds.all kOk = true → ∃ ks : List Key, ds = ks.map keyD ∧ vs = ks.map kV
  | _, _, _, .nil, _ => ⟨[], rfl, rfl⟩
  | _, _, _, .cons t r, z => by
    simp only [List.all_cons, Bool.and_eq_true] at z
    obtain ⟨k, rfl, rfl⟩ := t.key1 z.1
    obtain ⟨ks, rfl, rfl⟩ := r.keys z.2
    exact ⟨k :: ks, rfl, rfl⟩
theorem DK.get {t : Bool} {ks : List D} {vs : List V} {o : HO} {a : Addr} {kd : D} {y : V} {g : List Addr} (hk : DK t ks vs o) (e : H a = some o) (hy : VR K W H kd y g) (z : keyOk t kd = true) :
    DGet H a y ((keyAt ks kd).bind fun i => vs[i]?) ∧ ∀ i, keyAt ks kd = some i → i < vs.length := by
  cases hk with
  | k ks vs hl _ =>
    obtain ⟨k, rfl, rfl⟩ := hy.key1 z
    have e1 := keyAt_map keyD keyD_same ks k
    refine ⟨by rw [e1, ← val_at k ks vs hl]; exact DGet.k e, fun i hi => ?_⟩
    rw [e1] at hi
    rw [← hl]
    exact (List.findIdx?_eq_some_iff_getElem.mp hi).1
  | t ks vs hl _ =>
    cases hy <;> first | (cases z; done) | skip
    rename_i b xs ds q r
    obtain ⟨k, rfl, rfl⟩ := r.keys z
    have e1 := keyAt_map keyTD keyTD_same ks k
    have e1 : keyAt (ks.map keyTD) (.tup (k.map keyD)) = _ := e1
    refine ⟨by rw [e1, ← val_at k ks vs hl]; exact DGet.t e q, fun i hi => ?_⟩
    rw [e1] at hi
    rw [← hl]
    exact (List.findIdx?_eq_some_iff_getElem.mp hi).1
theorem Lk.dicOf {sh o t : Bool} {ks ds : List D} (h : Lk K sh W H (.dic o t ks ds) v f) : ∃ a ho vs f', v = .ref a ∧ H a = some ho ∧ DK t ks vs ho ∧ VRs K W H ds vs f' := by
  rcases h with h | ⟨_, _, f', h⟩ <;> (cases h with
    | dicO e k r => exact ⟨_, _, _, _, rfl, e, k, r⟩
    | dicF e n k r => exact ⟨_, _, _, _, rfl, e, k, r⟩)
end
section
variable {κ : Type} [DecidableEq κ]
theorem map_off (k : κ) (v : V) : ∀ (ks : List κ) (vs : List V), k ∉ ks → (ks.zip vs).map (fun kv => if kv.1 = k then (kv.1, v) else kv) = ks.zip vs
  | [], _, _ => rfl
  | j :: ks, [], _ => rfl
  | j :: ks, w :: vs, h => by
    have h1 : j ≠ k := fun e => h (by rw [e]; exact List.mem_cons_self)
    rw [List.zip_cons_cons, List.map_cons, if_neg h1, map_off k v ks vs fun z => h (List.mem_cons_of_mem _ z)]
theorem map_on (k : κ) (v : V) : ∀ (ks : List κ) (vs : List V) (i : Nat), ks.Nodup → ks.findIdx? (fun j => decide (j = k)) = some i → (ks.zip vs).map (fun kv => if kv.1 = k then (kv.1, v) else kv) = ks.zip (vs.set i v)
  | [], _, _, _, h => by simp at h
  | j :: ks, [], _, _, _ => by simp
  | j :: ks, w :: vs, i, hn, h => by
    obtain ⟨n1, n2⟩ := List.nodup_cons.mp hn
    rw [List.findIdx?_cons] at h
    by_cases e : j = k
    · subst e
      simp at h
      subst h
      rw [List.zip_cons_cons, List.map_cons, if_pos rfl, map_off j v ks vs n1]
      rfl
    · simp only [e, decide_false, Bool.false_eq_true, if_false] at h
      obtain ⟨i', hi, rfl⟩ := Option.map_eq_some_iff.mp h
      rw [List.zip_cons_cons, List.map_cons, if_neg e, map_on k v ks vs i' n2 hi]
      rfl
theorem put_at (k : κ) (v : V) (ks : List κ) (vs : List V) (hl : ks.length = vs.length) (hn : ks.Nodup) : L2.putK (ks.zip vs) k v = match ks.findIdx? (fun j => decide (j = k)) with
    | some i => ks.zip (vs.set i v)
    | none => (ks ++ [k]).zip (vs ++ [v]) := by
  cases h : ks.findIdx? (fun j => decide (j = k)) with
  | some i =>
    obtain ⟨h1, h2, _⟩ := List.findIdx?_eq_some_iff_getElem.mp h
    have : ((ks.zip vs).any fun kv => decide (kv.1 = k)) = true := by
      rw [List.any_eq_true]
      refine ⟨(ks[i], vs[i]), ?_, by simpa using h2⟩
      rw [List.mem_iff_getElem]
      exact ⟨i, by rw [List.length_zip]; omega, by simp⟩
    unfold L2.putK
    rw [if_pos this, map_on k v ks vs i hn h]
  | none =>
    have hk : ∀ j ∈ ks, j ≠ k := by
      have := List.findIdx?_eq_none_iff.mp h
      intro j hj
      simpa using this j hj
    have : ((ks.zip vs).any fun kv => decide (kv.1 = k)) = false := by
      rw [List.any_eq_false]
      rintro ⟨j, w⟩ hj
      have := hk j (List.of_mem_zip hj).1
      simpa using this
    unfold L2.putK
    rw [if_neg (by rw [this]; exact Bool.false_ne_true), List.zip_append hl]
    rfl
theorem put_nd (k : κ) (ks : List κ) (hn : ks.Nodup) (h : ks.findIdx? (fun j => decide (j = k)) = none) : (ks ++ [k]).Nodup := by
  have := List.findIdx?_eq_none_iff.mp h
  refine List.nodup_append.mpr ⟨hn, by simp, fun a ha b hb e => ?_⟩
  rw [List.mem_singleton.mp hb] at e
  have := this a ha
  simp [e] at this
end
def putKs (ks : List D) (kd : D) : List D := match keyAt ks kd with
  | some _ => ks
  | none => ks ++ [kd]
def putVs {α : Type} (ks : List D) (kd : D) (vs : List α) (v : α) : List α := match keyAt ks kd with
  | some i => vs.set i v
  | none => vs ++ [v]
theorem putD_eq (ks vs : List D) (kd v : D) : putD ks vs kd v = (putKs ks kd, putVs ks kd vs v) := by
  unfold putD putKs putVs
  cases keyAt ks kd <;> rfl
theorem DK.put {K : PySem.W.Frag} {W : Wr} {H : Hp} {t : Bool} {ks : List D} {vs : List V} {o : HO} {a : Addr} {kd : D} {y v : V} {g : List Addr} (hk : DK t ks vs o) (e : H a = some o) (hy : VR K W H kd y g) (z : keyOk t kd = true) (hz : ks.length < sz) :
    ∃ o', DPut H a y v (upd H a o') ∧ Ownable o' ∧ DK t (putKs ks kd) (putVs ks kd vs v) o' := by
  cases hk with
  | k ks vs hl hn =>
    obtain ⟨k, rfl, rfl⟩ := hy.key1 z
    have e1 := keyAt_map keyD keyD_same ks k
    have hz' : (ks.zip vs).length < sizeLine := by rw [List.length_zip, ← hl, Nat.min_self, szEq]; simpa using hz
    refine ⟨_, DPut.k e hz', trivial, ?_⟩
    rw [put_at k v ks vs hl hn]
    unfold putKs putVs
    rw [e1]
    cases h : ks.findIdx? (fun j => decide (j = k)) with
    | some i => exact .k ks (vs.set i v) (by rw [List.length_set]; exact hl) hn
    | none =>
      have q := DK.k (ks ++ [k]) (vs ++ [v]) (by simp [hl]) (put_nd k ks hn h)
      rw [List.map_append] at q
      exact q
  | t ks vs hl hn =>
    cases hy <;> first | (cases z; done) | skip
    rename_i b xs ds q r
    obtain ⟨k, rfl, rfl⟩ := r.keys z
    have e1 := keyAt_map keyTD keyTD_same ks k
    have e1 : keyAt (ks.map keyTD) (.tup (k.map keyD)) = _ := e1
    have hz' : (ks.zip vs).length < sizeLine := by rw [List.length_zip, ← hl, Nat.min_self, szEq]; simpa using hz
    refine ⟨_, DPut.t e q hz', trivial, ?_⟩
    rw [put_at k v ks vs hl hn]
    unfold putKs putVs
    rw [e1]
    cases h : ks.findIdx? (fun j => decide (j = k)) with
    | some i => exact .t ks (vs.set i v) (by rw [List.length_set]; exact hl) hn
    | none =>
      have q := DK.t (ks ++ [k]) (vs ++ [v]) (by simp [hl]) (put_nd k ks hn h)
      rw [List.map_append] at q
      exact q
section
variable {X : Cx}
theorem op_inD (hu : X.A.units + 1 < cLine) : OpR X (compareOp .In) (fun x y H Q => ∃ a o, y = .ref a ∧ DGet H a x o ∧ Q (.bl o.isSome) H) := by
  rintro pins s σ H x y v u Q I rx ry ⟨a, o, rfl, g, q⟩
  cases ry
  exact d_in hu I g rx fun s' I' => ⟨.bl _, H, I', rfl, q⟩
theorem op_ninD (hu : X.A.units + 1 < cLine) : OpR X (compareOp .NotIn) (fun x y H Q => ∃ a o, y = .ref a ∧ DGet H a x o ∧ Q (.bl (!o.isSome)) H) := by
  rintro pins s σ H x y v u Q I rx ry ⟨a, o, rfl, g, q⟩
  cases ry
  exact d_notIn hu I g rx fun s' I' => ⟨.bl _, H, I', rfl, q⟩
end
end Hc

set_option Elab.async false
set_option linter.all false
set_option maxRecDepth 100000
set_option maxHeartbeats 2000000
namespace Hc
open PySem PySem.Spec PyProof.Rows L2
section
open PySem.SeqAt
open PySem.AutoSeq1 (wpAny_loadPart')
open PySem.MeetsSeq PySem.MeetsSeq2 PySem.MeetsSeq3
theorem fst_lt (l b : Addr) (items items2 : Array Value) (n n2 : Nat) (dd dd2 : Option Addr) (sl sl2 : Array (Option Value)) (i j : Int) (t u : Tok) (xs ys : List Value) (e1 : items.toList = .int i t :: xs) (e2 : items2.toList = .int j u :: ys) (ne : i ≠ j) :
    Meets (Builtin.«tuple.__lt__» ⟨[.ref l, .ref b], []⟩)
      (fun A R s => s.heap.get? l = some { cls := .type "tuple", dict := dd, data := .seq items n, slots := sl } ∧ s.heap.get? b = some { cls := .type "tuple", dict := dd2, data := .seq items2 n2, slots := sl2 } ∧
        R (.ok (.ret (.bool (decide (i < j))))) s) :=
  .of_wp fun prog w A R s h => by
    obtain ⟨hp, g, d, tk, os⟩ := s
    obtain ⟨hl, hb, h⟩ := h
    have f2 := AutoSeq1.sub_tuple_tuple
    wp_walk using wpAny_loadPart' hl, wpAny_loadPart' hb, wpAny_forIn_list _ (fun rest c s' => c.1 = none ∧ s' = ⟨hp, g, d, tk, os⟩ ∧ rest = items.toList.zip items2.toList) _
    case turn =>
      rintro ⟨y, x⟩ rest c s' ⟨hb', rfl, hz⟩
      obtain ⟨c1, c2⟩ := c
      simp only at hb'
      subst hb'
      rw [e1, e2, List.zip_cons_cons] at hz
      injection hz with hyx hrest
      injection hyx with hy hx
      subst hy hx
      refine wpAny_bind (EqAt.int_int i t j u prog w _ _ ?_)
      have hf : (i == j) = false := beq_eq_false_iff_ne.mpr ne
      rw [hf]
      have hri : ∀ (E : Value → Shared → Prop) (Q : Value → Shared → Prop), Q (.bool (decide (i < j))) ⟨hp, g, d, tk, os⟩ → wpAny (model prog w) A.in1 (richCompare .Lt (.int i t) (.int j u)) Q E ⟨hp, g, d, tk, os⟩ := fun _ _ h => PyProof.Rows.lt_int h
      wp_walk using hri
      exact ⟨_, rfl, h⟩
    case fin =>
      rintro ⟨b1, b2⟩ s' ⟨hb', rfl, hz⟩
      rw [e1, e2] at hz
      cases hz
    case h =>
      exact ⟨rfl, rfl, rfl⟩
theorem fst_gt (l b : Addr) (items items2 : Array Value) (n n2 : Nat) (dd dd2 : Option Addr) (sl sl2 : Array (Option Value)) (i j : Int) (t u : Tok) (xs ys : List Value) (e1 : items.toList = .int i t :: xs) (e2 : items2.toList = .int j u :: ys) (ne : i ≠ j) :
    Meets (Builtin.«tuple.__gt__» ⟨[.ref l, .ref b], []⟩)
      (fun A R s => s.heap.get? l = some { cls := .type "tuple", dict := dd, data := .seq items n, slots := sl } ∧ s.heap.get? b = some { cls := .type "tuple", dict := dd2, data := .seq items2 n2, slots := sl2 } ∧
        R (.ok (.ret (.bool (decide (j < i))))) s) :=
  .of_wp fun prog w A R s h => by
    obtain ⟨hp, g, d, tk, os⟩ := s
    obtain ⟨hl, hb, h⟩ := h
    have f2 := AutoSeq1.sub_tuple_tuple
    wp_walk using wpAny_loadPart' hl, wpAny_loadPart' hb, wpAny_forIn_list _ (fun rest c s' => c.1 = none ∧ s' = ⟨hp, g, d, tk, os⟩ ∧ rest = items.toList.zip items2.toList) _
    case turn =>
      rintro ⟨y, x⟩ rest c s' ⟨hb', rfl, hz⟩
      obtain ⟨c1, c2⟩ := c
      simp only at hb'
      subst hb'
      rw [e1, e2, List.zip_cons_cons] at hz
      injection hz with hyx hrest
      injection hyx with hy hx
      subst hy hx
      refine wpAny_bind (EqAt.int_int i t j u prog w _ _ ?_)
      have hf : (i == j) = false := beq_eq_false_iff_ne.mpr ne
      rw [hf]
      have hri : ∀ (E : Value → Shared → Prop) (Q : Value → Shared → Prop), Q (.bool (decide (j < i))) ⟨hp, g, d, tk, os⟩ → wpAny (model prog w) A.in1 (richCompare .Gt (.int i t) (.int j u)) Q E ⟨hp, g, d, tk, os⟩ := fun _ _ h => PyProof.Rows.gt_int h
      wp_walk using hri
      exact ⟨_, rfl, h⟩
    case fin =>
      rintro ⟨b1, b2⟩ s' ⟨hb', rfl, hz⟩
      rw [e1, e2] at hz
      cases hz
    case h =>
      exact ⟨rfl, rfl, rfl⟩
variable {prog : Program} {w : World} {A : Around} {s : Shared} {a b : Value} {as bs : List Addr} {i j : Int} {xs ys : List PyData} {Q : Value → Shared → Prop} {E : Value → Shared → Prop}
theorem lt_first (ra : Reads s.heap a (.tuple (.int i :: xs)) as) (rb : Reads s.heap b (.tuple (.int j :: ys)) bs) (ne : i ≠ j) (hu : A.units < cLine) (hq : Q (.bool (decide (i < j))) s) : wpAny (model prog w) A (compareOp .Lt a b) Q E s := by
  cases ra with
  | @tuple l o vs n _ as₁ h1 h2 h3 h4 =>
    cases rb with
    | @tuple l' o' vs' n' _ bs₁ k1 k2 k3 k4 =>
      generalize e1 : vs.toList = us at h4
      generalize e2 : vs'.toList = ws at k4
      cases h4 with
      | cons r1 q1 =>
        cases r1
        cases k4 with
        | cons r2 q2 =>
          cases r2
          obtain ⟨cls, dd, data, sl⟩ := o
          obtain ⟨cls2, dd2, data2, sl2⟩ := o'
          simp only at h2 h3 k2 k3
          subst h2 h3 k2 k3
          exact richCompare_meets_room (op := .Lt) ⟨_, h1, rfl⟩ ⟨_, k1, rfl⟩ F.slot_tuple_lt F.entry_tuple_lt (F.args_tuple_lt_2 _ _) (fst_lt l l' vs vs' n n' dd dd2 sl sl2 i j _ _ _ _ e1 e2 ne) ⟨h1, k1, ⟨(fun x => nomatch x), hq⟩⟩ hu
theorem gt_first (ra : Reads s.heap a (.tuple (.int i :: xs)) as) (rb : Reads s.heap b (.tuple (.int j :: ys)) bs) (ne : i ≠ j) (hu : A.units < cLine) (hq : Q (.bool (decide (j < i))) s) : wpAny (model prog w) A (compareOp .Gt a b) Q E s := by
  cases ra with
  | @tuple l o vs n _ as₁ h1 h2 h3 h4 =>
    cases rb with
    | @tuple l' o' vs' n' _ bs₁ k1 k2 k3 k4 =>
      generalize e1 : vs.toList = us at h4
      generalize e2 : vs'.toList = ws at k4
      cases h4 with
      | cons r1 q1 =>
        cases r1
        cases k4 with
        | cons r2 q2 =>
          cases r2
          obtain ⟨cls, dd, data, sl⟩ := o
          obtain ⟨cls2, dd2, data2, sl2⟩ := o'
          simp only at h2 h3 k2 k3
          subst h2 h3 k2 k3
          exact richCompare_meets_room (op := .Gt) ⟨_, h1, rfl⟩ ⟨_, k1, rfl⟩ F.slot_tuple_gt F.entry_tuple_gt (F.args_tuple_gt_2 _ _) (fst_gt l l' vs vs' n n' dd dd2 sl sl2 i j _ _ _ _ e1 e2 ne) ⟨h1, k1, ⟨(fun x => nomatch x), hq⟩⟩ hu
end
theorem fstLt_of {x y : D} {r : Bool} (h : fstLt x y = some r) : ∃ i j xs ys, x = .tup (.int i :: xs) ∧ y = .tup (.int j :: ys) ∧ i ≠ j ∧ flat 60 x = true ∧ flat 60 y = true ∧ r = decide (i < j) := by
  unfold fstLt at h
  split at h
  · split at h
    · rename_i h1
      cases h
      exact ⟨_, _, _, _, rfl, rfl, h1.1, h1.2.1, h1.2.2, rfl⟩
    · cases h
  · cases h
def rFst (K : PySem.W.Frag) : R2 := fun x y H Q => ∃ i xs j ys, Dp K H x (.tuple (.int i :: xs)) ∧ Dp K H y (.tuple (.int j :: ys)) ∧ i ≠ j ∧ Q (.bl (decide (i < j))) H
def rFst2 (K : PySem.W.Frag) : R2 := fun x y H Q => ∃ i xs j ys, Dp K H x (.tuple (.int i :: xs)) ∧ Dp K H y (.tuple (.int j :: ys)) ∧ i ≠ j ∧ Q (.bl (decide (j < i))) H
variable {X : Cx}
theorem op_ltFst (hu : X.A.units + 64 < cLine) : OpR X (compareOp .Lt) (rFst X.K) := by
  intro pins s σ H x y v u Q I rx ry h
  obtain ⟨i, xs, j, ys, hd, he, hn, q⟩ := h
  obtain ⟨as, r1⟩ := Dp.reads I _ x v hd rx
  obtain ⟨bs, r2⟩ := Dp.reads I _ y u he ry
  exact lt_first r1 r2 hn (by omega) ⟨.bl _, H, I, rfl, q⟩
theorem op_gtFst (hu : X.A.units + 64 < cLine) : OpR X (compareOp .Gt) (rFst2 X.K) := by
  intro pins s σ H x y v u Q I rx ry h
  obtain ⟨i, xs, j, ys, hd, he, hn, q⟩ := h
  obtain ⟨as, r1⟩ := Dp.reads I _ x v hd rx
  obtain ⟨bs, r2⟩ := Dp.reads I _ y u he ry
  exact gt_first r1 r2 hn (by omega) ⟨.bl _, H, I, rfl, q⟩
end Hc

set_option Elab.async false
set_option linter.all false
set_option maxRecDepth 100000
set_option maxHeartbeats 2000000
namespace Hc
open PySem PySem.Spec PyProof.Rows L2
def boOp : Bo → Operator
  | .add => .Add | .sub => .Sub | .mul => .Mult | .mod => .Mod | .fdv => .FloorDiv | .pow => .Pow | .shl => .LShift | .shr => .RShift | .band => .BitAnd | .bor => .BitOr
def cmOp : Cm → CmpOp
  | .eq => .Eq | .ne => .NotEq | .lt => .Lt | .le => .LtE | .gt => .Gt | .ge => .GtE | .isn => .IsNot | .nin => .NotIn | .inn => .In | .is_ => .Is
section
variable {X : Cx} {E : XW} {a b e : Expr} {A B C : CE} {ra rb rc r : Slots → R D} {sh : Bool} {pos : Pos}
theorem OpR.any {f : Value → Value → Sem Value} {r : R2} (h : ∀ x y H Q, r x y H Q → ∃ r', OpR X f r' ∧ r' x y H fun v H' => KOK X.K H' → Q v H') : OpR X f r := fun pins s σ H x y v u Q I rx ry q => by
  obtain ⟨r', h1, h2⟩ := h x y H Q q
  exact thn (h1 pins s σ H x y v u _ I rx ry h2) fun v s' ⟨x, H', I', rx, kk⟩ => ⟨x, H', I', rx, kk (kok I')⟩
def rTwo (X : Cx) (E : XW) (sh : Bool) (σ : L2.St) (k : D × D → Slots → R D) : R2 := fun x y H Q => Nonempty (Two X.K E (VR X.K) true sh σ k Q x y H)
theorem sOp2 {sh : Bool} {op : Value → Value → Sem Value} {k : D × D → Slots → R D} {ex : Expr} (mk : ∀ {r : R2} {ta tb : TE}, OpR X op r → PE X a ta → PE X b tb → PE X ex (tOp r ta tb)) (sa : Snd X E a A ra) (sb : Snd X E b B rb)
    (ho : ∀ σ, OpR X op (rTwo X E sh σ k)) : PE X ex (tE X.K E (A.calm && B.calm) fun env => (two sh A ra B rb env).bind k) := by
  obtain ⟨ta, tb, ha, hb, z⟩ := sTwo (sh := sh) (Rc := VR X.K) (k := k) true sa sb
  exact ⟨fun pins s σ H Q I q => (mk (ho σ) ha hb).run pins s σ H Q I (z σ H Q (by rw [Bool.and_true]; exact q) _ fun _ _ _ T => ⟨T⟩)⟩
theorem post_lift {γ δ α : Type} {K : PySem.W.Frag} {Ra : Rl γ δ} {c : Bool} {W : Wr} {H : Hp} {fp : List Addr} {σ : L2.St} {o : Option α} {k : α → Slots → R γ} {env : Slots} {Q : δ → Hp → Prop}
    (h : Post K Ra E c W H fp σ ((lift o env).bind k) Q) : ∃ a, o = some a ∧ Post K Ra E c W H fp σ (k a env) Q := by
  cases o with
  | none => exact h.elim
  | some a => exact ⟨a, rfl, h⟩
theorem post_lift0 {γ δ : Type} {K : PySem.W.Frag} {Ra : Rl γ δ} {c : Bool} {W : Wr} {H : Hp} {fp : List Addr} {σ : L2.St} {o : Option γ} {env : Slots} {Q : δ → Hp → Prop}
    (h : Post K Ra E c W H fp σ (lift o env) Q) : ∃ a, o = some a ∧ Post K Ra E c W H fp σ (.ok a env) Q := by
  cases o with
  | none => exact h.elim
  | some a => exact ⟨a, rfl, h⟩
theorem mulSOk {x : Str} {k : Int} (h : 0 ≤ k) (h2 : k ≤ 1000) (hx : x.length ≤ 1000) : MulOk x k := by
  refine ⟨by rw [decide_eq_false (by omega), decide_eq_false (by omega)]; rfl, fun h0 _ => ?_, fun _ _ => ?_⟩
  · have h3 : ((x.length : Int)) ≤ (2 ^ 63 - 1) / k := by
      rw [Int.le_ediv_iff_mul_le (by omega)]
      have : (x.length : Int) * k ≤ 1000 * 1000 := Int.mul_le_mul (by omega) h2 h (by decide)
      exact Int.le_trans this (by decide)
    omega
  · have : x.length * k.toNat ≤ 1000 * 1000 := Nat.mul_le_mul hx (by omega)
    unfold Builtin.Str.tooLong
    rw [decide_eq_false]
    intro z
    have h2 : 1000 * 1000 < sizeLine := by decide
    omega
theorem op_mulStr : OpR X (binaryOp .Mult) fun x y H Q => ∃ i j, x = V.str i ∧ y = V.int j ∧ MulOk i j ∧ Q (V.str (Txt.mul i j)) H := by
  rintro pins s σ H x y v u Q I rx ry ⟨i, j, rfl, rfl, hz, q⟩
  obtain ⟨t, rfl⟩ := rx
  obtain ⟨t', rfl⟩ := ry
  exact SB.mul hz fun t' tk => ⟨V.str (Txt.mul i j), H, I.tok tk, ⟨t', rfl⟩, q⟩
theorem opBin (o : Bo) (σ : L2.St) : OpR X (binaryOp (boOp o)) (rTwo X E true σ fun p e => lift (binop o p.1 p.2) e) := by
  refine OpR.any fun x y H Q h => ?_
  obtain ⟨⟨d1, d2, env, W, f1, f2, g, l1, l2, P, post⟩⟩ := h
  obtain ⟨d, hd, post⟩ := post_lift0 post
  dsimp only at hd
  have fl : ∀ v, VR X.K W H d v [] → (KOK X.K H → Q v H) := fun v r _ => P.flat0 post r fun a z => z
  unfold binop at hd
  split at hd
  · cases hd; cases l1.intOf; cases l2.intOf
    exact ⟨_, op_add, _, _, rfl, rfl, fl _ (.int _)⟩
  · split at hd
    · cases hd; cases l1.strOf; cases l2.strOf
      exact ⟨_, op_add_str, _, _, rfl, rfl, by rw [szEq]; assumption, fl _ (.str _)⟩
    · cases hd
  · split at hd
    · rename_i hz
      cases hd
      obtain ⟨p, vs, h1, rfl, q1, r1, s1, n1⟩ := l1.lstOf
      obtain ⟨q, us, h2, rfl, q2, r2, s2, n2⟩ := l2.lstOf
      refine ⟨_, op_catF, _, _, _, _, rfl, rfl, q1, q2, by rw [szEq, ← r1.length, ← r2.length]; exact hz, fun p hp kk => ?_⟩
      have nd := (List.nodup_append.mp (List.nodup_append.mp P.nd).1)
      refine P.newL post (r1.app r2) (fun a z => ?_) ?_ hp kk.new fun a z => z
      · exact (List.mem_append.mp z).elim (fun z => List.mem_append_left _ (s1 a z)) fun z => List.mem_append_right _ (s2 a z)
      · exact List.nodup_append.mpr ⟨n1 nd.1, n2 nd.2.1, fun a ha b hb e => nd.2.2 a (s1 a ha) b (s2 b hb) e⟩
    · cases hd
  · cases hd; cases l1.intOf; cases l2.intOf
    exact ⟨_, op_sub, _, _, rfl, rfl, fl _ (.int _)⟩
  · split at hd
    · cases hd; cases l1.intOf; cases l2.intOf
      exact ⟨_, op_mulW, _, _, rfl, rfl, by assumption, fl _ (.int _)⟩
    · cases hd
  · split at hd
    · rename_i hz
      cases hd
      cases l2.intOf
      obtain ⟨p, vs, h1, rfl, q1, r1, s1, n1⟩ := l1.lstOf
      have e := VRs.none_of r1 hz.1
      subst e
      refine ⟨_, op_repF, _, _, _, rfl, rfl, q1, hz.2.2.1, hz.2.2.2, by rw [szEq, ← r1.length]; exact hz.2.1, fun p hp kk => ?_⟩
      exact P.newL post (r1.rep _) (fun a z => (by cases z)) List.nodup_nil hp kk.new fun a z => z
    · cases hd
  · split at hd
    · rename_i hz
      cases hd; cases l1.strOf; cases l2.intOf
      exact ⟨_, op_mulStr, _, _, rfl, rfl, mulSOk hz.1 hz.2.1 hz.2.2, fl _ (.str _)⟩
    · cases hd
  · split at hd
    · cases hd; cases l1.intOf; cases l2.intOf
      exact ⟨_, op_mod, _, _, rfl, rfl, by assumption, fl _ (.int _)⟩
    · cases hd
  · split at hd
    · cases hd; cases l1.intOf; cases l2.intOf
      exact ⟨_, op_fdivW, _, _, rfl, rfl, by assumption, fl _ (.int _)⟩
    · cases hd
  · split at hd
    · cases hd; cases l1.intOf; cases l2.intOf
      exact ⟨_, op_powW, _, _, rfl, rfl, by assumption, fl _ (.int _)⟩
    · cases hd
  · split at hd
    · cases hd; cases l1.intOf; cases l2.intOf
      exact ⟨_, op_shr, _, _, rfl, rfl, by assumption, fl _ (.int _)⟩
    · cases hd
  · split at hd
    · rename_i hz
      cases hd; cases l1.intOf; cases l2.intOf
      exact ⟨_, op_shl, _, _, rfl, rfl, ⟨hz.1, by omega, hz.2.2⟩, fl _ (.int _)⟩
    · cases hd
  · cases hd; cases l1.intOf; cases l2.intOf
    exact ⟨_, op_and, _, _, rfl, rfl, fl _ (.int _)⟩
  · cases hd; cases l1.intOf; cases l2.intOf
    exact ⟨_, op_or, _, _, rfl, rfl, fl _ (.int _)⟩
  · cases hd
theorem sBin (o : Bo) (sa : Snd X E a A ra) (sb : Snd X E b B rb) : PE X (.BinOp a (boOp o) b pos) (tE X.K E (A.calm && B.calm) (cBin o A ra B rb)) :=
  sOp2 (fun h1 h2 h3 => pe_op h1 h2 h3) sa sb (opBin o)
mutual
theorem VR.dp {K : PySem.W.Frag} {W : Wr} {H : Hp} : ∀ {d : D} {v : V} {f : List Addr} {n : Nat}, VR K W H d v f → flat n d = true → Dp K H v d.toP
  | _, _, _, _, .non, _ => .non
  | _, _, _, _, .bl b, _ => .bl b
  | _, _, _, _, .int i, _ => .int i
  | _, _, _, _, .str s, _ => .str s
  | _, _, _, 0, .gone v, z => by simp [flat] at z
  | _, _, _, n + 1, .gone v, z => by simp [flat] at z
  | _, _, _, 0, .tup q t, z => by simp [flat] at z
  | _, _, _, n + 1, .tup q t, z => .tup (.of q) (VRs.dp t (by simpa [flat] using z))
  | _, _, _, 0, .own e t, z => by simp [flat] at z
  | _, _, _, n + 1, .own e t, z => .lst (.of e) (VRs.dp t (by simpa [flat] using z))
  | _, _, _, 0, .frz e _ t, z => by simp [flat] at z
  | _, _, _, n + 1, .frz e _ t, z => .lst e.sq (VRs.dp t (by simpa [flat] using z))
  | _, _, _, n, .dicO _ _ _, z => by cases n <;> simp [flat] at z
  | _, _, _, n, .dicF _ _ _ _, z => by cases n <;> simp [flat] at z
theorem VRs.dp {K : PySem.W.Frag} {W : Wr} {H : Hp} : ∀ {d : List D} {v : List V} {f : List Addr} {n : Nat}, VRs K W H d v f → (∀ x ∈ d, flat n x = true) → DpAll K H v (toPs d)
  | _, _, _, _, .nil, _ => .nil
  | _, _, _, _, .cons t u, z => .cons (VR.dp t (z _ List.mem_cons_self)) (VRs.dp u fun x h => z x (List.mem_cons_of_mem _ h))
end
mutual
theorem flat_can : ∀ (d : D) (n : Nat), flat n d = true → d.toP.canLay0 = true ∧ d.toP.depth ≤ n
  | .non, _, _ => by simp [D.toP, PyData.canLay0, PyData.depth]
  | .bl b, _, _ => by simp [D.toP, PyData.canLay0, PyData.depth]
  | .int i, _, _ => by simp [D.toP, PyData.canLay0, PyData.depth]
  | .str s, n, h => by
    have h' : PyData.strOk s = true := by cases n <;> simpa [flat] using h
    simp [D.toP, PyData.canLay0, PyData.depth, h']
  | .gone, n, h => by cases n <;> simp [flat] at h
  | .dic _ _ _ _, n, h => by cases n <;> simp [flat] at h
  | .obj _ _ _ _, n, h => by cases n <;> simp [flat] at h
  | .tup xs, 0, h => by simp [flat] at h
  | .lst _ xs, 0, h => by simp [flat] at h
  | .tup xs, n + 1, h => by
    have z := flats_can xs n (by simpa [flat] using h)
    simp only [D.toP, PyData.canLay0, PyData.depth]
    exact ⟨z.1, by omega⟩
  | .lst _ xs, n + 1, h => by
    have z := flats_can xs n (by simpa [flat] using h)
    simp only [D.toP, PyData.canLay0, PyData.depth]
    exact ⟨z.1, by omega⟩
theorem flats_can : ∀ (ds : List D) (n : Nat), (∀ x ∈ ds, flat n x = true) → PyData.canLayAll0 (toPs ds) = true ∧ PyData.depthAll (toPs ds) ≤ n
  | [], n, _ => by simp [toPs, PyData.canLayAll0, PyData.depthAll]
  | d :: ds, n, h => by
    have z := flat_can d n (h d List.mem_cons_self)
    have y := flats_can ds n fun x hx => h x (List.mem_cons_of_mem _ hx)
    simp only [toPs, PyData.canLayAll0, PyData.depthAll, z.1, y.1, Bool.and_self, true_and]
    omega
end
theorem flat_shaped {d : D} (h : flat 60 d = true) : SeqAt.shaped d.toP = true := by
  have z := flat_can d 60 h
  unfold SeqAt.shaped
  rw [z.1]
  simp only [Bool.true_and, decide_eq_true_eq]
  omega
theorem Lk.dp {K : PySem.W.Frag} {W : Wr} {H : Hp} {d : D} {v : V} {f : List Addr} {n : Nat} (h : Lk K sh W H d v f) (z : flat n d = true) : Dp K H v d.toP := by
  rcases h with h | ⟨_, _, _, h⟩
  · exact h.dp z
  · exact h.dp z
theorem Lk.ex {K : PySem.W.Frag} {W : Wr} {H : Hp} {d : D} {v : V} {f : List Addr} (h : Lk K sh W H d v f) : ∃ f', VR K W H d v f' := by
  rcases h with h | ⟨_, _, _, h⟩
  · exact ⟨_, h⟩
  · exact ⟨_, h⟩
theorem VR.isNon {K : PySem.W.Frag} {W : Wr} {H : Hp} {d : D} {v : V} {f : List Addr} (h : VR K W H d v f) (hn : d ≠ .gone) (hm : d ≠ .non) : decide (v = .non) = false := by
  cases h <;> first | exact absurd rfl hm | exact absurd rfl hn | (apply decide_eq_false; intro e; cases e)
theorem VR.flat0 {K : PySem.W.Frag} {W : Wr} {H : Hp} {d : D} {v : V} {f : List Addr} (h : VR K W H d v f) (z : flat 0 d = true) : flatV v = true := by
  cases h <;> first | rfl | simp [flat] at z
theorem VR.eq0 {K : PySem.W.Frag} {W : Wr} {H : Hp} {d e : D} {v u : V} {f g : List Addr} (h : VR K W H d v f) (z : flat 0 d = true) (h' : VR K W H e u g) (z' : flat 0 e = true) : eqV v u = deq d e := by
  cases h <;> first
    | (simp [flat] at z; done)
    | (cases h' <;> first
        | (simp [flat] at z'; done)
        | (simp [eqV, deq, D.toP, PyData.eqv]; done)
        | rfl)
theorem VRs.any0 {K : PySem.W.Frag} {W : Wr} {H : Hp} {e : D} {u : V} {g : List Addr} (h' : VR K W H e u g) (z' : flat 0 e = true) : ∀ {ds : List D} {vs : List V} {f : List Addr}, VRs K W H ds vs f → ds.all (flat 0) = true → vs.all flatV = true ∧ inV u vs = ds.any fun z => deq z e
  | _, _, _, .nil, _ => ⟨rfl, rfl⟩
  | _, _, _, .cons t r, z => by
    simp only [List.all_cons, Bool.and_eq_true] at z
    have ih := VRs.any0 h' z' r z.2
    refine ⟨by simp only [List.all_cons, t.flat0 z.1, ih.1, Bool.and_self], ?_⟩
    have e2 := ih.2
    unfold inV at e2 ⊢
    simp only [List.any_cons, e2, t.eq0 z.1 h' z']
theorem Lk.seqOf {K : PySem.W.Frag} {W : Wr} {H : Hp} {d : D} {v : V} {f : List Addr} {ys : List D} (h : Lk K sh W H d v f) (e : d.items? = some ys) : ∃ a vs f', v = .ref a ∧ (SqL K H a vs ∨ SqT K H a vs) ∧ VRs K W H ys vs f' := by
  obtain ⟨f', r⟩ := h.ex
  cases d <;> simp only [D.items?, reduceCtorEq, Option.some.injEq] at e
  · subst e
    cases r with
    | tup q t => exact ⟨_, _, _, rfl, .inr (.of q), t⟩
  · subst e
    obtain ⟨a, vs, f2, e2, q, t, _⟩ := r.lstOf
    exact ⟨a, vs, f2, e2, .inl q.sq, t⟩
theorem unitsOf {k : Nat} (h : Room k X.A) : X.A.units + 64 < cLine := by
  have := h.un
  omega
def rCm (K : PySem.W.Frag) (o : Cm) : R2 := fun x y H Q => ∃ (W : Wr) (f1 f2 : List Addr) (d1 d2 : D) (b : Bool), Lk K false W H d1 x f1 ∧ Lk K false W H d2 y f2 ∧ cmpop o d1 d2 = some b ∧ Q (.bl b) H
def rOD (K : PySem.W.Frag) (f : PyData → PyData → Bool) : R2 := fun x y H Q => ∃ d e, Dp K H x d ∧ Dp K H y e ∧ d ≠ .none ∧ PySem.W.alike d e = true ∧ d.depth < 61 ∧ Q (.bl (f d e)) H
theorem op_ltOD (hu : X.A.units + 64 < cLine) : OpR X (compareOp .Lt) (rOD X.K fun d e => PySem.W.dataLt d e) := by
  intro pins s σ H x y v u Q I rx ry h
  obtain ⟨d, e, hd, he, hn, hal, hz, q⟩ := h
  obtain ⟨as, r1⟩ := Dp.reads I d x v hd rx
  obtain ⟨bs, r2⟩ := Dp.reads I e y u he ry
  exact PySem.W.lt_data r1 r2 hal hn (by omega) ⟨.bl _, H, I, rfl, q⟩
theorem op_gtOD (hu : X.A.units + 64 < cLine) : OpR X (compareOp .Gt) (rOD X.K fun d e => PySem.W.dataLt e d) := by
  intro pins s σ H x y v u Q I rx ry h
  obtain ⟨d, e, hd, he, hn, hal, hz, q⟩ := h
  obtain ⟨as, r1⟩ := Dp.reads I d x v hd rx
  obtain ⟨bs, r2⟩ := Dp.reads I e y u he ry
  exact PySem.W.gt_data r1 r2 hal hn (by omega) ⟨.bl _, H, I, rfl, q⟩
theorem op_leOD (hu : X.A.units + 64 < cLine) : OpR X (compareOp .LtE) (rOD X.K fun d e => !PySem.W.dataLt e d) := by
  intro pins s σ H x y v u Q I rx ry h
  obtain ⟨d, e, hd, he, hn, hal, hz, q⟩ := h
  obtain ⟨as, r1⟩ := Dp.reads I d x v hd rx
  obtain ⟨bs, r2⟩ := Dp.reads I e y u he ry
  exact PySem.W.le_data r1 r2 hal hn (by omega) ⟨.bl _, H, I, rfl, q⟩
theorem op_geOD (hu : X.A.units + 64 < cLine) : OpR X (compareOp .GtE) (rOD X.K fun d e => !PySem.W.dataLt d e) := by
  intro pins s σ H x y v u Q I rx ry h
  obtain ⟨d, e, hd, he, hn, hal, hz, q⟩ := h
  obtain ⟨as, r1⟩ := Dp.reads I d x v hd rx
  obtain ⟨bs, r2⟩ := Dp.reads I e y u he ry
  exact PySem.W.ge_data r1 r2 hal hn (by omega) ⟨.bl _, H, I, rfl, q⟩
theorem cmpOk_of {K : PySem.W.Frag} {W : Wr} {H : Hp} {d1 d2 : D} {x y : V} {f1 f2 : List Addr} (h : cmpOk d1 d2 = true) (l1 : Lk K false W H d1 x f1) (l2 : Lk K false W H d2 y f2) :
    Dp K H x d1.toP ∧ Dp K H y d2.toP ∧ d1.toP ≠ .none ∧ PySem.W.alike d1.toP d2.toP = true ∧ d1.toP.depth < 61 := by
  unfold cmpOk at h
  simp only [Bool.and_eq_true] at h
  obtain ⟨⟨⟨h1, h2⟩, h3⟩, h4⟩ := h
  refine ⟨l1.dp h2, l2.dp h3, ?_, h4, ?_⟩
  · cases d1 <;> first | (intro e; cases e; done) | (cases h1; done)
  · have := (flat_can d1 60 h2).2
    omega
theorem isSome_at {o : Option Nat} {vs : List V} (h : ∀ i, o = some i → i < vs.length) : (o.bind fun i => vs[i]?).isSome = o.isSome := by
  cases o with
  | none => rfl
  | some i =>
    have := h i rfl
    simp [this]
theorem decStr (a b : Str) : decide ((V.str a : V) = .str b) = decide (a = b) := by
  by_cases h : a = b
  · simp [h]
  · have : ¬ (V.str a : V) = .str b := fun e => h (V.str.inj e)
    simp [h, this]
theorem opCm {n : Nat} (hr : Room n X.A) (o : Cm) : OpR X (compareOp (cmOp o)) (rCm X.K o) := by
  refine OpR.any fun x y H Q h => ?_
  obtain ⟨W, f1, f2, d1, d2, d, l1, l2, hd, q0⟩ := h
  have fl : KOK X.K H → Q (.bl d) H := fun _ => q0
  have hu := unitsOf hr
  unfold cmpop at hd
  split at hd
  · cases hd; cases l1.strOf; cases l2.strOf
    exact ⟨_, op_eq, rfl, by rw [decStr]; exact fl⟩
  · cases hd; cases l1.strOf; cases l2.strOf
    exact ⟨_, op_ne, rfl, by rw [decStr]; exact fl⟩
  · cases hd; cases l1.strOf; cases l2.strOf
    exact ⟨_, op_lt_str, _, _, rfl, rfl, fl⟩
  · cases hd; cases l1.strOf; cases l2.strOf
    exact ⟨_, op_le_str, _, _, rfl, rfl, fl⟩
  · cases hd; cases l1.strOf; cases l2.strOf
    exact ⟨_, op_gt_str, _, _, rfl, rfl, fl⟩
  · cases hd; cases l1.strOf; cases l2.strOf
    exact ⟨_, op_ge_str, _, _, rfl, rfl, fl⟩
  · split at hd
    · rename_i hz
      cases hd
      exact ⟨_, op_eqD hu, _, _, l1.dp hz.1, l2.dp hz.2, flat_shaped hz.1, flat_shaped hz.2, fl⟩
    · cases hd
  · split at hd
    · rename_i hz
      cases hd
      exact ⟨_, op_neD hu, _, _, l1.dp hz.1, l2.dp hz.2, flat_shaped hz.1, flat_shaped hz.2, fl⟩
    · cases hd
  · cases hd; cases l1.intOf; cases l2.intOf
    exact ⟨_, op_lt, _, _, rfl, rfl, fl⟩
  · cases hd; cases l1.intOf; cases l2.intOf
    exact ⟨_, op_le, _, _, rfl, rfl, fl⟩
  · cases hd; cases l1.intOf; cases l2.intOf
    exact ⟨_, op_gt, _, _, rfl, rfl, fl⟩
  · cases hd; cases l1.intOf; cases l2.intOf
    exact ⟨_, op_ge, _, _, rfl, rfl, fl⟩
  · cases hd
  · cases hd
  · cases hd; cases l1.nonOf; cases l2.nonOf
    exact ⟨_, op_isN, rfl, fl⟩
  · rename_i hg hn
    cases hd; cases l2.nonOf
    obtain ⟨f', r1⟩ := l1.ex
    refine ⟨_, op_isN, rfl, ?_⟩
    rw [r1.isNon (fun e => hg e) (fun e => hn e)]
    exact fl
  · cases hd; cases l1.nonOf; cases l2.nonOf
    exact ⟨_, op_notN, rfl, fl⟩
  · rename_i hg hn
    cases hd; cases l2.nonOf
    obtain ⟨f', r1⟩ := l1.ex
    refine ⟨_, op_notN, rfl, ?_⟩
    rw [r1.isNon (fun e => hg e) (fun e => hn e)]
    exact fl
  · cases hd; cases l1.strOf; cases l2.strOf
    exact ⟨_, op_in_str, _, _, rfl, rfl, fl⟩
  · cases hd; cases l1.strOf; cases l2.strOf
    exact ⟨_, op_notin_str, _, _, rfl, rfl, fl⟩
  · split at hd
    · rename_i hz
      cases hd
      obtain ⟨f', r1⟩ := l1.ex
      obtain ⟨a, ho, vs, f2', e2, q2, k2, r2⟩ := l2.dicOf
      obtain ⟨g, lt⟩ := k2.get q2 r1 hz
      refine ⟨_, op_inD (by omega), a, _, e2, g, ?_⟩
      rw [isSome_at lt]
      exact fl
    · cases hd
  · split at hd
    · rename_i hz
      cases hd
      obtain ⟨f', r1⟩ := l1.ex
      obtain ⟨a, ho, vs, f2', e2, q2, k2, r2⟩ := l2.dicOf
      obtain ⟨g, lt⟩ := k2.get q2 r1 hz
      refine ⟨_, op_ninD (by omega), a, _, e2, g, ?_⟩
      rw [isSome_at lt]
      exact fl
    · cases hd
  · split at hd
    · rename_i ys hy
      split at hd
      · rename_i hz
        cases hd
        obtain ⟨f', r1⟩ := l1.ex
        obtain ⟨p, us, f2', e2, q2, r2⟩ := l2.seqOf hy
        obtain ⟨h1, h2⟩ := VRs.any0 r1 hz.1 r2 hz.2
        exact ⟨_, op_in_seq, p, us, e2, q2, r1.flat0 hz.1, h1, by rw [if_neg Bool.false_ne_true, h2]; exact fl⟩
      · cases hd
    · cases hd
  · split at hd
    · rename_i ys hy
      split at hd
      · rename_i hz
        cases hd
        obtain ⟨f', r1⟩ := l1.ex
        obtain ⟨p, us, f2', e2, q2, r2⟩ := l2.seqOf hy
        obtain ⟨h1, h2⟩ := VRs.any0 r1 hz.1 r2 hz.2
        exact ⟨_, op_notIn_seq, p, us, e2, q2, r1.flat0 hz.1, h1, by rw [if_pos rfl, h2]; exact fl⟩
      · cases hd
    · cases hd
  · split at hd
    · rename_i hz
      cases hd
      obtain ⟨k1, k2, k3, k4, k5⟩ := cmpOk_of hz l1 l2
      exact ⟨_, op_ltOD hu, _, _, k1, k2, k3, k4, k5, fl⟩
    · obtain ⟨i, j, xs, ys, rfl, rfl, ne, g1, g2, rfl⟩ := fstLt_of hd
      exact ⟨_, op_ltFst hu, i, _, j, _, l1.dp g1, l2.dp g2, ne, fl⟩
  · split at hd
    · rename_i hz
      cases hd
      obtain ⟨k1, k2, k3, k4, k5⟩ := cmpOk_of hz l1 l2
      exact ⟨_, op_gtOD hu, _, _, k1, k2, k3, k4, k5, fl⟩
    · obtain ⟨i, j, xs, ys, rfl, rfl, ne, g1, g2, rfl⟩ := fstLt_of hd
      exact ⟨_, op_gtFst hu, _, _, _, _, l1.dp g2, l2.dp g1, ne.symm, fl⟩
  · split at hd
    · rename_i hz
      cases hd
      obtain ⟨k1, k2, k3, k4, k5⟩ := cmpOk_of hz l1 l2
      exact ⟨_, op_leOD hu, _, _, k1, k2, k3, k4, k5, fl⟩
    · cases hd
  · split at hd
    · rename_i hz
      cases hd
      obtain ⟨k1, k2, k3, k4, k5⟩ := cmpOk_of hz l1 l2
      exact ⟨_, op_geOD hu, _, _, k1, k2, k3, k4, k5, fl⟩
    · cases hd
  · cases hd
theorem opCmp {n : Nat} (hr : Room n X.A) (o : Cm) (σ : L2.St) : OpR X (compareOp (cmOp o)) (rTwo X E false σ fun p e => (lift (cmpop o p.1 p.2) e).bind fun r e => .ok (.bl r) e) := by
  refine OpR.any fun x y H Q h => ?_
  obtain ⟨⟨d1, d2, env, W, f1, f2, g, l1, l2, P, post⟩⟩ := h
  obtain ⟨d, hd, post⟩ := post_lift post
  exact ⟨_, opCm hr o, W, f1, f2, d1, d2, d, l1, l2, hd, fun _ => P.flat0 post (.bl d) fun a z => z⟩
theorem sCmp {n : Nat} (hr : Room n X.A) (o : Cm) (hm : behindInMarks (cmOp o) b = false) (sa : Snd X E a A ra) (sb : Snd X E b B rb) :
    PE X (.Compare a [cmOp o] [b] pos) (tE X.K E (A.calm && B.calm) (cCmp o A ra B rb)) :=
  sOp2 (fun h1 h2 h3 => pe_cmpR h1 h2 h3 hm) sa sb (opCmp hr o)
end
end Hc

set_option Elab.async false
set_option linter.all false
set_option maxRecDepth 100000
set_option maxHeartbeats 2000000
namespace Hc
open PySem PySem.Spec PyProof.Rows L2
theorem pt_any {X : Cx} {e : Expr} {t : TT} (h : ∀ σ H Q, t σ H Q → ∃ u : TT, PT X e u ∧ u σ H fun v H' => KOK X.K H' → Q v H') : PT X e t := ⟨fun pins s σ H Q I q => by
  obtain ⟨u, hu, r⟩ := h σ H Q q
  refine thn (hu.run pins s σ H _ I r) fun v s' ⟨H', I', k⟩ => ⟨H', I', k (kok I')⟩⟩
section
variable {X : Cx} {E : XW} {a b e : Expr} {A B C : CE} {ra rb rc r : Slots → R D} {va vb vc : Ev} {sh : Bool} {pos : Pos}
theorem VR.tru {K : PySem.W.Frag} {W : Wr} {H : Hp} {d : D} {v : V} {f : List Addr} {k : Bool} (h : VR K W H d v f) (e : truth d = some k) : TruV K v H k := by
  have em : ∀ {xs : List D} {vs : List V} {g : List Addr}, VRs K W H xs vs g → (!xs.isEmpty) = !vs.isEmpty := fun t => by cases t <;> rfl
  cases h with
  | non => cases e; rfl
  | bl b => cases e; rfl
  | int i => cases e; rfl
  | str s => cases e
  | gone v => cases e
  | tup q t => cases e; exact .inr (.inl ⟨_, .of q, em t⟩)
  | own q t => cases e; exact .inl ⟨_, .of q, em t⟩
  | frz q n t => cases e; exact .inl ⟨_, q.sq, em t⟩
  | dicO q k t => cases e
  | dicF q n k t => cases e
def Plain (X : Cx) (e : Expr) : Prop := ∀ whole, isTrue e X.env whole = (do let v ← whole; standAt e.pos; holding [v] (truthy v))
theorem plain_of : ∀ (e : Expr), (∀ op vs p, e ≠ .BoolOp op vs p) → (∀ x p, e ≠ .UnaryOp .Not x p) → (∀ l o c p, e ≠ .Compare l o c p) → (∀ l o c p, e ≠ .IfExp l o c p) → Plain X e := by
  intro e h1 h2 h3 h4 whole
  cases e with
  | BoolOp op vs p => exact absurd rfl (h1 op vs p)
  | UnaryOp op x p => cases op <;> first | rfl | exact absurd rfl (h2 x p)
  | Compare l o c p => exact absurd rfl (h3 l o c p)
  | IfExp l o c p => exact absurd rfl (h4 l o c p)
  | _ => rfl
theorem sTst (hp : Plain X e) (s : Snd X E e C r) : PT X e (tT X.K E C.calm fun env => (view C r env).bind fun d e => lift (truth d) e) := by
  refine pt_any fun σ H Q h => ?_
  obtain ⟨W, env, g, P, h⟩ := h
  dsimp only at h
  unfold view at h
  cases q : peek C env with
  | some d =>
    rw [q] at h
    obtain ⟨k, hk, post⟩ := post_lift0 (γ := Bool) h
    refine ⟨_, pt_truth s.pk hp, W, env, g, d, P, q, fun v f rv => ⟨k, rv.tru hk, fun _ => ?_⟩⟩
    exact P.done post ⟨rfl, rfl⟩ (by simp)
  | none =>
    rw [q] at h
    refine ⟨_, pt_truth s.pe hp, W, env, g, P, ?_⟩
    have h : Post X.K RB E (C.calm && true) W H ([] ++ g) σ ((r env).bind fun d e => lift (truth d) e) Q := by rw [Bool.and_true]; exact h
    refine Post.mono (P.run (Ra := VR X.K) h) ?_
    rintro v H' ⟨d, e', W', f', g', _, l, P', t, post⟩
    obtain ⟨k, hk, post⟩ := post_lift0 (γ := Bool) post
    refine ⟨k, l.tru hk, fun _ => ?_⟩
    exact (P'.base).done post ⟨rfl, rfl⟩ (fun a z => by simp at z ⊢; exact .inr z)
theorem peekNone {K : PySem.W.Frag} (h : ∀ env, peek C env = none) {σ : L2.St} {H : Hp} {Q : VK} : ¬ tP K C σ H Q := by
  rintro ⟨W, env, g, d, P, e, _⟩
  rw [h] at e; cases e
theorem pk_no (h : ∀ env, peek C env = none) : PE X e (tP X.K C) := ⟨fun _ _ _ _ _ _ q => (peekNone h q).elim⟩
theorem pw_no (h : ∀ env, pathOf C env = none) : PE X e (tW X.K C) := ⟨fun pins s σ H Q I q => by
  obtain ⟨W, env, g, i, ks, x, d, P, e, _⟩ := q
  rw [h] at e; cases e⟩
theorem Snd.mk1 (pe : PE X e (tE X.K E C.calm r)) (h : ∀ env, peek C env = none) (h2 : ∀ env, pathOf C env = none) (hn : ∀ i, C ≠ .nm i) : Snd X E e C r := ⟨pe, pk_no h, pw_no h2, fun i z => absurd z (hn i)⟩
theorem okNm {i : Nat} {x : Str} (hN : X.N[i]? = some x) (hv : Vis X.env.scope x) (h1 : (x == ("__debug__" : Str)) = false) (h2 : (x == ("__classdict__" : Str)) = false) : Snd X E (.Name x pos) (.nm i) (cNm i) := by
  have hp : PE X (.Name x pos) (tVar i) := pe_var hN hv h1 h2
  refine ⟨?_, ?_, ?_, fun j e => by cases e; exact hp⟩
  · refine pe_imp hp ?_
    rintro σ H Q ⟨W, env, g, P, h⟩
    unfold cNm at h
    cases q : env.at i with
    | none => rw [q] at h; exact h.elim
    | some d =>
      rw [q] at h
      obtain ⟨v, f, g', h1, h2, h3, h4⟩ := P.er.take q
      refine ⟨v, h1, ?_⟩
      have nd : (f ++ g').Nodup := (h4.nodup_iff).mpr P.base.nd
      let W' : Wr := fun a => W a ∧ a ∉ f
      have lt := at_lt q
      have hz : VR X.K W' H d.fz v [] := VR.fzd P.wok (fun a w => w.1) h2 fun a ha w => w.2 ha
      obtain ⟨g2, e2, p2⟩ := (ER.less (W' := W') P.wok (fun a w => w.1) h3).put (i := i) (by rw [at_set lt]) (by simpa using lt) h1 hz
      rw [List.set_set] at e2
      have p3 : g2.Perm g' := by simpa using p2
      have sub : ∀ a ∈ g2, a ∈ g := fun a ha => (h4.mem_iff).mp (List.mem_append_right _ ((p3.mem_iff).mp ha))
      have inw : ∀ a ∈ g2, W' a := fun a ha => ⟨P.gw a (sub a ha), fun hf => (List.nodup_append.mp nd).2.2 a hf a ((p3.mem_iff).mp ha) rfl⟩
      have t : Tr X.K true W H g W' H ([] ++ g2) := Tr.let P.wok (fun a w => w.1) (fun a w n => ⟨w, fun hf => n ((h4.mem_iff).mp (List.mem_append_left _ hf))⟩) (by simpa using sub) (by simpa using inw) (by simpa using (p3.nodup_iff).mpr (List.nodup_append.mp nd).2.1)
      exact h W' H v [] g2 t hz e2
  · refine pe_imp hp ?_
    rintro σ H Q ⟨W, env, g, d, P, e, k⟩
    obtain ⟨v, f, h1, h2⟩ := tVar_of P e
    exact ⟨v, h1, k v f h2⟩
  · refine pe_imp hp ?_
    rintro σ H Q ⟨W, env, g, i', ks, x, d, P, e, ex, ed, k⟩
    cases e
    cases ed
    obtain ⟨v, f, h1, h2⟩ := tVar_of P ex
    exact ⟨v, h1, k v v f h1 (.nil v) h2⟩
theorem okLit {d : D} {v : V} {ex : Expr} (pe : PE X ex (tC v)) (hv : ∀ W H, VR X.K W H d v []) : Snd X E ex (.lit d) (fun env => .ok d env) := by
  refine ⟨?_, ?_, pw_no fun _ => rfl, fun j e => by cases e⟩
  · refine pe_imp pe ?_
    rintro σ H Q ⟨W, env, g, P, h⟩
    exact P.flat0 h (hv W H) fun a z => by simpa using z
  · refine pe_imp pe ?_
    rintro σ H Q ⟨W, env, g, d', P, e, k⟩
    cases e
    exact k v [] (hv W H)
theorem okGc {x : Str} {d : D} {v : V} {ex : Expr} (pe : PE X ex (tC v)) (hv : ∀ W H, VR X.K W H d v []) : Snd X E ex (.gc x d) (fun env => .ok d env) := by
  refine ⟨?_, ?_, pw_no fun _ => rfl, fun j e => by cases e⟩
  · refine pe_imp pe ?_
    rintro σ H Q ⟨W, env, g, P, h⟩
    exact P.flat0 h (hv W H) fun a z => by simpa using z
  · refine pe_imp pe ?_
    rintro σ H Q ⟨W, env, g, d', P, e, k⟩
    cases e
    exact k v [] (hv W H)
theorem ptAnd {ta tb : Slots → R Bool} {A B : CE} (ha : PT X a (tT X.K E A.calm ta)) {rest : List Expr} (hb : PW X (.BoolOp .And (b :: rest) pos) (tT X.K E B.calm tb)) :
    PW X (.BoolOp .And (a :: b :: rest) pos) (tT X.K E (A.calm && B.calm) (cAndT ta tb)) := by
  have w := pw_and ha hb
  refine ⟨fun wh pins s σ H Q I q => w.run wh pins s σ H Q I ?_⟩
  obtain ⟨W, env, g, P, h⟩ := q
  refine ⟨W, env, g, P, ?_⟩
  have h : Post X.K RB E (A.calm && B.calm) W H ([] ++ g) σ ((ta env).bind fun c e => if c = true then tb e else .ok false e) Q := h
  refine Post.mono (P.run (Ra := RB) h) ?_
  rintro v H' ⟨c, e', W', f', g', _, ⟨rfl, rfl⟩, P', t, post⟩
  simp only [List.nil_append, List.append_nil] at P' post
  cases c with
  | true => exact ⟨W', e', g', P', post⟩
  | false =>
    have post : Post X.K RB E B.calm W' H' g' σ (.ok false e') Q := post
    exact P'.done (f := []) post ⟨rfl, rfl⟩ (by simp)
theorem ptOr {ta tb : Slots → R Bool} {A B : CE} (ha : PT X a (tT X.K E A.calm ta)) {rest : List Expr} (hb : PW X (.BoolOp .Or (b :: rest) pos) (tT X.K E B.calm tb)) :
    PW X (.BoolOp .Or (a :: b :: rest) pos) (tT X.K E (A.calm && B.calm) (cOrT ta tb)) := by
  have w := pw_or ha hb
  refine ⟨fun wh pins s σ H Q I q => w.run wh pins s σ H Q I ?_⟩
  obtain ⟨W, env, g, P, h⟩ := q
  refine ⟨W, env, g, P, ?_⟩
  have h : Post X.K RB E (A.calm && B.calm) W H ([] ++ g) σ ((ta env).bind fun c e => if c = true then .ok true e else tb e) Q := h
  refine Post.mono (P.run (Ra := RB) h) ?_
  rintro v H' ⟨c, e', W', f', g', _, ⟨rfl, rfl⟩, P', t, post⟩
  simp only [List.nil_append, List.append_nil] at P' post
  cases c with
  | false => exact ⟨W', e', g', P', post⟩
  | true =>
    have post : Post X.K RB E B.calm W' H' g' σ (.ok true e') Q := post
    exact P'.done (f := []) post ⟨rfl, rfl⟩ (by simp)
theorem ptNot {ta : Slots → R Bool} {c : Bool} (ha : PT X a (tT X.K E c ta)) : PT X (.UnaryOp .Not a pos) (tT X.K E c (cNotT ta)) := by
  refine pt_imp (pt_not ha) ?_
  rintro σ H Q ⟨W, env, g, P, h⟩
  refine ⟨W, env, g, P, ?_⟩
  have h : Post X.K RB E (c && true) W H ([] ++ g) σ ((ta env).bind fun c e => .ok (!c) e) Q := by rw [Bool.and_true]; exact h
  refine Post.mono (P.run (Ra := RB) h) ?_
  rintro v H' ⟨k, e', W', f', g', _, ⟨rfl, rfl⟩, P', t, post⟩
  simp only [List.nil_append, List.append_nil] at P' post
  exact P'.done (f := []) post ⟨rfl, rfl⟩ (by simp)
theorem peAnd {rest : List Expr} {c1 c2 : Bool} (ha : PE X a (tE X.K E c1 ra)) (hb : PE X (.BoolOp .And (b :: rest) pos) (tE X.K E c2 rb)) : PE X (.BoolOp .And (a :: b :: rest) pos) (tE X.K E (c1 && c2) (cAnd ra rb)) := by
  refine pe_imp (pe_and ha hb) ?_
  rintro σ H Q ⟨W, env, g, P, h⟩
  refine ⟨W, env, g, P, ?_⟩
  have h : Post X.K (VR X.K) E (c1 && c2) W H ([] ++ g) σ ((ra env).bind fun x e => match x with
    | .bl true => rb e
    | .bl false => .ok (.bl false) e
    | _ => .no) Q := h
  refine Post.mono (P.run (Ra := VR X.K) h) ?_
  rintro v H' ⟨d, e', W', f', g', _, l, P', t, post⟩
  simp only [List.nil_append] at P' post
  split at post
  · cases l
    exact ⟨true, rfl, by rw [if_pos rfl]; exact ⟨W', e', g', P'.base, post⟩⟩
  · cases l
    exact ⟨false, rfl, by rw [if_neg Bool.false_ne_true]; exact P'.flat0 (c := c2) post (.bl false) fun a z => z⟩
  · exact post.elim
theorem peOr {rest : List Expr} {c1 c2 : Bool} (ha : PE X a (tE X.K E c1 ra)) (hb : PE X (.BoolOp .Or (b :: rest) pos) (tE X.K E c2 rb)) : PE X (.BoolOp .Or (a :: b :: rest) pos) (tE X.K E (c1 && c2) (cOr ra rb)) := by
  refine pe_imp (pe_or ha hb) ?_
  rintro σ H Q ⟨W, env, g, P, h⟩
  refine ⟨W, env, g, P, ?_⟩
  have h : Post X.K (VR X.K) E (c1 && c2) W H ([] ++ g) σ ((ra env).bind fun x e => match x with
    | .bl true => .ok (.bl true) e
    | .bl false => rb e
    | _ => .no) Q := h
  refine Post.mono (P.run (Ra := VR X.K) h) ?_
  rintro v H' ⟨d, e', W', f', g', _, l, P', t, post⟩
  simp only [List.nil_append] at P' post
  split at post
  · cases l
    exact ⟨true, rfl, by rw [if_pos rfl]; exact P'.flat0 (c := c2) post (.bl true) fun a z => z⟩
  · cases l
    exact ⟨false, rfl, by rw [if_neg Bool.false_ne_true]; exact ⟨W', e', g', P'.base, post⟩⟩
  · exact post.elim
theorem peNot {c : Bool} (ha : PE X a (tE X.K E c ra)) : PE X (.UnaryOp .Not a pos) (tE X.K E c (cNot ra)) := by
  refine pe_imp (pe_not ha) ?_
  rintro σ H Q ⟨W, env, g, P, h⟩
  refine ⟨W, env, g, P, ?_⟩
  have h : Post X.K (VR X.K) E (c && true) W H ([] ++ g) σ ((ra env).bind fun x e => match x with
    | .bl b => .ok (.bl (!b)) e
    | _ => .no) Q := by rw [Bool.and_true]; exact h
  refine Post.mono (P.run (Ra := VR X.K) h) ?_
  rintro v H' ⟨d, e', W', f', g', _, l, P', t, post⟩
  simp only [List.nil_append] at P' post
  split at post
  · cases l
    exact ⟨_, rfl, P'.flat0 post (.bl _) fun a z => z⟩
  · exact post.elim
theorem tVal {c : Bool} (hb : ∀ env d e, r env = .ok d e → ∃ k, d = .bl k) {σ : L2.St} {H : Hp} {Q : Bool → Hp → Prop} (h : tT X.K E c (fun env => (r env).bind fun d e => lift (truth d) e) σ H Q) :
    tE X.K E c r σ H fun v H' => ∃ k, v = .bl k ∧ Q k H' := by
  obtain ⟨W, env, g, P, h⟩ := h
  refine ⟨W, env, g, P, ?_⟩
  dsimp only at h
  cases q : r env with
  | no => rw [q] at h; exact h
  | ex x e => rw [q] at h; exact h
  | ok d e =>
    rw [q] at h
    obtain ⟨k, rfl⟩ := hb env d e q
    intro W' H' b f g' t ra er
    cases ra
    exact ⟨k, rfl, h W' H' k [] g' t ⟨rfl, rfl⟩ er⟩
theorem bind_ok {α β : Type} {r : R α} {k : α → Slots → R β} {b : β} {e : Slots} (h : r.bind k = .ok b e) : ∃ a e1, r = .ok a e1 ∧ k a e1 = .ok b e := by
  cases r with
  | no => cases h
  | ex x e => cases h
  | ok a e1 => exact ⟨a, e1, rfl, h⟩
theorem cCmp_bl {o : Cm} {env e : Slots} {d : D} (h : cCmp o A ra B rb env = .ok d e) : ∃ k, d = .bl k := by
  obtain ⟨p, e1, _, h⟩ := bind_ok h
  obtain ⟨k, e2, _, h⟩ := bind_ok h
  cases h
  exact ⟨k, rfl⟩
theorem sCmpT {n : Nat} (hr : Room n X.A) (o : Cm) (hm : behindInMarks (cmOp o) b = false) (sa : Snd X E a A ra) (sb : Snd X E b B rb) :
    PT X (.Compare a [cmOp o] [b] pos) (tT X.K E (A.calm && B.calm) fun env => (cCmp o A ra B rb env).bind fun d e => lift (truth d) e) := by
  obtain ⟨ta, tb, ha, hb, z⟩ := sTwo (sh := false) (Rc := VR X.K) (k := fun p e => (lift (cmpop o p.1 p.2) e).bind fun r e => .ok (.bl r) e) true sa sb
  exact ⟨fun pins s σ H Q I q => (pt_cmpR (opCmp hr o σ) ha hb hm).run pins s σ H Q I (z σ H _ (by rw [Bool.and_true]; exact tVal (fun _ _ _ => cCmp_bl) q) _ fun _ _ _ T => ⟨T⟩)⟩
theorem peIf {t : Expr} {tc : Slots → R Bool} {c1 c2 c3 : Bool} (hc : PT X t (tT X.K E c1 tc)) (ha : PE X a (tE X.K E c2 ra)) (hb : PE X b (tE X.K E c3 rb)) : PE X (.IfExp t a b pos) (tE X.K E (c1 && c2 && c3) (cIf tc ra rb)) := by
  refine pe_imp (pe_ifExp hc ha hb) ?_
  rintro σ H Q ⟨W, env, g, P, h⟩
  refine ⟨W, env, g, P, ?_⟩
  have h : Post X.K (VR X.K) E (c1 && (c2 && c3)) W H ([] ++ g) σ ((tc env).bind fun c e => if c = true then ra e else rb e) Q := by rw [← Bool.and_assoc]; exact h
  refine Post.mono (P.run (Ra := RB) h) ?_
  rintro v H' ⟨k, e', W', f', g', _, ⟨rfl, rfl⟩, P', tt, post⟩
  simp only [List.nil_append, List.append_nil] at P' post
  have less : ∀ {c c' : Bool} {r : R D}, (c = true → c' = true) → Post X.K (VR X.K) E c W' H' g' σ r Q → Post X.K (VR X.K) E c' W' H' g' σ r Q := by
    intro c c' r hc h
    have tl : ∀ {W2 H2 f2}, Tr X.K c' W' H' g' W2 H2 f2 → Tr X.K c W' H' g' W2 H2 f2 := fun t => ⟨fun a o e z => t.keep a o e (z.imp id hc), t.new, t.stay, t.src, t.inW, t.nd, t.wok0, t.wok, t.old⟩
    cases r with
    | no => exact h
    | ex x e => exact fun W2 H2 g2 t er => h W2 H2 g2 (tl t) er
    | ok d e => exact fun W2 H2 b f g2 t ra er => h W2 H2 b f g2 (tl t) ra er
  cases k with
  | true => exact ⟨W', e', g', P', less (fun z => (Bool.and_eq_true_iff.mp z).1) post⟩
  | false => exact ⟨W', e', g', P', less (fun z => (Bool.and_eq_true_iff.mp z).2) post⟩
theorem peNeg {c : Bool} (ha : PE X a (tE X.K E c ra)) : PE X (.UnaryOp .USub a pos) (tE X.K E c (cNeg ra)) := by
  refine pe_imp (pe_un un_neg ha) ?_
  rintro σ H Q ⟨W, env, g, P, h⟩
  refine ⟨W, env, g, P, ?_⟩
  have h : Post X.K (VR X.K) E (c && true) W H ([] ++ g) σ ((ra env).bind fun x e => match x with
    | .int i => .ok (.int (-i)) e
    | _ => .no) Q := by rw [Bool.and_true]; exact h
  refine Post.mono (P.run (Ra := VR X.K) h) ?_
  rintro v H' ⟨d, e', W', f', g', _, l, P', t, post⟩
  simp only [List.nil_append] at P' post
  split at post
  · cases l
    exact ⟨_, rfl, P'.flat0 post (.int _) fun a z => z⟩
  · exact post.elim
end
end Hc

set_option Elab.async false
set_option linter.all false
set_option maxRecDepth 100000
set_option maxHeartbeats 2000000
namespace Hc
open PySem PySem.Spec PyProof.Rows L2
section
variable {X : Cx} {E : XW} {a b c e : Expr} {A B C : CE} {ra rb rc r : Slots → R D} {sh : Bool} {pos : Pos}
theorem VR.scal {K : PySem.W.Frag} {W W' : Wr} {H H' : Hp} {d : D} {v : V} {f : List Addr} (h : VR K W H d v f) (z : flat 0 d = true) : VR K W' H' d v [] := by
  cases h <;> first
    | (simp [flat] at z; done)
    | exact .non
    | exact .bl _
    | exact .int _
    | exact .str _
def chK (o p : Cm) (C : CE) (rc : Slots → R D) : D × D → Slots → R D := fun q e => if flat 0 q.2 = true then (lift (cmpop o q.1 q.2) e).bind fun r e =>
    if r = true then (opd false C rc e).bind fun z e => (lift (cmpop p q.2 z) e).bind fun r e => .ok (.bl r) e else .ok (.bl false) e
  else .no
theorem chain_end {o p : Cm} {σ : L2.St} {x y : V} {H : Hp} {Q : V → Hp → Prop} (T : Two X.K E (VR X.K) C.calm false σ (chK o p C rc) Q x y H) : rCm X.K o x y H fun z H3 => ∃ k, z = .bl k ∧
    (if k = true then tG X.K (Lk X.K false) E C.calm (opd false C rc) σ H3 (fun w' H4 => rCm X.K p y w' H4 Q) else Q (.bl false) H3) := by
  obtain ⟨d1, d2, env, W, f1, f2, g, l1, l2, P, post⟩ := T
  unfold chK at post
  dsimp only at post
  split at post
  · rename_i hf
    obtain ⟨k, hk, post⟩ := post_lift post
    refine ⟨W, f1, f2, d1, d2, k, l1, l2, hk, k, rfl, ?_⟩
    cases k with
    | false => rw [if_neg Bool.false_ne_true]; rw [if_neg Bool.false_ne_true] at post; exact P.flat0 post (.bl false) fun a z => z
    | true =>
      rw [if_pos rfl]
      rw [if_pos rfl] at post
      refine ⟨W, env, g, P.base, ?_⟩
      have post : Post X.K (VR X.K) E (C.calm && true) W H ((f1 ++ f2) ++ g) σ ((opd false C rc env).bind fun z e => (lift (cmpop p d2 z) e).bind fun r e => .ok (.bl r) e) Q := by rw [Bool.and_true]; exact post
      refine Post.mono (P.run (Ra := Lk X.K false) post) ?_
      rintro w' H4 ⟨z, e4, W4, f4, g4, _, l4, P4, t4, post4⟩
      obtain ⟨k2, hk2, post4⟩ := post_lift post4
      obtain ⟨f', r2⟩ := l2.ex
      exact ⟨W4, [], f4, d2, z, k2, .inl (r2.scal hf), l4, hk2, P4.flat0 post4 (.bl k2) fun a z => z⟩
  · exact post.elim
theorem sChain {n : Nat} (hr : Room n X.A) (o p : Cm) (hm : lastMarks [cmOp o, cmOp p] [b, c] = false) (sa : Snd X E a A ra) (sb : Snd X E b B rb) (sc : Snd X E c C rc) :
    PE X (.Compare a [cmOp o, cmOp p] [b, c] pos) (tE X.K E (A.calm && B.calm && C.calm) (cChain o p A ra B rb C rc)) := by
  obtain ⟨ta, tb, ha, hb, z⟩ := sTwo (sh := false) (Rc := VR X.K) (k := chK o p C rc) C.calm sa sb
  exact ⟨fun pins s σ H Q I q => (pe_chain (opCm hr o) (opCm hr p) ha hb (sOpd false sc) hm).run pins s σ H Q I (z σ H Q q _ fun _ _ _ T => chain_end T)⟩
theorem cChain_bl {o p : Cm} {env e : Slots} {d : D} (h : cChain o p A ra B rb C rc env = .ok d e) : ∃ k, d = .bl k := by
  obtain ⟨q, e1, _, h⟩ := bind_ok h
  split at h
  · obtain ⟨k, e2, _, h⟩ := bind_ok h
    split at h
    · obtain ⟨z, e3, _, h⟩ := bind_ok h
      obtain ⟨k, e4, _, h⟩ := bind_ok h
      cases h
      exact ⟨k, rfl⟩
    · cases h
      exact ⟨_, rfl⟩
  · cases h
theorem tTest_mono {t : TE} : True := trivial
theorem sChainT {n : Nat} (hr : Room n X.A) (o p : Cm) (hm : lastMarks [cmOp o, cmOp p] [b, c] = false) (sa : Snd X E a A ra) (sb : Snd X E b B rb) (sc : Snd X E c C rc) :
    PT X (.Compare a [cmOp o, cmOp p] [b, c] pos) (tT X.K E (A.calm && B.calm && C.calm) fun env => (cChain o p A ra B rb C rc env).bind fun d e => lift (truth d) e) := by
  obtain ⟨ta, tb, ha, hb, z⟩ := sTwo (sh := false) (Rc := VR X.K) (k := chK o p C rc) C.calm sa sb
  exact ⟨fun pins s σ H Q I q => (pt_chain (opCm hr o) (opCm hr p) ha hb (sOpd false sc) hm).run pins s σ H Q I (z σ H _ (tVal (fun _ _ _ => cChain_bl) q) _ fun _ _ _ T => chain_end T)⟩
theorem Post.weak {γ δ : Type} {K : PySem.W.Frag} {Ra : Rl γ δ} {c c' : Bool} {W : Wr} {H : Hp} {fp fp' : List Addr} {σ : L2.St} {r : R γ} {Q : δ → Hp → Prop} (h : Post K Ra E c W H fp σ r Q) (hc : c = true → c' = true) (hs : ∀ a ∈ fp', a ∈ fp) : Post K Ra E c' W H fp' σ r Q := by
  have tl : ∀ {W2 H2 f2}, Tr K c' W H fp' W2 H2 f2 → Tr K c W H fp W2 H2 f2 := fun t =>
    ⟨fun a o e z => t.keep a o e (z.imp (fun n m => n (hs a m)) hc), t.new, fun a w n => t.stay a w fun m => n (hs a m), fun a m => (t.src a m).imp (hs a) id, t.inW, t.nd, t.wok0, t.wok, t.old⟩
  cases r with
  | no => exact h
  | ex x e => exact fun W2 H2 g2 t er => h W2 H2 g2 (tl t) er
  | ok d e => exact fun W2 H2 b f g2 t ra er => h W2 H2 b f g2 (tl t) ra er
end
inductive Snds (X : Cx) (E : XW) : List Expr → List CE → List (Slots → R D) → Prop
  | nil : Snds X E [] [] []
  | cons {e : Expr} {c : CE} {r : Slots → R D} {es : List Expr} {cs : List CE} {rs : List (Slots → R D)} : Snd X E e c r → (∀ x p, e ≠ .Starred x p) → Snds X E es cs rs → Snds X E (e :: es) (c :: cs) (r :: rs)
theorem noStar {X : Cx} {e : Expr} (es : List Expr) (h : ∀ x p, e ≠ .Starred x p) : starEach (e :: es) X.env = (false, eval e X.env) :: starEach es X.env := by
  cases e <;> first | rfl | exact absurd rfl (h _ _)
section
variable {X : Cx} {E : XW} {pos : Pos}
theorem paSeq : ∀ {es : List Expr} {cs : List CE} {rs : List (Slots → R D)}, Snds X E es cs rs → PA X es (tA X.K E (calms cs) (seqE rs))
  | _, _, _, .nil => pa_imp pa_nil (by
    rintro σ H Q ⟨W, env, g, P, h⟩
    exact (P.done (f := []) (Ra := VRs X.K) h .nil (by simp)))
  | _, _, _, .cons (c := c) (r := r) (cs := cs) (rs := rs) s hs t => by
    refine pa_imp (pa_cons s.pe (paSeq t) (noStar _ hs)) ?_
    rintro σ H Q ⟨W, env, g, P, h⟩
    refine ⟨W, env, g, P, ?_⟩
    have h : Post X.K (VRs X.K) E (c.calm && calms cs) W H ([] ++ g) σ ((r env).bind fun d e => (seqE rs e).bind fun ds e => .ok (d :: ds) e) Q := h
    refine Post.mono (P.run (Ra := VR X.K) h) ?_
    rintro v H' ⟨d, e', W', f', g', _, l, P', tt, post⟩
    simp only [List.nil_append] at P' post
    refine ⟨W', e', g', P'.base, ?_⟩
    have post : Post X.K (VRs X.K) E (calms cs && true) W' H' (f' ++ g') σ ((seqE rs e').bind fun ds e => .ok (d :: ds) e) Q := by rw [Bool.and_true]; exact post
    refine Post.mono (P'.run (Ra := VRs X.K) post) ?_
    rintro vs H2 ⟨ds, e2, W2, f2, g2, _, l2, P2, t2, post2⟩
    exact P2.done (Ra := VRs X.K) post2 (.cons (l.aside t2 P'.gw P'.dis) l2) fun a z => z
theorem peTup {es : List Expr} {cs : List CE} {rs : List (Slots → R D)} {k : Nat} (s : Snds X E es cs rs) : PE X (.Tuple es k pos) (tE X.K E (calms cs) (cTup rs)) := by
  refine pe_any fun σ H Q h => ⟨_, pe_tup (paSeq s), ?_⟩
  obtain ⟨W, env, g, P, h⟩ := h
  refine ⟨W, env, g, P, ?_⟩
  have h : Post X.K (VR X.K) E (calms cs && true) W H ([] ++ g) σ ((seqE rs env).bind fun ds e => if ds.length ≤ sz then .ok (.tup ds) e else .no) Q := by rw [Bool.and_true]; exact h
  refine Post.mono (P.run (Ra := VRs X.K) h) ?_
  rintro vs H' ⟨ds, e', W', f', g', _, l, P', tt, post⟩
  simp only [List.nil_append] at P' post
  split at post
  · rename_i hz
    exact ⟨by rw [← l.length, szEq]; exact hz, fun p hp _ => P'.newT post l (fun a z => z) (List.nodup_append.mp P'.nd).1 hp fun a z => z⟩
  · exact post.elim
theorem peLst {es : List Expr} {cs : List CE} {rs : List (Slots → R D)} (s : Snds X E es cs rs) : PE X (.List es pos) (tE X.K E (calms cs) (cLst rs)) := by
  refine pe_any fun σ H Q h => ⟨_, pe_lst (paSeq s), ?_⟩
  obtain ⟨W, env, g, P, h⟩ := h
  refine ⟨W, env, g, P, ?_⟩
  have h : Post X.K (VR X.K) E (calms cs && true) W H ([] ++ g) σ ((seqE rs env).bind fun ds e => if ds.length ≤ sz then .ok (.lst true ds) e else .no) Q := by rw [Bool.and_true]; exact h
  refine Post.mono (P.run (Ra := VRs X.K) h) ?_
  rintro vs H' ⟨ds, e', W', f', g', _, l, P', tt, post⟩
  simp only [List.nil_append] at P' post
  split at post
  · rename_i hz
    exact ⟨by rw [← l.length, szEq]; exact hz, fun p hp kk => P'.newL post l (fun a z => z) (List.nodup_append.mp P'.nd).1 hp kk.new fun a z => z⟩
  · exact post.elim
end
end Hc

set_option Elab.async false
set_option linter.all false
set_option maxRecDepth 100000
set_option maxHeartbeats 2000000
namespace PySem.W
open PySem PySem.Calls PyProof.Rows PySem.SeqAt
def PairP (d : PyData) : Prop := ∃ i x, d = .tuple [.int i, x] ∧ ((∃ n, x = .int n) ∨ ∃ s, x = .str s)
def PairPs (ds : List PyData) : Prop := (∀ d ∈ ds, PairP d) ∧ ∀ i x j y, PyData.tuple [.int i, x] ∈ ds → PyData.tuple [.int j, y] ∈ ds → i = j → alike x y = true
theorem pair_unique {h : Heap} {d d' : PyData} {v : Value} {as as' : List Addr} (hd : PairP d) (hd' : PairP d') (r : Reads h v d as) (r' : Reads h v d' as') : d = d' := by
  obtain ⟨i, x, rfl, hx⟩ := hd
  obtain ⟨j, y, rfl, hy⟩ := hd'
  cases r with
  | tuple h1 h2 h3 h4 =>
    cases r' with
    | tuple k1 k2 k3 k4 =>
      rw [h1] at k1
      cases k1
      rw [h3] at k3
      cases k3
      generalize hq : Array.toList _ = l at h4 k4
      cases h4 with
      | cons a1 a2 =>
        cases a2 with
        | cons b1 b2 =>
          cases k4 with
          | cons c1 c2 =>
            cases c2 with
            | cons e1 e2 =>
              cases a1
              cases c1
              rcases hx with ⟨n, rfl⟩ | ⟨s, rfl⟩
              · cases b1
                rcases hy with ⟨m, rfl⟩ | ⟨u, rfl⟩
                · cases e1; rfl
                · cases e1
              · cases b1
                rcases hy with ⟨m, rfl⟩ | ⟨u, rfl⟩
                · cases e1
                · cases e1; rfl
theorem pairKind_some {h : Heap} {ds : List PyData} (hal : ∀ d ∈ ds, PairP d) {v : Value} {d : PyData} {as : List Addr} (hd : d ∈ ds) (r : Reads h v d as) : (dataKind h ds).keyOf v = some (keyToks d) := by
  have q : ∃ d, d ∈ ds ∧ ∃ as, Reads h v d as := ⟨d, hd, as, r⟩
  have e : (dataKind h ds).keyOf v = some (keyToks q.choose) := by
    show (open Classical in if q : ∃ d, d ∈ ds ∧ ∃ as, Reads h v d as then some (keyToks q.choose) else none) = _
    rw [dif_pos q]
  obtain ⟨h1, as', h2⟩ := q.choose_spec
  rw [e, pair_unique (hal _ h1) (hal _ hd) h2 r]
section
variable {prog : Program} {w : World} {A : Around} {s : Shared}
theorem SortsAt.pairs {vs : List Value} {ds : List PyData} (e : EachIs (fun v d => ∃ as, Reads s.heap v d as) vs ds) (hp : PairPs ds) (hu : ∀ d, d ∈ ds → A.units + d.depth < cLine) : SortsAt prog w A s (dataKind s.heap ds) vs := by
  have room : ∀ {d d' : PyData}, d ∈ ds → A.units + min d.depth d'.depth < cLine := fun {d d'} hd => Nat.lt_of_le_of_lt (Nat.add_le_add_left (Nat.min_le_left _ _) _) (hu d hd)
  refine ⟨fun v hv => ?_, ?_⟩
  · obtain ⟨d, hd, as, r⟩ := e.left v hv
    exact ⟨_, pairKind_some hp.1 hd r⟩
  · cases ds with
    | nil =>
      cases e
      exact ⟨general', fun E x y a b Q ha _ _ => (by
        obtain ⟨d, _, hd, _⟩ := dataKind_inv ha
        exact absurd hd (by simp)), fun h2 => absurd h2 (by simp)⟩
    | cons d₀ ds₀ =>
      refine ⟨tuples' (Value.type "int" != Value.type "tuple"), ?_, fun h2 E Q hq => ?_⟩
      · intro E x y a b Q ha hb hq
        obtain ⟨d, as, hd, ra, rfl⟩ := dataKind_inv ha
        obtain ⟨d', as', hd', rb, rfl⟩ := dataKind_inv hb
        have hroom := room (d' := d') hd
        obtain ⟨i, x1, rfl, hx1⟩ := hp.1 d hd
        obtain ⟨j, y1, rfl, hy1⟩ := hp.1 d' hd'
        have hq' : Q (dataLt (.tuple [.int i, x1]) (.tuple [.int j, y1])) s := hq
        rw [dataLt_tuple] at hq'
        cases ra with
        | @tuple l o xs n _ _ h1 h2 h3 h4 =>
          cases rb with
          | @tuple l' o' xs' n' _ _ k1 k2 k3 k4 =>
            have n1 : xs.size = 2 := by simpa using SeqAt.ReadsAll.length _ _ _ h4
            have n2 : xs'.size = 2 := by simpa using SeqAt.ReadsAll.length _ _ _ k4
            have hu' := SeqAt.room_in hroom
            refine kat_lt h1 h3 k1 k3 ?_
            rw [n1, n2]
            by_cases hij : i = j
            · have al : alikeAll [.int i, x1] [.int j, y1] = true := by
                have := hp.2 i x1 j y1 hd hd' hij
                simp [alikeAll, alike, this]
              exact katLex_alike _ _ 0 _ _ _ _ h4 k4 al (by have q := hu'; omega) (fun _ _ x r t ex => by
                obtain ⟨rfl, rfl⟩ := List.cons.inj ex
                exact fun z => by cases z) rfl hq'
            · have ht : ∀ {vs ws : List Value} {as bs : List Addr}, ReadsAll s.heap vs [PyData.int i, x1] as → ReadsAll s.heap ws [PyData.int j, y1] bs → KatLex prog w A (Value.type "int" != Value.type "tuple") (decide (2 < 2)) Q (vs.zip ws) 0 s := by
                intro vs ws as bs ra rb
                cases ra with
                | cons r rs =>
                  cases rb with
                  | cons r' rs' =>
                    have hal : alike (.int i) (.int j) = true := by simp [alike]
                    have hx : PyData.eqv (.int i) (.int j) = false := by simp [PyData.eqv, hij]
                    have hd1 : min (PyData.int i).depth (PyData.int j).depth = 0 := by simp [PyData.depth]
                    have hr0 : A.units + min (PyData.int i).depth (PyData.int j).depth < cLine := by rw [hd1]; omega
                    rw [List.zip_cons_cons]
                    refine kat_cons (eqAt_alike _ _ A s _ _ _ _ r r' hal hr0 prog w _ _ ?_)
                    rw [hx]
                    rw [dataLt_all_no hal hx] at hq'
                    refine kat_no (oneLt_alike (fun hbi t => ?_) r r' hal (ne_none_of hal hx) hr0 hq')
                    exact fun z => by cases z
              exact ht h4 k4
      · have ht : ∀ d, d ∈ d₀ :: ds₀ → ∃ x r, d = .tuple (x :: r) := fun d hd => by
          obtain ⟨i, x, rfl, _⟩ := hp.1 d hd
          exact ⟨_, _, rfl⟩
        obtain ⟨fs, t1, t2, t3⟩ := each_katTups e ht
        refine kat_kind (T := Value.type "int") t1 (by omega) (fun f hf => ?_) (beq_self_eq_true _) hq
        obtain ⟨x, r, as, m1, m2⟩ := t3 f hf
        obtain ⟨i, y, hy, _⟩ := hp.1 _ m1
        cases hy
        exact looks_reads m2
end
end PySem.W
namespace Hc
open PySem PySem.Spec PyProof.Rows L2 PySem.W
theorem toPs_map : ∀ xs : List D, toPs xs = xs.map D.toP
  | [] => rfl
  | x :: xs => by show x.toP :: toPs xs = _; rw [toPs_map xs]; rfl
theorem sclK_of {x : D} (h : (sclK x != 0) = true) : (∃ n, x = .int n) ∨ ∃ s, x = .str s := by
  cases x <;> first | exact .inl ⟨_, rfl⟩ | exact .inr ⟨_, rfl⟩ | (simp [sclK] at h)
theorem pairK_of {x y : D} (h : pairK x y = true) : ∃ i a j b, x = .tup [.int i, a] ∧ y = .tup [.int j, b] ∧ (sclK a != 0) = true ∧ (sclK b != 0) = true ∧ (i = j → sclK a = sclK b) := by
  unfold pairK at h
  split at h
  · rename_i i a j b
    simp only [Bool.and_eq_true, Bool.or_eq_true, bne_iff_ne, ne_eq, beq_iff_eq] at h
    exact ⟨i, a, j, b, rfl, rfl, by simp [h.1.1], by simp [h.1.2], fun e => h.2.resolve_left fun z => z e⟩
  · cases h
theorem allTwo_of {f : D → D → Bool} {xs : List D} (h : allTwo f xs = true) : ∀ x ∈ xs, ∀ y ∈ xs, f x y = true := fun x hx y hy => (List.all_eq_true.mp ((List.all_eq_true.mp h) x hx)) y hy
theorem pairPs_of {xs : List D} (h : allTwo pairK xs = true) : PairPs (xs.map D.toP) := by
  have h := allTwo_of h
  refine ⟨fun d hd => ?_, fun i x j y hx hy e => ?_⟩
  · obtain ⟨z, hz, rfl⟩ := List.mem_map.mp hd
    obtain ⟨i, a, _, _, rfl, _, ha, _⟩ := pairK_of (h z hz z hz)
    refine ⟨i, a.toP, rfl, ?_⟩
    rcases sclK_of ha with ⟨n, rfl⟩ | ⟨s, rfl⟩
    · exact .inl ⟨n, rfl⟩
    · exact .inr ⟨s, rfl⟩
  · obtain ⟨z, hz, ez⟩ := List.mem_map.mp hx
    obtain ⟨u, hu, eu⟩ := List.mem_map.mp hy
    obtain ⟨i', a, j', b, rfl, rfl, ha, hb, hk⟩ := pairK_of (h z hz u hu)
    have e1 : i' = i ∧ a.toP = x := by simpa [D.toP, toPs] using ez
    have e2 : j' = j ∧ b.toP = y := by simpa [D.toP, toPs] using eu
    obtain ⟨rfl, rfl⟩ := e1
    obtain ⟨rfl, rfl⟩ := e2
    have hk := hk e
    rcases sclK_of ha with ⟨n, rfl⟩ | ⟨s, rfl⟩
    · rcases sclK_of hb with ⟨m, rfl⟩ | ⟨u, rfl⟩
      · simp [D.toP, alike]
      · simp [sclK] at hk
    · rcases sclK_of hb with ⟨m, rfl⟩ | ⟨u, rfl⟩
      · simp [sclK] at hk
      · simp [D.toP, alike]
theorem tupN_of {x : D} (h : tupN x = true) : ∃ a r, x.toP = .tuple (a :: r) := by
  cases x with
  | tup xs =>
    cases xs with
    | nil => simp [tupN] at h
    | cons a r => exact ⟨_, _, rfl⟩
  | _ => simp [tupN] at h
theorem notN_of {x : D} (h : notN x = true) (hf : flat 60 x = true) : x.toP ≠ .none ∧ ∀ xs, x.toP ≠ .tuple xs := by
  cases x <;> first | (simp [notN] at h; done) | exact ⟨fun z => by simp [D.toP] at z, fun xs z => by simp [D.toP] at z⟩
section
variable {K : PySem.W.Frag} {W : Wr} {H : Hp}
theorem each_vrs {ds : List D} {ys : List V} {us : List Value} (r : VRs K W H ds ys []) (rv : Vals ys us) : EachIs (fun u (b : D × V) => RelV b.2 u ∧ VR K W H b.1 b.2 []) us (ds.zip ys) := by
  induction ds generalizing ys us with
  | nil =>
    cases r
    cases rv
    exact .nil
  | cons d ds ih =>
    generalize hf : ([] : List Addr) = f at r
    cases r with
    | cons t r =>
      obtain ⟨h1, h2⟩ := List.append_eq_nil_iff.mp hf.symm
      subst h1 h2
      cases rv with
      | cons a b => exact .cons ⟨a, t⟩ (ih r b)
theorem each_out {bs : List (D × V)} {us : List Value} (h : EachIs (fun u (b : D × V) => RelV b.2 u ∧ VR K W H b.1 b.2 []) us bs) : Vals (bs.map Prod.snd) us ∧ VRs K W H (bs.map Prod.fst) (bs.map Prod.snd) [] := by
  induction h with
  | nil => exact ⟨.nil, .nil⟩
  | cons a _ ih => exact ⟨.cons a.1 ih.1, .cons (f := []) (g := []) a.2 ih.2⟩
end
theorem sortD_map (bs : List (D × V)) : (bs.mergeSort (dataLe false fun b => b.1.toP)).map Prod.fst = sortD (bs.map Prod.fst) :=
  List.map_mergeSort fun a _ b _ => by rw [dataLe_eq]; rfl
section
variable {X : Cx}
def rSortD (K : PySem.W.Frag) : List V → Hp → VK → Prop := fun xs H Q => ∃ (W : Wr) (ds : List D) (ys : List V) (a : Addr), xs = [.ref a] ∧ FzL K H a ys ∧ VRs K W H ds ys [] ∧ ds.length ≤ sz ∧ sortOk ds = true ∧ ∀ zs p, VRs K W H (sortD ds) zs [] → H p = none → Q (.ref p) (upd H p (.lst zs))
theorem cr_sortD {n : Nat} (hr : Room n X.A) : CallR X (.builtin "sorted") (rSortD X.K) := by
  intro pins s σ H vs us Q I r h
  obtain ⟨W, ds, ys, a, rfl, hs, rd, hz, ok, q⟩ := h
  have hu := unitsOf hr
  obtain ⟨_, its, m, rv, hl, e⟩ := hs.at I
  rw [Vals.ref1 r]
  have hlen : ds.length = ys.length := rd.length
  have hlz : (ds.zip ys).length = ds.length := by rw [List.length_zip, hlen, Nat.min_self]
  unfold sortOk at ok
  simp only [Bool.and_eq_true, Bool.or_eq_true] at ok
  obtain ⟨hfl, ok⟩ := ok
  have hfl := List.all_eq_true.mp hfl
  have ea := each_vrs rd rv
  have hm1 : (ds.zip ys).map Prod.fst = ds := List.map_fst_zip (by omega)
  have hen : (ds.zip ys).map (fun b => b.1.toP) = ds.map D.toP := by
    have : (fun b : D × V => b.1.toP) = D.toP ∘ Prod.fst := rfl
    rw [this, ← List.map_map, hm1]
  have hb : ∀ b ∈ ds.zip ys, b.1 ∈ ds := fun b h => (List.of_mem_zip h).1
  have er : EachIs (fun u (b : D × V) => ∃ as, Reads s.heap u b.1.toP as) its (ds.zip ys) := (each_mem ea).mono fun u b ⟨⟨h1, h2⟩, h3⟩ => Dp.reads I _ _ _ (h2.dp (hfl _ (hb b h3))) h1
  have dep : ∀ b ∈ ds.zip ys, b.1.toP.depth ≤ 60 := fun b h => (flat_can _ _ (hfl _ (hb b h))).2
  have fin : ∀ out : List Value, out.length = (ds.zip ys).length → EachIs (fun u (b : D × V) => RelV b.2 u ∧ VR X.K W H b.1 b.2 []) out ((ds.zip ys).mergeSort (dataLe false fun b => b.1.toP)) → EP X pins σ Q (.ref (s.heap.objs.size + 1)) { s with heap := sortedAll s.heap its (List.toArray out) } := by
    intro out ho eo
    obtain ⟨k1, k2⟩ := each_out eo
    rw [sortD_map, hm1] at k2
    obtain ⟨ep, he'⟩ := PyProof.Rows.sortedAll_at s.heap its out.toArray
    have lz : (((ds.zip ys).mergeSort (dataLe false fun b => b.1.toP)).map Prod.snd).length ≤ sizeLine := by
      rw [k1.length, ho, hlz, szEq]
      exact hz
    exact ⟨.ref _, upd H (s.heap.objs.size + 1) (.lst _), I.laid (t' := s.toks) (fun _ _ => PyProof.Rows.sortedAll_old) (Nat.le_succ _) ⟨lz, out, ep, k1, he'⟩, rfl, q _ _ k2 (I.hok.fresh (Nat.le_succ _))⟩
  have hlst : s.heap.IsList a its.toArray := ⟨_, e, rfl, _, rfl⟩
  have hL : (ds.zip ys).length ≤ sizeLine := by rw [hlz, szEq]; exact hz
  rcases ok with ⟨h1, h2⟩ | hp
  · have h1 := allTwo_of h1
    have hal : AllAlike ((ds.zip ys).map fun b => b.1.toP) := by
      rw [hen]
      intro d hd d' hd'
      obtain ⟨x, hx, rfl⟩ := List.mem_map.mp hd
      obtain ⟨y, hy, rfl⟩ := List.mem_map.mp hd'
      exact h1 x hx y hy
    have hk : PySem.W.Sortable ((ds.zip ys).map fun b => b.1.toP) := by
      rw [hen]
      rcases h2 with h2 | h2
      · refine .inl fun d hd => ?_
        obtain ⟨x, hx, rfl⟩ := List.mem_map.mp hd
        exact tupN_of (List.all_eq_true.mp h2 x hx)
      · refine .inr fun d hd => ?_
        obtain ⟨x, hx, rfl⟩ := List.mem_map.mp hd
        exact notN_of (List.all_eq_true.mp h2 x hx) (hfl x hx)
    exact sorted_data hlst ea er hal hk hL (fun b hb => by have := dep b hb; omega) fin
  · have hpp := pairPs_of hp
    have er' : EachIs (fun v b => ∃ as, Reads (sortingHeap (copyHeap s.heap its) (s.heap.objs.size + 1) its) v (b.1.toP) as) its (ds.zip ys) := er.mono fun _ _ ⟨as, r⟩ => ⟨as, PyProof.Rows.Reads.keeps (fun _ _ => sorting_copy_old) r⟩
    have em := each_map (R := fun v d => ∃ as, Reads (sortingHeap (copyHeap s.heap its) (s.heap.objs.size + 1) its) v d as) (fun b : D × V => b.1.toP) er'
    have S : SortsAt X.prog X.w X.A.in1.in1 { s with heap := sortingHeap (copyHeap s.heap its) (s.heap.objs.size + 1) its } (dataKind (sortingHeap (copyHeap s.heap its) (s.heap.objs.size + 1) its) ((ds.zip ys).map fun b => b.1.toP)) its := SortsAt.pairs (s := { s with heap := sortingHeap (copyHeap s.heap its) (s.heap.objs.size + 1) its }) em (by rw [hen]; exact hpp) (by
      intro d hd
      obtain ⟨b, hb, rfl⟩ := List.mem_map.mp hd
      have := dep b hb
      show X.A.units + 1 + 1 + _ < _
      omega)
    refine sorted_vals hlst S (by rw [← rv.length, ← hlen, szEq]; exact hz) (fin _ ?_ ?_)
    · rw [sortVals_length false rfl, ← rv.length, hlz, hlen]
    · refine sortVals_each (κ := dataKind (sortingHeap (copyHeap s.heap its) (s.heap.objs.size + 1) its) ((ds.zip ys).map fun b => b.1.toP)) (fun b => keyToks (b.1.toP)) ea ?_
      refine (each_mem er').mono fun v b ⟨⟨as, r⟩, hb⟩ => pairKind_some ?_ (List.mem_map.mpr ⟨b, hb, rfl⟩) r
      rw [hen]
      exact hpp.1
end
end Hc

set_option Elab.async false
set_option linter.all false
set_option maxRecDepth 100000
set_option maxHeartbeats 2000000
namespace Hc
open PySem PySem.Spec PyProof.Rows L2
def Bl.nm : Bl → Str
  | .len => "len" | .int => "int" | .all => "all" | .max2 => "max" | .min2 => "min" | .list => "list" | .listR => "list" | .repr => "repr" | .str => "str" | .sum => "sum" | .sorted => "sorted" | .tuple => "tuple" | .divmod => "divmod" | .abs => "abs" | .bool => "bool"
def Bl.isTy : Bl → Bool
  | .int => true | .list => true | .listR => true | .str => true | .tuple => true | .bool => true
  | _ => false
def Bl.id : Bl → String
  | .len => "len" | .int => "int" | .all => "all" | .max2 => "max" | .min2 => "min" | .list => "list" | .listR => "list" | .repr => "repr" | .str => "str" | .sum => "sum" | .sorted => "sorted" | .tuple => "tuple" | .divmod => "divmod" | .abs => "abs" | .bool => "bool"
def Bl.val (f : Bl) : Value := if f.isTy = true then .type f.id else .builtin f.id
theorem boot_bl (f : Bl) : bootBuiltins f.nm = some f.val := by
  cases f
  · exact PySem.boot_len
  · exact PyProof.Rows.boot_int
  · exact PyProof.Rows.boot_all
  · exact PyProof.Rows.boot_max
  · exact PyProof.Rows.boot_min
  · exact PyProof.Rows.boot_list
  · exact PyProof.Rows.boot_list
  · exact PyProof.Rows.boot_repr
  · exact PyProof.Rows.boot_str
  · exact PyProof.Rows.boot_sum
  · exact PyProof.Rows.boot_sorted
  · exact PyProof.Rows.boot_tuple
  · exact PyProof.Rows.boot_divmod
  · exact PyProof.Rows.boot_abs
  · exact PyProof.Rows.boot_bool
inductive Lks (K : PySem.W.Frag) (W : Wr) (H : Hp) : List D → List V → Prop
  | nil : Lks K W H [] []
  | cons {d : D} {v : V} {ds : List D} {vs : List V} {f : List Addr} : VR K W H d v f → Lks K W H ds vs → Lks K W H (d :: ds) (v :: vs)
theorem VRs.lks {K : PySem.W.Frag} {W : Wr} {H : Hp} : ∀ {ds : List D} {vs : List V} {f : List Addr}, VRs K W H ds vs f → Lks K W H ds vs
  | _, _, _, .nil => .nil
  | _, _, _, .cons t r => .cons t r.lks
theorem Lks.one {K : PySem.W.Frag} {W : Wr} {H : Hp} {d : D} {vs : List V} (h : Lks K W H [d] vs) : ∃ v f, vs = [v] ∧ VR K W H d v f := by
  cases h with
  | cons t r => cases r; exact ⟨_, _, rfl, t⟩
theorem Lks.two {K : PySem.W.Frag} {W : Wr} {H : Hp} {d e : D} {vs : List V} (h : Lks K W H [d, e] vs) : ∃ v f u g, vs = [v, u] ∧ VR K W H d v f ∧ VR K W H e u g := by
  cases h with
  | cons t r => obtain ⟨u, g, rfl, s⟩ := r.one; exact ⟨_, _, _, _, rfl, t, s⟩
def Ans (K : PySem.W.Frag) (W : Wr) (H : Hp) (d : D) (Q : VK) : Prop := (∀ v, VR K W H d v [] → Q v H) ∧ (∀ ys vs p, d = .lst true ys → VRs K W H ys vs [] → H p = none → Q (.ref p) (upd H p (.lst vs))) ∧ ∀ ys vs p, d = .tup ys → VRs K W H ys vs [] → H p = none → Q (.ref p) (upd H p (.tup vs))
def rBl (K : PySem.W.Frag) (f : Bl) : List V → Hp → VK → Prop := fun vs H Q => ∃ (W : Wr) (ds : List D) (d : D), Lks K W H ds vs ∧ bltop f ds = some d ∧ Ans K W H d Q
theorem Pre.ans {E : XW} {c : Bool} {K : PySem.W.Frag} {W : Wr} {H : Hp} {F g fp : List Addr} {env : Slots} {σ : L2.St} {d : D} {Q : V → Hp → Prop} (P : Pre K W H env σ F g) (h : Post K (VR K) E c W H fp σ (.ok d env) Q) (hs : ∀ a ∈ F ++ g, a ∈ fp) : Ans K W H d fun v H' => KOK K H' → Q v H' := by
  refine ⟨fun v r _ => P.flat0 h r hs, fun ys vs p e r hp kk => ?_, fun ys vs p e r hp _ => ?_⟩
  · subst e
    exact P.newL h r (fun _ z => by cases z) List.nodup_nil hp kk.new hs
  · subst e
    exact P.newT h r (fun _ z => by cases z) List.nodup_nil hp hs
theorem vrs_ints {K : PySem.W.Frag} {W : Wr} {H : Hp} : ∀ ns : List Int, VRs K W H (ns.map .int) (ns.map .int) []
  | [] => .nil
  | n :: ns => .cons (f := []) (g := []) (.int n) (vrs_ints ns)
theorem vrs_strs {K : PySem.W.Frag} {W : Wr} {H : Hp} : ∀ ns : List Str, VRs K W H (ns.map .str) (ns.map .str) []
  | [] => .nil
  | n :: ns => .cons (f := []) (g := []) (.str n) (vrs_strs ns)
theorem VRs.bools {K : PySem.W.Frag} {W : Wr} {H : Hp} : ∀ {ds : List D} {vs : List V} {f : List Addr} {bs : List Bool}, VRs K W H ds vs f → boolsOf ds = some bs → vs = bs.map V.bl
  | _, _, _, _, .nil, e => by cases e; rfl
  | _, _, _, _, .cons (ds := ds) t r, e => by
    cases t <;> first | (cases e; done) | skip
    cases q : boolsOf ds with
    | none => simp [boolsOf, q] at e
    | some bs =>
      simp [boolsOf, q] at e
      subst e
      rw [r.bools q]
      rfl
theorem VRs.ints {K : PySem.W.Frag} {W : Wr} {H : Hp} : ∀ {ds : List D} {vs : List V} {f : List Addr} {bs : List Int}, VRs K W H ds vs f → intsOf ds = some bs → vs = bs.map V.int
  | _, _, _, _, .nil, e => by cases e; rfl
  | _, _, _, _, .cons (ds := ds) t r, e => by
    cases t <;> first | (cases e; done) | skip
    cases q : intsOf ds with
    | none => simp [intsOf, q] at e
    | some bs =>
      simp [intsOf, q] at e
      subst e
      rw [r.ints q]
      rfl
section
variable {X : Cx} {E : XW} {a b c e : Expr} {A B C : CE} {ra rb rc r : Slots → R D} {sh : Bool} {pos p : Pos}
theorem CallR.any {f : Value} {r : List V → Hp → VK → Prop} (h : ∀ x H Q, r x H Q → ∃ r', CallR X f r' ∧ r' x H fun v H' => KOK X.K H' → Q v H') : CallR X f r := fun pins s σ H xs us Q I rx q => by
  obtain ⟨r', h1, h2⟩ := h xs H Q q
  exact thn (h1 pins s σ H xs us _ I rx h2) fun v s' ⟨x, H', I', rx, kk⟩ => ⟨x, H', I', rx, kk (kok I')⟩
theorem call_reprD {n : Nat} (hr : Room n X.A) (hg : X.A.guards = some []) : CallR X (.builtin "repr") (fun xs H Q => ∃ (x : V) (d : PyData), xs = [x] ∧ Dp X.K H x d ∧ d.canLay0 = true ∧ d.depth ≤ 60 ∧ d.showable = true ∧ d.shown.length ≤ sz ∧ Q (.str d.shown) H) := by
  rintro pins s σ H xs us Q I rx ⟨x, d, rfl, hd, hc, hp, hs, hz, q⟩
  obtain ⟨u, rfl, ru⟩ := vals1 rx
  obtain ⟨as, hR⟩ := Dp.reads I d x u hd ru
  have hu := hr.un
  have hz' : d.shown.length ≤ sizeLine := by rw [szEq]; exact hz
  have fin : ∀ (h' : Heap) (t : Tok) (tk : Nat), (∀ b o, s.heap.get? b = some o → h'.get? b = some o) → EP X pins σ Q (.str d.shown t) { s with heap := h', toks := tk } := fun h' t tk k => ⟨.str _, H, I.kept k, ⟨t, rfl⟩, q⟩
  cases hR with
  | none => exact PySem.P.repr_of_none (fin s.heap _ _ fun _ _ e => e)
  | bool b => exact PySem.P.repr_of_bool (fin s.heap _ _ fun _ _ e => e)
  | int i t => exact PySem.P.repr_of_int (by simpa [PyData.showable] using hs) (fin s.heap _ _ fun _ _ e => e)
  | str y t => exact PySem.P.repr_of_str (fin s.heap _ _ fun _ _ e => e) hz'
  | list h1 h2 h3 h4 =>
    exact repr_of_reads' (.list h1 h2 h3 h4) hs (PyData.noDict_hsm (PyData.hasDict_of_canLay _ hc)) hg (by omega) (fun _ _ e => e) (fun h' t tk k => fin h' t tk k) hz'
  | tuple h1 h2 h3 h4 =>
    exact repr_of_reads' (.tuple h1 h2 h3 h4) hs (PyData.noDict_hsm (PyData.hasDict_of_canLay _ hc)) hg (by omega) (fun _ _ e => e) (fun h' t tk k => fin h' t tk k) hz'
  | dict _ _ _ _ _ => simp [PyData.canLay0] at hc
theorem opBl {n : Nat} (hr : Room n X.A) (hg : X.A.guards = some []) (hc : X.calm = true) (f : Bl) : CallR X f.val (rBl X.K f) := by
  refine CallR.any fun xs H Q h => ?_
  obtain ⟨W, ds, d, l, hd, q, qL, qT⟩ := h
  unfold bltop at hd
  split at hd
  · cases hd
    obtain ⟨v, f0, rfl, w⟩ := l.one
    obtain ⟨a, vs, f', rfl, q1, r1, _⟩ := w.lstOf
    exact ⟨_, call_len, _, _, rfl, .inl ⟨_, q1.sq, rfl⟩, fun _ => q _ (by rw [r1.length]; exact .int _)⟩
  · cases hd
    obtain ⟨v, f0, rfl, w⟩ := l.one
    cases w with
    | tup q1 r1 => exact ⟨_, call_len, _, _, rfl, .inr ⟨_, .of q1, rfl⟩, fun _ => q _ (by rw [r1.length]; exact .int _)⟩
  · cases hd
    obtain ⟨v, f0, rfl, w⟩ := l.one
    obtain ⟨a, ho, vs, f', rfl, q1, k1, r1⟩ := (show Lk X.K false W H _ v f0 from .inl w).dicOf
    cases k1 with
    | k ks vs hl _ => exact ⟨_, call_lenD, a, _, rfl, q1, fun _ => q _ (by rw [List.length_map, List.length_zip, ← hl, Nat.min_self]; exact .int _)⟩
    | t ks vs hl _ => exact ⟨_, call_len_dT, a, _, rfl, q1, fun _ => q _ (by rw [List.length_map, List.length_zip, ← hl, Nat.min_self]; exact .int _)⟩
  · split at hd
    · rename_i hz
      cases hd
      obtain ⟨v, f0, rfl, w⟩ := l.one
      cases w
      exact ⟨_, call_len, _, _, rfl, ⟨by rw [szEq]; exact hz, rfl⟩, fun _ => q _ (.int _)⟩
    · cases hd
  · cases hd
    obtain ⟨v, f0, rfl, w⟩ := l.one
    cases w
    exact ⟨_, call_int1, .inl ⟨_, rfl, fun _ => q _ (.int _)⟩⟩
  · cases hd
    obtain ⟨v, f0, rfl, w⟩ := l.one
    cases w
    exact ⟨_, call_int1, .inr ⟨_, rfl, fun _ => q _ (.int _)⟩⟩
  · obtain ⟨v, f0, rfl, w⟩ := l.one
    obtain ⟨bs, hb, rfl⟩ := Option.map_eq_some_iff.mp hd
    obtain ⟨a, vs, f', rfl, q1, r1, _⟩ := w.lstOf
    have e := r1.bools hb
    subst e
    exact ⟨_, cr_all hc, a, bs, rfl, q1.sq, fun _ => q _ (.bl _)⟩
  · cases hd
    obtain ⟨v, f0, u, g0, rfl, l1, l2⟩ := l.two
    cases l1; cases l2
    exact ⟨_, call_max2 hc, _, _, rfl, fun _ => q _ (.int _)⟩
  · cases hd
    obtain ⟨v, f0, u, g0, rfl, l1, l2⟩ := l.two
    cases l1; cases l2
    exact ⟨_, call_min2 hc, _, _, rfl, fun _ => q _ (.int _)⟩
  · obtain ⟨v, f0, rfl, w⟩ := l.one
    obtain ⟨bs, hb, rfl⟩ := Option.map_eq_some_iff.mp hd
    obtain ⟨a, vs, f', rfl, q1, r1, _⟩ := w.lstOf
    have e := r1.ints hb
    subst e
    exact ⟨_, cr_sum hc, a, bs, rfl, q1.sq, fun _ => q _ (.int _)⟩
  · split at hd
    · rename_i hz
      cases hd
      obtain ⟨v, f0, rfl, w⟩ := l.one
      obtain ⟨c1, c2⟩ := flat_can _ _ hz.1
      exact ⟨_, call_reprD hr hg, _, _, rfl, w.dp hz.1, c1, c2, hz.2.1, hz.2.2, fun _ => q _ (.str _)⟩
    · cases hd
  · split at hd
    · rename_i hz
      cases hd
      obtain ⟨v, f0, rfl, w⟩ := l.one
      cases w
      exact ⟨_, call_str_int, _, rfl, hz, fun _ => q _ (.str _)⟩
    · cases hd
  · cases hd
    obtain ⟨v, f0, rfl, w⟩ := l.one
    cases w
    exact ⟨_, SkE.call_str_str, _, rfl, fun _ => q _ (.str _)⟩
  · split at hd
    · rename_i hz
      cases hd
      obtain ⟨v, f0, rfl, w⟩ := l.one
      obtain ⟨a, vs, f', rfl, q1, r1, _⟩ := w.lstOf
      have e := VRs.none_of r1 hz
      subst e
      exact ⟨_, call_list_of, a, vs, rfl, .inl q1.sq, fun p hp _ => qL _ _ p rfl r1 hp⟩
    · cases hd
  · split at hd
    · rename_i hz
      cases hd
      obtain ⟨v, f0, rfl, w⟩ := l.one
      cases w with
      | tup q1 r1 =>
        have e := VRs.none_of r1 hz
        subst e
        exact ⟨_, call_list_of, _, _, rfl, .inr (.of q1), fun p hp _ => qL _ _ p rfl r1 hp⟩
    · cases hd
  · split at hd
    · rename_i hz
      cases hd
      obtain ⟨v, f0, rfl, w⟩ := l.one
      obtain ⟨a, vs, f', rfl, q1, r1, _⟩ := w.lstOf
      have e := VRs.none_of r1 hz
      subst e
      exact ⟨_, call_tuple_of, a, vs, rfl, .inl ⟨q1.sq, fun p hp _ => qT _ _ p rfl r1 hp⟩⟩
    · cases hd
  · split at hd
    · rename_i hz
      cases hd
      obtain ⟨v, f0, rfl, w⟩ := l.one
      have e := w.none_of hz
      subst e
      have w2 := w
      cases w with
      | tup q1 r1 => exact ⟨_, call_tuple_of, _, _, rfl, .inr ⟨.of q1, fun _ => q _ w2⟩⟩
    · cases hd
  · split at hd
    · rename_i hz
      cases hd
      obtain ⟨v, f0, rfl, w⟩ := l.one
      obtain ⟨a, vs, f', rfl, q1, r1, _⟩ := w.lstOf
      have e := VRs.none_of r1 hz.1
      subst e
      exact ⟨_, cr_sortD hr, W, _, vs, a, rfl, q1, r1, hz.2.1, hz.2.2, fun zs p rz hp _ => qL _ _ p rfl rz hp⟩
    · cases hd
  · split at hd
    · rename_i hz
      cases hd
      obtain ⟨v, f0, u, g0, rfl, l1, l2⟩ := l.two
      cases l1; cases l2
      exact ⟨_, call_divmod, _, _, rfl, hz, fun p hp _ => qT _ _ p rfl (.cons (f := []) (g := []) (.int _) (.cons (f := []) (g := []) (.int _) .nil)) hp⟩
    · cases hd
  · cases hd
    obtain ⟨v, f0, rfl, w⟩ := l.one
    cases w
    exact ⟨_, call_abs, _, rfl, fun _ => q _ (.int _)⟩
  · cases hd
    obtain ⟨v, f0, rfl, w⟩ := l.one
    cases w
    exact ⟨_, call_bool1, .inl ⟨_, rfl, fun _ => q _ (.bl _)⟩⟩
  · cases hd
    obtain ⟨v, f0, rfl, w⟩ := l.one
    cases w
    exact ⟨_, call_bool1, .inr ⟨_, rfl, fun _ => q _ (.bl _)⟩⟩
  · cases hd
theorem sView (s : Snd X E e C r) : PE X e (tG X.K (Lk X.K false) E C.calm (view C r)) := by
  refine pe_any fun σ H Q h => ?_
  obtain ⟨W, env, g, P, h⟩ := h
  unfold view at h
  cases q : peek C env with
  | some d =>
    rw [q] at h
    exact ⟨_, s.pk, W, env, g, d, P, q, fun v f rv _ => P.done h (.inr ⟨rfl, fun z => Bool.noConfusion z, f, rv⟩) (by simp)⟩
  | none =>
    rw [q] at h
    refine ⟨_, s.pe, W, env, g, P, ?_⟩
    dsimp only at h
    cases z : r env with
    | no => rw [z] at h; exact h
    | ex x e => rw [z] at h; exact h
    | ok d e =>
      rw [z] at h
      exact fun W' H' b f g t ra er _ => h W' H' b f g t (.inl ra) er
theorem spl_one {X : Cx} : ∀ (es : List Expr), (∀ e ∈ es, ∀ x p, e ≠ .Starred x p) → (backTo pos (starEach es X.env)).any (·.1) = false
  | [], _ => rfl
  | e :: es, h => by
    rw [noStar es (h e List.mem_cons_self)]
    have ih := spl_one (X := X) es fun x hx => h x (List.mem_cons_of_mem _ hx)
    simp only [backTo, List.map_cons, List.any_cons, Bool.false_or] at ih ⊢
    exact ih
theorem peCallV {f : Bl} {rr : List V → Hp → VK → Prop} {es : List Expr} {t : TA} (hc : CallR X f.val rr) (hg : Gl X f.nm) (hm : X.mg f.nm = none) (ha : PA X (e :: es) t) (hs : ∀ x ∈ e :: es, ∀ y p, x ≠ .Starred y p) :
    PE X (.Call (.Name f.nm p) (e :: es) [] pos) (tCB rr t) := by
  have h1 := noStar (X := X) es (hs e List.mem_cons_self)
  have h2 := spl_one (X := X) (pos := pos) es fun x hx => hs x (List.mem_cons_of_mem _ hx)
  have hb := boot_bl f
  have hn : f.nm ≠ "__name__" := by cases f <;> decide
  have hd : (f.nm == ("__debug__" : Str)) = false := by cases f <;> decide
  cases ht : f.isTy with
  | true =>
    have e1 : f.val = .type f.id := if_pos ht
    rw [e1] at hc hb
    exact pe_callTy hc hg hm hb ha hn hd h1 h2
  | false =>
    have e1 : f.val = .builtin f.id := if_neg (by rw [ht]; exact Bool.false_ne_true)
    rw [e1] at hc hb
    exact pe_callB hc hg hm hb ha hn hd h1 h2
theorem sBl1 {n : Nat} {f : Bl} (hr : Room n X.A) (hg : X.A.guards = some []) (hc : X.calm = true) (hgl : Gl X f.nm) (hm : X.mg f.nm = none) (s : Snd X E a A ra) (hs : ∀ y p, a ≠ .Starred y p) :
    PE X (.Call (.Name f.nm p) [a] [] pos) (tE X.K E (A.calm && true) (cBl1 f A ra)) := by
  have pa : PA X [a] _ := pa_cons (sView s) pa_nil (noStar _ hs)
  refine pe_any fun σ H Q h => ⟨_, peCallV (opBl hr hg hc f) hgl hm pa (fun x hx => by rw [List.mem_singleton.mp hx]; exact hs), ?_⟩
  obtain ⟨W, env, g, P, h⟩ := h
  refine ⟨W, env, g, P, ?_⟩
  have h : Post X.K (VR X.K) E (A.calm && true) W H ([] ++ g) σ ((view A ra env).bind fun x e => lift (bltop f [x]) e) Q := h
  refine Post.mono (P.run (Ra := Lk X.K false) h) ?_
  rintro v H' ⟨d, e', W', f', g', _, l, P', tt, post⟩
  simp only [List.nil_append] at P' post
  obtain ⟨r, hr', post⟩ := post_lift0 post
  obtain ⟨f2, rv⟩ := l.ex
  exact ⟨W', [d], r, .cons rv .nil, hr', P'.ans post fun a z => z⟩
theorem sBl {n : Nat} {f : Bl} {es : List Expr} {cs : List CE} {rs : List (Slots → R D)} (hr : Room n X.A) (hg : X.A.guards = some []) (hc : X.calm = true) (hgl : Gl X f.nm) (hm : X.mg f.nm = none) (s : Snds X E (e :: es) cs rs) (hs : ∀ x ∈ e :: es, ∀ y p, x ≠ .Starred y p) :
    PE X (.Call (.Name f.nm p) (e :: es) [] pos) (tE X.K E (calms cs) (cBl f rs)) := by
  refine pe_any fun σ H Q h => ⟨_, peCallV (opBl hr hg hc f) hgl hm (paSeq s) hs, ?_⟩
  obtain ⟨W, env, g, P, h⟩ := h
  refine ⟨W, env, g, P, ?_⟩
  have h : Post X.K (VR X.K) E (calms cs && true) W H ([] ++ g) σ ((seqE rs env).bind fun ds e => lift (bltop f ds) e) Q := by rw [Bool.and_true]; exact h
  refine Post.mono (P.run (Ra := VRs X.K) h) ?_
  rintro v H' ⟨d, e', W', f', g', _, l, P', tt, post⟩
  simp only [List.nil_append] at P' post
  obtain ⟨r, hr', post⟩ := post_lift0 post
  exact ⟨W', d, r, l.lks, hr', P'.ans post fun a z => z⟩
end
end Hc

set_option Elab.async false
set_option linter.all false
set_option maxRecDepth 100000
set_option maxHeartbeats 2000000
namespace Hc
open PySem PySem.Spec PyProof.Rows L2
def Ty.nm : Ty → Str
  | .int => "int" | .bool => "bool" | .str => "str" | .list => "list" | .tuple => "tuple"
theorem boot_ty (t : Ty) : bootBuiltins t.nm = some (.type t.name) := by
  cases t
  · exact PyProof.Rows.boot_int
  · exact PyProof.Rows.boot_bool
  · exact PyProof.Rows.boot_str
  · exact PyProof.Rows.boot_list
  · exact PyProof.Rows.boot_tuple
def tyName : D → Option String
  | .non => some "NoneType"
  | .bl _ => some "bool"
  | .int _ => some "int"
  | .str _ => some "str"
  | .tup _ => some "tuple"
  | .lst _ _ => some "list"
  | .dic _ _ _ _ => some "dict"
  | _ => none
theorem kit_isTy {d : D} {n : String} (h : tyName d = some n) (t : Ty) : kitB n t.name = some (isTy d t) := by
  cases d <;> simp only [tyName, reduceCtorEq, Option.some.injEq] at h <;> subst h <;> cases t <;> first | (show kitB _ _ = some true; decide +kernel) | (show kitB _ _ = some false; decide +kernel)
theorem VR.tyX {K : PySem.W.Frag} {W : Wr} {H : Hp} {d : D} {v : V} {f : List Addr} {n : String} (h : VR K W H d v f) (e : tyName d = some n) : TyX K H v (.type n) := by
  cases h <;> simp only [tyName, reduceCtorEq, Option.some.injEq] at e <;> subst e
  · exact .base .non
  · exact .base (.bl _)
  · exact .base (.int _)
  · exact .base (.str _)
  · rename_i q t
    exact .base (.tup q)
  · rename_i q t
    exact .base (.lst q)
  · rename_i q t n
    rcases q with (q | ⟨o, q⟩) | ⟨its, n, q, _⟩
    · exact .base (.lst q)
    · exact .base (.frz q)
    · exact .kList q rfl
  · rename_i q k t
    cases k
    · exact .base (.dK q)
    · exact .base (.dT q)
  · rename_i q n k t
    cases k
    · exact .base (.dK q)
    · exact .base (.dT q)
theorem kitAny_all {K : PySem.W.Frag} {d : D} {n : String} (h : tyName d = some n) : ∀ ts : List Ty, PySem.W.kitAny K (.type n) (ts.map fun t => .type t.name) = some (ts.any (isTy d))
  | [] => kitAny_nil
  | t :: ts => by
    refine kitAny_cons (kit_ty (kit_isTy h t)) (fun e => ?_) fun e => ?_
    · rw [kitAny_all h ts]
      simp [e]
    · simp [e]
section
variable {X : Cx} {E : XW} {a b c e : Expr} {A B C : CE} {ra rb rc r : Slots → R D} {sh : Bool} {pos p p2 : Pos}
theorem peTy (t : Ty) (hg : Gl X t.nm) (hm : X.mg t.nm = none) : PE X (.Name t.nm pos) (tC (.ty t.name)) :=
  pe_bltn hg hm (boot_ty t) rfl (by cases t <;> decide) (by cases t <;> decide)
theorem noStar_nm {x : Str} {p : Pos} : ∀ y q, (Expr.Name x p) ≠ .Starred y q := fun _ _ z => by cases z
theorem sIsi1 {t : Ty} (hg : Gl X "isinstance") (hm : X.mg "isinstance" = none) (hgt : Gl X t.nm) (hmt : X.mg t.nm = none) (s : Snd X E a A ra) (hs : ∀ y p, a ≠ .Starred y p) :
    PE X (.Call (.Name "isinstance" p) [a, .Name t.nm p2] [] pos) (tE X.K E (A.calm && true) (cIsi A ra [t])) := by
  have pa : PA X [a, .Name t.nm p2] _ := pa_cons (sOpd false s) (pa_cons (peTy t hgt hmt) pa_nil rfl) (noStar _ hs)
  refine pe_any fun σ H Q h => ⟨_, pe_callB call_isi hg hm PyProof.Rows.boot_isinstance pa (by decide) (by decide) (noStar _ hs) rfl, ?_⟩
  obtain ⟨W, env, g, P, h⟩ := h
  refine ⟨W, env, g, P, ?_⟩
  have h : Post X.K (VR X.K) E (A.calm && true) W H ([] ++ g) σ ((opd false A ra env).bind fun x e => match x with
    | .gone => .no
    | _ => .ok (.bl ([t].any (isTy x))) e) Q := h
  refine Post.mono (P.run (Ra := Lk X.K false) h) ?_
  rintro v H' ⟨d, e', W', f', g', _, l, P', tt, post⟩
  simp only [List.nil_append] at P' post
  obtain ⟨f2, rv⟩ := l.ex
  have go : ∀ n, tyName d = some n → Post X.K (VR X.K) E true W' H' (f' ++ g') σ (.ok (.bl ([t].any (isTy d))) e') Q → rIsi X.K [v, .ty t.name] H' fun v H' => KOK X.K H' → Q v H' := by
    intro n hn post
    refine ⟨v, .ty t.name, .type n, .type t.name, isTy d t, rfl, .ty _, rv.tyX hn, kit_ty (kit_isTy hn t), fun _ => ?_⟩
    have post : Post X.K (VR X.K) E true W' H' (f' ++ g') σ (.ok (.bl (isTy d t)) e') Q := by simpa using post
    exact P'.flat0 post (.bl _) fun a z => z
  cases d with
  | gone => exact post.elim
  | obj _ _ _ _ => cases rv
  | _ => exact go _ rfl post
inductive TyEs (X : Cx) : List Expr → List Ty → Prop
  | nil : TyEs X [] []
  | cons {t : Ty} {p : Pos} {es : List Expr} {ts : List Ty} : Gl X t.nm → X.mg t.nm = none → TyEs X es ts → TyEs X (.Name t.nm p :: es) (t :: ts)
def tTys (ts : List Ty) : TA := fun _ H Q => Q (ts.map fun t => .ty t.name) H
theorem paTys : ∀ {es : List Expr} {ts : List Ty}, TyEs X es ts → PA X es (tTys ts)
  | _, _, .nil => pa_imp pa_nil fun σ H Q h => h
  | _, _, .cons h1 h2 t => pa_imp (pa_cons (peTy _ h1 h2) (paTys t) rfl) fun σ H Q h => h
theorem clsV_tys : ∀ ts : List Ty, Paired ClsV (ts.map fun t => V.ty t.name) (ts.map fun t => Value.type t.name)
  | [] => .nil
  | t :: ts => .cons (.ty _) (clsV_tys ts)
theorem sIsiN {es : List Expr} {ts : List Ty} {k : Nat} (hl : ts.length ≤ sz) (hg : Gl X "isinstance") (hm : X.mg "isinstance" = none) (hts : TyEs X es ts) (s : Snd X E a A ra) (hs : ∀ y p, a ≠ .Starred y p) :
    PE X (.Call (.Name "isinstance" p) [a, .Tuple es k p2] [] pos) (tE X.K E (A.calm && true) (cIsi A ra ts)) := by
  have pa : PA X [a, .Tuple es k p2] _ := pa_cons (sOpd false s) (pa_cons (pe_tup (paTys hts)) pa_nil rfl) (noStar _ hs)
  refine pe_any fun σ H Q h => ⟨_, pe_callB call_isiT hg hm PyProof.Rows.boot_isinstance pa (by decide) (by decide) (noStar _ hs) rfl, ?_⟩
  obtain ⟨W, env, g, P, h⟩ := h
  refine ⟨W, env, g, P, ?_⟩
  have h : Post X.K (VR X.K) E (A.calm && true) W H ([] ++ g) σ ((opd false A ra env).bind fun x e => match x with
    | .gone => .no
    | _ => .ok (.bl (ts.any (isTy x))) e) Q := h
  refine Post.mono (P.run (Ra := Lk X.K false) h) ?_
  rintro v H' ⟨d, e', W', f', g', _, l, P', tt, post⟩
  simp only [List.nil_append] at P' post
  obtain ⟨f2, rv⟩ := l.ex
  refine ⟨by rw [List.length_map, szEq]; exact hl, fun q hq => ?_⟩
  have T : Tr X.K true W' H' (f' ++ g') W' (upd H' q (.tup (ts.map fun t => V.ty t.name))) ([] ++ g') := Tr.new0 P'.wok hq (fun a z => List.mem_append_right _ z) P'.base.inW P'.base.nd
  have k2 : ∀ a o, H' a = some o → upd H' q (.tup (ts.map fun t => V.ty t.name)) a = some o := fun a o e => by rw [upd_ne (ne_of_none e hq)]; exact e
  have rv2 : VR X.K W' (upd H' q (.tup (ts.map fun t => V.ty t.name))) d v f2 := VR.move (g := f2) (fun a _ o e => k2 a o e) (fun a o e n => ⟨k2 a o e, n⟩) (fun _ _ _ n => n) P'.wok rv fun _ z => z
  have go : ∀ n, tyName d = some n → Post X.K (VR X.K) E true W' H' (f' ++ g') σ (.ok (.bl (ts.any (isTy d))) e') Q → rIsiT X.K [v, .ref q] (upd H' q (.tup (ts.map fun t => V.ty t.name))) fun v H' => KOK X.K H' → Q v H' := by
    intro n hn post
    refine ⟨v, q, _, .type n, _, ts.any (isTy d), rfl, upd_same, clsV_tys ts, rv2.tyX hn, kitAny_all hn ts, fun _ => ?_⟩
    exact post _ _ _ [] g' T (.bl _) (ER.move (g := g') (fun a _ o e => k2 a o e) (fun a o e n => ⟨k2 a o e, n⟩) (fun _ _ _ n => n) P'.wok P'.er fun _ z => z)
  cases d with
  | gone => exact post.elim
  | obj _ _ _ _ => cases rv
  | _ => exact go _ rfl post
theorem plainIx : ∀ (b : Expr), (∀ l h s q, b ≠ .Slice l h s q) → PlainIx b := by
  intro b h o i
  cases b <;> first | rfl | exact absurd rfl (h _ _ _ _)
theorem ixN_lt {n : Nat} {i : Int} {j : Nat} (h : L2.ixN n i = some j) : j < n := (ixN_seq h).2.1
theorem atI_map {α β : Type} {xs : List α} {ys : List β} {i : Int} {x : α} (hl : xs.length = ys.length) (h : atI xs i = some x) : ∃ j y, L2.ixN xs.length i = some j ∧ xs[j]? = some x ∧ ys[j]? = some y ∧ atI ys i = some y := by
  unfold atI at h
  cases q : L2.ixN xs.length i with
  | none => rw [q] at h; cases h
  | some j =>
    rw [q] at h
    have lt := ixN_lt q
    have lt' : j < ys.length := by omega
    refine ⟨j, ys[j], rfl, h, by simp [lt'], ?_⟩
    unfold atI
    rw [← hl, q]
    simp [lt']
theorem VRs.get {K : PySem.W.Frag} {W : Wr} {H : Hp} : ∀ {ds : List D} {vs : List V} {f : List Addr} {j : Nat} {d : D} {v : V}, VRs K W H ds vs f → ds[j]? = some d → vs[j]? = some v → ∃ f', VR K W H d v f' ∧ (∀ b ∈ f', b ∈ f) ∧ (f.Nodup → f'.Nodup)
  | _, _, _, _, _, _, .nil, e, _ => by cases e
  | _, _, _, 0, _, _, .cons (f := f) t r, e, e' => by
    cases e; cases e'
    exact ⟨f, t, fun b h => List.mem_append_left _ h, fun h => (List.nodup_append.mp h).1⟩
  | _, _, _, j + 1, _, _, .cons t r, e, e' => by
    obtain ⟨f', h1, h2, h3⟩ := VRs.get (j := j) r (by simpa using e) (by simpa using e')
    exact ⟨f', h1, fun b h => List.mem_append_right _ (h2 b h), fun h => h3 (List.nodup_append.mp h).2.1⟩
theorem pickV {K : PySem.W.Frag} {W : Wr} {H : Hp} {x k d : D} {v u : V} {f f2 : List Addr} {Q : V → Hp → Prop} (hx : VR K W H x v f) (hk : VR K W H k u f2) (e : pick x k = some d)
    (q : ∀ w f', VR K W H d w f' → (∀ b ∈ f', b ∈ f) → (f.Nodup → f'.Nodup) → Q w H) : L2.rIx K v u H Q := by
  unfold pick at e
  split at e
  · obtain ⟨a, vs, f1, rfl, q1, r1, s1, n1⟩ := hx.lstOf
    cases hk
    obtain ⟨j, w, _, h1, h2, h3⟩ := atI_map r1.length e
    obtain ⟨f', t, s2, n2⟩ := r1.get h1 h2
    exact .inl ⟨a, vs, _, w, rfl, rfl, q1.sq, h3, q w f' t (fun b h => s1 b (s2 b h)) fun h => n2 (n1 h)⟩
  · cases hx with
    | tup q1 r1 =>
      cases hk
      obtain ⟨j, w, _, h1, h2, h3⟩ := atI_map r1.length e
      obtain ⟨f', t, s2, n2⟩ := r1.get h1 h2
      exact .inr (.inl ⟨_, _, _, w, rfl, rfl, .of q1, h3, q w f' t s2 n2⟩)
  · cases e
theorem pickVA {K : PySem.W.Frag} {W : Wr} {H : Hp} {x k d : D} {v u : V} {f f2 : List Addr} {Q : V → Hp → Prop} (hx : VR K W H x v f) (hk : VR K W H k u f2) (e : pickA x k = some d)
    (q : ∀ w f', VR K W H d w f' → (∀ b ∈ f', b ∈ f) → (f.Nodup → f'.Nodup) → Q w H) : L2.rIx K v u H Q := by
  unfold pickA at e
  split at e
  · split at e
    · rename_i hz
      obtain ⟨c, hc, rfl⟩ := Option.map_eq_some_iff.mp e
      cases hx
      cases hk
      exact .inr (.inr ⟨_, _, c, rfl, rfl, by rw [szEq]; exact hz, hc, q _ [] (.str _) (fun _ z => by cases z) fun _ => List.nodup_nil⟩)
    · cases e
  · exact pickV hx hk e q
theorem pkSub (hb : PlainIx b) (sa : Snd X E a A ra) (sb : Snd X E b B rb) : PE X (.Subscript a b pos) (tP X.K (.sub A B)) := by
  refine pe_imp (pe_ix ix_seq sa.pk sb.pk hb) ?_
  rintro σ H Q ⟨W, env, g, d, P, e, q⟩
  simp only [peek] at e
  cases e1 : peek A env with
  | none => simp [e1] at e
  | some x =>
    cases e2 : peek B env with
    | none => simp [e1, e2] at e
    | some k =>
      simp only [e1, e2] at e
      exact ⟨W, env, g, x, P, e1, fun v f hv => ⟨W, env, g, k, P, e2, fun u f2 hu => pickV hv hu e fun w f' hw _ _ => q w f' hw⟩⟩
theorem getK_snoc : ∀ (ks : List D) {x d k : D}, getK x (ks ++ [k]) = some d → ∃ y, getK x ks = some y ∧ pick y k = some d
  | [], x, d, k, h => by
    simp only [List.nil_append, getK] at h
    cases q : pick x k with
    | none => rw [q] at h; cases h
    | some y => rw [q] at h; exact ⟨x, rfl, by cases h; exact q⟩
  | k0 :: ks, x, d, k, h => by
    simp only [List.cons_append, getK] at h ⊢
    cases q : pick x k0 with
    | none => rw [q] at h; cases h
    | some y => rw [q] at h; exact getK_snoc ks h
theorem pickW {K : PySem.W.Frag} {W : Wr} {H : Hp} {x k d : D} {v u : V} {f f2 : List Addr} {Q : V → Hp → Prop} (hx : VR K W H x v f) (hk : VR K W H k u f2) (e : pick x k = some d)
    (q : ∀ w f' p xs i, VR K W H d w f' → v = .ref p → k = .int i → (SqL K H p xs ∨ SqT K H p xs) → atI xs i = some w → Q w H) : L2.rIx K v u H Q := by
  unfold pick at e
  split at e
  · obtain ⟨a, vs, f1, rfl, q1, r1, s1, n1⟩ := hx.lstOf
    cases hk
    obtain ⟨j, w, _, h1, h2, h3⟩ := atI_map r1.length e
    obtain ⟨f', t, s2, n2⟩ := r1.get h1 h2
    exact .inl ⟨a, vs, _, w, rfl, rfl, q1.sq, h3, q w f' a vs _ t rfl rfl (.inl q1.sq) h3⟩
  · cases hx with
    | tup q1 r1 =>
      cases hk
      obtain ⟨j, w, _, h1, h2, h3⟩ := atI_map r1.length e
      obtain ⟨f', t, s2, n2⟩ := r1.get h1 h2
      exact .inr (.inl ⟨_, _, _, w, rfl, rfl, .of q1, h3, q w f' _ _ _ t rfl rfl (.inr (.of q1)) h3⟩)
  · cases e
theorem pwSub (hb : PlainIx b) (sa : Snd X E a A ra) (sb : Snd X E b B rb) : PE X (.Subscript a b pos) (tW X.K (.sub A B)) := by
  refine pe_imp (pe_ix ix_seq sa.pw sb.pk hb) ?_
  rintro σ H Q ⟨W, env, g, i, ks, x, d, P, e, ex, ed, q⟩
  simp only [pathOf] at e
  cases e1 : pathOf A env with
  | none => simp [e1] at e
  | some p =>
    obtain ⟨i0, ks0⟩ := p
    cases e2 : peek B env with
    | none => simp [e1, e2] at e
    | some k =>
      simp only [e1, e2, Option.some.injEq, Prod.mk.injEq] at e
      obtain ⟨rfl, rfl⟩ := e
      obtain ⟨y, h1, h2⟩ := getK_snoc ks0 ed
      refine ⟨W, env, g, i0, ks0, x, y, P, e1, ex, h1, fun v0 u f hv w hu => ⟨W, env, g, k, P, e2, fun u2 f2 hu2 => ?_⟩⟩
      refine pickW hu hu2 h2 fun w' f' p xs i hw ev ek hs hi => ?_
      subst ek
      exact q v0 w' f' hv (w.snoc ev hs hi) hw
theorem peSub (hb : PlainIx b) (sa : Snd X E a A ra) (sb : Snd X E b B rb) : PE X (.Subscript a b pos) (tE X.K E (A.calm && B.calm) (cSub A ra B rb)) := by
  refine pe_any fun σ H Q h => ?_
  obtain ⟨W, env, g, P, h⟩ := h
  unfold cSub at h
  cases q : peek (.sub A B) env with
  | some d =>
    rw [q] at h
    dsimp only at h
    split at h
    · rename_i hn
      refine ⟨_, pkSub hb sa sb, W, env, g, d, P, q, fun v f hv _ => ?_⟩
      have z := hv.none_of hn
      subst z
      exact P.flat0 h hv fun a z => by simpa using z
    · exact h.elim
  | none =>
    rw [q] at h
    dsimp only at h
    by_cases hc : ∃ i, A = .nm i
    · obtain ⟨i, rfl⟩ := hc
      dsimp only at h
      refine ⟨_, pe_ix ix_seq (sa.nm i rfl) sb.pe hb, ?_⟩
      cases q2 : env.at i with
      | none => rw [q2] at h; exact h.elim
      | some d0 =>
        rw [q2] at h
        obtain ⟨v, _, hv, _⟩ := tVar_of P q2
        refine ⟨v, hv, W, env, g, P, ?_⟩
        have h : Post X.K (VR X.K) E (B.calm && true) W H ([] ++ g) σ ((rb env).bind fun k e => (lift (e.at i) e).bind fun x e => (lift (pickA x k) e).bind fun r e => if r.noOwn = true then .ok r e else .no) Q := by
          rw [Bool.and_true]
          exact h
        refine Post.mono (P.run (Ra := VR X.K) h) ?_
        rintro u H' ⟨k, e', W', f', g', _, l, P', t, post⟩
        simp only [List.nil_append] at P' post
        obtain ⟨x, hx, post⟩ := post_lift post
        obtain ⟨d, hd, post⟩ := post_lift post
        obtain ⟨f0, hv2⟩ := P'.get hx hv
        split at post
        · rename_i hn
          refine pickVA hv2 l hd fun w fw hw _ _ _ => ?_
          have z := hw.none_of hn
          subst z
          exact P'.flat0 post hw fun a z => z
        · exact post.elim
    · have h : Post X.K (VR X.K) E (A.calm && B.calm) W H ([] ++ g) σ ((ra env).bind fun x e => (rb e).bind fun k e => lift (pickA x k) e) Q := by
        refine Post.cong h ?_
        cases A <;> first | rfl | exact absurd ⟨_, rfl⟩ hc
      refine ⟨_, pe_ix ix_seq sa.pe sb.pe hb, W, env, g, P, ?_⟩
      refine Post.mono (P.run (Ra := VR X.K) h) ?_
      rintro v H' ⟨x, e', W', f', g', _, l, P', t, post⟩
      simp only [List.nil_append] at P' post
      refine ⟨W', e', g', P'.base, ?_⟩
      have post : Post X.K (VR X.K) E (B.calm && true) W' H' (f' ++ g') σ ((rb e').bind fun k e => lift (pickA x k) e) Q := by rw [Bool.and_true]; exact post
      refine Post.mono (P'.run (Ra := VR X.K) post) ?_
      rintro u H2 ⟨k, e2, W2, f2, g2, _, l2, P2, t2, post2⟩
      obtain ⟨d, hd, post2⟩ := post_lift0 post2
      refine pickVA (l.aside t2 P'.gw P'.dis) l2 hd fun w fw hw hs hn _ => ?_
      have n1 := (List.nodup_append.mp (List.nodup_append.mp P2.nd).1).1
      exact (P2.sub (hn n1) fun b z => List.mem_append_left _ (hs b z)).done post2 hw fun b z => (List.mem_append.mp z).elim (fun z => List.mem_append_left _ (List.mem_append_left _ (hs b z))) fun z => List.mem_append_right _ z
theorem VRs.revs {K : PySem.W.Frag} {W : Wr} {H : Hp} : ∀ {ds : List D} {vs : List V} {f : List Addr}, VRs K W H ds vs f → ∃ f', VRs K W H ds.reverse vs.reverse f' ∧ f'.Perm f
  | _, _, _, .nil => ⟨[], .nil, .refl _⟩
  | _, _, _, .cons (f := f) t r => by
    obtain ⟨f', h1, h2⟩ := r.revs
    rw [List.reverse_cons, List.reverse_cons]
    refine ⟨f' ++ (f ++ []), h1.app (.cons t .nil), ?_⟩
    rw [List.append_nil]
    exact (h2.append_right f).trans List.perm_append_comm
def RO : Rl (Option Int) (Option Int) := fun _ _ d o f => d = o ∧ f = []
def SndO (X : Cx) (E : XW) (o : Option Expr) (c : CE) (r : Slots → R D) : Prop := (o = none ∧ c = .nop) ∨ ∃ e, o = some e ∧ c ≠ .nop ∧ Snd X E e c r
theorem po_imp {o : Option Expr} {t t' : TO} (h : PO X o t) (k : ∀ σ H Q, t' σ H Q → t σ H Q) : PO X o t' := ⟨fun pins s σ H Q I q => h.run pins s σ H Q I (k σ H Q q)⟩
theorem poOf {o : Option Expr} (s : SndO X E o C r) : PO X o (tG X.K RO E C.calm (eNop C r)) := by
  rcases s with ⟨rfl, rfl⟩ | ⟨e, rfl, hc, s⟩
  · refine po_imp po_none ?_
    rintro σ H Q ⟨W, env, g, P, h⟩
    exact P.done (f := []) (Ra := RO) h ⟨rfl, rfl⟩ (by simp)
  · refine po_imp (po_some s.pe) ?_
    rintro σ H Q ⟨W, env, g, P, h⟩
    refine ⟨W, env, g, P, ?_⟩
    have h : Post X.K RO E (C.calm && true) W H ([] ++ g) σ ((r env).bind fun d e => match d with
      | .int i => .ok (some i) e
      | _ => .no) Q := by
      rw [Bool.and_true]
      refine Post.cong h ?_
      cases C <;> first | rfl | exact absurd rfl hc
    refine Post.mono (P.run (Ra := VR X.K) h) ?_
    rintro v H' ⟨d, e', W', f', g', _, l, P', t, post⟩
    simp only [List.nil_append] at P' post
    split at post
    · cases l
      exact ⟨_, rfl, P'.base.done (Ra := RO) (f := []) post ⟨rfl, rfl⟩ (by simp)⟩
    · exact post.elim
theorem VRs.take {K : PySem.W.Frag} {W : Wr} {H : Hp} : ∀ {ds : List D} {vs : List V} {f : List Addr} (n : Nat), VRs K W H ds vs f → ∃ f', VRs K W H (ds.take n) (vs.take n) f' ∧ (∀ b ∈ f', b ∈ f) ∧ (f.Nodup → f'.Nodup)
  | _, _, _, 0, _ => ⟨[], .nil, fun _ h => (by cases h), fun _ => List.nodup_nil⟩
  | _, _, _, _ + 1, .nil => ⟨[], .nil, fun _ h => (by cases h), fun _ => List.nodup_nil⟩
  | _, _, _, n + 1, .cons (f := f) t r => by
    obtain ⟨f', h1, h2, h3⟩ := VRs.take n r
    refine ⟨f ++ f', .cons t h1, fun b h => (List.mem_append.mp h).elim (List.mem_append_left _) fun z => List.mem_append_right _ (h2 b z), fun h => ?_⟩
    obtain ⟨n1, n2, n3⟩ := List.nodup_append.mp h
    exact List.nodup_append.mpr ⟨n1, h3 n2, fun a ha b hb => n3 a ha b (h2 b hb)⟩
theorem VRs.drop {K : PySem.W.Frag} {W : Wr} {H : Hp} : ∀ {ds : List D} {vs : List V} {f : List Addr} (n : Nat), VRs K W H ds vs f → ∃ f', VRs K W H (ds.drop n) (vs.drop n) f' ∧ (∀ b ∈ f', b ∈ f) ∧ (f.Nodup → f'.Nodup)
  | _, _, f, 0, h => ⟨f, h, fun _ z => z, fun z => z⟩
  | _, _, _, _ + 1, .nil => ⟨[], .nil, fun _ h => (by cases h), fun _ => List.nodup_nil⟩
  | _, _, _, n + 1, .cons t r => by
    obtain ⟨f', h1, h2, h3⟩ := VRs.drop n r
    exact ⟨f', h1, fun b h => List.mem_append_right _ (h2 b h), fun h => h3 (List.nodup_append.mp h).2.1⟩
theorem VRs.cut {K : PySem.W.Frag} {W : Wr} {H : Hp} {ds : List D} {vs : List V} {f : List Addr} (h : VRs K W H ds vs f) (lo hi : Option Int) : ∃ f', VRs K W H (cutD ds lo hi) (cutV vs lo hi) f' ∧ (∀ b ∈ f', b ∈ f) ∧ (f.Nodup → f'.Nodup) := by
  unfold cutD cutV
  rw [← h.length]
  obtain ⟨f1, h1, h2, h3⟩ := h.drop (HT.sIx ds.length 0 lo)
  obtain ⟨f2, h4, h5, h6⟩ := h1.take (HT.sIx ds.length ds.length hi - HT.sIx ds.length 0 lo)
  exact ⟨f2, h4, fun b z => h2 b (h5 b z), fun z => h6 (h3 z)⟩
theorem sli_end {W : Wr} {H : Hp} {F g fx fp : List Addr} {env : Slots} {σ : L2.St} {x : D} {v : V} {lo hi : Option Int} {c : Bool} {Q : V → Hp → Prop} (P : Pre X.K W H env σ F g) (hx : Lk X.K true W H x v fx) (hf : ∀ b ∈ fx, b ∈ F) (hn : fx.Nodup)
    (post : Post X.K (VR X.K) E c W H fp σ (lift (cutOp x lo hi) env) Q) (hs : ∀ a ∈ F ++ g, a ∈ fp) : rSlL X.K v lo hi H (fun v H' => KOK X.K H' → Q v H') ∨ rSlS v lo hi H (fun v H' => KOK X.K H' → Q v H') := by
  obtain ⟨d, hd, post⟩ := post_lift0 post
  cases x with
  | lst o xs =>
    cases hd
    obtain ⟨a, vs, f1, rfl, q1, r1, s1, n1⟩ := hx.lstOf
    obtain ⟨f2, r2, s2, n2⟩ := r1.cut lo hi
    exact .inl ⟨a, vs, rfl, q1.sq, fun p hp kk => P.newL post r2 (fun b z => hf b (s1 b (s2 b z))) (n2 (n1 hn)) hp kk.new hs⟩
  | str z =>
    unfold cutOp at hd
    dsimp only at hd
    split at hd
    · rename_i hz
      cases hd
      cases hx.strOf
      exact .inr ⟨z, rfl, by rw [szEq]; exact hz, fun _ => P.flat0 post (.str _) hs⟩
    · cases hd
  | _ => cases hd
theorem peSli {lo hi : Option Expr} {L U : CE} {rl rh : Slots → R D} (sa : Snd X E a A ra) (sl : SndO X E lo L rl) (sh : SndO X E hi U rh) : PE X (.Subscript a (.Slice lo hi none p2) pos) (tE X.K E (A.calm && L.calm && U.calm) (cSli A ra L rl U rh)) := by
  refine pe_any fun σ H Q h => ?_
  obtain ⟨W, env, g, P, h⟩ := h
  have ends : ∀ {W : Wr} {H : Hp} {env : Slots} {F g : List Addr} {k : Option Int → Option Int → Slots → R D} {Rq : Option Int → Option Int → Hp → Prop}, Pre X.K W H env σ F g →
      Post X.K (VR X.K) E (L.calm && U.calm) W H (F ++ g) σ ((eNop L rl env).bind fun l e => (eNop U rh e).bind fun u e => k l u e) Q →
      (∀ l u e2 W2 H2 c0 c1 g1 g2, Tr X.K c0 W H g W2 H2 g1 → Pre X.K W2 H2 e2 σ F g2 → (∀ b ∈ g2, b ∈ g1) → Post X.K (VR X.K) E c1 W2 H2 (F ++ g2) σ (k l u e2) Q → Rq l u H2) →
      tG X.K RO E L.calm (eNop L rl) σ H fun l H1 => tG X.K RO E U.calm (eNop U rh) σ H1 fun u H2 => Rq l u H2 := by
    intro W H env F g k Rq P post hk
    refine ⟨W, env, g, P.base, ?_⟩
    refine Post.mono (P.run (Ra := RO) post) ?_
    rintro l H1 ⟨l', e1, W1, f1, g1, _, ⟨rfl, rfl⟩, P1, t1, post1⟩
    simp only [List.append_nil] at P1 post1
    refine ⟨W1, e1, g1, P1.base, ?_⟩
    have post1 : Post X.K (VR X.K) E (U.calm && true) W1 H1 (F ++ g1) σ ((eNop U rh e1).bind fun u e => k l' u e) Q := by rw [Bool.and_true]; exact post1
    refine Post.mono (P1.run (Ra := RO) post1) ?_
    rintro u H2 ⟨u', e2, W2, f2, g2, _, ⟨rfl, rfl⟩, P2, t2, post2⟩
    simp only [List.append_nil] at P2 post2
    exact hk _ _ _ _ _ _ _ g2 _ (Tr.trans t1 t2) P2 (fun _ z => z) post2
  unfold cSli at h
  by_cases hc : ∃ i, A = .nm i
  · obtain ⟨i, rfl⟩ := hc
    dsimp only at h
    refine ⟨_, pe_slice (SlR.or sl_list sl_str) (sa.nm i rfl) (poOf sl) (poOf sh), ?_⟩
    cases q2 : env.at i with
    | none => rw [q2] at h; exact h.elim
    | some d0 =>
      rw [q2] at h
      obtain ⟨v, _, hv, _⟩ := tVar_of P q2
      refine ⟨v, hv, ends (k := fun l u e => (opd true (.nm i) ra e).bind fun x e => lift (cutOp x l u) e) (Rq := fun l u H2 => rSlL X.K v l u H2 (fun v H' => KOK X.K H' → Q v H') ∨ rSlS v l u H2 (fun v H' => KOK X.K H' → Q v H')) P h ?_⟩
      intro l u e2 W2 H2 c0 c1 g1 g2 _ P2 _ post
      unfold opd at post
      dsimp only at post
      cases q3 : e2.at i with
      | none => rw [q3] at post; exact post.elim
      | some x =>
        rw [q3] at post
        dsimp only at post
        split at post
        · rename_i hsh
          obtain ⟨f0, hv2⟩ := P2.get q3 hv
          exact sli_end P2 (.inr ⟨rfl, fun _ => by simpa using hsh, f0, hv2⟩) (fun _ z => by cases z) List.nodup_nil post fun a z => z
        · exact post.elim
  · have h : Post X.K (VR X.K) E (A.calm && (L.calm && U.calm)) W H ([] ++ g) σ ((ra env).bind fun x e => (eNop L rl e).bind fun l e => (eNop U rh e).bind fun u e => lift (cutOp x l u) e) Q := by
      rw [← Bool.and_assoc]
      refine Post.cong h ?_
      cases A <;> first | rfl | exact absurd ⟨_, rfl⟩ hc
    refine ⟨_, pe_slice (SlR.or sl_list sl_str) sa.pe (poOf sl) (poOf sh), W, env, g, P, ?_⟩
    refine Post.mono (P.run (Ra := VR X.K) h) ?_
    rintro v H' ⟨x, e', W', f', g', _, l, P', t, post⟩
    simp only [List.nil_append] at P' post
    refine ends (k := fun l u e => lift (cutOp x l u) e) (Rq := fun l u H2 => rSlL X.K v l u H2 (fun v H' => KOK X.K H' → Q v H') ∨ rSlS v l u H2 (fun v H' => KOK X.K H' → Q v H')) P' post ?_
    intro l2 u e2 W2 H2 c0 c1 g1 g2 T P2 _ post
    exact sli_end P2 (.inl (l.aside T P'.gw P'.dis)) (fun _ z => z) (List.nodup_append.mp P'.nd).1 post fun a z => z
theorem peRev {k : Nat} {p1 p3 : Pos} (sa : Snd X E a A ra) : PE X (.Subscript a (.Slice none none (some (.UnaryOp .USub (.Constant (.int 1) k p1) p2)) p3) pos) (tE X.K E A.calm (cRev A ra)) := by
  refine pe_any fun σ H Q h => ⟨_, pe_revL (sOpd true sa), ?_⟩
  obtain ⟨W, env, g, P, h⟩ := h
  refine ⟨W, env, g, P, ?_⟩
  have h : Post X.K (VR X.K) E (A.calm && true) W H ([] ++ g) σ ((opd true A ra env).bind fun x e => lift (revOp x) e) Q := by rw [Bool.and_true]; exact h
  refine Post.mono (P.run (Ra := Lk X.K true) h) ?_
  rintro v H' ⟨d, e', W', f', g', _, l, P', tt, post⟩
  simp only [List.nil_append] at P' post
  obtain ⟨r, hr, post⟩ := post_lift0 post
  cases d with
  | lst o xs =>
    cases hr
    obtain ⟨b, vs, f1, rfl, q1, r1, s1, n1⟩ := l.lstOf
    obtain ⟨f2, r2, s2⟩ := r1.revs
    have nd := (List.nodup_append.mp P'.nd).1
    exact ⟨b, vs, rfl, q1.sq, fun p hp kk => P'.newL post r2 (fun c z => s1 c ((s2.mem_iff).mp z)) ((s2.nodup_iff).mpr (n1 nd)) hp kk.new fun a z => z⟩
  | _ => cases hr
def Vm.nm : Vm → Str
  | .index => "index" | .count => "count" | .lower => "lower" | .join => "join" | .split => "split"
def Vm.idS : Vm → String
  | .index => "str.index" | .count => "str.count" | .lower => "str.lower" | .join => "str.join" | .split => "str.split"
theorem strs_of {K : PySem.W.Frag} {W : Wr} {H : Hp} : ∀ {ds : List D} {vs : List V} {f : List Addr} {ss : List Str}, VRs K W H ds vs f → strsOf ds = some ss → vs = ss.map V.str
  | _, _, _, _, .nil, e => by cases e; rfl
  | _, _, _, _, .cons (ds := ds) t r, e => by
    cases t <;> first | (cases e; done) | skip
    cases q : strsOf ds with
    | none => simp [strsOf, q] at e
    | some bs =>
      simp [strsOf, q] at e
      subst e
      rw [strs_of r q]
      rfl
def rVm (K : PySem.W.Frag) (m : Vm) : V → List V → Hp → VK → Prop := fun x vs H Q => ∃ (W : Wr) (s : Str) (ds : List D) (d : D), x = .str s ∧ Lks K W H ds vs ∧ vmop m (.str s) ds = some d ∧ Ans K W H d Q
theorem MtR.any {id : String} {r : V → List V → Hp → VK → Prop} (h : ∀ x vs H Q, r x vs H Q → ∃ r', MtR X id r' ∧ r' x vs H fun v H' => KOK X.K H' → Q v H') : MtR X id r := fun pins s σ H x xs v us Q I rx rs q => by
  obtain ⟨r', h1, h2⟩ := h x xs H Q q
  exact thn (h1 pins s σ H x xs v us _ I rx rs h2) fun v s' ⟨x, H', I', rx, kk⟩ => ⟨x, H', I', rx, kk (kok I')⟩
theorem mtVm (m : Vm) : MtR X m.idS (rVm X.K m) := by
  refine MtR.any fun x vs H Q h => ?_
  obtain ⟨W, s, ds, d, rfl, l, hd, q, qL, qT⟩ := h
  unfold vmop at hd
  split at hd
  · rename_i hx
    cases hx
  · rename_i hx
    cases hx
  · split at hd
    · rename_i hx hz
      cases hx
      cases hd
      cases l
      exact ⟨_, mt_lower, _, rfl, rfl, by omega, fun _ => q _ (.str _)⟩
    · cases hd
  · rename_i hx
    cases hx
    obtain ⟨ys, hy, hd⟩ := Option.bind_eq_some_iff.mp hd
    split at hd
    · rename_i hz
      cases hd
      obtain ⟨v, f0, rfl, w⟩ := l.one
      obtain ⟨b, us, f', rfl, q1, r1, _⟩ := w.lstOf
      have e := strs_of r1 hy
      subst e
      exact ⟨_, mt_join, _, b, ys, rfl, rfl, .inl q1.sq, hz, fun _ => q _ (.str _)⟩
    · cases hd
  · rename_i hx
    cases hx
    split at hd
    · rename_i hz
      cases hd
      obtain ⟨v, f0, rfl, w⟩ := l.one
      cases w
      exact ⟨_, mt_split, _, _, rfl, rfl, hz.1, by rw [szEq]; exact hz.2, fun p hp _ => qL _ _ p rfl (vrs_strs _) hp⟩
    · cases hd
  · cases hd
theorem pVm0 {m : Vm} {apos cpos : Pos} (slot : Slot "str" m.nm m.idS) (hty : typeOf (.builtin m.idS) = pure (.type "method_descriptor")) (sa : Snd X E a A ra) (hbase : attributeBase a m.nm X.env (eval a X.env) = eval a X.env) (hline : (apos.endLine == cpos.line) = true) :
    PE X (.Call (.Attribute a m.nm apos) [] [] cpos) (tE X.K E (A.calm && true) (cVm0 m A ra)) := by
  refine pe_any fun σ H Q h => ⟨_, pe_bm0 F.plainAttrs_str slot hty (mtVm m) (sOpd false sa) hbase hline, ?_⟩
  obtain ⟨W, env, g, P, h⟩ := h
  refine ⟨W, env, g, P, ?_⟩
  have h : Post X.K (VR X.K) E (A.calm && true) W H ([] ++ g) σ ((opd false A ra env).bind fun x e => match x with
    | .str s => lift (vmop m (.str s) []) e
    | _ => .no) Q := h
  refine Post.mono (P.run (Ra := Lk X.K false) h) ?_
  rintro v H' ⟨d, e', W', f', g', _, l, P', tt, post⟩
  simp only [List.nil_append] at P' post
  cases d with
  | str s =>
    cases l.strOf
    obtain ⟨r, hr, post⟩ := post_lift0 post
    exact ⟨rfl, W', s, [], r, rfl, .nil, hr, P'.ans post fun a z => z⟩
  | _ => exact post.elim
theorem pVm1 {m : Vm} {apos cpos : Pos} (slot : Slot "str" m.nm m.idS) (hty : typeOf (.builtin m.idS) = pure (.type "method_descriptor")) (sa : Snd X E a A ra) (sb : Snd X E b B rb) (hs : ∀ y p, b ≠ .Starred y p) (hbase : attributeBase a m.nm X.env (eval a X.env) = eval a X.env) (hline : (apos.endLine == cpos.line) = true) :
    PE X (.Call (.Attribute a m.nm apos) [b] [] cpos) (tE X.K E (A.calm && B.calm) (cVm1 m A ra B rb)) := by
  have h1 := noStar (X := X) [] hs
  have pa : PA X [b] _ := pa_cons (sView sb) pa_nil h1
  refine pe_any fun σ H Q h => ⟨_, pe_bm F.plainAttrs_str slot hty (mtVm m) (sOpd false sa) pa hbase (by rw [h1]; rfl) hline h1 rfl, ?_⟩
  obtain ⟨W, env, g, P, h⟩ := h
  refine ⟨W, env, g, P, ?_⟩
  have h : Post X.K (VR X.K) E (A.calm && B.calm) W H ([] ++ g) σ ((opd false A ra env).bind fun x e => match x with
    | .str s => (view B rb e).bind fun y e => lift (vmop m (.str s) [y]) e
    | _ => .no) Q := h
  refine Post.mono (P.run (Ra := Lk X.K false) h) ?_
  rintro v H' ⟨d, e', W', f', g', _, l, P', tt, post⟩
  simp only [List.nil_append] at P' post
  cases d with
  | str s =>
    cases l.strOf
    refine ⟨rfl, W', e', g', P'.base, ?_⟩
    have post : Post X.K (VR X.K) E (B.calm && true) W' H' (f' ++ g') σ ((view B rb e').bind fun y e => lift (vmop m (.str s) [y]) e) Q := by rw [Bool.and_true]; exact post
    refine Post.mono (P'.run (Ra := Lk X.K false) post) ?_
    rintro u H2 ⟨y, e2, W2, f2, g2, _, l2, P2, t2, post2⟩
    obtain ⟨r, hr, post2⟩ := post_lift0 post2
    obtain ⟨f3, rv⟩ := l2.ex
    exact ⟨W2, s, [y], r, rfl, .cons rv .nil, hr, P2.ans post2 fun a z => z⟩
  | _ => exact post.elim
def Vm.idL : Vm → String
  | .index => "list.index" | .count => "list.count" | .lower => "" | .join => "" | .split => ""
def rVi (K : PySem.W.Frag) (m : Vm) : V → List V → Hp → VK → Prop := fun x vs H Q => ∃ (W : Wr) (dx : D) (f : List Addr) (ds : List D) (d : D), isL0 dx = true ∧ VR K W H dx x f ∧ Lks K W H ds vs ∧ vmop m dx ds = some d ∧ Ans K W H d Q
theorem VRs.find0 {K : PySem.W.Frag} {W : Wr} {H : Hp} {e : D} {u : V} {g : List Addr} (h' : VR K W H e u g) (z' : flat 0 e = true) : ∀ {ds : List D} {vs : List V} {f : List Addr} {j : Nat}, VRs K W H ds vs f → ds.all (flat 0) = true → ds.findIdx? (fun z => deq z e) = some j →
    ∃ z, vs[j]? = some z ∧ eqV z u = true ∧ ∀ (m : Nat) (z' : V), m < j → vs[m]? = some z' → eqV z' u = false
  | _, _, _, _, .nil, _, h => by simp at h
  | _, _, _, j, .cons (d := d) (ds := ds) (v := v) t r, z, h => by
    simp only [List.all_cons, Bool.and_eq_true] at z
    have e0 := t.eq0 z.1 h' z'
    rw [List.findIdx?_cons] at h
    cases hq : deq d e with
    | true =>
      rw [hq] at h
      simp at h
      subst h
      exact ⟨v, rfl, by rw [e0, hq], fun m z' hm => absurd hm (Nat.not_lt_zero _)⟩
    | false =>
      rw [hq] at h
      simp only [Bool.false_eq_true, if_false] at h
      obtain ⟨k, hk, rfl⟩ := Option.map_eq_some_iff.mp h
      obtain ⟨w, h1, h2, h3⟩ := VRs.find0 h' z' r z.2 hk
      refine ⟨w, by simpa using h1, h2, fun m z' hm hz => ?_⟩
      cases m with
      | zero => cases hz; rw [e0, hq]
      | succ m => exact h3 m z' (by omega) (by simpa using hz)
theorem mtVi (m : Vm) : MtR X m.idL (rVi X.K m) := by
  refine MtR.any fun x vs H Q h => ?_
  obtain ⟨W, dx, f, ds, d, hL, hx, l, hd, q, qL, qT⟩ := h
  unfold vmop at hd
  split at hd
  · split at hd
    · rename_i hz
      obtain ⟨j, hj, rfl⟩ := Option.map_eq_some_iff.mp hd
      obtain ⟨v, f0, rfl, w⟩ := l.one
      obtain ⟨b, us, f', rfl, q1, r1, _⟩ := hx.lstOf
      obtain ⟨z, h1, h2, h3⟩ := VRs.find0 w hz.1 r1 hz.2 hj
      exact ⟨_, mt_index, b, us, v, j, z, rfl, rfl, q1.sq, w.flat0 hz.1, (VRs.any0 w hz.1 r1 hz.2).1, h1, h2, h3, fun _ => q _ (.int _)⟩
    · cases hd
  · obtain ⟨ns, hn, rfl⟩ := Option.map_eq_some_iff.mp hd
    obtain ⟨v, f0, rfl, w⟩ := l.one
    obtain ⟨b, us, f', rfl, q1, r1, _⟩ := hx.lstOf
    cases w
    have e := r1.ints hn
    subst e
    exact ⟨_, mt_lcount, b, ns, _, rfl, rfl, q1.sq, fun _ => q _ (.int _)⟩
  · cases hL
  · cases hL
  · cases hL
  · cases hd
theorem isL0_of {d : D} (h : isL0 d = true) : ∃ o xs, d = .lst o xs := by cases d <;> first | exact ⟨_, _, rfl⟩ | cases h
theorem pVi {m : Vm} {i : Nat} {apos cpos : Pos} (slot : Slot "list" m.nm m.idL) (hty : typeOf (.builtin m.idL) = pure (.type "method_descriptor")) (sa : PE X a (tVar i)) (sb : Snd X E b B rb) (hs : ∀ y p, b ≠ .Starred y p) (hbase : attributeBase a m.nm X.env (eval a X.env) = eval a X.env) (hline : (apos.endLine == cpos.line) = true) :
    PE X (.Call (.Attribute a m.nm apos) [b] [] cpos) (tE X.K E B.calm (cVi m i B rb)) := by
  have h1 := noStar (X := X) [] hs
  have pa : PA X [b] _ := pa_cons (sView sb) pa_nil h1
  refine pe_any fun σ H Q h => ⟨_, pe_bm F.plainAttrs_list slot hty (mtVi m) sa pa hbase (by rw [h1]; rfl) hline h1 rfl, ?_⟩
  obtain ⟨W, env, g, P, h⟩ := h
  unfold cVi at h
  obtain ⟨x0, hx0, h⟩ := post_lift h
  split at h
  · rename_i hL
    obtain ⟨v, f0, hv, rv⟩ := tVar_of P hx0
    obtain ⟨o, xs, rfl⟩ := isL0_of hL
    obtain ⟨p, vs, f', rfl, q1, _⟩ := rv.lstOf
    refine ⟨_, hv, .inl ⟨rfl, vs, q1.sq⟩, W, env, g, P, ?_⟩
    have h : Post X.K (VR X.K) E (B.calm && true) W H ([] ++ g) σ ((view B rb env).bind fun y e => (lift (e.at i) e).bind fun x e => lift (vmop m x [y]) e) Q := by rw [Bool.and_true]; exact h
    refine Post.mono (P.run (Ra := Lk X.K false) h) ?_
    rintro u H2 ⟨y, e2, W2, f2, g2, _, l2, P2, t2, post⟩
    simp only [List.nil_append] at P2 post
    obtain ⟨x, hx, post⟩ := post_lift post
    obtain ⟨r, hr, post⟩ := post_lift0 post
    obtain ⟨f3, rx⟩ := P2.get hx hv
    obtain ⟨f4, ry⟩ := l2.ex
    have hLx : isL0 x = true := by
      unfold vmop at hr
      split at hr <;> first | rfl | (cases hr; done) | skip
      all_goals (cases rx; done)
    exact ⟨W2, x, f3, [y], r, hLx, rx, .cons ry .nil, hr, P2.ans post fun a z => z⟩
  · exact h.elim
end
end Hc

set_option Elab.async false
set_option linter.all false
set_option maxRecDepth 100000
set_option maxHeartbeats 2000000
namespace Hc
open PySem PySem.Spec PyProof.Rows L2
section
variable {K : PySem.W.Frag} {W W' : Wr} {H H' : Hp} {F g fp f : List Addr}
theorem Pre.newD {E : XW} {c : Bool} {env : Slots} {σ : L2.St} {Q : V → Hp → Prop} {p : Addr} {t : Bool} {o : HO} (P : Pre K W H env σ F g) (h : Post K (VR K) E c W H fp σ (.ok (.dic true t [] []) env) Q)
    (ho : Ownable o) (hd : DK t [] [] o) (hp : H p = none) (hk : K.lookup p = none) (hs : ∀ a ∈ F ++ g, a ∈ fp) : Q (.ref p) (upd H p o) := by
  have P1 : Pre K W H env σ [] g := P.sub List.nodup_nil fun _ h => by cases h
  have t : Tr K c W H fp (W.and p) (upd H p o) (p :: ([] ++ g)) := Tr.new1 P.wok hp hk ho (fun a h => hs a (List.mem_append_right _ (by simpa using h))) P1.inW P1.nd
  have k2 : ∀ a u, H a = some u → ¬ W a → upd H p o a = some u ∧ ¬ W.and p a := fun a u e n => ⟨(by rw [upd_ne (ne_of_none e hp)]; exact e), fun w => w.elim n fun z => by rw [z, hp] at e; cases e⟩
  have k3 : ∀ a u, K.lookup a = some u → ¬ W a → ¬ W.and p a := fun a u e n w => w.elim n fun z => by rw [z, hk] at e; cases e
  have k1 : ∀ l : List Addr, ∀ a, a ∈ l → ∀ u, H a = some u → upd H p o a = some u := fun _ a _ u e => by rw [upd_ne (ne_of_none e hp)]; exact e
  exact h _ _ (.ref p) [p] g t (.dicO upd_same hd .nil) (ER.move (k1 g) k2 k3 P.wok P.er fun _ z => z)
end
section
variable {X : Cx} {E : XW} {a b e : Expr} {A B C : CE} {ra rb rc r : Slots → R D} {pos : Pos}
theorem sDnew (t : Bool) : PE X (.Dict [] [] pos) (tE X.K E true fun env => .ok (.dic true t [] []) env) := by
  refine pe_any fun σ H Q h => ?_
  obtain ⟨W, env, g, P, h⟩ := h
  cases t with
  | false => exact ⟨_, pe_dnewK, fun p hp kk => P.newD h trivial (.k [] [] rfl List.nodup_nil) hp kk.new (by simp)⟩
  | true => exact ⟨_, pe_dnewT, fun p hp kk => P.newD h trivial (.t [] [] rfl List.nodup_nil) hp kk.new (by simp)⟩
theorem sDget {n : Nat} (hr : Room n X.A) (hb : NoSl b) (sa : Snd X E a A ra) (sb : Snd X E b B rb) : PE X (.Subscript a b pos) (tE X.K E (A.calm && B.calm) (cDget A ra B rb)) := by
  obtain ⟨ta, tb, ha, hb', z⟩ := sTwo (sh := false) (Rc := VR X.K) (k := fun p e => lift (dgetOp p.1 p.2) e) true sa sb
  have hu := unitsOf hr
  refine pe_imp (pe_dget (by omega) ha hb' hb) fun σ H Q q => z σ H Q (by rw [Bool.and_true]; exact q) _ fun x y H2 T => ?_
  obtain ⟨d1, d2, env, W, f1, f2, g, l1, l2, P, post⟩ := T
  obtain ⟨r, hd, post2⟩ := post_lift0 post
  dsimp only at hd
  unfold dgetOp at hd
  split at hd
  · split at hd
    · rename_i o t ks ds hz
      obtain ⟨a, ho, vs, f', rfl, q1, k1, r1⟩ := l1.dicOf
      obtain ⟨f2', r2⟩ := l2.ex
      obtain ⟨g1, lt⟩ := k1.get q1 r2 hz
      obtain ⟨d, hl, hd⟩ := Option.bind_eq_some_iff.mp hd
      split at hd
      · rename_i hn
        cases hd
        unfold lookD at hl
        obtain ⟨i, hi, hl⟩ := Option.bind_eq_some_iff.mp hl
        have li := lt i hi
        obtain ⟨f3, r3, _⟩ := r1.get hl (show vs[i]? = some vs[i] by simp [li])
        have n3 := r3.none_of hn
        subst n3
        rw [hi] at g1
        have g2 : DGet H2 a y (some vs[i]) := by simpa [li] using g1
        exact ⟨a, vs[i], rfl, g2, P.flat0 post2 r3 fun a z => z⟩
      · cases hd
    · cases hd
  · cases hd
end
end Hc

set_option Elab.async false
set_option linter.all false
set_option maxRecDepth 100000
set_option maxHeartbeats 2000000
namespace Hc
open PySem PySem.Spec PyProof.Rows L2
theorem upto_length (lo : Int) (n : Nat) : (upto lo n).length = n := by simp [upto]
theorem upto_eq (lo : Int) (n : Nat) : upto lo n = ((List.range n).map fun (k : Nat) => lo + (k : Int)).map D.int := by
  unfold upto
  rw [List.map_map]
  rfl
section
variable {X : Cx}
theorem cr_range1 : CallR X (.type "range") (fun vs H Q => ∃ j, vs = [V.int j] ∧ ∀ p, H p = none → Q (.ref p) (upd H p (.rng 0 j))) := by
  intro pins s σ H vs us Q I r h
  obtain ⟨j, rfl, q⟩ := h
  obtain ⟨u, rfl, t, rfl⟩ := vals1 r
  refine call_range_1 ⟨.ref s.heap.objs.size, upd H s.heap.objs.size (.rng 0 j), I.laid (t' := s.toks + 1 + 1) (fun b o e => Heap.get?_push_of_some _ e) (Nat.le_refl _) ?_, rfl, q _ (I.hok.fresh (Nat.le_refl _))⟩
  exact ⟨_, _, _, Heap.get?_push_size _ rfl⟩
theorem rng_vals {lo : Int} {n : Nat} {acc : Array Value} (h : ItemsOf (fun i v => ∃ t, v = .int (lo + (i : Int) * 1) t) acc n) : Vals (((List.range n).map fun (k : Nat) => lo + (k : Int)).map V.int) acc.toList := by
  obtain ⟨h1, h2⟩ := h
  have key : ∀ (l : List Value) (m : Nat), (∀ j v, l[j]? = some v → ∃ t, v = Value.int (lo + ((m + j : Nat) : Int)) t) → Vals ((List.range' m l.length).map fun (k : Nat) => V.int (lo + (k : Int))) l := by
    intro l
    induction l with
    | nil => intro m _; exact .nil
    | cons v l ih =>
      intro m hv
      rw [List.length_cons, List.range'_succ, List.map_cons]
      refine .cons ?_ (ih (m + 1) fun j w hw => ?_)
      · obtain ⟨t, e⟩ := hv 0 v rfl
        exact ⟨t, by rw [e]; rfl⟩
      · obtain ⟨t, e⟩ := hv (j + 1) w (by simpa using hw)
        exact ⟨t, by rw [e, show m + (j + 1) = m + 1 + j by omega]⟩
  have z := key acc.toList 0 fun j v hj => by
    obtain ⟨t, e⟩ := h2 j v (by rw [← Array.getElem?_toList]; exact hj)
    exact ⟨t, by rw [e]; simp⟩
  rw [Array.length_toList, h1, ← List.range_eq_range'] at z
  rw [List.map_map]
  exact z
def rListR : List V → Hp → VK → Prop := fun xs H Q => ∃ (a : Addr) (i j : Int), xs = [.ref a] ∧ H a = some (.rng i j) ∧ (0 ≤ i ∧ i ≤ 16777216) ∧ (j ≤ 16777216 ∧ -16777216 ≤ j) ∧ ∀ p, H p = none → Q (.ref p) (upd H p (.lst (((List.range (j - i).toNat).map fun (k : Nat) => i + (k : Int)).map V.int)))
theorem cr_listR (hc : X.calm = true) : CallR X (.type "list") rListR := by
  intro pins s σ H vs us Q I r h
  obtain ⟨a, i, j, rfl, ha, hi, hj, q⟩ := h
  rw [Vals.ref1 r]
  obtain ⟨t, u, v, e⟩ := I.hok a _ ha
  have hn : Builtin.Range.rangeSize i j 1 = (((j - i).toNat : Nat) : Int) := by rw [rangeSize_one]; split <;> omega
  refine call_list_range (I.ok.hd hc) (show IsRange s.heap a i j 1 t u v from e) (small_one (by omega) (by omega) (by omega) (by omega)) hn (by omega) fun h' tk acc c' k1 k2 k3 => ?_
  have rv := rng_vals k3
  have e2 : acc.toList.toArray = acc := by simp
  refine ⟨.ref s.heap.objs.size, _, I.laid (t' := tk) k1 (Nat.le_refl _) (show ObjOk X.prog X.w _ h' _ (.lst (((List.range (j - i).toNat).map fun (k : Nat) => i + (k : Int)).map V.int)) from ⟨?_, acc.toList, c', rv, by rw [e2]; exact k2⟩), rfl, q _ (I.hok.fresh (Nat.le_refl _))⟩
  simp only [List.length_map, List.length_range]
  rw [szEq]
  show _ ≤ 16777216
  omega
end
section
variable {K : PySem.W.Frag} {W : Wr} {H : Hp} {F g : List Addr} {env : Slots} {σ : L2.St} {E : XW}
theorem Pre.any0 {T : Addr} {o : HO} (P : Pre K W H env σ F g) (hT : H T = none) : Pre K W (upd H T o) env σ F g ∧ Tr K true W H (F ++ g) W (upd H T o) (F ++ g) :=
  ⟨⟨ER.move (g := g) (fun b _ o e => (upd_ne (ne_of_none e hT)).trans e) (fun b o e w => ⟨(upd_ne (ne_of_none e hT)).trans e, w⟩) (fun _ _ _ w => w) P.wok P.er fun _ z => z, P.nd, P.inW, fun a w => by
    obtain ⟨u, e, ow⟩ := P.wok a w
    exact ⟨u, (upd_ne (ne_of_none e hT)).trans e, ow⟩⟩, Tr.new0 P.wok hT (fun _ z => z) P.inW P.nd⟩
theorem Post.after0 {α β : Type} {Ra : Rl α β} {c1 c2 : Bool} {W' : Wr} {H' : Hp} {fp fp' : List Addr} {r : R α} {Q : β → Hp → Prop} (t : Tr K c1 W H fp W' H' fp') (h : Post K Ra E (c1 && c2) W H fp σ r Q) : Post K Ra E c2 W' H' fp' σ r Q := by
  cases r with
  | no => exact h
  | ex x env2 => exact fun W2 H2 g2 t2 er2 => h W2 H2 g2 (t.trans t2) er2
  | ok a2 env2 => exact fun W2 H2 b2 f2 g2 t2 ra2 er2 => h W2 H2 b2 f2 g2 (t.trans t2) ra2 er2
theorem Pre.rngL {p : Addr} {i j : Int} {Q : V → Hp → Prop} {c : Bool} (P : Pre K W H env σ F g) (h : Post K (VR K) E c W H (F ++ g) σ (.ok (.lst true (upto i (j - i).toNat)) env) Q) (hi : 0 ≤ i ∧ i ≤ 16777216) (hj : j ≤ 16777216 ∧ -16777216 ≤ j) (hp : H p = none) :
    rListR [.ref p] (upd H p (.rng i j)) fun v H' => KOK K H' → Q v H' := by
  refine ⟨p, i, j, rfl, upd_same, hi, hj, fun q hq kk => ?_⟩
  obtain ⟨P2, t⟩ := P.any0 (o := .rng i j) hp
  have h : Post K (VR K) E (true && c) W H (F ++ g) σ (.ok (.lst true (upto i (j - i).toNat)) env) Q := by rw [Bool.true_and]; exact h
  have h2 := Post.after0 t h
  rw [upto_eq] at h2
  exact P2.newL h2 (vrs_ints _) (fun _ z => by cases z) List.nodup_nil hq kk.new fun a z => z
end
section
variable {X : Cx} {E : XW} {a b e : Expr} {A B C : CE} {ra rb rc r : Slots → R D} {pos p q : Pos}
theorem star_call {f : Expr} {es : List Expr} {ks : List Keyword} {q : Pos} : ∀ y p, (Expr.Call f es ks q) ≠ .Starred y p := fun _ _ z => by cases z
theorem peLr1 (hc : X.calm = true) (hg : Gl X "list") (hm : X.mg "list" = none) (hg2 : Gl X "range") (hm2 : X.mg "range" = none) {p2 pos2 : Pos} (s : Snd X E a A ra) (hs : ∀ y p, a ≠ .Starred y p) :
    PE X (.Call (.Name "list" p) [.Call (.Name "range" p2) [a] [] pos2] [] pos) (tE X.K E A.calm (cLr1 ra)) := by
  have h1 := noStar (X := X) [] hs
  have pin : PE X (.Call (.Name "range" p2) [a] [] pos2) _ := pe_callTy cr_range1 hg2 hm2 PyProof.Rows.boot_range (pa_cons s.pe pa_nil h1) (by decide) (by decide) h1 rfl
  refine pe_any fun σ H Q h => ⟨_, pe_callTy (cr_listR hc) hg hm PyProof.Rows.boot_list (pa_cons pin pa_nil (noStar _ star_call)) (by decide) (by decide) (noStar _ star_call) rfl, ?_⟩
  obtain ⟨W, env, g, P, h⟩ := h
  refine ⟨W, env, g, P, ?_⟩
  have h : Post X.K (VR X.K) E (A.calm && true) W H ([] ++ g) σ ((ra env).bind fun d e => match d with
    | .int j => if 0 ≤ j ∧ j ≤ 16777216 then .ok (.lst true (upto 0 j.toNat)) e else .no
    | _ => .no) Q := by rw [Bool.and_true]; exact h
  refine Post.mono (P.run (Ra := VR X.K) h) ?_
  rintro v H2 ⟨d, e', W', f', g', _, l, P', t, post⟩
  simp only [List.nil_append] at P' post
  split at post
  · split at post
    · rename_i j _ hj
      cases l
      refine ⟨_, rfl, fun pp hp => ?_⟩
      have post : Post X.K (VR X.K) E true W' H2 ([] ++ g') σ (.ok (.lst true (upto 0 (j - 0).toNat)) e') Q := by rw [Int.sub_zero]; exact post
      exact P'.rngL post (by decide) (by omega) hp
    · exact post.elim
  · exact post.elim
theorem peLr2 (hc : X.calm = true) (hg : Gl X "list") (hm : X.mg "list" = none) (hg2 : Gl X "range") (hm2 : X.mg "range" = none) {p2 pos2 : Pos} (s : Snd X E a A ra) (s2 : Snd X E b B rb) (hs : ∀ y p, a ≠ .Starred y p) (hs2 : ∀ y p, b ≠ .Starred y p) :
    PE X (.Call (.Name "list" p) [.Call (.Name "range" p2) [a, b] [] pos2] [] pos) (tE X.K E (A.calm && B.calm) (cLr2 ra rb)) := by
  have h2 := noStar (X := X) [] hs2
  have h1 := noStar (X := X) [b] hs
  have pin : PE X (.Call (.Name "range" p2) [a, b] [] pos2) _ := pe_callTy cr_range2 hg2 hm2 PyProof.Rows.boot_range (pa_cons s.pe (pa_cons s2.pe pa_nil h2) h1) (by decide) (by decide) h1 (spl_one (X := X) [b] fun x hx => by rw [List.mem_singleton.mp hx]; exact hs2)
  refine pe_any fun σ H Q h => ⟨_, pe_callTy (cr_listR hc) hg hm PyProof.Rows.boot_list (pa_cons pin pa_nil (noStar _ star_call)) (by decide) (by decide) (noStar _ star_call) rfl, ?_⟩
  obtain ⟨W, env, g, P, h⟩ := h
  refine ⟨W, env, g, P, ?_⟩
  have h : Post X.K (VR X.K) E (A.calm && (B.calm && true)) W H ([] ++ g) σ ((ra env).bind fun x e => (rb e).bind fun y e => match x, y with
    | .int i, .int j => if (0 ≤ i ∧ i ≤ 16777216) ∧ (0 ≤ j ∧ j ≤ 16777216) then .ok (.lst true (upto i (j - i).toNat)) e else .no
    | _, _ => .no) Q := by rw [Bool.and_true]; exact h
  refine Post.mono (P.run (Ra := VR X.K) h) ?_
  rintro v H2 ⟨d, e', W', f', g', _, l, P', t, post⟩
  simp only [List.nil_append] at P' post
  refine ⟨W', e', g', P'.base, ?_⟩
  refine Post.mono (P'.run (Ra := VR X.K) post) ?_
  rintro u H3 ⟨d2, e2, W2, f2, g2, _, l2, P2, t2, post2⟩
  have stop : ∀ {i j : Int}, d = .int i → d2 = .int j → v = .int i ∧ u = .int j ∧ f' = [] ∧ f2 = [] := by
    rintro i j rfl rfl
    cases l; cases l2
    exact ⟨rfl, rfl, rfl, rfl⟩
  split at post2
  · split at post2
    · rename_i hj
      obtain ⟨rfl, rfl, rfl, rfl⟩ := stop rfl rfl
      refine ⟨_, _, rfl, fun pp hp => ?_⟩
      exact P2.rngL post2 hj.1 (by omega) hp
    · exact post2.elim
  · exact post2.elim
end
end Hc

set_option Elab.async false
set_option linter.all false
set_option maxRecDepth 100000
set_option maxHeartbeats 2000000
namespace Hc
open PySem PySem.Spec PyProof.Rows L2
section
variable {K : PySem.W.Frag} {W W' : Wr} {H H' : Hp} {F g fp f fp2 : List Addr} {sh : Bool} {d : D} {v : V}
theorem SqT.keep {a : Addr} {xs : List V} (h : SqT K H a xs) (k : ∀ a o, H a = some o → H' a = some o) : SqT K H' a xs := h.imp (fun z => z.imp (k _ _) fun ⟨o, z⟩ => ⟨o, k _ _ z⟩) id
theorem SqT.keepT {a : Addr} {xs : List V} (h : SqT K H a xs) (k : ∀ o, (∃ xs, o = .tup xs ∨ ∃ ob u, o = .frz ob u) → H a = some o → H' a = some o) : SqT K H' a xs :=
  h.imp (fun z => z.imp (k _ ⟨xs, .inl rfl⟩) fun ⟨o, z⟩ => ⟨o, k _ ⟨[], .inr ⟨_, _, rfl⟩⟩ z⟩) id
theorem SqL.keep {a : Addr} {xs : List V} (h : SqL K H a xs) (k : ∀ a o, H a = some o → H' a = some o) : SqL K H' a xs := h.imp (fun z => z.imp (k _ _) fun ⟨o, z⟩ => ⟨o, k _ _ z⟩) id
theorem Wk.keep {v u : V} {ks : List D} (h : Wk K H v ks u) (k : ∀ a o, H a = some o → H' a = some o) : Wk K H' v ks u := by
  induction h with
  | nil v => exact .nil v
  | cons h1 h2 h3 ih => exact .cons (h1.imp (fun z => SqL.keep z k) fun z => SqT.keep z k) h2 ih
theorem SqT.inj (kk : KOK K H) {a : Addr} {xs ys : List V} (h : SqT K H a xs) (h' : SqT K H a ys) : xs = ys := by
  rcases h with (h | ⟨o, h⟩) | ⟨o, its, n, h, _, hd, _, hv⟩
  · rcases h' with (h' | ⟨o', h'⟩) | ⟨o', its', n', h', _⟩
    · rw [h] at h'; cases h'; rfl
    · rw [h] at h'; cases h'
    · rw [kk _ _ h'] at h; cases h
  · rcases h' with (h' | ⟨o', h'⟩) | ⟨o', its', n', h', _⟩
    · rw [h] at h'; cases h'
    · rw [h] at h'; cases h'; rfl
    · rw [kk _ _ h'] at h; cases h
  · rcases h' with (h' | ⟨o', h'⟩) | ⟨o', its', n', h', _, hd', _, hv'⟩
    · rw [kk _ _ h] at h'; cases h'
    · rw [kk _ _ h] at h'; cases h'
    · rw [h] at h'; cases h'
      rw [hd] at hd'; cases hd'
      exact hv.inj hv'
theorem own_inj (kk : KOK K H) {a : Addr} {xs ys : List V} (h : H a = some (.lst xs)) (h' : SqL K H a ys ∨ SqT K H a ys) : ys = xs := by
  rcases h' with ((h' | ⟨o', h'⟩) | ⟨o', its', n', h', _⟩) | (h' | ⟨o', h'⟩) | ⟨o', its', n', h', _⟩
  · rw [h] at h'; cases h'; rfl
  · rw [h] at h'; cases h'
  · rw [kk _ _ h'] at h; cases h
  · rw [h] at h'; cases h'
  · rw [h] at h'; cases h'
  · rw [kk _ _ h'] at h; cases h
theorem tup_not (kk : KOK K H) {a : Addr} {xs ys : List V} (h : SqT K H a xs) (h' : SqL K H a ys ∨ SqT K H a ys) : ys = xs ∨ ∃ o, K.lookup a = some o ∧ o.cls = .type "tuple" ∧ o.cls = .type "list" := by
  rcases h' with h' | h'
  · rcases h with (h | ⟨o, h⟩) | ⟨o, its, n, h, hc, _⟩
    · rcases h' with (h' | ⟨o', h'⟩) | ⟨o', its', n', h', _⟩
      · rw [h] at h'; cases h'
      · rw [h] at h'; cases h'
      · rw [kk _ _ h'] at h; cases h
    · rcases h' with (h' | ⟨o', h'⟩) | ⟨o', its', n', h', _⟩
      · rw [h] at h'; cases h'
      · rw [h] at h'; cases h'
      · rw [kk _ _ h'] at h; cases h
    · rcases h' with (h' | ⟨o', h'⟩) | ⟨o', its', n', h', hc', _⟩
      · rw [kk _ _ h] at h'; cases h'
      · rw [kk _ _ h] at h'; cases h'
      · rw [h] at h'; cases h'
        exact .inr ⟨o, h, hc, hc'⟩
  · exact .inl (SqT.inj kk h' h)
theorem tup_inj (kk : KOK K H) {a : Addr} {xs ys : List V} (h : SqT K H a xs) (h' : SqL K H a ys ∨ SqT K H a ys) : ys = xs := by
  rcases tup_not kk h h' with e | ⟨o, _, h1, h2⟩
  · exact e
  · rw [h1] at h2
    exact absurd h2 (by decide)
theorem VRs.split : ∀ {ds : List D} {vs : List V} {f : List Addr} {j : Nat} {d : D}, VRs K W H ds vs f → ds[j]? = some d → ∃ v fj fr, vs[j]? = some v ∧ VR K W H d v fj ∧ (fj ++ fr).Perm f ∧
    ∀ (W' : Wr) (H' : Hp) (d' : D) (v' : V) (f' : List Addr), (∀ {d : D} {v : V} {f : List Addr}, VR K W H d v f → (∀ a ∈ f, a ∈ fr) → VR K W' H' d v f) → VR K W' H' d' v' f' → ∃ f2, VRs K W' H' (ds.set j d') (vs.set j v') f2 ∧ f2.Perm (f' ++ fr)
  | _, _, _, _, _, .nil, e => by cases e
  | _, _, _, 0, _, .cons (f := f) (g := g) t r, e => by
    cases e
    refine ⟨_, f, g, rfl, t, .refl _, fun W' H' d' v' f' mv h => ⟨f' ++ g, .cons h ?_, .refl _⟩⟩
    have : ∀ {ds : List D} {vs : List V} {f : List Addr}, VRs K W H ds vs f → (∀ a ∈ f, a ∈ g) → VRs K W' H' ds vs f := by
      intro ds vs f h s
      induction ds generalizing vs f with
      | nil => cases h; exact .nil
      | cons d ds ih => cases h with | cons t r => exact .cons (mv t fun a z => s a (List.mem_append_left _ z)) (ih r fun a z => s a (List.mem_append_right _ z))
    exact this r fun _ z => z
  | _, _, _, j + 1, _, .cons (f := f) (g := g) t r, e => by
    obtain ⟨v, fj, fr, h1, h2, h3, h4⟩ := VRs.split (j := j) r (by simpa using e)
    refine ⟨v, fj, f ++ fr, by simpa using h1, h2, ?_, fun W' H' d' v' f' mv h => ?_⟩
    · refine List.Perm.trans ?_ (h3.append_left f)
      rw [← List.append_assoc, ← List.append_assoc]
      exact List.perm_append_comm.append (.refl _)
    · obtain ⟨f2, k1, k2⟩ := h4 W' H' d' v' f' (fun t s => mv t fun a z => List.mem_append_right _ (s a z)) h
      refine ⟨f ++ f2, .cons (mv t fun a z => List.mem_append_left _ z) k1, (k2.append_left f).trans ?_⟩
      rw [← List.append_assoc, ← List.append_assoc]
      exact List.perm_append_comm.append (.refl _)
theorem set_self {α : Type} {l : List α} {j : Nat} {x : α} (h : l[j]? = some x) : l.set j x = l := by
  apply List.ext_getElem?
  intro k
  by_cases hj : j = k
  · subst hj
    rw [h]
    exact List.getElem?_set_self (List.getElem?_eq_some_iff.mp h).1
  · exact List.getElem?_set_ne hj
theorem ixN_pick {n : Nat} {i : Int} {j : Nat} {α : Type} {xs : List α} {x : α} (h : atI xs i = some x) : ∃ j, L2.ixN xs.length i = some j ∧ xs[j]? = some x := by
  unfold atI at h
  cases q : L2.ixN xs.length i with
  | none => rw [q] at h; cases h
  | some j => rw [q] at h; exact ⟨j, rfl, h⟩
theorem Wk.under (kk : KOK K H) : ∀ (ks : List D) {x l : D} {v u : V} {f : List Addr}, VR K W H x v f → getK x ks = some l → Wk K H v ks u → (∃ l0 x0, putK x ks l0 = some x0) → (∀ a o, H a = some o → (a ∈ f ∨ ∃ xs, o = .tup xs ∨ ∃ ob u, o = .frz ob u) → H' a = some o) → Wk K H' v ks u
  | [], x, l, v, u, f, h, e, w, _, _ => by
    cases w
    exact .nil _
  | k :: ks, x, l, v, u, f, h, e, w, ⟨l0, x0, e0⟩, keep => by
    simp only [getK] at e
    cases q : pick x k with
    | none => rw [q] at e; cases e
    | some y =>
      rw [q] at e
      dsimp only at e
      have put0 : ∀ {l' x' : D}, putK x (k :: ks) l' = some x' → ∃ y', putK y ks l' = some y' ∧ put1 x k y' = some x' := by
        intro l' x' h
        simp only [putK, q] at h
        cases z : putK y ks l' with
        | none => rw [z] at h; cases h
        | some y' => rw [z] at h; exact ⟨y', rfl, h⟩
      obtain ⟨y0, z0, z1⟩ := put0 e0
      cases w with
      | cons hs hi w' =>
        rename_i p xs i wv
        cases h with
        | own ho r =>
          rename_i vs ds fp
          have ev := own_inj kk ho hs
          subst ev
          obtain ⟨j, hj, hy⟩ := ixN_pick (n := 0) (j := 0) (show atI ds i = some y from q)
          obtain ⟨v', fj, fr, s1, s2, s3, s4⟩ := r.split hy
          have ew : wv = v' := by
            obtain ⟨j', hj', hw⟩ := ixN_pick (n := 0) (j := 0) hi
            rw [← r.length, hj] at hj'; cases hj'
            rw [s1] at hw; cases hw; rfl
          subst ew
          exact .cons (.inl (.inl (.inl (keep p _ ho (.inl List.mem_cons_self))))) hi (Wk.under kk ks s2 e w' ⟨l0, y0, z0⟩ fun a o z m => keep a o z (m.imp (fun m => List.mem_cons_of_mem _ ((s3.mem_iff).mp (List.mem_append_left _ m))) id))
        | frz _ _ _ => simp [put1] at z1
        | dicO _ _ _ => simp [put1] at z1
        | dicF _ _ _ _ => simp [put1] at z1
        | gone v => simp [pick] at q
        | tup ht r =>
          rename_i vs ds
          have ev := tup_inj kk (.of ht) hs
          subst ev
          obtain ⟨j, hj, hy⟩ := ixN_pick (n := 0) (j := 0) (show atI ds i = some y from q)
          obtain ⟨v', fj, fr, s1, s2, s3, s4⟩ := r.split hy
          have ew : wv = v' := by
            obtain ⟨j', hj', hw⟩ := ixN_pick (n := 0) (j := 0) hi
            rw [← r.length, hj] at hj'; cases hj'
            rw [s1] at hw; cases hw; rfl
          subst ew
          exact .cons (.inr (.of (keep p _ ht (.inr ⟨_, .inl rfl⟩)))) hi (Wk.under kk ks s2 e w' ⟨l0, y0, z0⟩ fun a o z m => keep a o z (m.imp (fun m => (s3.mem_iff).mp (List.mem_append_left _ m)) id))
theorem focus (kk : KOK K H) : ∀ (ks : List D) {x l : D} {v u : V} {f : List Addr}, VR K W H x v f → getK x ks = some l → Wk K H v ks u → (∃ l0 x0, putK x ks l0 = some x0) → ∃ fl fr, VR K W H l u fl ∧ (fl ++ fr).Perm f ∧
    ∀ (W' : Wr) (H' : Hp) (l' x' : D) (fl' : List Addr), putK x ks l' = some x' → VR K W' H' l' u fl' → (∀ {d : D} {v : V} {f : List Addr}, VR K W H d v f → (∀ a ∈ f, a ∈ fr) → VR K W' H' d v f) → (∀ a o, H a = some o → (a ∈ fr ∨ ∃ xs, o = .tup xs ∨ ∃ ob u, o = .frz ob u) → H' a = some o) →
      ∃ f', VR K W' H' x' v f' ∧ f'.Perm (fl' ++ fr)
  | [], x, l, v, u, f, h, e, w, _ => by
    cases e; cases w
    refine ⟨f, [], h, by simp, fun W' H' l' x' fl' e h' _ _ => ?_⟩
    cases e
    exact ⟨fl', h', by simp⟩
  | k :: ks, x, l, v, u, f, h, e, w, ⟨l0, x0, e0⟩ => by
    simp only [getK] at e
    cases q : pick x k with
    | none => rw [q] at e; cases e
    | some y =>
      rw [q] at e
      dsimp only at e
      have put0 : ∀ {l' x' : D}, putK x (k :: ks) l' = some x' → ∃ y', putK y ks l' = some y' ∧ put1 x k y' = some x' := by
        intro l' x' h
        simp only [putK, q] at h
        cases z : putK y ks l' with
        | none => rw [z] at h; cases h
        | some y' => rw [z] at h; exact ⟨y', rfl, h⟩
      obtain ⟨y0, z0, z1⟩ := put0 e0
      cases w with
      | cons hs hi w' =>
        rename_i p xs i wv
        cases h with
        | own ho r =>
          rename_i vs ds fp
          have ev := own_inj kk ho hs
          subst ev
          obtain ⟨j, hj, hy⟩ := ixN_pick (n := 0) (j := 0) (show atI ds i = some y from q)
          obtain ⟨v', fj, fr, s1, s2, s3, s4⟩ := r.split hy
          have ew : wv = v' := by
            obtain ⟨j', hj', hw⟩ := ixN_pick (n := 0) (j := 0) hi
            rw [← r.length, hj] at hj'; cases hj'
            rw [s1] at hw; cases hw; rfl
          subst ew
          obtain ⟨fl, fr2, t1, t2, t3⟩ := focus kk ks s2 e w' ⟨l0, y0, z0⟩
          refine ⟨fl, p :: (fr2 ++ fr), t1, ?_, fun W' H' l' x' fl' e2 h' mv keep => ?_⟩
          · refine List.perm_middle.trans (List.Perm.cons p ?_)
            rw [← List.append_assoc]
            exact (t2.append (.refl _)).trans s3
          · obtain ⟨y', e3, e4⟩ := put0 e2
            obtain ⟨fy, u1, u2⟩ := t3 W' H' l' y' fl' e3 h' (fun t s => mv t fun a z => List.mem_cons_of_mem _ (List.mem_append_left _ (s a z))) fun a o z m => keep a o z (m.imp (fun m => List.mem_cons_of_mem _ (List.mem_append_left _ m)) id)
            obtain ⟨f2, u3, u4⟩ := s4 W' H' y' wv fy (fun t s => mv t fun a z => List.mem_cons_of_mem _ (List.mem_append_right _ (s a z))) u1
            rw [set_self s1] at u3
            simp only [put1, hj, Option.map_some, Option.some.injEq] at e4
            subst e4
            refine ⟨p :: f2, .own (keep p _ ho (.inl List.mem_cons_self)) u3, ?_⟩
            refine List.Perm.trans ?_ List.perm_middle.symm
            refine List.Perm.cons p (u4.trans ?_)
            rw [← List.append_assoc]
            exact u2.append (.refl _)
        | frz _ _ _ => simp [put1] at z1
        | dicO _ _ _ => simp [put1] at z1
        | dicF _ _ _ _ => simp [put1] at z1
        | tup ht r =>
          rename_i vs ds
          have ev := tup_inj kk (.of ht) hs
          subst ev
          obtain ⟨j, hj, hy⟩ := ixN_pick (n := 0) (j := 0) (show atI ds i = some y from q)
          obtain ⟨v', fj, fr, s1, s2, s3, s4⟩ := r.split hy
          have ew : wv = v' := by
            obtain ⟨j', hj', hw⟩ := ixN_pick (n := 0) (j := 0) hi
            rw [← r.length, hj] at hj'; cases hj'
            rw [s1] at hw; cases hw; rfl
          subst ew
          obtain ⟨fl, fr2, t1, t2, t3⟩ := focus kk ks s2 e w' ⟨l0, y0, z0⟩
          refine ⟨fl, fr2 ++ fr, t1, ?_, fun W' H' l' x' fl' e2 h' mv keep => ?_⟩
          · rw [← List.append_assoc]
            exact (t2.append (.refl _)).trans s3
          · obtain ⟨y', e3, e4⟩ := put0 e2
            obtain ⟨fy, u1, u2⟩ := t3 W' H' l' y' fl' e3 h' (fun t s => mv t fun a z => List.mem_append_left _ (s a z)) fun a o z m => keep a o z (m.imp (List.mem_append_left _) id)
            obtain ⟨f2, u3, u4⟩ := s4 W' H' y' wv fy (fun t s => mv t fun a z => List.mem_append_right _ (s a z)) u1
            rw [set_self s1] at u3
            simp only [put1, hj, Option.map_some, Option.some.injEq] at e4
            subst e4
            refine ⟨f2, .tup (keep _ _ ht (.inr ⟨_, .inl rfl⟩)) u3, u4.trans ?_⟩
            rw [← List.append_assoc]
            exact u2.append (.refl _)
        | gone v => simp [pick] at q
end
end Hc

set_option Elab.async false
set_option linter.all false
set_option maxRecDepth 100000
set_option maxHeartbeats 2000000
namespace Hc
open PySem PySem.Spec PyProof.Rows L2
def Mu.nm : Mu → Str
  | .append => "append" | .extend => "extend" | .pop => "pop" | .popAt => "pop" | .reverse => "reverse" | .clear => "clear" | .insert => "insert" | .remove => "remove"
def Mu.id : Mu → String
  | .append => "list.append" | .extend => "list.extend" | .pop => "list.pop" | .popAt => "list.pop" | .reverse => "list.reverse" | .clear => "list.clear" | .insert => "list.insert" | .remove => "list.remove"
theorem Mu.slot (m : Mu) : Slot "list" m.nm m.id := by
  cases m
  · exact F.slot_list_append
  · exact F.slot_list_extend
  · exact F.slot_list_pop
  · exact F.slot_list_pop
  · exact F.slot_list_reverse
  · exact F.slot_list_clear
  · exact F.slot_list_insert
  · exact F.slot_list_remove
theorem Mu.ty (m : Mu) : typeOf (.builtin m.id) = pure (.type "method_descriptor") := by
  cases m
  · exact F.type_list_append
  · exact F.type_list_extend
  · exact F.type_list_pop
  · exact F.type_list_pop
  · exact F.type_list_reverse
  · exact F.type_list_clear
  · exact F.type_list_insert
  · exact F.type_list_remove
def muV (K : PySem.W.Frag) (H : Hp) : Mu → List V → List V → List V → V → Prop
  | .append, xs, vs, ys, r => ∃ y, vs = [y] ∧ xs.length < sizeLine ∧ ys = xs ++ [y] ∧ r = .non
  | .extend, xs, vs, ys, r => ∃ b zs, vs = [.ref b] ∧ FzL K H b zs ∧ xs.length + zs.length ≤ sizeLine ∧ ys = xs ++ zs ∧ r = .non
  | .pop, xs, vs, ys, r => vs = [] ∧ xs[xs.length - 1]? = some r ∧ ys = xs.dropLast
  | .popAt, xs, vs, ys, r => ∃ i k, vs = [.int i] ∧ -(2 ^ 63) ≤ i ∧ i < 2 ^ 63 ∧ seqIndex? i xs.length = some k ∧ xs[k]? = some r ∧ ys = xs.eraseIdx k
  | .reverse, xs, vs, ys, r => vs = [] ∧ ys = xs.reverse ∧ r = .non
  | .clear, xs, vs, ys, r => vs = [] ∧ ys = [] ∧ r = .non
  | .insert, xs, vs, ys, r => ∃ i y, vs = [.int i, y] ∧ xs.length < sizeLine ∧ 0 ≤ i ∧ i < 2 ^ 63 ∧ ys = xs.take i.toNat ++ [y] ++ xs.drop i.toNat ∧ r = .non
  | .remove, xs, vs, ys, r => ∃ (ns : List Int) (k : Int) (j : Nat), vs = [.int k] ∧ xs = ns.map V.int ∧ ns[j]? = some k ∧ (∀ m : Nat, m < j → ns[m]? ≠ some k) ∧ ys = xs.eraseIdx j ∧ r = .non
def rMu (K : PySem.W.Frag) (m : Mu) : V → List V → Hp → VK → Prop := fun x vs H Q => KOK K H → ∃ l xs ys r, x = .ref l ∧ H l = some (.lst xs) ∧ muV K H m xs vs ys r ∧ Q r (upd H l (.lst ys))
theorem ers_map {α β : Type} (f : α → β) : ∀ (l : List α) (j : Nat), (l.map f).eraseIdx j = (l.eraseIdx j).map f
  | [], _ => rfl
  | _ :: _, 0 => rfl
  | a :: l, j + 1 => by simp only [List.map_cons, List.eraseIdx_cons_succ, ers_map f l j]
section
variable {X : Cx} {E : XW} {a b c e : Expr} {A B C : CE} {ra rb rc r : Slots → R D} {sh : Bool} {pos p apos cpos : Pos}
theorem mtMu (m : Mu) : MtR X m.id (rMu X.K m) := by
  intro pins s σ H x vs v us Q I rx rv h
  obtain ⟨l, xs, ys, r, rfl, hH, hm, q⟩ := h (kok I)
  cases m with
  | append =>
    obtain ⟨y, rfl, hz, rfl, rfl⟩ := hm
    exact mt_append pins s σ H _ _ v us Q I rx rv ⟨l, xs, y, rfl, rfl, hH, hz, q⟩
  | extend =>
    obtain ⟨b, zs, rfl, hB, hz, rfl, rfl⟩ := hm
    cases rx
    obtain ⟨u, rfl, ru⟩ := rv.one
    cases ru
    obtain ⟨z, its, n, r, hl, e⟩ := I.lstM hH
    obtain ⟨z2, its2, n2, r2, hl2, e2⟩ := hB.at I
    have hsz : its.toArray.size + its2.toArray.size ≤ sizeLine := by rw [List.size_toArray, List.size_toArray, ← hl, ← hl2]; exact hz
    have hlong : ¬ (!its.toArray.isEmpty && Builtin.List.listTooLong (its.toArray.size + its2.toArray.size)) = true := by
      rw [notLongL hsz, Bool.and_false]
      exact Bool.false_ne_true
    refine call_meets F.slot_list_extend ⟨_, e, rfl⟩ F.entry_list_extend (F.args_list_extend_2 _ _)
      (AutoSeq1.list_extend_list_list_0 l its.toArray n b its2.toArray n2 hlong (by rw [List.size_toArray, ← hl]; exact z) (by omega)) ⟨e, e2, ?_⟩
    exact ⟨.non, _, I.lset (its' := its ++ its2) hH e (by simp) (r.append r2) (by rw [List.length_append]; exact hz), rfl, q⟩
  | pop =>
    obtain ⟨rfl, hy, rfl⟩ := hm
    exact mt_pop pins s σ H _ _ v us Q I rx rv ⟨l, xs, r, rfl, rfl, hH, hy, q⟩
  | popAt =>
    obtain ⟨i, k, rfl, h1, h2, hk, hy, rfl⟩ := hm
    exact mt_popAt pins s σ H _ _ v us Q I rx rv ⟨l, xs, i, k, r, rfl, rfl, hH, h1, h2, hk, hy, q⟩
  | reverse =>
    obtain ⟨rfl, rfl, rfl⟩ := hm
    exact mt_reverse pins s σ H _ _ v us Q I rx rv ⟨l, xs, rfl, rfl, hH, q⟩
  | clear =>
    obtain ⟨rfl, rfl, rfl⟩ := hm
    exact mt_clear pins s σ H _ _ v us Q I rx rv ⟨l, xs, rfl, rfl, hH, q⟩
  | insert =>
    obtain ⟨i, y, rfl, hz, h1, h2, rfl, rfl⟩ := hm
    exact mt_insert pins s σ H _ _ v us Q I rx rv ⟨l, xs, i, y, rfl, rfl, hH, hz, h1, h2, q⟩
  | remove =>
    obtain ⟨ns, k, j, rfl, rfl, h1, h2, rfl, rfl⟩ := hm
    have e : (ns.map V.int).eraseIdx j = (ns.eraseIdx j).map V.int := ers_map V.int ns j
    rw [e] at q
    exact mt_remove pins s σ H _ _ v us Q I rx rv ⟨l, ns, k, j, rfl, rfl, hH, h1, h2, q⟩
end
section
variable {K : PySem.W.Frag} {W W' : Wr} {H H' : Hp} {F g fp f fp2 : List Addr} {sh : Bool} {d : D} {v : V}
theorem VRs.snoc {ds : List D} {vs : List V} {f g : List Addr} (h : VRs K W H ds vs f) (t : VR K W H d v g) : ∃ f', VRs K W H (ds ++ [d]) (vs ++ [v]) f' ∧ f'.Perm (f ++ g) := ⟨f ++ (g ++ []), h.app (.cons t .nil), by simp⟩
theorem VRs.last : ∀ {ds : List D} {vs : List V} {f : List Addr} {d : D}, VRs K W H ds vs f → ds[ds.length - 1]? = some d → ∃ v fl fr, vs[vs.length - 1]? = some v ∧ VR K W H d v fl ∧ VRs K W H ds.dropLast vs.dropLast fr ∧ (fl ++ fr).Perm f
  | _, _, _, _, .nil, e => by cases e
  | _, _, _, _, .cons (f := f) t .nil, e => by
    cases e
    exact ⟨_, f, [], rfl, t, .nil, .refl _⟩
  | _, _, _, _, .cons (f := f) t (.cons t2 r), e => by
    obtain ⟨v, fl, fr, h1, h2, h3, h4⟩ := VRs.last (.cons t2 r) e
    refine ⟨v, fl, f ++ fr, h1, h2, .cons t h3, ?_⟩
    refine List.Perm.trans ?_ (h4.append_left f)
    rw [← List.append_assoc, ← List.append_assoc]
    exact List.perm_append_comm.append (.refl _)
theorem VRs.erase : ∀ {ds : List D} {vs : List V} {f : List Addr} {d : D} {k : Nat}, VRs K W H ds vs f → ds[k]? = some d → ∃ v fl fr, vs[k]? = some v ∧ VR K W H d v fl ∧ VRs K W H (ds.eraseIdx k) (vs.eraseIdx k) fr ∧ (fl ++ fr).Perm f
  | _, _, _, _, _, .nil, e => by cases e
  | _, _, _, _, 0, .cons (f := f) (g := g) t r, e => by
    cases e
    exact ⟨_, f, g, rfl, t, r, .refl _⟩
  | _, _, _, _, k + 1, .cons (f := f) t r, e => by
    obtain ⟨v, fl, fr, h1, h2, h3, h4⟩ := VRs.erase (k := k) r (by simpa using e)
    refine ⟨v, fl, f ++ fr, by simpa using h1, h2, .cons t h3, ?_⟩
    refine List.Perm.trans ?_ (h4.append_left f)
    rw [← List.append_assoc, ← List.append_assoc]
    exact List.perm_append_comm.append (.refl _)
theorem VRs.rev : ∀ {ds : List D} {vs : List V} {f : List Addr}, VRs K W H ds vs f → ∃ f', VRs K W H ds.reverse vs.reverse f' ∧ f'.Perm f
  | _, _, _, .nil => ⟨[], .nil, .refl _⟩
  | _, _, _, .cons (f := f) t r => by
    obtain ⟨f', h1, h2⟩ := r.rev
    rw [List.reverse_cons, List.reverse_cons]
    obtain ⟨f2, h3, h4⟩ := h1.snoc t
    exact ⟨f2, h3, h4.trans ((h2.append_right f).trans List.perm_append_comm)⟩
theorem VRs.part : ∀ {ds : List D} {vs : List V} {f : List Addr} (n : Nat), VRs K W H ds vs f → ∃ f1 f2, VRs K W H (ds.take n) (vs.take n) f1 ∧ VRs K W H (ds.drop n) (vs.drop n) f2 ∧ f1 ++ f2 = f
  | _, _, f, 0, h => ⟨[], f, .nil, h, rfl⟩
  | _, _, _, _ + 1, .nil => ⟨[], [], .nil, .nil, rfl⟩
  | _, _, _, n + 1, .cons (f := f) t r => by
    obtain ⟨f1, f2, h1, h2, h3⟩ := VRs.part n r
    exact ⟨f ++ f1, f2, .cons t h1, h2, by rw [List.append_assoc, h3]⟩
theorem VRs.intsL : ∀ {ds : List D} {vs : List V} {f : List Addr} {ns : List Int}, VRs K W H ds vs f → intsOf ds = some ns → vs = ns.map V.int := fun r h => r.ints h
theorem muD {m : Mu} {o : Bool} {ds ys : List D} {xs vs : List V} {fd fa : List Addr} {l' r : D} (hd : VRs K W H ds xs fd) (hy : VRs K W H ys vs fa) (hm : muop m (.lst o ds) ys = some (l', r)) :
    o = true ∧ ∃ ds' xs' rv f' fr, l' = .lst true ds' ∧ muV K H m xs vs xs' rv ∧ VRs K W H ds' xs' f' ∧ VR K W H r rv fr ∧ (∀ a ∈ fr ++ f', a ∈ fa ++ fd) ∧ ((fa ++ fd).Nodup → (fr ++ f').Nodup) := by
  have sw : ∀ {a b : List Addr}, (a ++ b).Nodup → (b ++ a).Nodup := fun h => (List.perm_append_comm.nodup_iff).mp h
  unfold muop at hm
  split at hm
  · cases ‹D.lst o ds = D.lst true _›
    split at hm
    · rename_i hz
      cases hm
      cases hy with
      | cons t r =>
        cases r
        obtain ⟨f', h1, h2⟩ := hd.snoc t
        refine ⟨rfl, _, _, _, f', [], rfl, ⟨_, rfl, by rw [← hd.length, szEq]; exact hz, rfl, rfl⟩, h1, .non, fun a ha => ?_, fun hn => ?_⟩
        · have z := (h2.mem_iff).mp (by simpa using ha)
          exact (List.mem_append.mp z).elim (List.mem_append_right _) fun z => List.mem_append_left _ (by simpa using z)
        · exact (h2.nodup_iff).mpr (sw (by simpa using hn))
    · cases hm
  · cases ‹D.lst o ds = D.lst true _›
    split at hm
    · rename_i hz
      cases hm
      cases hy with
      | cons t r =>
        cases r
        obtain ⟨b, zs, fz, rfl, hB, rz, s1, n1⟩ := t.lstOf
        refine ⟨rfl, _, _, _, fd ++ fz, [], rfl, ⟨b, zs, rfl, hB, by rw [← hd.length, ← rz.length, szEq]; exact hz, rfl, rfl⟩, hd.app rz, .non, fun a ha => ?_, fun hn => ?_⟩
        · exact (List.mem_append.mp (by simpa using ha : a ∈ fd ++ fz)).elim (List.mem_append_right _) fun z => List.mem_append_left _ (List.mem_append_left _ (s1 a z))
        · have hn := sw hn
          obtain ⟨h1, h2, h3⟩ := List.nodup_append.mp hn
          show (fd ++ fz).Nodup
          exact List.nodup_append.mpr ⟨h1, n1 (by simpa using h2), fun a ha b hb => h3 a ha b (List.mem_append_left _ (s1 b hb))⟩
    · cases hm
  · cases ‹D.lst o ds = D.lst true _›
    obtain ⟨y, hy', he⟩ := Option.map_eq_some_iff.mp hm
    cases he
    cases hy
    obtain ⟨v, fl, fr, h1, h2, h3, h4⟩ := hd.last hy'
    exact ⟨rfl, _, _, v, fr, fl, rfl, ⟨rfl, h1, rfl⟩, h3, h2, fun a ha => by simpa using (h4.mem_iff).mp ha, fun hn => (h4.nodup_iff).mpr (by simpa using hn)⟩
  · cases ‹D.lst o ds = D.lst true _›
    split at hm
    · rename_i hz
      cases q : seqIndex? _ ds.length with
      | none => rw [q] at hm; cases hm
      | some k =>
        rw [q] at hm
        obtain ⟨y, hy', he⟩ := Option.map_eq_some_iff.mp hm
        cases he
        cases hy with
        | cons t r =>
          cases r; cases t
          obtain ⟨v, fl, fr, h1, h2, h3, h4⟩ := hd.erase hy'
          exact ⟨rfl, _, _, v, fr, fl, rfl, ⟨_, k, rfl, hz.1, hz.2, by rw [← hd.length]; exact q, h1, rfl⟩, h3, h2, fun a ha => by simpa using (h4.mem_iff).mp ha, fun hn => (h4.nodup_iff).mpr (by simpa using hn)⟩
    · cases hm
  · cases ‹D.lst o ds = D.lst true _›
    cases hm
    cases hy
    obtain ⟨f', h1, h2⟩ := hd.rev
    exact ⟨rfl, _, _, _, f', [], rfl, ⟨rfl, rfl, rfl⟩, h1, .non, fun a ha => by simpa using (h2.mem_iff).mp (by simpa using ha), fun hn => by simpa using (h2.nodup_iff).mpr (by simpa using hn)⟩
  · cases ‹D.lst o ds = D.lst true _›
    cases hm
    cases hy
    exact ⟨rfl, _, _, _, [], [], rfl, ⟨rfl, rfl, rfl⟩, .nil, .non, fun a ha => (by simp at ha), fun _ => List.nodup_nil⟩
  · cases ‹D.lst o ds = D.lst true _›
    split at hm
    · rename_i hz
      cases hm
      cases hy with
      | cons t0 r =>
        cases t0
        cases r with
        | cons t r =>
          cases r
          rename_i i y _ fy
          obtain ⟨f1, f2, h1, h2, rfl⟩ := hd.part i.toNat
          have q := (h1.app (.cons t .nil)).app h2
          have pm : ((f1 ++ (fy ++ [])) ++ f2).Perm (([] ++ (fy ++ [])) ++ (f1 ++ f2)) := List.perm_iff_count.mpr fun z => by
            simp only [List.count_append, List.count_nil]
            omega
          exact ⟨rfl, _, _, _, _, [], rfl, ⟨i, _, rfl, by rw [← hd.length, szEq]; exact hz.1, hz.2.1, hz.2.2, rfl, rfl⟩, q, .non, fun a ha => (pm.mem_iff).mp (by simpa using ha), fun hn => by simpa using (pm.nodup_iff).mpr (by simpa using hn)⟩
    · cases hm
  · cases ‹D.lst o ds = D.lst true _›
    obtain ⟨ns, hn, hm⟩ := Option.bind_eq_some_iff.mp hm
    obtain ⟨j, hj, he⟩ := Option.map_eq_some_iff.mp hm
    cases he
    cases hy with
    | cons t r =>
      cases r; cases t
      rename_i k _
      have ex := hd.ints hn
      subst ex
      obtain ⟨j1, j2, j3⟩ := List.findIdx?_eq_some_iff_getElem.mp hj
      have lz : ns.length = ds.length := by have := hd.length; rw [List.length_map] at this; exact this.symm
      have hk : ns[j]? = some k := by simp only [List.getElem?_eq_getElem j1, Option.some.injEq]; simpa using j2
      have hlt : j < ds.length := by omega
      obtain ⟨v, fl, fr, h1, h2, h3, h4⟩ := hd.erase (k := j) (d := ds[j]) (by simp [hlt])
      refine ⟨rfl, _, _, _, fr, [], rfl, ⟨ns, k, j, rfl, rfl, hk, fun m hm e => ?_, rfl, rfl⟩, h3, .non, fun a ha => by simpa using (h4.mem_iff).mp (List.mem_append_right fl (by simpa using ha)), fun hn => by
        have z := (h4.nodup_iff).mpr (by simpa using hn)
        simpa using (List.nodup_append.mp z).2.1⟩
      have hml : m < ns.length := by omega
      have := j3 m hm
      rw [List.getElem?_eq_getElem hml] at e
      cases e
      simp at this
  · cases hm
theorem muop_lst {m : Mu} {l : D} {ys : List D} {p : D × D} (h : muop m l ys = some p) : ∃ ds, l = .lst true ds := by
  unfold muop at h
  split at h <;> first | exact ⟨_, rfl⟩ | cases h
end
section
variable {X : Cx} {E : XW} {a o e : Expr} {A B C : CE} {ra rb rc ro r : Slots → R D} {sh : Bool} {pos p apos cpos : Pos}
theorem VR.hop {K : PySem.W.Frag} {W : Wr} {H : Hp} {a : Addr} {u : HO} (hw : Wok W H) (ha : W a) {d : D} {v : V} {f : List Addr} (h : VR K W H d v f) (n : a ∉ f) : VR K W (upd H a u) d v f :=
  VR.move (g := f) (fun b hb o e => (upd_ne (by rintro rfl; exact n hb)).trans e) (fun b o e w => ⟨(upd_ne (by rintro rfl; exact w ha)).trans e, w⟩) (fun _ _ _ w => w) hw h fun _ z => z
theorem VRs.hop {K : PySem.W.Frag} {W : Wr} {H : Hp} {a : Addr} {u : HO} (hw : Wok W H) (ha : W a) {d : List D} {v : List V} {f : List Addr} (h : VRs K W H d v f) (n : a ∉ f) : VRs K W (upd H a u) d v f :=
  VRs.move (g := f) (fun b hb o e => (upd_ne (by rintro rfl; exact n hb)).trans e) (fun b o e w => ⟨(upd_ne (by rintro rfl; exact w ha)).trans e, w⟩) (fun _ _ _ w => w) hw h fun _ z => z
theorem ER.hop {K : PySem.W.Frag} {W : Wr} {H : Hp} {a : Addr} {u : HO} (hw : Wok W H) (ha : W a) {d : Slots} {v : L2.St} {f : List Addr} (h : ER K W H d v f) (n : a ∉ f) : ER K W (upd H a u) d v f :=
  ER.move (g := f) (fun b hb o e => (upd_ne (by rintro rfl; exact n hb)).trans e) (fun b o e w => ⟨(upd_ne (by rintro rfl; exact w ha)).trans e, w⟩) (fun _ _ _ w => w) hw h fun _ z => z
theorem muEnd {W : Wr} {H : Hp} {fa g : List Addr} {env : Slots} {σ : L2.St} {i : Nat} {ks ys : List D} {vs : List V} {v0 u : V} {m : Mu} {Q : VK} (P : Pre X.K W H env σ fa g) (hy : VRs X.K W H ys vs fa) (hs : σ[i]? = some (some v0)) (hk : Wk X.K H v0 ks u)
    (post : Post X.K (VR X.K) E false W H (fa ++ g) σ (cMuEnd m i ks ys env) Q) : rMu X.K m u vs H Q := by
  intro kk
  unfold cMuEnd at post
  obtain ⟨x, hx, post⟩ := post_lift post
  obtain ⟨l, hl, post⟩ := post_lift post
  obtain ⟨p, hp, post⟩ := post_lift post
  obtain ⟨x', hx', post⟩ := post_lift post
  obtain ⟨v, f, g', h1, h2, h3, h4⟩ := P.er.take hx
  rw [hs] at h1; cases h1
  obtain ⟨ds, rfl⟩ := muop_lst hp
  obtain ⟨fl, fr, t1, t2, t3⟩ := focus kk ks h2 hl hk ⟨_, _, hx'⟩
  cases t1 with
  | own hH hd =>
    rename_i a xs fd
    obtain ⟨l', r⟩ := p
    obtain ⟨_, ds', xs', rv, f', fr2, rfl, hmv, hd', hr, s1, n1⟩ := muD hd hy hp
    have pm : (fa ++ g).Perm ((fa ++ fd) ++ (a :: (fr ++ g'))) := List.perm_iff_count.mpr fun z => by
      have e1 := h4.count_eq z
      have e2 := t2.count_eq z
      simp only [List.count_append, List.count_cons] at e1 e2 ⊢
      omega
    have nd := (pm.nodup_iff).mp P.nd
    obtain ⟨nd1, nd2, nd3⟩ := List.nodup_append.mp nd
    obtain ⟨na, nd2'⟩ := List.nodup_cons.mp nd2
    have sub : ∀ b ∈ (fa ++ fd) ++ (a :: (fr ++ g')), b ∈ fa ++ g := fun b hb => (pm.mem_iff).mpr hb
    have aIn : a ∈ fa ++ g := sub a (List.mem_append_right _ List.mem_cons_self)
    have wa : W a := P.inW a aIn
    have na2 : a ∉ fr2 ++ f' := fun z => nd3 a (s1 a z) a List.mem_cons_self rfl
    refine ⟨a, xs, xs', rv, rfl, hH, hmv, ?_⟩
    have own' : VR X.K W (upd H a (.lst xs')) (.lst true ds') (.ref a) (a :: f') := .own upd_same (hd'.hop P.wok wa fun z => na2 (List.mem_append_right _ z))
    obtain ⟨f2, k1, k2⟩ := t3 W (upd H a (.lst xs')) _ _ _ hx' own' (fun t s => t.hop P.wok wa fun z => na (List.mem_append_left _ (s a z))) fun b o eb hb => by
      refine (upd_ne ?_).trans eb
      rintro rfl
      rcases hb with hb | ⟨ys, rfl | ⟨ob, u, rfl⟩⟩
      · exact na (List.mem_append_left _ hb)
      · rw [hH] at eb; cases eb
      · rw [hH] at eb; cases eb
    have lt := at_lt hx
    obtain ⟨g3, e3, p3⟩ := (h3.hop (u := .lst xs') P.wok wa fun z => na (List.mem_append_right _ z)).put (i := i) (by rw [at_set lt]) (by simpa using lt) hs k1
    rw [List.set_set] at e3
    have pm2 : (fr2 ++ g3).Perm ((fr2 ++ f') ++ (a :: (fr ++ g'))) := List.perm_iff_count.mpr fun z => by
      have e1 := p3.count_eq z
      have e2 := k2.count_eq z
      simp only [List.count_append, List.count_cons] at e1 e2 ⊢
      omega
    have t : Tr X.K false W H (fa ++ g) W (upd H a (.lst xs')) (fr2 ++ g3) := by
      refine Tr.chg P.wok aIn P.inW trivial (fun b hb => sub b ?_) ?_
      · rcases List.mem_append.mp ((pm2.mem_iff).mp hb) with z | z
        · exact List.mem_append_left _ (s1 b z)
        · exact List.mem_append_right _ z
      · exact (pm2.nodup_iff).mpr (List.nodup_append.mpr ⟨n1 nd1, nd2, fun b hb c hc => nd3 b (s1 b hb) c hc⟩)
    exact post W _ rv fr2 g3 t (hr.hop P.wok wa fun z => na2 (List.mem_append_left _ z)) e3
theorem VR.sqL {K : PySem.W.Frag} {W : Wr} {H : Hp} {d : D} {v : V} {f : List Addr} (h : VR K W H d v f) (e : isL (some d) = true) : tyV K "list" v H := by
  cases h <;> first | (cases e; done) | skip
  · rename_i q t
    exact .inl ⟨rfl, _, SqL.of q⟩
  · rename_i q t n
    exact .inl ⟨rfl, _, q.sq⟩
def MonoE (t : TE) : Prop := ∀ (σ : L2.St) (H : Hp) (Q Q' : VK), (∀ v H, Q v H → Q' v H) → t σ H Q → t σ H Q'
theorem peBM {m : Mu} {to : TE} {es : List Expr} {cs : List CE} {rs : List (Slots → R D)} (ho : PE X o to) (mo : MonoE to) (s : Snds X E es cs rs) (hl : es.length ≤ 2) (hs : ∀ x ∈ es, ∀ y p, x ≠ .Starred y p) (hbase : attributeBase o m.nm X.env (eval o X.env) = eval o X.env) (hline : (apos.endLine == cpos.line) = true) :
    PE X (.Call (.Attribute o m.nm apos) es [] cpos) (tBM X.K "list" (rMu X.K m) to (tA X.K E (calms cs) (seqE rs))) := by
  have hA := paSeq s
  cases s with
  | nil =>
    refine pe_imp (pe_bm0 F.plainAttrs_list m.slot m.ty (mtMu m) ho hbase hline) fun σ H Q h => mo _ _ _ _ (fun v H1 z => ⟨z.1, ?_⟩) h
    obtain ⟨W, env, g, P, post⟩ := z.2
    exact P.done (f := []) (Ra := VRs X.K) post .nil (by simp)
  | cons s1 sn s2 =>
    cases s2 with
    | nil =>
      rename_i e1 c1 r1
      have h1 := noStar (X := X) [] (hs e1 List.mem_cons_self)
      exact pe_bm F.plainAttrs_list m.slot m.ty (mtMu m) ho hA hbase (by rw [h1]; rfl) hline h1 (spl_one (X := X) [] fun x hx => by cases hx)
    | cons s2 sn2 s3 =>
      cases s3 with
      | nil =>
        rename_i e1 c1 r1 e2 c2 r2
        have h2 := noStar (X := X) [] (hs e2 (List.mem_cons_of_mem _ List.mem_cons_self))
        have h1 := noStar (X := X) [e2] (hs e1 List.mem_cons_self)
        exact pe_bm F.plainAttrs_list m.slot m.ty (mtMu m) ho hA hbase (by rw [h1, h2]; rfl) hline h1 (spl_one (X := X) [e2] fun x hx => by rw [List.mem_singleton.mp hx]; exact hs e2 (List.mem_cons_of_mem _ List.mem_cons_self))
      | cons _ _ _ => simp at hl
theorem monoVar (i : Nat) : MonoE (tVar i) := by
  intro σ H Q Q' k h
  obtain ⟨v, e, q⟩ := h
  exact ⟨v, e, k _ _ q⟩
theorem monoW {K : PySem.W.Frag} (c : CE) : MonoE (tW K c) := by
  intro σ H Q Q' k h
  obtain ⟨W, env, g, i, ks, x, d, P, e1, e2, e3, q⟩ := h
  exact ⟨W, env, g, i, ks, x, d, P, e1, e2, e3, fun v0 u f h1 h2 h3 => k _ _ (q v0 u f h1 h2 h3)⟩
theorem peMu {m : Mu} {es : List Expr} {cs : List CE} {rs : List (Slots → R D)} (so : Snd X E o C ro) (s : Snds X E es cs rs) (hl : es.length ≤ 2) (hs : ∀ x ∈ es, ∀ y p, x ≠ .Starred y p) (hbase : attributeBase o m.nm X.env (eval o X.env) = eval o X.env) (hline : (apos.endLine == cpos.line) = true) :
    PE X (.Call (.Attribute o m.nm apos) es [] cpos) (tE X.K E false (cMu m C cs rs)) := by
  refine pe_any fun σ H Q h => ?_
  obtain ⟨W, env, g, P, h⟩ := h
  have args : ∀ {W H env g i ks v0 u}, Pre X.K W H env σ [] g → σ[i]? = some (some v0) → (Wk X.K H v0 ks u ∧ (ks = [] ∨ calms cs = true)) → Post X.K (VR X.K) E false W H g σ ((seqE rs env).bind fun ys e => cMuEnd m i ks ys e) Q →
      tA X.K E (calms cs) (seqE rs) σ H fun vs H2 => rMu X.K m u vs H2 fun v H' => KOK X.K H' → Q v H' := by
    intro W H env g i ks v0 u P hv hw post
    refine ⟨W, env, g, P, ?_⟩
    have post : Post X.K (VR X.K) E (calms cs && false) W H ([] ++ g) σ ((seqE rs env).bind fun ys e => cMuEnd m i ks ys e) Q := by rw [Bool.and_false]; exact post
    refine Post.mono (P.run (Ra := VRs X.K) post) ?_
    rintro vs H2 ⟨ys, e', W', f', g', _, l, P', t, post2⟩
    simp only [List.nil_append] at P' post2
    have w2 : Wk X.K H2 v0 ks u := by
      rcases hw.2 with rfl | hc
      · cases hw.1
        exact .nil _
      · exact hw.1.keep fun a o e => t.keep a o e (.inr hc)
    intro kk
    obtain ⟨l', xs, ys', r, h1, h2, h3, h4⟩ := muEnd P' l hv w2 post2 kk
    exact ⟨l', xs, ys', r, h1, h2, h3, fun _ => h4⟩
  unfold cMu at h
  split at h
  · rename_i i
    split at h
    · rename_i hi
      refine ⟨_, peBM (so.nm i rfl) (monoVar i) s hl hs hbase hline, ?_⟩
      cases q : env.at i with
      | none => rw [q] at hi; cases hi
      | some d =>
        rw [q] at hi
        obtain ⟨v, f, hv, hd⟩ := tVar_of P q
        exact ⟨v, hv, hd.sqL hi, args P hv ⟨.nil v, .inl rfl⟩ h⟩
    · exact h.elim
  · split at h
    · rename_i hcs
      cases q : pathOf C env with
      | none => rw [q] at h; exact h.elim
      | some p =>
        obtain ⟨i, ks⟩ := p
        rw [q] at h
        dsimp only at h
        split at h
        · rename_i hi
          cases q1 : env.at i with
          | none => rw [q1] at hi; cases hi
          | some x =>
            rw [q1] at hi
            dsimp only [Option.bind_some] at hi
            cases q2 : getK x ks with
            | none => rw [q2] at hi; cases hi
            | some d =>
              rw [q2] at hi
              exact ⟨_, peBM so.pw (monoW C) s hl hs hbase hline, W, env, g, i, ks, x, d, P, q, q1, q2, fun v0 u f hv hw hd => ⟨hd.sqL hi, args P hv ⟨hw, .inr hcs⟩ h⟩⟩
        · exact h.elim
    · exact h.elim
end
end Hc

set_option Elab.async false
set_option linter.all false
set_option maxRecDepth 100000
set_option maxHeartbeats 2000000
namespace Hc
open PySem PySem.Spec PyProof.Rows L2
theorem pi_imp {X : Cx} {tg e : Expr} {t t' : TI} (h : PI X tg e t) (k : ∀ σ H R, t' σ H R → t σ H R) : PI X tg e t' := ⟨fun pins s σ H R I q => h.run pins s σ H R I (k σ H R q)⟩
theorem pi_any {X : Cx} {tg e : Expr} {t : TI} (h : ∀ σ H R, t σ H R → ∃ u : TI, PI X tg e u ∧ u σ H fun J H' => KOK X.K H' → R J H') : PI X tg e t := ⟨fun pins s σ H R I q => by
  obtain ⟨u, hu, r⟩ := h σ H R q
  refine thn (hu.run pins s σ H _ I r) fun v s1 w => thn w fun itv s2 ⟨it, fp, tn, J, H', e, I', T, st, f, k⟩ => ⟨it, fp, tn, J, H', e, I', T, st, f, k (kok I')⟩⟩
mutual
theorem same_eq : ∀ {d e : D}, D.same d e = true → d = e
  | .non, .non, _ => rfl
  | .bl a, .bl b, h => by simp only [D.same, beq_iff_eq] at h; rw [h]
  | .int a, .int b, h => by simp only [D.same, beq_iff_eq] at h; rw [h]
  | .str a, .str b, h => by simp only [D.same, decide_eq_true_eq] at h; rw [h]
  | .tup a, .tup b, h => by simp only [D.same] at h; rw [sames_eq h]
  | .lst o a, .lst p b, h => by simp only [D.same, Bool.and_eq_true, beq_iff_eq] at h; rw [h.1, sames_eq h.2]
  | .dic o t a c, .dic p u b e, h => by simp only [D.same, Bool.and_eq_true, beq_iff_eq] at h; rw [h.1.1.1, h.1.1.2, sames_eq h.1.2, sames_eq h.2]
  | .obj o a c e, .obj p b f g, h => by simp only [D.same, Bool.and_eq_true, beq_iff_eq, decide_eq_true_eq] at h; rw [h.1.1.1, h.1.1.2, h.1.2, sames_eq h.2]
  | .non, .bl _, h | .non, .int _, h | .non, .str _, h | .non, .gone, h | .non, .tup _, h | .non, .lst _ _, h | .non, .dic _ _ _ _, h | .non, .obj _ _ _ _, h => by cases h
  | .bl _, .non, h | .bl _, .int _, h | .bl _, .str _, h | .bl _, .gone, h | .bl _, .tup _, h | .bl _, .lst _ _, h | .bl _, .dic _ _ _ _, h | .bl _, .obj _ _ _ _, h => by cases h
  | .int _, .non, h | .int _, .bl _, h | .int _, .str _, h | .int _, .gone, h | .int _, .tup _, h | .int _, .lst _ _, h | .int _, .dic _ _ _ _, h | .int _, .obj _ _ _ _, h => by cases h
  | .str _, .non, h | .str _, .bl _, h | .str _, .int _, h | .str _, .gone, h | .str _, .tup _, h | .str _, .lst _ _, h | .str _, .dic _ _ _ _, h | .str _, .obj _ _ _ _, h => by cases h
  | .gone, .non, h | .gone, .bl _, h | .gone, .int _, h | .gone, .str _, h | .gone, .gone, h | .gone, .tup _, h | .gone, .lst _ _, h | .gone, .dic _ _ _ _, h | .gone, .obj _ _ _ _, h => by cases h
  | .tup _, .non, h | .tup _, .bl _, h | .tup _, .int _, h | .tup _, .str _, h | .tup _, .gone, h | .tup _, .lst _ _, h | .tup _, .dic _ _ _ _, h | .tup _, .obj _ _ _ _, h => by cases h
  | .lst _ _, .non, h | .lst _ _, .bl _, h | .lst _ _, .int _, h | .lst _ _, .str _, h | .lst _ _, .gone, h | .lst _ _, .tup _, h | .lst _ _, .dic _ _ _ _, h | .lst _ _, .obj _ _ _ _, h => by cases h
  | .dic _ _ _ _, .non, h | .dic _ _ _ _, .bl _, h | .dic _ _ _ _, .int _, h | .dic _ _ _ _, .str _, h | .dic _ _ _ _, .gone, h | .dic _ _ _ _, .tup _, h | .dic _ _ _ _, .lst _ _, h | .dic _ _ _ _, .obj _ _ _ _, h => by cases h
  | .obj _ _ _ _, .non, h | .obj _ _ _ _, .bl _, h | .obj _ _ _ _, .int _, h | .obj _ _ _ _, .str _, h | .obj _ _ _ _, .gone, h | .obj _ _ _ _, .tup _, h | .obj _ _ _ _, .lst _ _, h | .obj _ _ _ _, .dic _ _ _ _, h => by cases h
theorem sames_eq : ∀ {d e : List D}, sames d e = true → d = e
  | [], [], _ => rfl
  | x :: xs, y :: ys, h => by simp only [sames, Bool.and_eq_true] at h; rw [same_eq h.1, sames_eq h.2]
  | [], _ :: _, h | _ :: _, [], h => by cases h
end
section
variable {X : Cx} {E : XW} {a b o e : Expr} {A B C : CE} {ra rb rc ro r : Slots → R D} {sh : Bool} {pos p apos cpos : Pos}
theorem okMv {i : Nat} {x : Str} (hN : X.N[i]? = some x) (hv : Vis X.env.scope x) (h1 : (x == ("__debug__" : Str)) = false) (h2 : (x == ("__classdict__" : Str)) = false) : Snd X E (.Name x pos) (.mv i) (cMv i) := by
  refine Snd.mk1 ?_ (fun _ => rfl) (fun _ => rfl) (fun _ z => by cases z)
  refine pe_imp (pe_var hN hv h1 h2) ?_
  rintro σ H Q ⟨W, env, g, P, h⟩
  unfold cMv at h
  cases q : env.at i with
  | none => rw [q] at h; exact h.elim
  | some d =>
    rw [q] at h
    obtain ⟨v, f, g', h1, h2, h3, h4⟩ := P.er.take q
    refine ⟨v, h1, h W H v f g' ?_ h2 h3⟩
    exact Tr.same P.wok (fun a z => (h4.mem_iff).mp z) (fun a z => P.gw a ((h4.mem_iff).mp z)) ((h4.nodup_iff).mpr P.base.nd)
theorem okOw (s : Snd X E e C r) : Snd X E e (.ow C) r := Snd.mk1 s.pe (fun _ => rfl) (fun _ => rfl) fun _ z => by cases z
theorem okFz (s : Snd X E e C r) : Snd X E e (.fzE C) (cFz r) := by
  refine Snd.mk1 (pe_imp s.pe ?_) (fun _ => rfl) (fun _ => rfl) fun _ z => by cases z
  rintro σ H Q ⟨W, env, g, P, h⟩
  refine ⟨W, env, g, P, ?_⟩
  have h : Post X.K (VR X.K) E (C.calm && true) W H ([] ++ g) σ ((r env).bind fun d e => .ok d.fz e) Q := by rw [Bool.and_true]; exact h
  refine Post.mono (P.run (Ra := VR X.K) h) ?_
  rintro v H' ⟨d, e', W', f', g', _, l, P', t, post⟩
  simp only [List.nil_append] at P' post
  let W2 : Wr := fun a => W' a ∧ a ∉ f'
  have hz : VR X.K W2 H' d.fz v [] := VR.fzd P'.wok (fun a w => w.1) l fun a ha w => w.2 ha
  have e2 : ER X.K W2 H' e' σ g' := ER.less P'.wok (fun a w => w.1) P'.er
  have t2 : Tr X.K true W' H' (f' ++ g') W2 H' ([] ++ g') := Tr.let P'.wok (fun a w => w.1) (fun a w n => ⟨w, fun hf => n (List.mem_append_left _ hf)⟩) (by simpa using fun a ha => .inr ha)
    (by simpa using fun a ha => ⟨P'.gw a ha, fun hf => P'.dis a hf ha⟩) (by simpa using P'.base.nd)
  exact post W2 H' v [] g' t2 hz e2
end
def YD (K : PySem.W.Frag) (W : Wr) (H H' : Hp) (d : D) (x : V) : Prop := VR K W H' d x [] ∧ (H' = H ∨ ∃ T ys, H T = none ∧ H' = upd H T (.tup ys))
def Ok (K : PySem.W.Frag) (J : It) (xs : List D) (W : Wr) (H : Hp) : Prop := (∀ i d, xs[i]? = some d → J.go i H ∧ ∀ x H', J.yld i H x H' → YD K W H H' d x) ∧ J.stop xs.length H
def Wlk (K : PySem.W.Frag) (gs : List (Nat × D)) (xs : List D) (σ0 : L2.St) (J : It) (W0 : Wr) (H0 : Hp) : Prop :=
  ∀ (W : Wr) (H : Hp) (env : Slots) (σ : L2.St) (g : List Addr), (∀ d v, VR K W0 H0 d v [] → VR K W H d v []) → (∀ q ∈ gs, σ[q.1]? = σ0[q.1]?) → ER K W H env σ g → Wok W H → stays gs env = true → Ok K J xs W H
def Seq (K : PySem.W.Frag) (gs : List (Nat × D)) (l : Bool) (xs : List D) (σ0 : L2.St) (a : Addr) (W0 : Wr) (H0 : Hp) : Prop :=
  ∀ (W : Wr) (H : Hp) (env : Slots) (σ : L2.St) (g : List Addr), (∀ d v, VR K W0 H0 d v [] → VR K W H d v []) → (∀ q ∈ gs, σ[q.1]? = σ0[q.1]?) → ER K W H env σ g → stays gs env = true →
    ∃ ys, (if l = true then SqL K H a ys else SqT K H a ys) ∧ VRs K W H xs ys []
section
variable {K : PySem.W.Frag} {W0 W W' : Wr} {H0 H H' : Hp} {gs g1 g2 : List (Nat × D)} {xs ys : List D} {σ σ0 : L2.St} {a b : Addr} {fp f g : List Addr} {env : Slots} {d : D} {v : V}
theorem VRs.at : ∀ {ds : List D} {vs : List V} {i : Nat} {d : D}, VRs K W H ds vs [] → ds[i]? = some d → ∃ v, vs[i]? = some v ∧ VR K W H d v [] := by
  intro ds vs i d h e
  obtain ⟨v, fj, fr, h1, h2, h3, _⟩ := h.split e
  have z : fj = [] := by
    have := h3.length_eq
    simp at this
    exact this.1
  subst z
  exact ⟨v, h1, h2⟩
theorem Seq.list (h : Seq K gs true xs σ0 a W0 H0) : Wlk K gs xs σ0 (Itl K a) W0 H0 := by
  intro W H env σ g hp hs er wk st
  obtain ⟨vs, q, r⟩ := h W H env σ g hp hs er st
  rw [if_pos rfl] at q
  refine ⟨fun i d e => ?_, ⟨vs, q, by rw [r.length]; exact Nat.le_refl _⟩⟩
  obtain ⟨v, hv, rv⟩ := r.at e
  exact ⟨⟨vs, v, q, hv⟩, fun x H' y => by
    obtain ⟨rfl, y⟩ := y
    have z := y vs q
    rw [hv] at z; cases z
    exact ⟨rv, .inl rfl⟩⟩
theorem Seq.tup (h : Seq K gs false xs σ0 a W0 H0) : Wlk K gs xs σ0 (Itt K a) W0 H0 := by
  intro W H env σ g hp hs er wk st
  obtain ⟨vs, q, r⟩ := h W H env σ g hp hs er st
  rw [if_neg Bool.false_ne_true] at q
  refine ⟨fun i d e => ?_, ⟨vs, q, by rw [r.length]; exact Nat.le_refl _⟩⟩
  obtain ⟨v, hv, rv⟩ := r.at e
  exact ⟨⟨vs, v, q, hv⟩, fun x H' y => by
    obtain ⟨rfl, y⟩ := y
    have z := y vs q
    rw [hv] at z; cases z
    exact ⟨rv, .inl rfl⟩⟩
theorem VR.newT (hw : Wok W H) {T : Addr} (hT : H T = none) {zs : List V} (h : VR K W H d v f) : VR K W (upd H T (.tup zs)) d v f :=
  VR.move (g := f) (fun b _ o e => (upd_ne (ne_of_none e hT)).trans e) (fun b o e w => ⟨(upd_ne (ne_of_none e hT)).trans e, w⟩) (fun _ _ _ w => w) hw h fun _ z => z
theorem enumD_at : ∀ {xs : List D} {n i : Nat}, (enumD n xs)[i]? = (xs[i]?).map fun d => .tup [.int ((n + i : Nat) : Int), d]
  | [], n, i => by cases i <;> rfl
  | x :: xs, n, 0 => rfl
  | x :: xs, n, i + 1 => by
    show (enumD (n + 1) xs)[i]? = _
    rw [enumD_at]
    simp only [List.getElem?_cons_succ]
    rw [show n + 1 + i = n + (i + 1) by omega]
theorem enumD_len : ∀ {xs : List D} {n : Nat}, (enumD n xs).length = xs.length
  | [], n => rfl
  | x :: xs, n => by show (enumD (n + 1) xs).length + 1 = _; rw [enumD_len]; rfl
theorem zipD_at : ∀ {xs ys : List D} {i : Nat} {d : D}, (zipD xs ys)[i]? = some d → ∃ x y, xs[i]? = some x ∧ ys[i]? = some y ∧ d = .tup [x, y]
  | [], _, i, d, h => by cases i <;> cases h
  | _ :: _, [], i, d, h => by cases i <;> cases h
  | x :: xs, y :: ys, 0, d, h => by cases h; exact ⟨x, y, rfl, rfl, rfl⟩
  | x :: xs, y :: ys, i + 1, d, h => zipD_at (xs := xs) (ys := ys) (i := i) h
theorem zipD_len : ∀ {xs ys : List D}, (zipD xs ys).length = min xs.length ys.length
  | [], _ => by simp [zipD]
  | _ :: _, [] => by simp [zipD]
  | x :: xs, y :: ys => by show (zipD xs ys).length + 1 = _; rw [zipD_len]; simp only [List.length_cons]; omega
theorem Seq.enu (h : Seq K gs true xs σ0 a W0 H0) : Wlk K gs (enumD 0 xs) σ0 (Ite K a) W0 H0 := by
  intro W H env σ g hp hs er wk st
  obtain ⟨vs, q, r⟩ := h W H env σ g hp hs er st
  rw [if_pos rfl] at q
  refine ⟨fun i d e => ?_, ⟨vs, q, by rw [enumD_len, r.length]; exact Nat.le_refl _⟩⟩
  rw [enumD_at] at e
  obtain ⟨d0, e0, rfl⟩ := Option.map_eq_some_iff.mp e
  obtain ⟨v, hv, rv⟩ := r.at e0
  exact ⟨⟨vs, v, q, hv⟩, fun x H' y => by
    obtain ⟨T, y, rfl, hT, rfl, hy⟩ := y
    have z := hy vs q
    rw [hv] at z; cases z
    refine ⟨.tup upd_same (.cons (f := []) (g := []) ?_ (.cons (f := []) (g := []) (rv.newT wk hT) .nil)), .inr ⟨T, _, hT, rfl⟩⟩
    rw [Nat.zero_add]
    exact .int _⟩
theorem Seq.zip (h : Seq K g1 true xs σ0 a W0 H0) (h' : Seq K g2 true ys σ0 b W0 H0) : Wlk K (g1 ++ g2) (zipD xs ys) σ0 (Itz K a b) W0 H0 := by
  intro W H env σ g hp hs er wk st
  unfold stays at st
  rw [List.all_append, Bool.and_eq_true] at st
  obtain ⟨vs, q, r⟩ := h W H env σ g hp (fun q hq => hs q (List.mem_append_left _ hq)) er st.1
  obtain ⟨us, q', r'⟩ := h' W H env σ g hp (fun q hq => hs q (List.mem_append_right _ hq)) er st.2
  rw [if_pos rfl] at q q'
  refine ⟨fun i d e => ?_, ⟨vs, us, q, q', by rw [zipD_len, ← r.length, ← r'.length]; omega⟩⟩
  obtain ⟨x, y, e1, e2, rfl⟩ := zipD_at e
  obtain ⟨v, hv, rv⟩ := r.at e1
  obtain ⟨u, hu, ru⟩ := r'.at e2
  exact ⟨⟨vs, us, v, u, q, q', hv, hu⟩, fun z H' y => by
    obtain ⟨T, x, y, rfl, hT, rfl, hx, hy⟩ := y
    have z := hx vs q
    rw [hv] at z; cases z
    have z := hy us q'
    rw [hu] at z; cases z
    exact ⟨.tup upd_same (.cons (f := []) (g := []) (rv.newT wk hT) (.cons (f := []) (g := []) (ru.newT wk hT) .nil)), .inr ⟨T, _, hT, rfl⟩⟩⟩
theorem Seq.zipT (h : Seq K g1 false xs σ0 a W0 H0) (h' : Seq K g2 false ys σ0 b W0 H0) : Wlk K (g1 ++ g2) (zipD xs ys) σ0 (RZ.ItzT K a b) W0 H0 := by
  intro W H env σ g hp hs er wk st
  unfold stays at st
  rw [List.all_append, Bool.and_eq_true] at st
  obtain ⟨vs, q, r⟩ := h W H env σ g hp (fun q hq => hs q (List.mem_append_left _ hq)) er st.1
  obtain ⟨us, q', r'⟩ := h' W H env σ g hp (fun q hq => hs q (List.mem_append_right _ hq)) er st.2
  rw [if_neg Bool.false_ne_true] at q q'
  refine ⟨fun i d e => ?_, ⟨vs, us, q, q', by rw [zipD_len, ← r.length, ← r'.length]; omega⟩⟩
  obtain ⟨x, y, e1, e2, rfl⟩ := zipD_at e
  obtain ⟨v, hv, rv⟩ := r.at e1
  obtain ⟨u, hu, ru⟩ := r'.at e2
  exact ⟨⟨vs, us, v, u, q, q', hv, hu⟩, fun z H' y => by
    obtain ⟨T, x, y, rfl, hT, rfl, hx, hy⟩ := y
    have z := hx vs q
    rw [hv] at z; cases z
    have z := hy us q'
    rw [hu] at z; cases z
    exact ⟨.tup upd_same (.cons (f := []) (g := []) (rv.newT wk hT) (.cons (f := []) (g := []) (ru.newT wk hT) .nil)), .inr ⟨T, _, hT, rfl⟩⟩⟩
theorem walkR (lo : Int) (n : Nat) : Wlk K gs (upto lo n) σ0 (Itr lo n) W0 H0 := by
  intro W H env σ g _ _ _ _ _
  have hl : (upto lo n).length = n := by unfold upto; simp
  refine ⟨fun i d e => ?_, by rw [hl]; exact Nat.le_refl _⟩
  unfold upto at e
  rw [List.getElem?_map] at e
  obtain ⟨k, hk, rfl⟩ := Option.map_eq_some_iff.mp e
  have hi : i < n := by
    have := (List.getElem?_eq_some_iff.mp hk).1
    simpa using this
  have : k = i := by
    rw [List.getElem?_range hi] at hk
    cases hk; rfl
  subst this
  exact ⟨hi, fun x H' y => by
    obtain ⟨rfl, rfl⟩ := y
    exact ⟨.int _, .inl rfl⟩⟩
theorem walkD (lo : Int) (n : Nat) : Wlk K gs (downto lo n) σ0 (Itc lo (-1) n) W0 H0 := by
  intro W H env σ g _ _ _ _ _
  have hl : (downto lo n).length = n := by unfold downto; simp
  refine ⟨fun i d e => ?_, by rw [hl]; exact Nat.le_refl _⟩
  unfold downto at e
  rw [List.getElem?_map] at e
  obtain ⟨k, hk, rfl⟩ := Option.map_eq_some_iff.mp e
  have hi : i < n := by
    have := (List.getElem?_eq_some_iff.mp hk).1
    simpa using this
  have : k = i := by
    rw [List.getElem?_range hi] at hk
    cases hk; rfl
  subst this
  exact ⟨hi, fun x H' y => by
    obtain ⟨rfl, rfl⟩ := y
    exact ⟨.int _, .inl rfl⟩⟩
end
end Hc

set_option Elab.async false
set_option linter.all false
set_option maxRecDepth 100000
set_option maxHeartbeats 2000000
namespace Hc
open PySem PySem.Spec PyProof.Rows L2
inductive LkC (K : PySem.W.Frag) (sh : Bool) (σ : L2.St) : CE → Slots → Wr → Hp → D → V → List Addr → Prop
  | nm {i : Nat} {e : Slots} {W : Wr} {H : Hp} {d : D} {v : V} : e.at i = some d → σ[i]? = some (some v) → (sh = true → d.shal = true) → LkC K sh σ (.nm i) e W H d v []
  | vl {C : CE} {e : Slots} {W : Wr} {H : Hp} {d : D} {v : V} {f : List Addr} : C.isNm = false → VR K W H d v f → LkC K sh σ C e W H d v f
section
variable {X : Cx} {E : XW} {a b o e : Expr} {A B C : CE} {ra rb rc ro r : Slots → R D} {sh : Bool} {pos p apos cpos : Pos}
theorem Post.after {α β : Type} {K : PySem.W.Frag} {Ra : Rl α β} {c1 c2 : Bool} {W W' : Wr} {H H' : Hp} {fp fp' : List Addr} {σ : L2.St} {r : R α} {Q : β → Hp → Prop} (t : Tr K c1 W H fp W' H' fp') (h : Post K Ra E (c1 && c2) W H fp σ r Q) : Post K Ra E c2 W' H' fp' σ r Q := by
  cases r with
  | no => exact h
  | ex x env2 => exact fun W2 H2 g2 t2 er2 => h W2 H2 g2 (t.trans t2) er2
  | ok a2 env2 => exact fun W2 H2 b2 f2 g2 t2 ra2 er2 => h W2 H2 b2 f2 g2 (t.trans t2) ra2 er2
theorem isNm_no (h : ¬ ∃ i, C = .nm i) : C.isNm = false := by
  cases C <;> first | rfl | exact absurd ⟨_, rfl⟩ h
theorem opd_no (h : ¬ ∃ i, C = .nm i) {env : Slots} : opd sh C r env = r env := by
  cases C <;> first | rfl | exact absurd ⟨_, rfl⟩ h
def OpC (X : Cx) (E : XW) (sh : Bool) (C : CE) (r : Slots → R D) (t : TE) : Prop :=
  ∀ {γ δ : Type} (Rc : Rl γ δ) (c3 : Bool) (k : D → Slots → R γ) (Q : δ → Hp → Prop) (Rq : V → Hp → Prop) (σ : L2.St) (W : Wr) (H : Hp) (env : Slots) (F g : List Addr), Pre X.K W H env σ F g → Post X.K Rc E (C.calm && c3) W H (F ++ g) σ ((opd sh C r env).bind k) Q →
    (∀ (v : V) (H2 : Hp) (d : D) (e : Slots) (W2 : Wr) (f g2 : List Addr), LkC X.K sh σ C e W2 H2 d v f → Pre X.K W2 H2 e σ (F ++ f) g2 → Post X.K Rc E c3 W2 H2 ((F ++ f) ++ g2) σ (k d e) Q → (∀ (d : D) (v : V) (f' : List Addr), VR X.K W H d v f' → (∀ a ∈ f', a ∈ F) → VR X.K W2 H2 d v f') → Rq v H2) → t σ H Rq
theorem opC (s : Snd X E e C r) : ∃ t, PE X e t ∧ OpC X E sh C r t := by
  by_cases hc : ∃ i, C = .nm i
  · obtain ⟨i, rfl⟩ := hc
    refine ⟨_, s.nm i rfl, ?_⟩
    intro γ δ Rc c3 k Q Rq σ W H env F g P post hk
    unfold opd at post
    dsimp only at post
    cases q : env.at i with
    | none => rw [q] at post; exact post.elim
    | some d =>
      rw [q] at post
      dsimp only at post
      split at post
      · rename_i hs
        obtain ⟨v, f, h1, h2⟩ := tVar_of P q
        refine ⟨v, h1, hk v H d env W [] g (.nm q h1 fun z => by rw [z] at hs; simpa using hs) (by simpa using P) ?_ fun d v f' h _ => h⟩
        rw [List.append_nil]
        exact post
      · exact post.elim
  · refine ⟨_, s.pe, ?_⟩
    intro γ δ Rc c3 k Q Rq σ W H env F g P post hk
    rw [opd_no hc] at post
    refine ⟨W, env, g, P.base, ?_⟩
    refine Post.mono (P.run (Ra := VR X.K) post) ?_
    rintro u H2 ⟨d, e', W', f', g', _, l, P', t, post'⟩
    exact hk u H2 d e' W' f' g' (.vl (isNm_no hc) l) P' post' fun d v f0 h s => h.aside t P.gw fun a z => P.dis a (s a z)
theorem Pre.freeze {K : PySem.W.Frag} {W : Wr} {H : Hp} {env : Slots} {σ : L2.St} {F g : List Addr} (P : Pre K W H env σ F g) : ∃ W' : Wr, Pre K W' H env σ [] g ∧ (∀ c, Tr K c W H (F ++ g) W' H g) ∧
    (∀ (d : D) (v : V) (f : List Addr), VR K W H d v f → (∀ a ∈ f, a ∈ F) → VR K W' H d.fz v []) ∧ ∀ (d : D) (v : V) (f : List Addr), VR K W H d v f → VR K W' H d v f := by
  have hg : ∀ a ∈ g, W a ∧ a ∉ F := fun a h => ⟨P.gw a h, fun z => P.dis a z h⟩
  refine ⟨fun a => W a ∧ a ∉ F, ⟨P.er.less P.wok fun a w => w.1, by simpa using P.base.nd, fun a h => hg a (by simpa using h), fun a w => P.wok a w.1⟩, fun c => ?_, ?_, fun d v f h => h.less P.wok fun a w => w.1⟩
  · exact Tr.let P.wok (fun a w => w.1) (fun a w n => ⟨w, fun z => n (List.mem_append_left _ z)⟩) (fun a z => List.mem_append_right _ z) hg (by simpa using P.base.nd)
  · exact fun d v f h s => h.fzd P.wok (fun a w => w.1) fun a z w => w.2 (s a z)
def seqNow (K : PySem.W.Frag) (H : Hp) (l : Bool) (a : Addr) : Prop := ∃ ys, if l = true then SqL K H a ys else SqT K H a ys
def D.isL : D → Bool
  | .lst _ _ => true
  | _ => false
theorem Seq.ofL {K : PySem.W.Frag} {gs : List (Nat × D)} {xs : List D} {σ : L2.St} {v : V} {W : Wr} {H : Hp} (h : VR K W H (.lst false xs) v []) : ∃ a, v = .ref a ∧ seqNow K H true a ∧ Seq K gs true xs σ a W H := by
  have h0 := h
  cases h with
  | frz q n r =>
    rename_i a ys
    refine ⟨a, rfl, ⟨ys, by rw [if_pos rfl]; exact q.sq⟩, fun W1 H1 env s1 g hp hs er st => ?_⟩
    have z := hp _ _ h0
    cases z with
    | frz q2 n2 r2 => exact ⟨_, by rw [if_pos rfl]; exact q2.sq, r2⟩
theorem Seq.ofT {K : PySem.W.Frag} {gs : List (Nat × D)} {xs : List D} {σ : L2.St} {v : V} {W : Wr} {H : Hp} (h : VR K W H (.tup xs) v []) : ∃ a, v = .ref a ∧ seqNow K H false a ∧ Seq K gs false xs σ a W H := by
  have h0 := h
  generalize hf : ([] : List Addr) = f0 at h
  cases h with
  | tup q r =>
    rename_i a ys
    refine ⟨a, rfl, ⟨ys, by rw [if_neg Bool.false_ne_true]; exact .of q⟩, fun W1 H1 env s1 g hp hs er st => ?_⟩
    have z := hp _ _ h0
    generalize hf : ([] : List Addr) = f1 at z
    cases z with
    | tup q2 r2 =>
      subst hf
      exact ⟨_, by rw [if_neg Bool.false_ne_true]; exact .of q2, r2⟩
def plainC : CE → Bool
  | .enu _ => false
  | .zip _ _ => false
  | .rng1 _ => false
  | .rng2 _ _ => false
  | .rngd _ _ => false
  | _ => true
def itsQ (c : CE) (d : D) : Option (List D) := if c.isNm = true then d.items? else d.fz.items?
def D.isS : D → Bool
  | .str _ => true
  | _ => false
theorem its_q {c : CE} {d : D} (h : d.isS = false) : its c d = itsQ c d := by
  unfold its itsQ
  split
  · cases d <;> first | rfl | cases h
  · cases d <;> first | rfl | cases h
theorem its_s {c : CE} {s : Str} : its c (.str s) = some (chars s) := by
  unfold its
  split <;> rfl
theorem walkS {K : PySem.W.Frag} {gs : List (Nat × D)} {s : Str} {σ : L2.St} {W : Wr} {H : Hp} : Wlk K gs (chars s) σ (Its s) W H := by
  intro W H env σ g hp hs er wk st
  have hl : (chars s).length = s.cps.size := by simp [chars]
  refine ⟨fun i d e => ?_, by show s.cps.size ≤ _; rw [hl]; exact Nat.le_refl _⟩
  unfold chars at e
  rw [List.getElem?_map] at e
  obtain ⟨c, hc, rfl⟩ := Option.map_eq_some_iff.mp e
  have hc : s.cps[i]? = some c := by rw [← Array.getElem?_toList]; exact hc
  refine ⟨(Array.getElem?_eq_some_iff.mp hc).1, fun x H' y => ?_⟩
  obtain ⟨rfl, c', hc', rfl⟩ := y
  rw [hc] at hc'; cases hc'
  exact ⟨.str _, .inl rfl⟩
theorem LkC.seq {K : PySem.W.Frag} {σ : L2.St} {e : Slots} {W W' : Wr} {H : Hp} {d : D} {v : V} {f F g : List Addr} {xs : List D} (h : LkC K true σ C e W H d v f) (hf : ∀ a ∈ f, a ∈ F) (P : Pre K W H e σ F g) (hC : plainC C = true) (hx : itsQ C d = some xs)
    (h1 : ∀ (d : D) (v : V) (f : List Addr), VR K W H d v f → (∀ a ∈ f, a ∈ F) → VR K W' H d.fz v []) (h2 : ∀ (d : D) (v : V) (f : List Addr), VR K W H d v f → VR K W' H d v f) : ∃ a, v = .ref a ∧ seqNow K H d.isL a ∧ Seq K (guards C e) d.isL xs σ a W' H := by
  cases h with
  | nm q hv hs =>
    rename_i i
    have hs := hs rfl
    obtain ⟨f0, r⟩ := P.get q hv
    have hx : d.items? = some xs := hx
    unfold D.items? at hx
    split at hx
    · cases hx
      have gn : guards (.nm i) e = [] := by unfold guards; rw [q]
      rw [gn]
      have z := r.none_of hs
      subst z
      exact Seq.ofT (h2 _ _ _ r)
    · cases hx
      rename_i o _
      cases o with
      | false =>
        have gn : guards (.nm i) e = [] := by unfold guards; rw [q]
        rw [gn]
        have z := r.none_of rfl
        subst z
        exact Seq.ofL (h2 _ _ _ r)
      | true =>
        have gn : guards (.nm i) e = [(i, .lst true xs)] := by unfold guards; rw [q]
        rw [gn]
        cases r with
        | own ho rr =>
          rename_i a ys fd
          refine ⟨a, rfl, ⟨ys, by show (if true = true then _ else _); rw [if_pos rfl]; exact .of ho⟩, fun W1 H1 env s1 g1 hp hs1 er st => ?_⟩
          simp only [stays, List.all_cons, List.all_nil, Bool.and_true] at st
          cases q1 : env.at i with
          | none => rw [q1] at st; cases st
          | some d' =>
            rw [q1] at st
            have := same_eq st
            subst this
            obtain ⟨v', f', g', k1, k2, _, _⟩ := er.take q1
            have k3 : s1[i]? = σ[i]? := hs1 (i, .lst true xs) List.mem_cons_self
            rw [k3, hv] at k1; cases k1
            cases k2 with
            | own ho2 rr2 =>
              have z := rr2.none_of hs
              subst z
              exact ⟨_, by show (if true = true then _ else _); rw [if_pos rfl]; exact .of ho2, rr2⟩
    · cases hx
  | vl hn r =>
    have hx : d.fz.items? = some xs := by
      unfold itsQ at hx
      rw [hn, if_neg Bool.false_ne_true] at hx
      exact hx
    have gn : guards C e = [] := by cases C <;> first | rfl | (cases hn; done) | (cases hC; done)
    rw [gn]
    have z := h1 _ _ _ r hf
    cases d <;> first | (cases hx; done) | skip
    · cases hx
      exact Seq.ofT z
    · cases hx
      exact Seq.ofL z
def RI (K : PySem.W.Frag) (σ : L2.St) : Rl (List D × List (Nat × D)) It := fun W H p J f => f = [] ∧ Wlk K p.2 p.1 σ J W H
def tI (K : PySem.W.Frag) (E : XW) (c : Bool) (r : Slots → R (List D × List (Nat × D))) : TI := fun σ H R => tG K (RI K σ) E c r σ H R
variable {tg : Expr}
theorem it_end {K : PySem.W.Frag} {W W' : Wr} {H : Hp} {env : Slots} {σ : L2.St} {F g : List Addr} {p : List D × List (Nat × D)} {J : It} {R : It → Hp → Prop} {c : Bool} (post : Post K (RI K σ) E c W H (F ++ g) σ (.ok p env) R) (t : ∀ c, Tr K c W H (F ++ g) W' H g) (P' : Pre K W' H env σ [] g) (w : Wlk K p.2 p.1 σ J W' H) : R J H :=
  post W' H J [] g (t _) ⟨rfl, w⟩ P'.er
theorem piOne (s : Snd X E e C r) (hC : plainC C = true) : PI X tg e (tI X.K E C.calm (cIt C r)) := by
  obtain ⟨t, pe, op⟩ := opC (sh := true) s
  refine pi_any fun σ H R h => ?_
  obtain ⟨W, env, g, P, h⟩ := h
  have h : Post X.K (RI X.K σ) E (C.calm && true) W H ([] ++ g) σ ((opd true C r env).bind fun d e => lift ((its C d).map fun xs => (xs, guards C e)) e) R := by rw [Bool.and_true]; exact h
  -- which one it is, is told by the result
  by_cases hs0 : ∃ d e, opd true C r env = .ok d e ∧ d.isS = true
  · obtain ⟨d0, e0, q0, hl⟩ := hs0
    refine ⟨_, pi_str pe, ?_⟩
    rw [q0] at h
    have h : Post X.K (RI X.K σ) E (C.calm && true) W H ([] ++ g) σ ((opd true C r env).bind fun d e => lift (if d.isS = true then (its C d).map fun xs => (xs, guards C e) else none) e) R := by
      rw [q0]
      show Post X.K _ E _ W H _ σ (lift (if d0.isS = true then _ else _) e0) R
      rw [if_pos hl]
      exact h
    refine op _ _ _ _ _ σ W H env [] g P h fun v H2 d e W2 f g2 l P2 post _ => ?_
    simp only [List.nil_append] at P2 post
    obtain ⟨p, hp, post⟩ := post_lift0 post
    split at hp
    · rename_i hl
      cases d <;> first | (cases hl; done) | skip
      rename_i s
      rw [its_s] at hp
      cases hp
      have ev : v = .str s := by
        cases l with
        | nm h1 h2 _ =>
          obtain ⟨f0, r0⟩ := P2.get h1 h2
          cases r0
          rfl
        | vl _ r0 => cases r0; rfl
      obtain ⟨W', P', t, k1, k2⟩ := P2.freeze
      exact ⟨s, ev, fun _ => it_end post t P' walkS⟩
    · cases hp
  have hnS : ∀ d e, opd true C r env = .ok d e → d.isS = false := fun d e q => by
    cases z : d.isS with
    | false => rfl
    | true => exact absurd ⟨d, e, q, z⟩ hs0
  have h : Post X.K (RI X.K σ) E (C.calm && true) W H ([] ++ g) σ ((opd true C r env).bind fun d e => lift ((itsQ C d).map fun xs => (xs, guards C e)) e) R := by
    cases q : opd true C r env with
    | no => rw [q] at h; exact h
    | ex x e => rw [q] at h; exact h
    | ok d e =>
      rw [q] at h
      have z := its_q (c := C) (hnS d e q)
      show Post X.K _ E _ W H _ σ (lift ((itsQ C d).map _) e) R
      rw [← z]
      exact h
  by_cases hd : ∃ d e, opd true C r env = .ok d e ∧ d.isL = false
  · obtain ⟨d0, e0, q0, hl⟩ := hd
    refine ⟨_, pi_tup pe, ?_⟩
    rw [q0] at h
    have h : Post X.K (RI X.K σ) E (C.calm && true) W H ([] ++ g) σ ((opd true C r env).bind fun d e => lift (if d.isL = false then (itsQ C d).map fun xs => (xs, guards C e) else none) e) R := by
      rw [q0]
      show Post X.K _ E _ W H _ σ (lift (if d0.isL = false then _ else _) e0) R
      rw [if_pos hl]
      exact h
    refine op _ _ _ _ _ σ W H env [] g P h fun v H2 d e W2 f g2 l P2 post _ => ?_
    simp only [List.nil_append] at P2 post
    obtain ⟨p, hp, post⟩ := post_lift0 post
    split at hp
    · rename_i hl
      obtain ⟨xs, hx, rfl⟩ := Option.map_eq_some_iff.mp hp
      obtain ⟨W', P', t, k1, k2⟩ := P2.freeze
      obtain ⟨a, rfl, now, sq⟩ := l.seq (fun _ z => z) P2 hC hx k1 k2
      rw [hl] at now sq
      obtain ⟨ys, now⟩ := now
      rw [if_neg Bool.false_ne_true] at now
      exact ⟨a, rfl, ⟨ys, now⟩, fun _ => it_end post t P' sq.tup⟩
    · cases hp
  · refine ⟨_, pi_list pe, ?_⟩
    have h : Post X.K (RI X.K σ) E (C.calm && true) W H ([] ++ g) σ ((opd true C r env).bind fun d e => lift (if d.isL = true then (itsQ C d).map fun xs => (xs, guards C e) else none) e) R := by
      cases q : opd true C r env with
      | no => rw [q] at h; exact h
      | ex x e => rw [q] at h; exact h
      | ok d e =>
        rw [q] at h
        show Post X.K _ E _ W H _ σ (lift (if d.isL = true then _ else _) e) R
        have hl : d.isL = true := by
          cases z : d.isL with
          | true => rfl
          | false => exact absurd ⟨d, e, q, z⟩ hd
        rw [if_pos hl]
        exact h
    refine op _ _ _ _ _ σ W H env [] g P h fun v H2 d e W2 f g2 l P2 post _ => ?_
    simp only [List.nil_append] at P2 post
    obtain ⟨p, hp, post⟩ := post_lift0 post
    split at hp
    · rename_i hl
      obtain ⟨xs, hx, rfl⟩ := Option.map_eq_some_iff.mp hp
      obtain ⟨W', P', t, k1, k2⟩ := P2.freeze
      obtain ⟨a, rfl, now, sq⟩ := l.seq (fun _ z => z) P2 hC hx k1 k2
      rw [hl] at now sq
      obtain ⟨ys, now⟩ := now
      rw [if_pos rfl] at now
      exact ⟨a, rfl, ⟨ys, now⟩, fun _ => it_end post t P' sq.list⟩
    · cases hp
theorem stars1 (hs : ∀ y p, a ≠ .Starred y p) : starEach [a] X.env = [(false, eval a X.env)] := by rw [noStar (X := X) [] hs]; rfl
theorem piEnu {elts : List Expr} {kk : Nat} {tpos : Pos} (hg : Gl X "enumerate") (hm : X.mg "enumerate" = none) (s : Snd X E a A ra) (hC : plainC A = true) (hs : ∀ y p, a ≠ .Starred y p) :
    PI X (.Tuple elts kk tpos) (.Call (.Name "enumerate" p) [a] [] pos) (tI X.K E A.calm (cIt (.enu A) (cEnu A ra))) := by
  obtain ⟨t, pe, op⟩ := opC (sh := true) s
  refine pi_any fun σ H R h => ?_
  obtain ⟨W, env, g, P, h⟩ := h
  refine ⟨_, pi_enum hg hm (pa_cons pe pa_nil (noStar _ hs)) (stars1 hs), ?_⟩
  have h : Post X.K (RI X.K σ) E (A.calm && true) W H ([] ++ g) σ ((opd true A ra env).bind fun d e => lift (d.lst?.bind fun _ => (its A d).map fun xs => (enumD 0 xs, guards A e)) e) R := by
    rw [Bool.and_true]
    refine Post.cong h ?_
    show (cEnu A ra env).bind (fun d e => lift ((its (.enu A) d).map fun xs => (xs, guards (.enu A) e)) e) = _
    unfold cEnu
    cases opd true A ra env with
    | no => rfl
    | ex x e => rfl
    | ok d e =>
      dsimp only [Hc.R.bind_ok]
      cases d.lst? with
      | none => rfl
      | some _ =>
        dsimp only [Option.bind_some]
        cases its A d <;> rfl
  refine op _ _ _ _ _ σ W H env [] g P h fun v H2 d e W2 f g2 l P2 post _ => ?_
  simp only [List.nil_append] at P2 post
  obtain ⟨p, hp, post⟩ := post_lift0 post
  cases d <;> first | (cases hp; done) | skip
  obtain ⟨xs, hx, rfl⟩ := Option.map_eq_some_iff.mp hp
  obtain ⟨W', P', t, k1, k2⟩ := P2.freeze
  obtain ⟨b, rfl, now, sq⟩ := l.seq (fun _ z => z) P2 hC ((its_q (c := A) (d := .lst _ _) rfl).symm.trans hx) k1 k2
  obtain ⟨ys, now⟩ := now
  exact ⟨b, ys, rfl, now, fun _ => it_end post t P' sq.enu⟩
theorem piR1 (hg : Gl X "range") (hm : X.mg "range" = none) (s : Snd X E a A ra) (hs : ∀ y p, a ≠ .Starred y p) : PI X tg (.Call (.Name "range" p) [a] [] pos) (tI X.K E A.calm (cIt (.rng1 A) (cRng1 ra))) := by
  refine pi_imp (pi_range1 hg hm (pa_cons s.pe pa_nil (noStar _ hs)) (stars1 hs)) ?_
  rintro σ H R ⟨W, env, g, P, h⟩
  refine ⟨W, env, g, P, ?_⟩
  have h : Post X.K (RI X.K σ) E (A.calm && true) W H ([] ++ g) σ ((ra env).bind fun d e => match d with
      | .int j => if inR j then .ok (upto 0 j.toNat, []) e else .no
      | _ => .no) R := by
    rw [Bool.and_true]
    refine Post.cong h ?_
    unfold cIt opd
    dsimp only
    unfold cRng1
    cases ra env with
    | no => rfl
    | ex x e => rfl
    | ok d e =>
      cases d <;> try rfl
      rename_i j
      dsimp only [Hc.R.bind_ok]
      by_cases hj : inR j
      · rw [if_pos hj, if_pos hj]; rfl
      · rw [if_neg hj, if_neg hj]; rfl
  refine Post.mono (P.run (Ra := VR X.K) h) ?_
  rintro v H2 ⟨d, e', W', f', g', _, l, P', t, post⟩
  simp only [List.nil_append] at P' post
  split at post
  · split at post
    · rename_i hj
      cases l
      exact ⟨_, rfl, hj.1, hj.2, post W' H2 _ [] g' (Tr.same P'.wok (fun a z => z) (fun a z => P'.gw a z) (by simpa using P'.base.nd)) ⟨rfl, walkR 0 _⟩ P'.er⟩
    · exact post.elim
  · exact post.elim
theorem piR2 (hg : Gl X "range") (hm : X.mg "range" = none) (s : Snd X E a A ra) (s2 : Snd X E b B rb) (hs : ∀ y p, a ≠ .Starred y p) (hs2 : ∀ y p, b ≠ .Starred y p) : PI X tg (.Call (.Name "range" p) [a, b] [] pos) (tI X.K E (A.calm && B.calm) (cIt (.rng2 A B) (cRng2 ra rb))) := by
  refine pi_imp (pi_range2 hg hm (pa_cons s.pe (pa_cons s2.pe pa_nil (noStar _ hs2)) (noStar _ hs)) (by rw [noStar (X := X) _ hs, stars1 hs2]) (stars1 hs2)) ?_
  rintro σ H R ⟨W, env, g, P, h⟩
  refine ⟨W, env, g, P, ?_⟩
  have h : Post X.K (RI X.K σ) E (A.calm && (B.calm && true)) W H ([] ++ g) σ ((ra env).bind fun x e => (rb e).bind fun y e => match x, y with
      | .int i, .int j => if inR i ∧ inR j then .ok (upto i (j - i).toNat, []) e else .no
      | _, _ => .no) R := by
    rw [Bool.and_true]
    refine Post.cong h ?_
    unfold cIt opd
    dsimp only
    unfold cRng2
    cases ra env with
    | no => rfl
    | ex x e => rfl
    | ok x e =>
      dsimp only [Hc.R.bind_ok]
      cases rb e with
      | no => rfl
      | ex x e => rfl
      | ok y e =>
        dsimp only [Hc.R.bind_ok]
        cases x <;> cases y <;> try rfl
        rename_i i j
        dsimp only
        by_cases hj : inR i ∧ inR j
        · rw [if_pos hj, if_pos hj]; rfl
        · rw [if_neg hj, if_neg hj]; rfl
  refine Post.mono (P.run (Ra := VR X.K) h) ?_
  rintro v H2 ⟨d, e', W', f', g', _, l, P', t, post⟩
  simp only [List.nil_append] at P' post
  refine ⟨W', e', g', P'.base, ?_⟩
  refine Post.mono (P'.run (Ra := VR X.K) post) ?_
  rintro u H3 ⟨d2, e2, W2, f2, g2, _, l2, P2, t2, post2⟩
  have stop : ∀ {i j : Int}, d = .int i → d2 = .int j → v = .int i ∧ u = .int j ∧ f' = [] ∧ f2 = [] := by
    rintro i j rfl rfl
    cases l; cases l2
    exact ⟨rfl, rfl, rfl, rfl⟩
  split at post2
  · split at post2
    · rename_i hj
      obtain ⟨rfl, rfl, rfl, rfl⟩ := stop rfl rfl
      show ∃ i j : Int, _
      exact ⟨_, _, rfl, ⟨hj.1.1, hj.1.2, hj.2.1, hj.2.2⟩, post2 W2 H3 _ [] g2 (Tr.same P2.wok (fun a z => by simpa using z) (fun a z => P2.gw a z) (by simpa using P2.base.nd)) ⟨rfl, walkR _ _⟩ P2.er⟩
    · exact post2.elim
  · exact post2.elim
theorem piRd (hg : Gl X "range") (hm : X.mg "range" = none) (s : Snd X E a A ra) (s2 : Snd X E b B rb) (hs : ∀ y p, a ≠ .Starred y p) (hs2 : ∀ y p, b ≠ .Starred y p) {kk : Nat} {p1 p2 : Pos} : PI X tg (.Call (.Name "range" p) [a, b, .UnaryOp .USub (.Constant (.int 1) kk p1) p2] [] pos) (tI X.K E (A.calm && B.calm) (cIt (.rngd A B) (cRngd ra rb))) := by
  have h3 : ∀ y p, (Expr.UnaryOp .USub (.Constant (.int 1) kk p1) p2) ≠ .Starred y p := fun _ _ z => by cases z
  have hl := spl_one (X := X) (pos := pos) [b, Expr.UnaryOp .USub (.Constant (.int 1) kk p1) p2] fun x hx => by
    rcases List.mem_cons.mp hx with rfl | hx
    · exact hs2
    · rw [List.mem_singleton.mp hx]; exact h3
  refine pi_imp (pi_range3 hg hm (pa_cons s.pe (pa_cons s2.pe (pa_cons (pe_un un_neg pe_int) pa_nil (noStar _ h3)) (noStar _ hs2)) (noStar _ hs)) (noStar _ hs) hl) ?_
  rintro σ H R ⟨W, env, g, P, h⟩
  refine ⟨W, env, g, P, ?_⟩
  have h : Post X.K (RI X.K σ) E (A.calm && (B.calm && true)) W H ([] ++ g) σ ((ra env).bind fun x e => (rb e).bind fun y e => match x, y with
      | .int i, .int j => if inR i ∧ inR j then .ok (downto i (i - j).toNat, []) e else .no
      | _, _ => .no) R := by
    rw [Bool.and_true]
    refine Post.cong h ?_
    unfold cIt opd
    dsimp only
    unfold cRngd
    cases ra env with
    | no => rfl
    | ex x e => rfl
    | ok x e =>
      dsimp only [Hc.R.bind_ok]
      cases rb e with
      | no => rfl
      | ex x e => rfl
      | ok y e =>
        dsimp only [Hc.R.bind_ok]
        cases x <;> cases y <;> try rfl
        rename_i i j
        dsimp only
        by_cases hj : inR i ∧ inR j
        · rw [if_pos hj, if_pos hj]; rfl
        · rw [if_neg hj, if_neg hj]; rfl
  refine Post.mono (P.run (Ra := VR X.K) h) ?_
  rintro v H2 ⟨d, e', W', f', g', _, l, P', t, post⟩
  simp only [List.nil_append] at P' post
  refine ⟨W', e', g', P'.base, ?_⟩
  refine Post.mono (P'.run (Ra := VR X.K) post) ?_
  rintro u H3 ⟨d2, e2, W2, f2, g2, _, l2, P2, t2, post2⟩
  have stop : ∀ {i j : Int}, d = .int i → d2 = .int j → v = .int i ∧ u = .int j ∧ f' = [] ∧ f2 = [] := by
    rintro i j rfl rfl
    cases l; cases l2
    exact ⟨rfl, rfl, rfl, rfl⟩
  split at post2
  · split at post2
    · rename_i hj
      obtain ⟨rfl, rfl, rfl, rfl⟩ := stop rfl rfl
      refine ⟨1, rfl, ?_⟩
      show ∃ (i j c : Int) (n : Nat), _
      exact ⟨_, _, _, _, rfl, RgC.neg hj.1.1 hj.1.2 hj.2.1 hj.2.2, post2 W2 H3 _ [] g2 (Tr.same P2.wok (fun a z => by simpa using z) (fun a z => P2.gw a z) (by simpa using P2.base.nd)) ⟨rfl, walkD _ _⟩ P2.er⟩
    · exact post2.elim
  · exact post2.elim
end
end Hc

set_option Elab.async false
set_option linter.all false
set_option maxRecDepth 100000
set_option maxHeartbeats 2000000
namespace Hc
open PySem PySem.Spec PyProof.Rows L2
section
variable {X : Cx} {E : XW} {a b o e : Expr} {A B C : CE} {ra rb rc ro r : Slots → R D} {sh : Bool} {pos p apos cpos : Pos} {tg : Expr}
def zipE (A B : CE) (e : Slots) (x y : D) : Option (List D × List (Nat × D)) := match x, y with
  | .lst _ _, .lst _ _ => (its A x).bind fun xs => (its B y).map fun ys => (zipD xs ys, guards A e ++ guards B e)
  | .tup _, .tup _ => (its A x).bind fun xs => (its B y).map fun ys => (zipD xs ys, guards A e ++ guards B e)
  | _, _ => none
theorem zipE_of {e : Slots} {x y : D} : (lift (zipOp A B x y) e).bind (fun d e => lift ((its (.zip A B) d).map fun xs => (xs, guards (.zip A B) e)) e) = lift (zipE A B e x y) e := by
  unfold zipOp zipE
  split
  · cases its A _ with
    | none => rfl
    | some xs => dsimp only [Option.bind_some]; cases its B _ <;> rfl
  · cases its A _ with
    | none => rfl
    | some xs => dsimp only [Option.bind_some]; cases its B _ <;> rfl
  · rename_i h1 h2
    first
    | rfl
    | (split
       · exact absurd rfl (h1 _ _ _ _ rfl)
       · exact absurd rfl (h2 _ _ rfl)
       · rfl)
theorem zip_end {W : Wr} {H : Hp} {env : Slots} {σ : L2.St} {f1 f2 g : List Addr} {d1 d2 : D} {v1 v2 : V} {R : It → Hp → Prop} {c : Bool} (P : Pre X.K W H env σ (f1 ++ f2) g) (l1 : LkC X.K true σ A env W H d1 v1 f1) (l2 : LkC X.K true σ B env W H d2 v2 f2) (hA : plainC A = true) (hB : plainC B = true)
    (post : Post X.K (RI X.K σ) E c W H ((f1 ++ f2) ++ g) σ (lift (zipE A B env d1 d2) env) R) : ∃ a b xs ys, [v1, v2] = [.ref a, .ref b] ∧ ((SqL X.K H a xs ∧ SqL X.K H b ys ∧ R (Itz X.K a b) H) ∨ (SqT X.K H a xs ∧ SqT X.K H b ys ∧ R (RZ.ItzT X.K a b) H)) := by
  obtain ⟨q, hq, post⟩ := post_lift0 post
  obtain ⟨W', P', t, k1, k2⟩ := P.freeze
  unfold zipE at hq
  split at hq
  · obtain ⟨xs, hx, hq⟩ := Option.bind_eq_some_iff.mp hq
    obtain ⟨ys, hy, rfl⟩ := Option.map_eq_some_iff.mp hq
    obtain ⟨a, rfl, ⟨us, n1⟩, s1⟩ := l1.seq (fun _ z => List.mem_append_left _ z) P hA hx k1 k2
    obtain ⟨b, rfl, ⟨ws, n2⟩, s2⟩ := l2.seq (fun _ z => List.mem_append_right _ z) P hB hy k1 k2
    exact ⟨a, b, us, ws, rfl, .inl ⟨n1, n2, it_end post t P' (s1.zip s2)⟩⟩
  · obtain ⟨xs, hx, hq⟩ := Option.bind_eq_some_iff.mp hq
    obtain ⟨ys, hy, rfl⟩ := Option.map_eq_some_iff.mp hq
    obtain ⟨a, rfl, ⟨us, n1⟩, s1⟩ := l1.seq (fun _ z => List.mem_append_left _ z) P hA hx k1 k2
    obtain ⟨b, rfl, ⟨ws, n2⟩, s2⟩ := l2.seq (fun _ z => List.mem_append_right _ z) P hB hy k1 k2
    exact ⟨a, b, us, ws, rfl, .inr ⟨n1, n2, it_end post t P' (s1.zipT s2)⟩⟩
  · cases hq
theorem LkC.aside {K : PySem.W.Frag} {σ : L2.St} {env env' : Slots} {W W' : Wr} {H H' : Hp} {d : D} {v : V} {f : List Addr} (hn : C.isNm = false) (h : VR K W' H' d v f) : LkC K sh σ C env' W' H' d v f := .vl hn h
theorem piZip {elts : List Expr} {kk : Nat} {tpos : Pos} (hg : Gl X "zip") (hm : X.mg "zip" = none) (sa : Snd X E a A ra) (sb : Snd X E b B rb) (hA : plainC A = true) (hB : plainC B = true) (hs : ∀ y p, a ≠ .Starred y p) (hs2 : ∀ y p, b ≠ .Starred y p) :
    PI X (.Tuple elts kk tpos) (.Call (.Name "zip" p) [a, b] [] pos) (tI X.K E (A.calm && B.calm) (cIt (.zip A B) (cZip A ra B rb))) := by
  obtain ⟨tb, pb, opb⟩ := opC (sh := true) sb
  have h1 : starEach [a, b] X.env = (false, eval a X.env) :: starEach [b] X.env := noStar _ hs
  have h2 : (backTo pos (starEach [b] X.env)).any (·.1) = false := spl_one (X := X) [b] fun x hx => by rw [List.mem_singleton.mp hx]; exact hs2
  have whole : ∀ env, cIt (.zip A B) (cZip A ra B rb) env = (two true A ra B rb env).bind fun p e => lift (zipE A B e p.1 p.2) e := by
    intro env
    show (cZip A ra B rb env).bind (fun d e => lift ((its (.zip A B) d).map fun xs => (xs, guards (.zip A B) e)) e) = _
    unfold cZip
    cases two true A ra B rb env with
    | no => rfl
    | ex x e => rfl
    | ok p e => exact zipE_of
  by_cases hc : ∃ i, A = .nm i
  · obtain ⟨i, rfl⟩ := hc
    refine pi_imp (RZ.pi_zipA hg hm (pa_cons (sa.nm i rfl) (pa_cons pb pa_nil (noStar _ hs2)) h1) h1 h2) ?_
    rintro σ H R ⟨W, env, g, P, h⟩
    rw [whole] at h
    have h : Post X.K (RI X.K σ) E (B.calm && true) W H ([] ++ g) σ ((lift (env.at i) env).bind fun _ env => (opd true B rb env).bind fun y e => (opd true (.nm i) ra e).bind fun x e => lift (zipE (.nm i) B e x y) e) R := by
      rw [Bool.and_true]
      refine Post.cong (show Post X.K (RI X.K σ) E B.calm W H ([] ++ g) σ (((lift (env.at i) env).bind fun _ env => (opd true B rb env).bind fun y e => (opd true (.nm i) ra e).bind fun x e => .ok (x, y) e).bind fun p e => lift (zipE (.nm i) B e p.1 p.2) e) R from h) ?_
      cases env.at i with
      | none => rfl
      | some d =>
        show ((opd true B rb env).bind _).bind _ = (opd true B rb env).bind _
        cases opd true B rb env with
        | no => rfl
        | ex x e => rfl
        | ok y e =>
          show ((opd true (.nm i) ra e).bind _).bind _ = (opd true (.nm i) ra e).bind _
          cases opd true (.nm i) ra e <;> rfl
    cases q : env.at i with
    | none => rw [q] at h; exact h.elim
    | some d0 =>
      rw [q] at h
      obtain ⟨v, _, hv, _⟩ := tVar_of P q
      refine ⟨v, hv, ?_⟩
      refine opb _ _ _ _ _ σ W H env [] g P h fun u H2 d e W2 f g2 l P2 post _ => ?_
      simp only [List.nil_append] at P2 post
      unfold opd at post
      dsimp only at post
      cases q2 : e.at i with
      | none => rw [q2] at post; exact post.elim
      | some x' =>
        rw [q2] at post
        dsimp only at post
        split at post
        · rename_i hs0
          exact zip_end (f1 := []) (by simpa using P2) (.nm q2 hv fun z => by simpa using hs0) l hA hB (by simpa using post)
        · exact post.elim
  · refine pi_imp (RZ.pi_zipA hg hm (pa_cons sa.pe (pa_cons pb pa_nil (noStar _ hs2)) h1) h1 h2) ?_
    rintro σ H R ⟨W, env, g, P, h⟩
    rw [whole] at h
    have h : Post X.K (RI X.K σ) E (A.calm && (B.calm && true)) W H ([] ++ g) σ ((ra env).bind fun x e => (opd true B rb e).bind fun y e => lift (zipE A B e x y) e) R := by
      rw [Bool.and_true]
      refine Post.cong h ?_
      have q : two true A ra B rb env = (ra env).bind fun x e => (opd true B rb e).bind fun y e => .ok (x, y) e := by
        cases A <;> first | rfl | exact absurd ⟨_, rfl⟩ hc
      rw [q]
      cases ra env with
      | no => rfl
      | ex x e => rfl
      | ok x e =>
        show ((opd true B rb e).bind _).bind _ = (opd true B rb e).bind _
        cases opd true B rb e <;> rfl
    refine ⟨W, env, g, P, ?_⟩
    refine Post.mono (P.run (Ra := VR X.K) h) ?_
    rintro v H1 ⟨d1, e1, W1, f1, g1, _, l1, P1, t1, post1⟩
    simp only [List.nil_append] at P1 post1
    refine opb _ _ _ _ _ σ W1 H1 e1 f1 g1 P1 post1 fun u H2 d e W2 f g2 l P2 post mv => ?_
    exact zip_end P2 (.vl (isNm_no hc) (mv _ _ _ l1 fun _ z => z)) l hA hB post
end
section
variable {K : PySem.W.Frag} {W W0 W1 W' : Wr} {H H0 H1 H' : Hp} {F g fp f : List Addr} {env old : Slots} {σ σ1 σ2 : L2.St} {d : D} {v : V}
theorem compL_ex {gs : List (Nat × D)} {vs : List Nat} {step : D → Slots → R (Option D)} (hm : ∀ d e x e', step d e ≠ .ex x e') : ∀ {ds acc : List D} {env e' : Slots} {x : Exc}, compL gs vs step acc ds env ≠ .ex x e'
  | [], acc, env, e', x => by
    unfold compL
    split <;> exact fun z => by cases z
  | d :: ds, acc, env, e', x => by
    unfold compL
    split
    · cases q : step d env with
      | no => exact fun z => by cases z
      | ex y e => exact absurd q (hm _ _ _ _)
      | ok o e =>
        cases o with
        | none => exact compL_ex hm
        | some y =>
          show (if acc.length < sz then _ else _) ≠ _
          split
          · exact compL_ex hm
          · exact fun z => by cases z
    · exact fun z => by cases z
theorem mute_ex {α : Type} {r : R α} {x : Exc} {e : Slots} : mute r ≠ .ex x e := by
  cases r <;> exact fun z => by cases z
theorem mute_ok {α : Type} {r : R α} {x : α} {e : Slots} (h : mute r = .ok x e) : r = .ok x e := by
  cases r <;> first | exact h | cases h
theorem ER.resig : ∀ {env : Slots} {σ1 : L2.St} {g : List Addr}, ER K W H env σ1 g → ∀ {σ2 : L2.St}, σ1.length = σ2.length → (∀ i, env.at i ≠ none → σ1[i]? = σ2[i]?) → ER K W H env σ2 g
  | _, _, _, .nil, σ2, hl, _ => by
    cases σ2 with
    | nil => exact .nil
    | cons _ _ => simp at hl
  | _, _, _, .no t, σ2, hl, h => by
    cases σ2 with
    | nil => simp at hl
    | cons x r => exact .no (t.resig (by simpa using hl) fun i hi => by have := h (i + 1) hi; simpa using this)
  | _, _, _, .so q t, σ2, hl, h => by
    cases σ2 with
    | nil => simp at hl
    | cons x r =>
      have := h 0 (by intro z; cases z)
      simp only [List.getElem?_cons_zero, Option.some.injEq] at this
      subst this
      exact .so q (t.resig (by simpa using hl) fun i hi => by have := h (i + 1) hi; simpa using this)
theorem wipe_at {σ : L2.St} {i : Nat} : ∀ {vs : List Nat}, i ∉ vs → (wipe σ vs)[i]? = σ[i]?
  | [], _ => rfl
  | v :: vs, h => by
    unfold wipe
    rw [List.getElem?_set_ne (fun z => h (by rw [z]; exact List.mem_cons_self))]
    exact wipe_at fun z => h (List.mem_cons_of_mem _ z)
theorem wipeE_at {env : Slots} {i : Nat} : ∀ {vs : List Nat}, i ∈ vs → (wipeE env vs).at i = none
  | v :: vs, h => by
    unfold wipeE
    by_cases e : v = i
    · subst e
      by_cases l : v < (wipeE env vs).length
      · exact at_set l none
      · have e : (wipeE env vs).set v none = wipeE env vs := List.set_eq_of_length_le (by omega)
        rw [e]
        unfold Slots.at
        rw [List.getElem?_eq_none (by omega)]
    · rw [at_set_ne e]
      exact wipeE_at ((List.mem_cons.mp h).resolve_left fun z => e z.symm)
theorem wipeE_len {env : Slots} : ∀ {vs : List Nat}, (wipeE env vs).length = env.length
  | [] => rfl
  | v :: vs => by unfold wipeE; rw [List.length_set, wipeE_len]
theorem ER.wiped (h : ER K W H env σ g) : ∀ vs : List Nat, ∃ f g', ER K W H (wipeE env vs) (wipe σ vs) g' ∧ (f ++ g').Perm g
  | [] => ⟨[], g, h, .refl _⟩
  | v :: vs => by
    obtain ⟨f, g', h1, h2⟩ := ER.wiped h vs
    obtain ⟨f2, g2, h3, h4⟩ := h1.drop v
    refine ⟨f ++ f2, g2, ?_, ?_⟩
    · refine h3.resig (by show _ = ((wipe σ vs).set v none).length; rw [List.length_set]) fun i hi => ?_
      show (wipe σ vs)[i]? = ((wipe σ vs).set v none)[i]?
      have n : v ≠ i := by
        rintro rfl
        exact hi (by
          have z : (wipeE env (v :: vs)).at v = none := wipeE_at List.mem_cons_self
          exact z)
      rw [List.getElem?_set_ne n]
    · rw [List.append_assoc]
      exact (h4.append_left f).trans h2
theorem ER.back (hp : ∀ (d : D) (v : V), VR K W0 H0 d v [] → VR K W H d v []) {g0 : List Addr} (ho : ER K W0 H0 old σ g0) (h : ER K W H env σ g) : ∀ vs : List Nat, ∃ f g', ER K W H (Hc.again old env vs) σ g' ∧ (f ++ g').Perm g
  | [] => ⟨[], g, h, .refl _⟩
  | v :: vs => by
    obtain ⟨f, g', h1, h2⟩ := ER.back hp ho h vs
    obtain ⟨f2, g2, h3, h4⟩ := h1.drop v
    have nn : ∃ f g', ER K W H ((Hc.again old env vs).set v none) σ g' ∧ (f ++ g').Perm g := ⟨f ++ f2, g2, h3, by rw [List.append_assoc]; exact (h4.append_left f).trans h2⟩
    unfold Hc.again
    cases q : old.at v with
    | none => exact nn
    | some d =>
      dsimp only
      split
      · rename_i hn
        obtain ⟨x, fx, gx, k1, k2, _, _⟩ := ho.take q
        have z := k2.none_of hn
        subst z
        have lt : v < (Hc.again old env vs).length := by rw [h1.length, ← ho.length]; exact at_lt q
        obtain ⟨g3, k3, k4⟩ := h3.put (i := v) (at_set lt none) (by simpa using lt) k1 (hp _ _ k2)
        rw [List.set_set] at k3
        refine ⟨f ++ f2, g3, k3, ?_⟩
        have k4 : g3.Perm g2 := by simpa using k4
        rw [List.append_assoc]
        exact ((k4.append_left f2).trans h4 |>.append_left f).trans h2
      · exact nn
end
end Hc

set_option Elab.async false
set_option linter.all false
set_option maxRecDepth 100000
set_option maxHeartbeats 2000000
namespace Hc
open PySem PySem.Spec PyProof.Rows L2
section
variable {K : PySem.W.Frag} {W W0 W1 W' : Wr} {H H0 H1 H' : Hp} {F g fp f : List Addr} {env old : Slots} {σ σ1 σ2 : L2.St} {d : D} {v : V} {c c' : Bool}
theorem Tr.weakc (t : Tr K c W H fp W' H' f) (hc : c' = true → c = true) : Tr K c' W H fp W' H' f := ⟨fun a o e z => t.keep a o e (z.imp id hc), t.new, t.stay, t.src, t.inW, t.nd, t.wok0, t.wok, t.old⟩
theorem Tr.less {f' : List Addr} (t : Tr K c W H fp W' H' f) (hs : ∀ a ∈ f', a ∈ f) (hn : f'.Nodup) : Tr K c W H fp W' H' f' := ⟨t.keep, t.new, t.stay, fun a z => t.src a (hs a z), fun a z => t.inW a (hs a z), hn, t.wok0, t.wok, t.old⟩
theorem Tr.chgNew {p : Addr} {o : HO} {f' : List Addr} (t : Tr K c W H fp W' H' f) (hp : H p = none) (hm : p ∈ f) (ho : Ownable o) (hs : ∀ a ∈ f', a ∈ f) (hn : f'.Nodup) : Tr K c W H fp W' (upd H' p o) f' where
  keep := fun a u e h => (upd_ne (by rintro rfl; rw [hp] at e; cases e)).trans (t.keep a u e h)
  new := t.new
  stay := t.stay
  src := fun a z => t.src a (hs a z)
  inW := fun a z => t.inW a (hs a z)
  nd := hn
  wok0 := t.wok0
  wok := fun a w => by
    obtain ⟨u, e, ow⟩ := t.wok a w
    by_cases n : a = p
    · subst n; exact ⟨o, upd_same, ho⟩
    · exact ⟨u, by rw [upd_ne n]; exact e, ow⟩
  old := fun a u e => by
    have n : a ≠ p := by rintro rfl; rw [hp] at e; cases e
    obtain ⟨u', e'⟩ := t.old a u e
    exact ⟨u', (upd_ne n).trans e'⟩
theorem Tr.tupT {T : Addr} {zs : List V} (t : Tr K c W H fp W' H' f) (hT : H' T = none) : Tr K c W H fp W' (upd H' T (.tup zs)) f := by
  have u : Tr K true W' H' f W' (upd H' T (.tup zs)) f := Tr.new0 t.wok hT (fun _ z => z) t.inW t.nd
  exact (t.trans u).weakc fun z => by rw [z]; rfl
theorem Pre.tupT {T : Addr} {zs : List V} (P : Pre K W H env σ F g) (hT : H T = none) : Pre K W (upd H T (.tup zs)) env σ F g :=
  ⟨ER.move (g := g) (fun b _ o e => (upd_ne (ne_of_none e hT)).trans e) (fun b o e w => ⟨(upd_ne (ne_of_none e hT)).trans e, w⟩) (fun _ _ _ w => w) P.wok P.er fun _ z => z, P.nd, P.inW, fun a w => by
    obtain ⟨u, e, ow⟩ := P.wok a w
    exact ⟨u, (upd_ne (ne_of_none e hT)).trans e, ow⟩⟩
theorem VRs.newT (hw : Wok W H) {T : Addr} (hT : H T = none) {zs : List V} {d : List D} {v : List V} (h : VRs K W H d v f) : VRs K W (upd H T (.tup zs)) d v f :=
  VRs.move (g := f) (fun b _ o e => (upd_ne (ne_of_none e hT)).trans e) (fun b o e w => ⟨(upd_ne (ne_of_none e hT)).trans e, w⟩) (fun _ _ _ w => w) hw h fun _ z => z
theorem ER.storeAny (h : ER K W H env σ g) (i : Nat) (r : VR K W H d v f) : ∃ f0 g', ER K W H (env.set i (some d)) (σ.set i (some v)) g' ∧ (f0 ++ g').Perm (f ++ g) := by
  by_cases lt : i < env.length
  · obtain ⟨f1, g1, h1, h2⟩ := h.drop i
    obtain ⟨g2, h3, h4⟩ := h1.store (i := i) (at_set lt none) (by simpa using lt) r
    rw [List.set_set] at h3
    refine ⟨f1, g2, h3, ?_⟩
    have e : (f1 ++ g2).Perm (f ++ (f1 ++ g1)) := List.perm_iff_count.mpr fun z => by
      have := h4.count_eq z
      simp only [List.count_append] at this ⊢
      omega
    exact e.trans (h2.append_left f)
  · have e1 : env.set i (some d) = env := List.set_eq_of_length_le (by omega)
    have e2 : σ.set i (some v) = σ := List.set_eq_of_length_le (by have := h.length; omega)
    rw [e1, e2]
    exact ⟨f, g, h, .refl _⟩
def gAll : List Nat → TGs
  | [] => gNil
  | i :: is => gCons (gName i) (gAll is)
def gT (K : PySem.W.Frag) : Tg → TG
  | .nm i => gName i
  | .tup is => gTup K is.length (gAll is)
  | .nst i is => gTup K 2 (gCons (gName i) (gCons (gTup K is.length (gAll is)) gNil))
  | .lst is => gLst K is.length (gAll is)
structure Bnd (K : PySem.W.Frag) (W : Wr) (H : Hp) (is : List Nat) (env : Slots) (σ : L2.St) (e' : Slots) (σ' : L2.St) (fg : List Addr) (g' : List Addr) : Prop where
  er : ER K W H e' σ' g'
  pm : ∃ f0, (f0 ++ g').Perm fg
  len : σ'.length = σ.length
  lenE : e'.length = env.length
  σs : ∀ j, j ∉ is → σ'[j]? = σ[j]?
theorem setAllOk : ∀ {is : List Nat} {ds : List D} {vs : List V} {f g : List Addr} {env e' : Slots} {σ : L2.St} {Q : L2.St → Hp → Prop}, VRs K W H ds vs f → ER K W H env σ g → setAll is ds env = some e' →
    (∀ σ' g', Bnd K W H is env σ e' σ' (f ++ g) g' → Q σ' H) → gAll is vs σ H Q
  | [], [], _, _, g, env, e', σ, Q, .nil, er, h, k => by
    cases h
    exact ⟨rfl, k σ g ⟨er, ⟨[], .refl _⟩, rfl, rfl, fun _ _ => rfl⟩⟩
  | i :: is, d :: ds, _, _, g, env, e', σ, Q, .cons (v := v) (f := f1) (g := f2) t r, er, h, k => by
    obtain ⟨f0, g1, h1, h2⟩ := er.storeAny i t
    refine ⟨v, _, rfl, ?_⟩
    show gAll is _ (σ.set i (some v)) H Q
    refine setAllOk r h1 h fun σ' g' b => k σ' g' ⟨b.er, ?_, by rw [b.len, List.length_set], by rw [b.lenE, List.length_set], fun j hj => ?_⟩
    · obtain ⟨f3, h3⟩ := b.pm
      refine ⟨f0 ++ f3, List.perm_iff_count.mpr fun z => ?_⟩
      have e1 := h2.count_eq z
      have e2 := h3.count_eq z
      simp only [List.count_append] at e1 e2 ⊢
      omega
    · rw [b.σs j fun z => hj (List.mem_cons_of_mem _ z), List.getElem?_set_ne fun z => hj (by rw [z]; exact List.mem_cons_self)]
  | [], _ :: _, _, _, _, _, _, _, _, _, _, h, _ => by cases h
  | _ :: _, [], _, _, _, _, _, _, _, _, _, h, _ => by cases h
theorem setAll_len : ∀ {is : List Nat} {ds : List D} {env e' : Slots}, setAll is ds env = some e' → is.length = ds.length
  | [], [], _, _, _ => rfl
  | _ :: is, _ :: ds, _, _, h => by
    have := setAll_len (is := is) (ds := ds) h
    simp [this]
  | [], _ :: _, _, _, h => by cases h
  | _ :: _, [], _, _, h => by cases h
theorem bindOk {tg : Tg} {e' : Slots} {Q : L2.St → Hp → Prop} (r : VR K W H d v f) (er : ER K W H env σ g) (h : bindTg tg d env = some e') (k : ∀ σ' g', Bnd K W H (tgS tg) env σ e' σ' (f ++ g) g' → Q σ' H) : gT K tg v σ H Q := by
  unfold bindTg at h
  split at h
  · cases h
    rename_i i
    obtain ⟨f0, g1, h1, h2⟩ := er.storeAny i r
    exact k _ g1 ⟨h1, ⟨f0, h2⟩, List.length_set, List.length_set, fun j hj => List.getElem?_set_ne fun z => hj (by rw [z]; exact List.mem_singleton.mpr rfl)⟩
  · rename_i is ds
    cases r with
    | tup q t =>
      rename_i a vs
      exact ⟨a, vs, rfl, .of q, by rw [← t.length, setAll_len h], setAllOk t er h k⟩
  · rename_i i is x ds
    cases r with
    | tup q t =>
      rename_i a vs
      cases t with
      | cons t1 t2 =>
        cases t2 with
        | cons t3 t4 =>
          cases t4
          cases t3 with
          | tup q2 t5 =>
            rename_i v1 f1 f3 b us
            obtain ⟨f0, g1, h1, h2⟩ := er.storeAny i t1
            refine ⟨a, _, rfl, .of q, rfl, v1, _, rfl, ?_⟩
            show gCons _ gNil _ (σ.set i (some v1)) H Q
            refine ⟨_, [], rfl, b, us, rfl, .of q2, by rw [← t5.length, setAll_len h], ?_⟩
            refine setAllOk (Q := fun σ' H' => gNil [] σ' H' Q) t5 h1 h fun σ' g' bd => ⟨rfl, k σ' g' ⟨bd.er, ?_, by rw [bd.len, List.length_set], by rw [bd.lenE, List.length_set], fun j hj => ?_⟩⟩
            · obtain ⟨f4, h4⟩ := bd.pm
              refine ⟨f0 ++ f4, List.perm_iff_count.mpr fun z => ?_⟩
              have e1 := h2.count_eq z
              have e2 := h4.count_eq z
              simp only [List.count_append, List.count_nil] at e1 e2 ⊢
              omega
            · rw [bd.σs j fun z => hj (List.mem_cons_of_mem _ z), List.getElem?_set_ne fun z => hj (by rw [z]; exact List.mem_cons_self)]
  · rename_i is ds
    cases r with
    | own q t =>
      rename_i a vs f2
      refine ⟨a, vs, rfl, .inl ?_, by rw [← t.length, setAll_len h], setAllOk t er h fun σ' g' b => k σ' g' ⟨b.er, ?_, b.len, b.lenE, b.σs⟩⟩
      · first | exact .inl q | exact Rd.of q | exact .of q | exact q
      · obtain ⟨f0, h0⟩ := b.pm
        exact ⟨a :: f0, List.Perm.cons a h0⟩
  · cases h
theorem wipe_of {σ1 σ2 : L2.St} (hl : σ1.length = σ2.length) : ∀ {vs : List Nat}, (∀ j, j ∉ vs → σ1[j]? = σ2[j]?) → L2.wipe σ1 vs = L2.wipe σ2 vs := by
  intro vs h
  apply List.ext_getElem?
  intro j
  by_cases hj : j ∈ vs
  · have e : ∀ (σ : L2.St) (vs : List Nat), j ∈ vs → (L2.wipe σ vs)[j]? = if j < σ.length then some none else none := by
      intro σ vs
      induction vs with
      | nil => intro z; cases z
      | cons v vs ih =>
        intro z
        show ((L2.wipe σ vs).set v none)[j]? = _
        by_cases e : v = j
        · subst e
          rw [List.getElem?_set]
          simp [L2.wipe_length]
        · rw [List.getElem?_set_ne e]
          exact ih ((List.mem_cons.mp z).resolve_left fun w => e w.symm)
    rw [e _ _ hj, e _ _ hj, hl]
  · rw [wipe_at hj, wipe_at hj]
    exact h j hj
end
def E0 : XW := fun _ _ _ _ _ _ => False
def tcN (c : CE) (tc : Slots → R Bool) : Slots → R Bool := fun e => match c with
  | .nop => .ok true e
  | _ => tc e
theorem pg_kok {X : Cx} {e : Expr} {t : TG} (h : PG X e t) : PG X e (fun v σ H Q => KOK X.K H → t v σ H Q) := ⟨fun pins s σ H v u Q I r q => h.run pins s σ H v u Q I r (q (kok I))⟩
theorem Post.raw {α β : Type} {K : PySem.W.Frag} {Ra : Rl α β} {E : XW} {c : Bool} {W : Wr} {H : Hp} {fp : List Addr} {σ : L2.St} {r : R α} {a : α} {e : Slots} {Q : β → Hp → Prop} (hr : r = .ok a e)
    (h : ∀ W' H' b f g, Tr K c W H fp W' H' (f ++ g) → Ra W' H' a b f → ER K W' H' e σ g → Q b H') : Post K Ra E c W H fp σ r Q := by
  subst hr
  exact h
structure Trn (K : PySem.W.Frag) (c : Bool) (gs : List (Nat × D)) (vs : List Nat) (step : D → Slots → R (Option D)) (xs ys : List D) (e2 : Slots) (σ : L2.St) (Dd : Addr) (W1 : Wr) (H1 : Hp) (g1 : List Addr) (i : Nat) (H : Hp) (W : Wr) (env : Slots) (accD : List D) (accV : List V) (facc g : List Addr) : Prop where
  pre : Pre K W H env (L2.wipe σ vs) (Dd :: facc) g
  hD : H Dd = some (.lst accV)
  acc : VRs K W H accD accV facc
  run : compL gs vs step accD (xs.drop i) env = .ok ys e2
  tr : Tr K c W1 H1 g1 W H ((Dd :: facc) ++ g)
  out : ∀ v ∈ vs, env.at v = none
section
variable {K : PySem.W.Frag} {c : Bool} {gs : List (Nat × D)} {vs : List Nat} {step : D → Slots → R (Option D)} {xs ys accD : List D} {e2 env : Slots} {σ : L2.St} {Dd : Addr} {W1 W : Wr} {H1 H : Hp} {g1 facc g : List Addr} {i : Nat} {accV : List V}
theorem Trn.pers (T : Trn K c gs vs step xs ys e2 σ Dd W1 H1 g1 i H W env accD accV facc g) (hg : ∀ a ∈ g1, W1 a) (d : D) (v : V) (h : VR K W1 H1 d v []) : VR K W H d v [] := h.aside T.tr hg fun _ z => by cases z
theorem Trn.stays (T : Trn K c gs vs step xs ys e2 σ Dd W1 H1 g1 i H W env accD accV facc g) : Hc.stays gs env = true := by
  have h := T.run
  cases q : xs.drop i with
  | nil =>
    rw [q] at h
    unfold compL at h
    split at h
    · assumption
    · cases h
  | cons d ds =>
    rw [q] at h
    unfold compL at h
    split at h
    · assumption
    · cases h
theorem stays_at {gs : List (Nat × D)} {env : Slots} (h : stays gs env = true) {q : Nat × D} (hq : q ∈ gs) : env.at q.1 ≠ none := by
  unfold stays at h
  have := (List.all_eq_true.mp h) q hq
  intro z
  rw [z] at this
  cases this
theorem Trn.ok {J : It} (T : Trn K c gs vs step xs ys e2 σ Dd W1 H1 g1 i H W env accD accV facc g) (wk : Wlk K gs xs σ J W1 H1) (hg : ∀ a ∈ g1, W1 a) : Ok K J xs W H :=
  wk W H env (L2.wipe σ vs) g (T.pers hg) (fun q hq => wipe_at fun z => stays_at T.stays hq (T.out _ z)) T.pre.er T.pre.wok T.stays
end
theorem lc_read {K : PySem.W.Frag} {E : XW} {I C Ec : CE} {ri re : Slots → R D} {tc : Slots → R Bool} {tg : Tg} {vs : List Nat} (hsub : ∀ i ∈ tgS tg, i ∈ vs) {σ : L2.St} {H : Hp} {Q : VK} (h : tE K E (I.calm && C.calm && Ec.calm) (cComp vs tg I ri C tc re) σ H Q) :
    tLc (tI K E I.calm (cIt I ri)) (fun v σ H Q => KOK K H → gT K tg v σ H Q) (tT K E0 C.calm (tcN C tc)) (tE K E0 Ec.calm re) vs σ H (fun v H' => KOK K H' → Q v H') := by
  obtain ⟨W, env, g, P, h⟩ := h
  refine ⟨W, env, g, P, ?_⟩
  have h : Post K (VR K) E (I.calm && (C.calm && Ec.calm)) W H ([] ++ g) σ ((cIt I ri env).bind fun p e => (compL p.2 vs (turnE tg C tc re) [] p.1 (wipeE e vs)).bind fun ys e2 => .ok (.lst true ys) (again e e2 vs)) Q := by
    rw [← Bool.and_assoc]
    exact h
  refine Post.mono (P.run (Ra := RI K σ) h) ?_
  rintro J H1 ⟨p, e1, W1, f1, g1, _, ⟨rfl, wk⟩, P1, t1, post⟩
  simp only [List.nil_append] at P1 post
  obtain ⟨xs, gs⟩ := p
  dsimp only at wk post
  cases qL : compL gs vs (turnE tg C tc re) [] xs (wipeE e1 vs) with
  | no => rw [qL] at post; exact post.elim
  | ex x e => exact absurd qL (compL_ex fun d e x e' => mute_ex)
  | ok ys e2 =>
    rw [qL] at post
    intro Dd hD
    generalize hce : (C.calm && Ec.calm) = ce at post
    -- the start
    have T0 : K.lookup Dd = none → ∃ W env accD accV facc g, Trn K ce gs vs (turnE tg C tc re) xs ys e2 σ Dd W1 H1 g1 0 (upd H1 Dd (.lst [])) W env accD accV facc g := by
      intro hk
      obtain ⟨f0, g', h1, h2⟩ := P1.er.wiped vs
      have nd : (f0 ++ g').Nodup := (h2.nodup_iff).mpr P1.base.nd
      have sub : ∀ a ∈ g', a ∈ g1 := fun a z => (h2.mem_iff).mp (List.mem_append_right _ z)
      have gw : ∀ a ∈ g', W1 a := fun a z => P1.gw a (sub a z)
      have t : Tr K ce W1 H1 g1 (W1.and Dd) (upd H1 Dd (.lst [])) (Dd :: g') := Tr.new1 P1.wok hD hk trivial sub gw (List.nodup_append.mp nd).2.1
      have er : ER K (W1.and Dd) (upd H1 Dd (.lst [])) (wipeE e1 vs) (L2.wipe σ vs) g' :=
        ER.move (g := g') (fun b _ o e => (upd_ne (ne_of_none e hD)).trans e) (fun b o e w => ⟨(upd_ne (ne_of_none e hD)).trans e, fun z => z.elim w fun z => by rw [z, hD] at e; cases e⟩) (fun b o e w z => z.elim w fun z => by rw [z, hk] at e; cases e) P1.wok h1 fun _ z => z
      exact ⟨W1.and Dd, wipeE e1 vs, [], [], [], g', ⟨er, t.nd, t.inW, t.wok⟩, upd_same, .nil, by rw [List.drop_zero]; exact qL, t, fun v hv => wipeE_at hv⟩
    cases hk : K.lookup Dd with
    | some o =>
      -- an object of the module: it cannot be
      have no : ∀ H', (∃ o, H' Dd = some o) → ¬ KOK K H' := fun H' ⟨o', e⟩ z => by
        rw [z _ _ hk] at e; cases e
      have okJ : stays gs (wipeE e1 vs) = true → Ok K J xs W1 (upd H1 Dd (.lst [])) := fun st => by
        obtain ⟨f0, g', h1, h2⟩ := P1.er.wiped vs
        have mv : ∀ {d : D} {v : V} {f : List Addr}, VR K W1 H1 d v f → VR K W1 (upd H1 Dd (.lst [])) d v f := fun {d v f} h => VR.move (g := f) (fun b _ o e => (upd_ne (ne_of_none e hD)).trans e) (fun b o e w => ⟨(upd_ne (ne_of_none e hD)).trans e, w⟩) (fun _ _ _ w => w) P1.wok h fun _ z => z
        exact wk W1 _ (wipeE e1 vs) (L2.wipe σ vs) g' (fun d v h => mv h) (fun q hq => wipe_at fun z => stays_at st hq (wipeE_at z))
          (ER.move (g := g') (fun b _ o e => (upd_ne (ne_of_none e hD)).trans e) (fun b o e w => ⟨(upd_ne (ne_of_none e hD)).trans e, w⟩) (fun _ _ _ w => w) P1.wok h1 fun _ z => z) (fun a w => by
            obtain ⟨u, e, ow⟩ := P1.wok a w
            exact ⟨u, (upd_ne (ne_of_none e hD)).trans e, ow⟩) st
      have st : stays gs (wipeE e1 vs) = true := by
        cases xs with
        | nil => unfold compL at qL; split at qL; assumption; cases qL
        | cons d ds => unfold compL at qL; split at qL; assumption; cases qL
      have okJ := okJ st
      refine ⟨fun i m H => i = 0 ∧ m = 0 ∧ H = upd H1 Dd (.lst []), ⟨0, rfl, rfl, rfl⟩, ?_⟩
      rintro i m H ⟨rfl, rfl, rfl⟩
      cases xs with
      | nil => exact .inl ⟨okJ.2, fun z => absurd z (no _ ⟨_, upd_same⟩)⟩
      | cons d ds =>
        obtain ⟨go, yl⟩ := okJ.1 0 d rfl
        refine .inr ⟨go, fun _ => False, fun _ z => z.elim, fun x H' y kk => absurd kk (no H' ?_)⟩
        obtain ⟨_, rfl | ⟨T, zs, hT, rfl⟩⟩ := yl x H' y
        · exact ⟨_, upd_same⟩
        · exact ⟨_, (upd_ne (ne_of_none upd_same hT)).trans upd_same⟩
    | none =>
      refine ⟨fun i m H => m = xs.length - i ∧ i ≤ xs.length ∧ ∃ W env accD accV facc g, Trn K ce gs vs (turnE tg C tc re) xs ys e2 σ Dd W1 H1 g1 i H W env accD accV facc g, ⟨_, rfl, Nat.zero_le _, T0 hk⟩, ?_⟩
      rintro i m H2 ⟨rfl, hle, W2, env2, accD, accV, facc, g2, T⟩
      have okJ := T.ok wk P1.gw
      by_cases hlt : i < xs.length
      · obtain ⟨go, yl⟩ := okJ.1 i xs[i] (by simp [hlt])
        refine .inr ⟨go, fun H => ∃ W env accD accV facc g, Trn K ce gs vs (turnE tg C tc re) xs ys e2 σ Dd W1 H1 g1 (i + 1) H W env accD accV facc g, fun H' z => ⟨xs.length - (i + 1), by omega, rfl, hlt, z⟩, fun x H' y _ => ?_⟩
        have hrun := T.run
        rw [List.drop_eq_getElem_cons hlt] at hrun
        unfold compL at hrun
        rw [if_pos T.stays] at hrun
        -- the item
        obtain ⟨vx, hH'⟩ := yl x H' y
        have S : Pre K W2 H' env2 (L2.wipe σ vs) (Dd :: facc) g2 ∧ H' Dd = some (.lst accV) ∧ VRs K W2 H' accD accV facc ∧ Tr K ce W1 H1 g1 W2 H' ((Dd :: facc) ++ g2) := by
          rcases hH' with rfl | ⟨Tt, zs, hT, rfl⟩
          · exact ⟨T.pre, T.hD, T.acc, T.tr⟩
          · exact ⟨T.pre.tupT hT, (upd_ne (ne_of_none T.hD hT)).trans T.hD, T.acc.newT T.pre.wok hT, T.tr.tupT hT⟩
        obtain ⟨P2, hD2, acc2, tr2⟩ := S
        clear hH' yl y go
        cases qs : turnE tg C tc re xs[i] env2 with
        | no => rw [qs] at hrun; cases hrun
        | ex x e => exact absurd qs mute_ex
        | ok o e4 =>
          rw [qs] at hrun
          have qs := mute_ok qs
          cases qb : bindTg tg xs[i] env2 with
          | none => rw [qb] at qs; cases qs
          | some e3 =>
            rw [qb] at qs
            dsimp only at qs
            refine bindOk vx P2.er qb fun σ2 g3 b => ?_
            have wσ : L2.wipe σ2 vs = L2.wipe σ vs := by
              have e1 : L2.wipe σ2 vs = L2.wipe (L2.wipe σ vs) vs := wipe_of b.len fun j hj => b.σs j fun z => hj (hsub j z)
              rw [e1]
              exact wipe_of (L2.wipe_length _ _) fun j hj => wipe_at hj
            refine ⟨wσ, ?_⟩
            obtain ⟨f3, pm3⟩ := b.pm
            have nd2 := P2.base.nd
            have nd3 : (f3 ++ g3).Nodup := (pm3.nodup_iff).mpr (by simpa using nd2)
            have sub3 : ∀ a ∈ g3, a ∈ g2 := fun a z => by simpa using (pm3.mem_iff).mp (List.mem_append_right f3 z)
            have ndF : ((Dd :: facc) ++ g3).Nodup := List.nodup_append.mpr ⟨(List.nodup_append.mp P2.nd).1, (List.nodup_append.mp nd3).2.1, fun a ha c hc e => (List.nodup_append.mp P2.nd).2.2 a ha c (sub3 c hc) e⟩
            have P3 : Pre K W2 H' e3 σ2 (Dd :: facc) g3 := ⟨b.er, ndF, fun a z => (List.mem_append.mp z).elim (P2.Fw a) fun z => P2.gw a (sub3 a z), P2.wok⟩
            have tr3 : Tr K ce W1 H1 g1 W2 H' ((Dd :: facc) ++ g3) := tr2.less (fun a z => (List.mem_append.mp z).elim (List.mem_append_left _) fun z => List.mem_append_right _ (sub3 a z)) ndF
            obtain ⟨k, e5, q1, q2⟩ := bind_ok qs
            refine ⟨W2, e3, g3, P3.base, Post.raw (a := k) (e := e5) q1 ?_⟩
            rintro W4 H4 k' f4 g4 t4 ⟨rfl, rfl⟩ er4
            have P4 : Pre K W4 H4 e5 σ2 (Dd :: facc) g4 := by simpa using P3.step t4 er4
            have w4 : Tr K C.calm W2 H' ((Dd :: facc) ++ g3) W4 H4 ((Dd :: facc) ++ g4) := by simpa using P3.wide t4 er4
            have tr4 : Tr K ce W1 H1 g1 W4 H4 ((Dd :: facc) ++ g4) := (tr3.trans w4).weakc fun z => by
              rw [← hce] at z ⊢
              rw [Bool.and_eq_true] at z
              simp [z.1, z.2]
            have hD4 : H4 Dd = some (.lst accV) := t4.keep Dd _ hD2 (.inl (P3.dis Dd List.mem_cons_self))
            have acc4 : VRs K W4 H4 accD accV facc := acc2.aside t4 P3.gw fun a z => P3.dis a (List.mem_cons_of_mem _ z)
            -- the next turn's state
            have next : ∀ {W5 : Wr} {H5 : Hp} {e6 : Slots} {accD5 : List D} {accV5 : List V} {facc5 g5 : List Addr}, Pre K W5 H5 e6 σ2 (Dd :: facc5) g5 → H5 Dd = some (.lst accV5) → VRs K W5 H5 accD5 accV5 facc5 → Tr K ce W1 H1 g1 W5 H5 ((Dd :: facc5) ++ g5) →
                compL gs vs (turnE tg C tc re) accD5 (xs.drop (i + 1)) (wipeE e6 vs) = .ok ys e2 → ∃ W env accD accV facc g, Trn K ce gs vs (turnE tg C tc re) xs ys e2 σ Dd W1 H1 g1 (i + 1) H5 W env accD accV facc g := by
              intro W5 H5 e6 accD5 accV5 facc5 g5 P5 hD5 acc5 tr5 hr5
              obtain ⟨f6, g6, h6, pm6⟩ := P5.er.wiped vs
              rw [wσ] at h6
              have nd6 : (f6 ++ g6).Nodup := (pm6.nodup_iff).mpr (by simpa using P5.base.nd)
              have sub6 : ∀ a ∈ g6, a ∈ g5 := fun a z => (pm6.mem_iff).mp (List.mem_append_right f6 z)
              have ndF6 : ((Dd :: facc5) ++ g6).Nodup := List.nodup_append.mpr ⟨(List.nodup_append.mp P5.nd).1, (List.nodup_append.mp nd6).2.1, fun a ha c hc e => (List.nodup_append.mp P5.nd).2.2 a ha c (sub6 c hc) e⟩
              exact ⟨W5, wipeE e6 vs, accD5, accV5, facc5, g6, ⟨h6, ndF6, fun a z => (List.mem_append.mp z).elim (P5.Fw a) fun z => P5.gw a (sub6 a z), P5.wok⟩, hD5, acc5, hr5,
                tr5.less (fun a z => (List.mem_append.mp z).elim (List.mem_append_left _) fun z => List.mem_append_right _ (sub6 a z)) ndF6, fun v hv => wipeE_at hv⟩
            cases k with
            | false =>
              rw [if_neg Bool.false_ne_true] at q2 ⊢
              cases q2
              exact next P4 hD4 acc4 tr4 hrun
            | true =>
              rw [if_pos rfl] at q2 ⊢
              obtain ⟨yd, e6, q3, q4⟩ := bind_ok q2
              cases q4
              dsimp only [Hc.R.bind_ok] at hrun
              split at hrun
              · rename_i hz
                refine ⟨W4, e5, g4, P4.base, Post.raw (a := yd) (e := e4) q3 ?_⟩
                intro W5 H5 yv f5 g5 t5 r5 er5
                have P5 : Pre K W5 H5 e4 σ2 ((Dd :: facc) ++ f5) g5 := P4.step t5 er5
                have tr5 : Tr K ce W1 H1 g1 W5 H5 (((Dd :: facc) ++ f5) ++ g5) := (tr4.trans (P4.wide t5 er5)).weakc fun z => by
                  rw [← hce] at z ⊢
                  rw [Bool.and_eq_true] at z
                  simp [z.1, z.2]
                have hD5 : H5 Dd = some (.lst accV) := t5.keep Dd _ hD4 (.inl (P4.dis Dd List.mem_cons_self))
                have acc5 : VRs K W5 H5 accD accV facc := acc4.aside t5 P4.gw fun a z => P4.dis a (List.mem_cons_of_mem _ z)
                refine ⟨accV, hD5, by rw [← acc5.length, szEq]; exact hz, ?_⟩
                have P5 : Pre K W5 H5 e4 σ2 (Dd :: (facc ++ f5)) g5 := P5
                have nD : Dd ∉ (facc ++ f5) ++ g5 := (List.nodup_cons.mp P5.nd).1
                have wD : W5 Dd := P5.Fw Dd List.mem_cons_self
                have acc6 : VRs K W5 (upd H5 Dd (.lst (accV ++ [yv]))) (accD ++ [yd]) (accV ++ [yv]) (facc ++ f5) := by
                  have z : VRs K W5 H5 (accD ++ [yd]) (accV ++ [yv]) (facc ++ (f5 ++ [])) := acc5.app (.cons r5 .nil)
                  rw [List.append_nil] at z
                  exact z.hop P5.wok wD fun z => nD (List.mem_append_left _ z)
                have tr6 : Tr K ce W1 H1 g1 W5 (upd H5 Dd (.lst (accV ++ [yv]))) ((Dd :: (facc ++ f5)) ++ g5) := Tr.chgNew tr5 hD (List.mem_cons_self) trivial (fun _ z => z) P5.nd
                exact next ⟨P5.er.hop P5.wok wD fun z => nD (List.mem_append_right _ z), P5.nd, P5.inW, tr6.wok⟩ upd_same acc6 tr6 hrun
              · cases hrun
      · have e : i = xs.length := by omega
        subst e
        refine .inl ⟨okJ.2, fun _ => ?_⟩
        have hrun := T.run
        rw [List.drop_length] at hrun
        unfold compL at hrun
        rw [if_pos T.stays] at hrun
        cases hrun
        have er1 : ER K W2 H2 e2 σ g2 := T.pre.er.resig (L2.wipe_length _ _) fun i hi => wipe_at fun z => hi (T.out i z)
        obtain ⟨f6, g6, h6, pm6⟩ := ER.back (T.pers P1.gw) P1.er er1 vs
        have nd6 : (f6 ++ g6).Nodup := (pm6.nodup_iff).mpr (by simpa using T.pre.base.nd)
        have sub6 : ∀ a ∈ g6, a ∈ g2 := fun a z => (pm6.mem_iff).mp (List.mem_append_right f6 z)
        have ndF6 : ((Dd :: facc) ++ g6).Nodup := List.nodup_append.mpr ⟨(List.nodup_append.mp T.pre.nd).1, (List.nodup_append.mp nd6).2.1, fun a ha c hc e => (List.nodup_append.mp T.pre.nd).2.2 a ha c (sub6 c hc) e⟩
        exact post W2 H2 (.ref Dd) (Dd :: facc) g6 (T.tr.less (fun a z => (List.mem_append.mp z).elim (List.mem_append_left _) fun z => List.mem_append_right _ (sub6 a z)) ndF6) (.own T.hD T.acc) h6
theorem peLc {X : Cx} {E : XW} {elt tgE iter : Expr} {ifs : List Expr} {scope : Scope} {own : List (Str × Nat)} {pos : Pos} {I C Ec : CE} {ri re : Slots → R D} {tc : Slots → R Bool} {tg : Tg} {vs : List Nat} (hc : X.calm = true) (hN : X.N.Nodup) (hi : PI X tgE iter (tI X.K E I.calm (cIt I ri)))
    (ok : BlkOk X.N X.env.scope scope own) (hvs : own.map (·.2) = vs) (hsub : ∀ i ∈ tgS tg, i ∈ vs)
    (hg : ∀ (s : Shared) (H : Hp) (C : Addr) (cl : List (Str × Addr)) (fp : List Addr), PG (X.blk s H scope (compEnvC scope cl C X.env) fp) tgE (gT X.K tg)) (ht : ∀ (s : Shared) (H : Hp) (A : Addr) (cl : List (Str × Addr)) (fp : List Addr), PTs (X.blk s H scope (compEnvC scope cl A X.env) fp) ifs (tT X.K E0 C.calm (tcN C tc)))
    (he : ∀ (s : Shared) (H : Hp) (C : Addr) (cl : List (Str × Addr)) (fp : List Addr), PE (X.blk s H scope (compEnvC scope cl C X.env) fp) elt (tE X.K E0 Ec.calm re)) (hs : ∀ x, foldedSetIterable iter X.env x = pure x) :
    PE X (.ListComp elt [⟨tgE, iter, ifs, 0⟩] scope pos) (tE X.K E (I.calm && C.calm && Ec.calm) (cComp vs tg I ri C tc re)) := by
  have hg' : ∀ (s : Shared) (H : Hp) (C : Addr) (cl : List (Str × Addr)) (fp : List Addr), PG (X.blk s H scope (compEnvC scope cl C X.env) fp) tgE (fun v σ H Q => KOK X.K H → gT X.K tg v σ H Q) := fun s H C cl fp => pg_kok (hg s H C cl fp)
  refine pe_any fun σ H Q h => ⟨_, pe_lc hc hN hi ok hg' ht he hs, ?_⟩
  rw [hvs]
  exact lc_read hsub h
end Hc

set_option Elab.async false
set_option linter.all false
set_option maxRecDepth 100000
set_option maxHeartbeats 4000000
namespace Hc
open PySem PySem.Spec PyProof.Rows L2
theorem dcompL_ex {gs : List (Nat × D)} {vs : List Nat} {step : D → Slots → R (Option (D × D))} (hm : ∀ d e x e', step d e ≠ .ex x e') : ∀ {ds ks acc : List D} {env e' : Slots} {x : Exc}, dcompL gs vs step ks acc ds env ≠ .ex x e'
  | [], ks, acc, env, e', x => by
    unfold dcompL
    split <;> exact fun z => by cases z
  | d :: ds, ks, acc, env, e', x => by
    unfold dcompL
    split
    · cases q : step d env with
      | no => exact fun z => by cases z
      | ex y e => exact absurd q (hm _ _ _ _)
      | ok o e =>
        cases o with
        | none => exact dcompL_ex hm
        | some y =>
          show (if kOk y.1 = true ∧ ks.length < sz then _ else _) ≠ _
          split
          · exact dcompL_ex hm
          · exact fun z => by cases z
    · exact fun z => by cases z
theorem DK.putk {ks : List D} {vs : List V} {o : HO} {v : V} (hk : DK false ks vs o) (k : Key) : ∃ kvs, o = .dK kvs ∧ kvs.length = ks.length ∧ DK false (putKs ks (keyD k)) (putVs ks (keyD k) vs v) (.dK (L2.putK kvs k v)) ∧ ∀ j, keyAt ks (keyD k) = some j → j < vs.length := by
  cases hk with
  | k ks vs hl hn =>
    have e1 := keyAt_map keyD keyD_same ks k
    refine ⟨_, rfl, by rw [List.length_zip, ← hl, Nat.min_self, List.length_map], ?_, fun j hj => ?_⟩
    · rw [put_at k v ks vs hl hn]
      unfold putKs putVs
      rw [e1]
      cases h : ks.findIdx? (fun j => decide (j = k)) with
      | some i => exact .k ks (vs.set i v) (by rw [List.length_set]; exact hl) hn
      | none =>
        have q := DK.k (ks ++ [k]) (vs ++ [v]) (by simp [hl]) (put_nd k ks hn h)
        rw [List.map_append] at q
        exact q
    · rw [e1] at hj
      rw [← hl]
      exact (List.findIdx?_eq_some_iff_getElem.mp hj).1
theorem VRs.putv {K : PySem.W.Frag} {W : Wr} {H : Hp} {ks : List D} {kd : D} {ds : List D} {vs : List V} {fp0 f : List Addr} {d : D} {v : V} (r0 : VRs K W H ds vs fp0) (lt : ∀ j, keyAt ks kd = some j → j < vs.length) (l : VR K W H d v f) :
    ∃ fn fd, VRs K W H (putVs ks kd ds d) (putVs ks kd vs v) fn ∧ (fn ++ fd).Perm (fp0 ++ f) := by
  unfold putVs
  cases hk : keyAt ks kd with
  | none =>
    have q := r0.app (.cons l .nil)
    exact ⟨_, [], q, by simp⟩
  | some j =>
    have lj : j < ds.length := by rw [r0.length]; exact lt j hk
    obtain ⟨vj, fj, frj, s1, s2, s3, s4⟩ := r0.split (j := j) (d := ds[j]) (by simp [lj])
    obtain ⟨fq, k1, k2⟩ := s4 W H d v f (fun t s => t) l
    refine ⟨fq, fj, k1, List.perm_iff_count.mpr fun z => ?_⟩
    have e1 := k2.count_eq z
    have e2 := s3.count_eq z
    simp only [List.count_append] at e1 e2 ⊢
    omega
structure TrnK (K : PySem.W.Frag) (c : Bool) (gs : List (Nat × D)) (vs : List Nat) (step : D → Slots → R (Option (D × D))) (xs : List D) (ys : List D × List D) (e2 : Slots) (σ : L2.St) (Dd : Addr) (W1 : Wr) (H1 : Hp) (g1 : List Addr) (i : Nat) (H : Hp) (W : Wr) (env : Slots) (ksD accD : List D) (accV : List V) (o : HO) (facc g : List Addr) : Prop where
  pre : Pre K W H env (L2.wipe σ vs) (Dd :: facc) g
  hD : H Dd = some o
  dk : DK false ksD accV o
  acc : VRs K W H accD accV facc
  run : dcompL gs vs step ksD accD (xs.drop i) env = .ok ys e2
  tr : Tr K c W1 H1 g1 W H ((Dd :: facc) ++ g)
  out : ∀ v ∈ vs, env.at v = none
section
variable {K : PySem.W.Frag} {c : Bool} {gs : List (Nat × D)} {vs : List Nat} {step : D → Slots → R (Option (D × D))} {xs ksD accD : List D} {ys : List D × List D} {e2 env : Slots} {σ : L2.St} {Dd : Addr} {W1 W : Wr} {H1 H : Hp} {g1 facc g : List Addr} {i : Nat} {accV : List V} {o : HO}
theorem TrnK.pers (T : TrnK K c gs vs step xs ys e2 σ Dd W1 H1 g1 i H W env ksD accD accV o facc g) (hg : ∀ a ∈ g1, W1 a) (d : D) (v : V) (h : VR K W1 H1 d v []) : VR K W H d v [] := h.aside T.tr hg fun _ z => by cases z
theorem TrnK.stays (T : TrnK K c gs vs step xs ys e2 σ Dd W1 H1 g1 i H W env ksD accD accV o facc g) : Hc.stays gs env = true := by
  have h := T.run
  cases q : xs.drop i with
  | nil =>
    rw [q] at h
    unfold dcompL at h
    split at h
    · assumption
    · cases h
  | cons d ds =>
    rw [q] at h
    unfold dcompL at h
    split at h
    · assumption
    · cases h
theorem TrnK.ok {J : It} (T : TrnK K c gs vs step xs ys e2 σ Dd W1 H1 g1 i H W env ksD accD accV o facc g) (wk : Wlk K gs xs σ J W1 H1) (hg : ∀ a ∈ g1, W1 a) : Ok K J xs W H :=
  wk W H env (L2.wipe σ vs) g (T.pers hg) (fun q hq => wipe_at fun z => stays_at T.stays hq (T.out _ z)) T.pre.er T.pre.wok T.stays
end
theorem dc_read {K : PySem.W.Frag} {E : XW} {I C Kc Ec : CE} {ri rk re : Slots → R D} {tc : Slots → R Bool} {tg : Tg} {vs : List Nat} (hsub : ∀ i ∈ tgS tg, i ∈ vs) {σ : L2.St} {H : Hp} {Q : VK} (h : tE K E (I.calm && C.calm && Kc.calm && Ec.calm) (cDcomp vs tg I ri C tc rk re) σ H Q) :
    tDc (tI K E I.calm (cIt I ri)) (fun v σ H Q => KOK K H → gT K tg v σ H Q) (tT K E0 C.calm (tcN C tc)) (tE K E0 Kc.calm rk) (tE K E0 Ec.calm re) vs σ H (fun v H' => KOK K H' → Q v H') := by
  obtain ⟨W, env, g, P, h⟩ := h
  refine ⟨W, env, g, P, ?_⟩
  have h : Post K (VR K) E (I.calm && (C.calm && Kc.calm && Ec.calm)) W H ([] ++ g) σ ((cIt I ri env).bind fun p e => (dcompL p.2 vs (turnK tg C tc rk re) [] [] p.1 (wipeE e vs)).bind fun ys e2 => .ok (.dic true false ys.1 ys.2) (again e e2 vs)) Q := by
    rw [← Bool.and_assoc, ← Bool.and_assoc]
    exact h
  refine Post.mono (P.run (Ra := RI K σ) h) ?_
  rintro J H1 ⟨p, e1, W1, f1, g1, _, ⟨rfl, wk⟩, P1, t1, post⟩
  simp only [List.nil_append] at P1 post
  obtain ⟨xs, gs⟩ := p
  dsimp only at wk post
  cases qL : dcompL gs vs (turnK tg C tc rk re) [] [] xs (wipeE e1 vs) with
  | no => rw [qL] at post; exact post.elim
  | ex x e => exact absurd qL (dcompL_ex fun d e x e' => mute_ex)
  | ok ys e2 =>
    rw [qL] at post
    intro Dd hD
    generalize hce : (C.calm && Kc.calm && Ec.calm) = ce at post
    -- the start
    have T0 : K.lookup Dd = none → ∃ W env ksD accD accV o facc g, TrnK K ce gs vs (turnK tg C tc rk re) xs ys e2 σ Dd W1 H1 g1 0 (upd H1 Dd (.dK [])) W env ksD accD accV o facc g := by
      intro hk
      obtain ⟨f0, g', h1, h2⟩ := P1.er.wiped vs
      have nd : (f0 ++ g').Nodup := (h2.nodup_iff).mpr P1.base.nd
      have sub : ∀ a ∈ g', a ∈ g1 := fun a z => (h2.mem_iff).mp (List.mem_append_right _ z)
      have gw : ∀ a ∈ g', W1 a := fun a z => P1.gw a (sub a z)
      have t : Tr K ce W1 H1 g1 (W1.and Dd) (upd H1 Dd (.dK [])) (Dd :: g') := Tr.new1 P1.wok hD hk trivial sub gw (List.nodup_append.mp nd).2.1
      have er : ER K (W1.and Dd) (upd H1 Dd (.dK [])) (wipeE e1 vs) (L2.wipe σ vs) g' :=
        ER.move (g := g') (fun b _ o e => (upd_ne (ne_of_none e hD)).trans e) (fun b o e w => ⟨(upd_ne (ne_of_none e hD)).trans e, fun z => z.elim w fun z => by rw [z, hD] at e; cases e⟩) (fun b o e w z => z.elim w fun z => by rw [z, hk] at e; cases e) P1.wok h1 fun _ z => z
      exact ⟨W1.and Dd, wipeE e1 vs, [], [], [], .dK [], [], g', ⟨er, t.nd, t.inW, t.wok⟩, upd_same, .k [] [] rfl List.nodup_nil, .nil, by rw [List.drop_zero]; exact qL, t, fun v hv => wipeE_at hv⟩
    cases hk : K.lookup Dd with
    | some o =>
      -- an object of the module: it cannot be
      have no : ∀ H', (∃ o, H' Dd = some o) → ¬ KOK K H' := fun H' ⟨o', e⟩ z => by
        rw [z _ _ hk] at e; cases e
      have okJ : stays gs (wipeE e1 vs) = true → Ok K J xs W1 (upd H1 Dd (.dK [])) := fun st => by
        obtain ⟨f0, g', h1, h2⟩ := P1.er.wiped vs
        have mv : ∀ {d : D} {v : V} {f : List Addr}, VR K W1 H1 d v f → VR K W1 (upd H1 Dd (.dK [])) d v f := fun {d v f} h => VR.move (g := f) (fun b _ o e => (upd_ne (ne_of_none e hD)).trans e) (fun b o e w => ⟨(upd_ne (ne_of_none e hD)).trans e, w⟩) (fun _ _ _ w => w) P1.wok h fun _ z => z
        exact wk W1 _ (wipeE e1 vs) (L2.wipe σ vs) g' (fun d v h => mv h) (fun q hq => wipe_at fun z => stays_at st hq (wipeE_at z))
          (ER.move (g := g') (fun b _ o e => (upd_ne (ne_of_none e hD)).trans e) (fun b o e w => ⟨(upd_ne (ne_of_none e hD)).trans e, w⟩) (fun _ _ _ w => w) P1.wok h1 fun _ z => z) (fun a w => by
            obtain ⟨u, e, ow⟩ := P1.wok a w
            exact ⟨u, (upd_ne (ne_of_none e hD)).trans e, ow⟩) st
      have st : stays gs (wipeE e1 vs) = true := by
        cases xs with
        | nil => unfold dcompL at qL; split at qL; assumption; cases qL
        | cons d ds => unfold dcompL at qL; split at qL; assumption; cases qL
      have okJ := okJ st
      refine ⟨fun i m H => i = 0 ∧ m = 0 ∧ H = upd H1 Dd (.dK []), ⟨0, rfl, rfl, rfl⟩, ?_⟩
      rintro i m H ⟨rfl, rfl, rfl⟩
      cases xs with
      | nil => exact .inl ⟨okJ.2, fun z => absurd z (no _ ⟨_, upd_same⟩)⟩
      | cons d ds =>
        obtain ⟨go, yl⟩ := okJ.1 0 d rfl
        refine .inr ⟨go, fun _ => False, fun _ z => z.elim, fun x H' y kk => absurd kk (no H' ?_)⟩
        obtain ⟨_, rfl | ⟨T, zs, hT, rfl⟩⟩ := yl x H' y
        · exact ⟨_, upd_same⟩
        · exact ⟨_, (upd_ne (ne_of_none upd_same hT)).trans upd_same⟩
    | none =>
      refine ⟨fun i m H => m = xs.length - i ∧ i ≤ xs.length ∧ ∃ W env ksD accD accV o facc g, TrnK K ce gs vs (turnK tg C tc rk re) xs ys e2 σ Dd W1 H1 g1 i H W env ksD accD accV o facc g, ⟨_, rfl, Nat.zero_le _, T0 hk⟩, ?_⟩
      rintro i m H2 ⟨rfl, hle, W2, env2, ksD, accD, accV, o0, facc, g2, T⟩
      have okJ := T.ok wk P1.gw
      by_cases hlt : i < xs.length
      · obtain ⟨go, yl⟩ := okJ.1 i xs[i] (by simp [hlt])
        refine .inr ⟨go, fun H => ∃ W env ksD accD accV o facc g, TrnK K ce gs vs (turnK tg C tc rk re) xs ys e2 σ Dd W1 H1 g1 (i + 1) H W env ksD accD accV o facc g, fun H' z => ⟨xs.length - (i + 1), by omega, rfl, hlt, z⟩, fun x H' y _ => ?_⟩
        have hrun := T.run
        rw [List.drop_eq_getElem_cons hlt] at hrun
        unfold dcompL at hrun
        rw [if_pos T.stays] at hrun
        -- the item
        obtain ⟨vx, hH'⟩ := yl x H' y
        have S : Pre K W2 H' env2 (L2.wipe σ vs) (Dd :: facc) g2 ∧ H' Dd = some o0 ∧ VRs K W2 H' accD accV facc ∧ Tr K ce W1 H1 g1 W2 H' ((Dd :: facc) ++ g2) := by
          rcases hH' with rfl | ⟨Tt, zs, hT, rfl⟩
          · exact ⟨T.pre, T.hD, T.acc, T.tr⟩
          · exact ⟨T.pre.tupT hT, (upd_ne (ne_of_none T.hD hT)).trans T.hD, T.acc.newT T.pre.wok hT, T.tr.tupT hT⟩
        obtain ⟨P2, hD2, acc2, tr2⟩ := S
        clear hH' yl y go
        cases qs : turnK tg C tc rk re xs[i] env2 with
        | no => rw [qs] at hrun; cases hrun
        | ex x e => exact absurd qs mute_ex
        | ok o e4 =>
          rw [qs] at hrun
          have qs := mute_ok qs
          cases qb : bindTg tg xs[i] env2 with
          | none => rw [qb] at qs; cases qs
          | some e3 =>
            rw [qb] at qs
            dsimp only at qs
            refine bindOk vx P2.er qb fun σ2 g3 b => ?_
            have wσ : L2.wipe σ2 vs = L2.wipe σ vs := by
              have e1 : L2.wipe σ2 vs = L2.wipe (L2.wipe σ vs) vs := wipe_of b.len fun j hj => b.σs j fun z => hj (hsub j z)
              rw [e1]
              exact wipe_of (L2.wipe_length _ _) fun j hj => wipe_at hj
            refine ⟨wσ, ?_⟩
            obtain ⟨f3, pm3⟩ := b.pm
            have nd2 := P2.base.nd
            have nd3 : (f3 ++ g3).Nodup := (pm3.nodup_iff).mpr (by simpa using nd2)
            have sub3 : ∀ a ∈ g3, a ∈ g2 := fun a z => by simpa using (pm3.mem_iff).mp (List.mem_append_right f3 z)
            have ndF : ((Dd :: facc) ++ g3).Nodup := List.nodup_append.mpr ⟨(List.nodup_append.mp P2.nd).1, (List.nodup_append.mp nd3).2.1, fun a ha c hc e => (List.nodup_append.mp P2.nd).2.2 a ha c (sub3 c hc) e⟩
            have P3 : Pre K W2 H' e3 σ2 (Dd :: facc) g3 := ⟨b.er, ndF, fun a z => (List.mem_append.mp z).elim (P2.Fw a) fun z => P2.gw a (sub3 a z), P2.wok⟩
            have tr3 : Tr K ce W1 H1 g1 W2 H' ((Dd :: facc) ++ g3) := tr2.less (fun a z => (List.mem_append.mp z).elim (List.mem_append_left _) fun z => List.mem_append_right _ (sub3 a z)) ndF
            obtain ⟨k, e5, q1, q2⟩ := bind_ok qs
            refine ⟨W2, e3, g3, P3.base, Post.raw (a := k) (e := e5) q1 ?_⟩
            rintro W4 H4 k' f4 g4 t4 ⟨rfl, rfl⟩ er4
            have P4 : Pre K W4 H4 e5 σ2 (Dd :: facc) g4 := by simpa using P3.step t4 er4
            have w4 : Tr K C.calm W2 H' ((Dd :: facc) ++ g3) W4 H4 ((Dd :: facc) ++ g4) := by simpa using P3.wide t4 er4
            have tr4 : Tr K ce W1 H1 g1 W4 H4 ((Dd :: facc) ++ g4) := (tr3.trans w4).weakc fun z => by
              rw [← hce] at z ⊢
              simp only [Bool.and_eq_true] at z
              simp [z.1.1, z.1.2, z.2]
            have hD4 : H4 Dd = some o0 := t4.keep Dd _ hD2 (.inl (P3.dis Dd List.mem_cons_self))
            have acc4 : VRs K W4 H4 accD accV facc := acc2.aside t4 P3.gw fun a z => P3.dis a (List.mem_cons_of_mem _ z)
            -- the next turn's state
            have next : ∀ {W5 : Wr} {H5 : Hp} {e6 : Slots} {ksD5 accD5 : List D} {accV5 : List V} {o5 : HO} {facc5 g5 : List Addr}, Pre K W5 H5 e6 σ2 (Dd :: facc5) g5 → H5 Dd = some o5 → DK false ksD5 accV5 o5 → VRs K W5 H5 accD5 accV5 facc5 → Tr K ce W1 H1 g1 W5 H5 ((Dd :: facc5) ++ g5) →
                dcompL gs vs (turnK tg C tc rk re) ksD5 accD5 (xs.drop (i + 1)) (wipeE e6 vs) = .ok ys e2 → ∃ W env ksD accD accV o facc g, TrnK K ce gs vs (turnK tg C tc rk re) xs ys e2 σ Dd W1 H1 g1 (i + 1) H5 W env ksD accD accV o facc g := by
              intro W5 H5 e6 ksD5 accD5 accV5 o5 facc5 g5 P5 hD5 dk5 acc5 tr5 hr5
              obtain ⟨f6, g6, h6, pm6⟩ := P5.er.wiped vs
              rw [wσ] at h6
              have nd6 : (f6 ++ g6).Nodup := (pm6.nodup_iff).mpr (by simpa using P5.base.nd)
              have sub6 : ∀ a ∈ g6, a ∈ g5 := fun a z => (pm6.mem_iff).mp (List.mem_append_right f6 z)
              have ndF6 : ((Dd :: facc5) ++ g6).Nodup := List.nodup_append.mpr ⟨(List.nodup_append.mp P5.nd).1, (List.nodup_append.mp nd6).2.1, fun a ha c hc e => (List.nodup_append.mp P5.nd).2.2 a ha c (sub6 c hc) e⟩
              exact ⟨W5, wipeE e6 vs, ksD5, accD5, accV5, o5, facc5, g6, ⟨h6, ndF6, fun a z => (List.mem_append.mp z).elim (P5.Fw a) fun z => P5.gw a (sub6 a z), P5.wok⟩, hD5, dk5, acc5, hr5,
                tr5.less (fun a z => (List.mem_append.mp z).elim (List.mem_append_left _) fun z => List.mem_append_right _ (sub6 a z)) ndF6, fun v hv => wipeE_at hv⟩
            cases k with
            | false =>
              rw [if_neg Bool.false_ne_true] at q2 ⊢
              cases q2
              exact next P4 hD4 T.dk acc4 tr4 hrun
            | true =>
              rw [if_pos rfl] at q2 ⊢
              obtain ⟨kd, e6, q3, q4⟩ := bind_ok q2
              obtain ⟨yd, e7, q5, q6⟩ := bind_ok q4
              cases q6
              dsimp only [Hc.R.bind_ok] at hrun
              split at hrun
              · rename_i hz
                refine ⟨W4, e5, g4, P4.base, Post.raw (a := kd) (e := e6) q3 ?_⟩
                intro W5 H5 kv f5 g5 t5 r5 er5
                have P5 : Pre K W5 H5 e6 σ2 ((Dd :: facc) ++ f5) g5 := P4.step t5 er5
                have tr5 : Tr K ce W1 H1 g1 W5 H5 (((Dd :: facc) ++ f5) ++ g5) := (tr4.trans (P4.wide t5 er5)).weakc fun z => by
                  rw [← hce] at z ⊢
                  simp only [Bool.and_eq_true] at z
                  simp [z.1.1, z.1.2, z.2]
                have hD5 : H5 Dd = some o0 := t5.keep Dd _ hD4 (.inl (P4.dis Dd List.mem_cons_self))
                have acc5 : VRs K W5 H5 accD accV facc := acc4.aside t5 P4.gw fun a z => P4.dis a (List.mem_cons_of_mem _ z)
                refine ⟨W5, e6, g5, P5.base, Post.raw (a := yd) (e := e4) q5 ?_⟩
                intro W6 H6 yv f6 g6 t6 r6 er6
                have P6 : Pre K W6 H6 e4 σ2 (((Dd :: facc) ++ f5) ++ f6) g6 := P5.step t6 er6
                have tr6 : Tr K ce W1 H1 g1 W6 H6 ((((Dd :: facc) ++ f5) ++ f6) ++ g6) := (tr5.trans (P5.wide t6 er6)).weakc fun z => by
                  rw [← hce] at z ⊢
                  simp only [Bool.and_eq_true] at z
                  simp [z.1.1, z.1.2, z.2]
                have d6 : ∀ a ∈ (Dd :: facc), a ∉ g5 := fun a z => P5.dis a (List.mem_append_left _ z)
                have hD6 : H6 Dd = some o0 := t6.keep Dd _ hD5 (.inl (d6 Dd List.mem_cons_self))
                have acc6 : VRs K W6 H6 accD accV facc := acc5.aside t6 P5.gw fun a z => d6 a (List.mem_cons_of_mem _ z)
                obtain ⟨kk, k1, k2⟩ := r5.key1 hz.1
                obtain ⟨kvs, eo, lk, dk7, lt7⟩ := T.dk.putk (v := yv) kk
                rw [← k1] at dk7 lt7
                subst eo
                refine ⟨kvs, kk, k2, hD6, by rw [lk, szEq]; exact hz.2, ?_⟩
                obtain ⟨fn, fd, rn, pn⟩ := acc6.putv (ks := ksD) (kd := kd) lt7 r6
                have pm : ((((Dd :: facc) ++ f5) ++ f6) ++ g6).Perm (Dd :: (fn ++ (fd ++ (f5 ++ g6)))) := List.perm_iff_count.mpr fun z => by
                  have e1 := pn.count_eq z
                  simp only [List.count_append, List.count_cons] at e1 ⊢
                  omega
                have ndA := (pm.nodup_iff).mp P6.nd
                obtain ⟨nD, ndB⟩ := List.nodup_cons.mp ndA
                have wD : W6 Dd := P6.inW Dd ((pm.mem_iff).mpr List.mem_cons_self)
                have ndC : ((Dd :: fn) ++ g6).Nodup := by
                  refine List.nodup_cons.mpr ⟨fun z => nD ?_, ?_⟩
                  · exact (List.mem_append.mp z).elim (List.mem_append_left _) fun z => List.mem_append_right _ (List.mem_append_right _ (List.mem_append_right _ z))
                  · refine List.nodup_append.mpr ⟨(List.nodup_append.mp ndB).1, (List.nodup_append.mp (List.nodup_append.mp (List.nodup_append.mp ndB).2.1).2.1).2.1, fun a ha c hc e => ?_⟩
                    exact (List.nodup_append.mp ndB).2.2 a ha c (List.mem_append_right _ (List.mem_append_right _ hc)) e
                have subC : ∀ a ∈ (Dd :: fn) ++ g6, a ∈ (((Dd :: facc) ++ f5) ++ f6) ++ g6 := fun a z => (pm.mem_iff).mpr (by
                  rcases List.mem_append.mp z with z | z
                  · exact (List.mem_cons.mp z).elim (fun e => by rw [e]; exact List.mem_cons_self) fun z => List.mem_cons_of_mem _ (List.mem_append_left _ z)
                  · exact List.mem_cons_of_mem _ (List.mem_append_right _ (List.mem_append_right _ (List.mem_append_right _ z))))
                have tr7 : Tr K ce W1 H1 g1 W6 (upd H6 Dd (.dK (L2.putK kvs kk yv))) ((Dd :: fn) ++ g6) := Tr.chgNew tr6 hD (List.mem_append_left _ (List.mem_append_left _ (List.mem_append_left _ List.mem_cons_self))) trivial subC ndC
                have nDn : Dd ∉ fn ++ g6 := (List.nodup_cons.mp ndC).1
                exact next ⟨P6.er.hop P6.wok wD fun z => nDn (List.mem_append_right _ z), ndC, fun a z => P6.inW a (subC a z), tr7.wok⟩ upd_same dk7 (rn.hop P6.wok wD fun z => nDn (List.mem_append_left _ z)) tr7 (by rw [putD_eq] at hrun; exact hrun)
              · cases hrun
      · have e : i = xs.length := by omega
        subst e
        refine .inl ⟨okJ.2, fun _ => ?_⟩
        have hrun := T.run
        rw [List.drop_length] at hrun
        unfold dcompL at hrun
        rw [if_pos T.stays] at hrun
        cases hrun
        have er1 : ER K W2 H2 e2 σ g2 := T.pre.er.resig (L2.wipe_length _ _) fun i hi => wipe_at fun z => hi (T.out i z)
        obtain ⟨f6, g6, h6, pm6⟩ := ER.back (T.pers P1.gw) P1.er er1 vs
        have nd6 : (f6 ++ g6).Nodup := (pm6.nodup_iff).mpr (by simpa using T.pre.base.nd)
        have sub6 : ∀ a ∈ g6, a ∈ g2 := fun a z => (pm6.mem_iff).mp (List.mem_append_right f6 z)
        have ndF6 : ((Dd :: facc) ++ g6).Nodup := List.nodup_append.mpr ⟨(List.nodup_append.mp T.pre.nd).1, (List.nodup_append.mp nd6).2.1, fun a ha c hc e => (List.nodup_append.mp T.pre.nd).2.2 a ha c (sub6 c hc) e⟩
        exact post W2 H2 (.ref Dd) (Dd :: facc) g6 (T.tr.less (fun a z => (List.mem_append.mp z).elim (List.mem_append_left _) fun z => List.mem_append_right _ (sub6 a z)) ndF6) (.dicO T.hD T.dk T.acc) h6
theorem peDc {X : Cx} {E : XW} {kx vx tgE iter : Expr} {ifs : List Expr} {scope : Scope} {own : List (Str × Nat)} {pos : Pos} {I C Kc Ec : CE} {ri rk re : Slots → R D} {tc : Slots → R Bool} {tg : Tg} {vs : List Nat} (hc : X.calm = true) (hN : X.N.Nodup) (hi : PI X tgE iter (tI X.K E I.calm (cIt I ri)))
    (ok : BlkOk X.N X.env.scope scope own) (hvs : own.map (·.2) = vs) (hsub : ∀ i ∈ tgS tg, i ∈ vs)
    (hg : ∀ (s : Shared) (H : Hp) (C : Addr) (cl : List (Str × Addr)) (fp : List Addr), PG (X.blk s H scope (compEnvC scope cl C X.env) fp) tgE (gT X.K tg)) (ht : ∀ (s : Shared) (H : Hp) (A : Addr) (cl : List (Str × Addr)) (fp : List Addr), PTs (X.blk s H scope (compEnvC scope cl A X.env) fp) ifs (tT X.K E0 C.calm (tcN C tc)))
    (hk : ∀ (s : Shared) (H : Hp) (C : Addr) (cl : List (Str × Addr)) (fp : List Addr), PE (X.blk s H scope (compEnvC scope cl C X.env) fp) kx (tE X.K E0 Kc.calm rk))
    (he : ∀ (s : Shared) (H : Hp) (C : Addr) (cl : List (Str × Addr)) (fp : List Addr), PE (X.blk s H scope (compEnvC scope cl C X.env) fp) vx (tE X.K E0 Ec.calm re)) (hs : ∀ x, foldedSetIterable iter X.env x = pure x) :
    PE X (.DictComp kx vx [⟨tgE, iter, ifs, 0⟩] scope pos) (tE X.K E (I.calm && C.calm && Kc.calm && Ec.calm) (cDcomp vs tg I ri C tc rk re)) := by
  have hg' : ∀ (s : Shared) (H : Hp) (C : Addr) (cl : List (Str × Addr)) (fp : List Addr), PG (X.blk s H scope (compEnvC scope cl C X.env) fp) tgE (fun v σ H Q => KOK X.K H → gT X.K tg v σ H Q) := fun s H C cl fp => pg_kok (hg s H C cl fp)
  refine pe_any fun σ H Q h => ⟨_, pe_dc hc hN hi ok hg' ht hk he hs, ?_⟩
  rw [hvs]
  exact dc_read hsub h
end Hc

set_option Elab.async false
set_option linter.all false
set_option maxRecDepth 100000
set_option maxHeartbeats 4000000
namespace Hc
open PySem PySem.Spec PyProof.Rows L2
inductive VRp (K : PySem.W.Frag) (W : Wr) (H : Hp) : List (D × D) → List (V × V) → List Addr → Prop
  | nil : VRp K W H [] [] []
  | cons {k d : D} {x v : V} {ds : List (D × D)} {vs : List (V × V)} {f0 f g : List Addr} : VR K W H k x f0 → VR K W H d v f → VRp K W H ds vs g → VRp K W H ((k, d) :: ds) ((x, v) :: vs) (f0 ++ (f ++ g))
section
variable {K : PySem.W.Frag} {W W' : Wr} {H H' : Hp} {fp fp' : List Addr} {c : Bool}
theorem VRp.hop {a : Addr} {u : HO} (hw : Wok W H) (ha : W a) : ∀ {ds : List (D × D)} {vs : List (V × V)} {f : List Addr}, VRp K W H ds vs f → a ∉ f → VRp K W (upd H a u) ds vs f
  | _, _, _, .nil, _ => .nil
  | _, _, _, .cons t s r, n => .cons (t.hop hw ha fun z => n (List.mem_append_left _ z)) (s.hop hw ha fun z => n (List.mem_append_right _ (List.mem_append_left _ z))) (r.hop hw ha fun z => n (List.mem_append_right _ (List.mem_append_right _ z)))
theorem VRp.len : ∀ {ds : List (D × D)} {vs : List (V × V)} {f : List Addr}, VRp K W H ds vs f → ds.length = vs.length
  | _, _, _, .nil => rfl
  | _, _, _, .cons _ _ r => by simp only [List.length_cons, r.len]
theorem VRp.merge : ∀ {ps : List (D × D)} {vs : List (V × V)} {f : List Addr} {ksD us : List D} {ws : List V} {kvs : List (Key × V)} {f0 : List Addr}, VRp K W H ps vs f → ps.all (fun p => kOk p.1) = true → DK false ksD ws (.dK kvs) → VRs K W H us ws f0 →
    ∃ more ws' fn fd, vs = more.map (fun kv => (kV kv.1, kv.2)) ∧ DK false (mergeD ksD us ps).1 ws' (.dK (mergeK kvs more)) ∧ VRs K W H (mergeD ksD us ps).2 ws' fn ∧ (fn ++ fd).Perm (f0 ++ f)
  | _, _, _, ksD, us, ws, kvs, f0, .nil, _, dk, r => ⟨[], ws, f0, [], rfl, dk, r, by simp⟩
  | _, _, _, ksD, us, ws, kvs, f0, .cons (f := f1) (g := g1) t s rest, hk, dk, r => by
    simp only [List.all_cons, Bool.and_eq_true] at hk
    obtain ⟨k, rfl, rfl⟩ := t.key1 hk.1
    have n0 : ∀ {f : List Addr}, VR K W H (keyD k) (kV k) f → f = [] := fun h => by
      rcases k with n | z <;> (cases h; rfl)
    obtain rfl := n0 t
    obtain ⟨kvs', e1, _, dk', lt⟩ := dk.putk (v := _) k
    cases e1
    obtain ⟨fn, fd, rn, pn⟩ := r.putv lt s
    obtain ⟨more, ws', fn2, fd2, e2, dk2, r2, p2⟩ := VRp.merge rest hk.2 dk' rn
    refine ⟨(k, _) :: more, ws', fn2, fd2 ++ fd, by rw [e2]; rfl, ?_, ?_, List.perm_iff_count.mpr fun z => ?_⟩
    · show DK false (mergeD _ _ _).1 ws' (.dK (mergeK (L2.putK _ k _) more))
      unfold mergeD
      rw [putD_eq]
      exact dk2
    · unfold mergeD
      rw [putD_eq]
      exact r2
    · have a1 := p2.count_eq z
      have a2 := pn.count_eq z
      simp only [List.count_append, List.count_nil] at a1 a2 ⊢
      omega
end
theorem someEach (es : List Expr) : (es.map some).all (·.isSome) = true := by
  induction es with
  | nil => rfl
  | cons e es ih => simpa using ih
section
variable {X : Cx} {E : XW} {pos : Pos}
theorem ppsSeq : ∀ {ks vs : List Expr} {kcs vcs : List CE} {rks rvs : List (Slots → R D)}, Snds X E ks kcs rks → Snds X E vs vcs rvs → ks.length = vs.length → ∃ trs, PPs X pos (ks.map some) vs trs ∧
    ∀ {γ δ : Type} (Rc : Rl γ δ) (c3 : Bool) (k : List (D × D) → Slots → R γ) (Q : δ → Hp → Prop) (Rq : List (V × V) → Hp → Prop) (σ : L2.St) (W : Wr) (H : Hp) (env : Slots) (F g : List Addr), Pre X.K W H env σ F g → Post X.K Rc E (calms kcs && calms vcs && c3) W H (F ++ g) σ ((seqP rks rvs env).bind k) Q →
      (∀ (ps : List (V × V)) (H2 : Hp) (ds : List (D × D)) (e : Slots) (W2 : Wr) (f g2 : List Addr), VRp X.K W2 H2 ds ps f → Pre X.K W2 H2 e σ (F ++ f) g2 → Post X.K Rc E c3 W2 H2 ((F ++ f) ++ g2) σ (k ds e) Q → Tr X.K (calms kcs && calms vcs) W H g W2 H2 (f ++ g2) → seqP rks rvs env = .ok ds e → Rq ps H2) → tPairs trs σ H Rq
  | _, _, _, _, _, _, .nil, .nil, _ => ⟨[], pps_nil, fun Rc c3 k Q Rq σ W H env F g P post hk => by
    refine hk [] H [] env W [] g .nil (by simpa using P) ?_ (Tr.same P.wok (fun a z => by simpa using z) (fun a z => P.gw a (by simpa using z)) (by simpa using P.base.nd)) rfl
    rw [List.append_nil]
    exact post⟩
  | _, _, _, _, _, _, .nil, .cons _ _ _, h => by cases h
  | _, _, _, _, _, _, .cons _ _ _, .nil, h => by cases h
  | _, _, _, _, _, _, .cons (c := kc) (r := rk) (cs := kcs) (rs := rks) sk _ tk, .cons (c := vc) (r := rv) (cs := vcs) (rs := rvs) sv _ tv, hl => by
    obtain ⟨trs, h1, h2⟩ := ppsSeq tk tv (by simpa using hl)
    refine ⟨_, pps_cons sk.pe sv.pe h1, ?_⟩
    intro γ δ Rc c3 k Q Rq σ W H env F g P post hk
    refine ⟨W, env, g, P.base, ?_⟩
    have post : Post X.K Rc E (kc.calm && (vc.calm && (calms kcs && calms vcs && c3))) W H (F ++ g) σ ((rk env).bind fun kd e => (rv e).bind fun vd e => (seqP rks rvs e).bind fun ps e => k ((kd, vd) :: ps) e) Q := by
      have e : (calms (kc :: kcs) && calms (vc :: vcs) && c3) = (kc.calm && (vc.calm && (calms kcs && calms vcs && c3))) := by
        show (kc.calm && calms kcs && (vc.calm && calms vcs) && c3) = _
        cases kc.calm <;> cases vc.calm <;> cases calms kcs <;> simp
      rw [e] at post
      refine Post.cong post ?_
      show (((rk env).bind fun kd e => (rv e).bind fun vd e => (seqP rks rvs e).bind fun ps e => .ok ((kd, vd) :: ps) e).bind k) = _
      cases rk env <;> try rfl
      rename_i kd e
      dsimp only [Hc.R.bind_ok]
      cases rv e <;> try rfl
      rename_i vd e
      dsimp only [Hc.R.bind_ok]
      cases seqP rks rvs e <;> rfl
    refine Post.mono (P.run (Ra := VR X.K) post) ?_
    rintro x H1 ⟨kd, e1, W1, f1, g1, q1, l1, P1, t1, post1⟩
    refine ⟨W1, e1, g1, P1.base, ?_⟩
    refine Post.mono (P1.run (Ra := VR X.K) post1) ?_
    rintro v H2 ⟨vd, e2, W2, f2, g2, q2, l2, P2, t2, post2⟩
    refine h2 Rc c3 _ Q _ σ W2 H2 e2 ((F ++ f1) ++ f2) g2 P2 post2 ?_
    intro ps H3 ds e3 W3 f3 g3 rp P3 post3 t3 q3
    have l1' : VR X.K W2 H2 kd x f1 := l1.aside t2 P1.gw fun a z => P1.dis a (List.mem_append_right _ z)
    have l1'' : VR X.K W3 H3 kd x f1 := l1'.aside t3 P2.gw fun a z => P2.dis a (List.mem_append_left _ (List.mem_append_right _ z))
    have l2' : VR X.K W3 H3 vd v f2 := l2.aside t3 P2.gw fun a z => P2.dis a (List.mem_append_right _ z)
    have ea : F ++ (f1 ++ (f2 ++ f3)) = ((F ++ f1) ++ f2) ++ f3 := by simp only [List.append_assoc]
    have PF : Pre X.K W3 H3 e3 σ (F ++ (f1 ++ (f2 ++ f3))) g3 := by rw [ea]; exact P3
    refine hk _ H3 ((kd, vd) :: ds) e3 W3 (f1 ++ (f2 ++ f3)) g3 (.cons l1'' l2' rp) PF (by rw [ea]; exact post3) ?_ (by
      show (rk env).bind _ = _
      rw [q1]
      show (rv e1).bind _ = _
      rw [q2]
      show (seqP rks rvs e2).bind _ = _
      rw [q3]
      rfl)
    -- what was done
    have P1' : Pre X.K W1 H1 e1 σ f1 g1 := P1.sub (List.nodup_append.mp (List.nodup_append.mp P1.nd).1).2.1 fun a z => List.mem_append_right _ z
    have P2' : Pre X.K W2 H2 e2 σ (f1 ++ f2) g2 := P1'.step t2 P2.er
    have w1 : Tr X.K kc.calm W H g W1 H1 (f1 ++ g1) := t1
    have w2 : Tr X.K vc.calm W1 H1 (f1 ++ g1) W2 H2 ((f1 ++ f2) ++ g2) := P1'.wide t2 P2.er
    have w3 : Tr X.K (calms kcs && calms vcs) W2 H2 ((f1 ++ f2) ++ g2) W3 H3 (((f1 ++ f2) ++ f3) ++ g3) := P2'.wide t3 P3.er
    have w := (w1.trans w2).trans w3
    have eb : ((f1 ++ f2) ++ f3) ++ g3 = (f1 ++ (f2 ++ f3)) ++ g3 := by simp only [List.append_assoc]
    rw [eb] at w
    refine w.weakc fun z => ?_
    have z : (kc.calm && calms kcs && (vc.calm && calms vcs)) = true := z
    simp only [Bool.and_eq_true] at z ⊢
    exact ⟨⟨z.1.1, z.2.1⟩, z.1.2, z.2.2⟩
theorem peDisp {ks vs : List Expr} {kcs vcs : List CE} {rks rvs : List (Slots → R D)} (sk : Snds X E ks kcs rks) (sv : Snds X E vs vcs rvs) (hl : ks.length = vs.length) (h0 : ks ≠ []) (h15 : ks.length ≤ 15) :
    PE X (.Dict (ks.map some) vs pos) (tE X.K E (calms kcs && calms vcs) (cDdisp rks rvs)) := by
  obtain ⟨trs, hp, hr⟩ := ppsSeq (pos := pos) sk sv hl
  refine pe_any fun σ H Q h => ⟨_, pe_disp hp (someEach ks) (by rw [List.length_map]; exact hl) (by simpa using h0) (by rw [List.length_map]; exact h15), ?_⟩
  obtain ⟨W, env, g, P, h⟩ := h
  intro p hn
  have h : Post X.K (VR X.K) E (calms kcs && calms vcs && true) W H ([] ++ g) σ ((seqP rks rvs env).bind fun ps e => if ps.all (fun p => kOk p.1) = true ∧ ps.length ≤ 15 then .ok (.dic true false (mergeD [] [] ps).1 (mergeD [] [] ps).2) e else .no) Q := by rw [Bool.and_true]; exact h
  cases hk : X.K.lookup p with
  | some o =>
    obtain ⟨P2, t⟩ := P.any0 (o := .dK []) hn
    have h2 := Post.after0 (c1 := true) t (by rw [Bool.true_and]; exact h)
    refine hr (VR X.K) true _ Q _ σ W _ env [] g P2 h2 ?_
    intro ps H2 ds e W2 f g2 rp P3 post t3 q3
    have hp2 : H2 p = some (.dK []) := t3.keep p _ upd_same (.inl fun z => by
      obtain ⟨o', e', _⟩ := P.wok p (P.gw p z)
      rw [hn] at e'; cases e')
    split at post
    · rename_i hz
      obtain ⟨more, ws, fn, fd, e1, dk, _, _⟩ := rp.merge hz.1 (.k [] [] rfl List.nodup_nil) .nil
      refine ⟨hp2, more, e1, ?_, fun kk => ?_⟩
      · have := rp.len
        rw [e1, List.length_map] at this
        omega
      · have := kk p o hk
        rw [upd_same] at this
        cases this
    · exact post.elim
  | none =>
    have k2 : ∀ a u, H a = some u → ¬ W a → upd H p (.dK []) a = some u ∧ ¬ W.and p a := fun a u e n => ⟨(by rw [upd_ne (ne_of_none e hn)]; exact e), fun w => w.elim n fun z => by rw [z, hn] at e; cases e⟩
    have k3 : ∀ a u, X.K.lookup a = some u → ¬ W a → ¬ W.and p a := fun a u e n w => w.elim n fun z => by rw [z, hk] at e; cases e
    have k1 : ∀ l : List Addr, ∀ a, a ∈ l → ∀ u, H a = some u → upd H p (.dK []) a = some u := fun _ a _ u e => by rw [upd_ne (ne_of_none e hn)]; exact e
    have t : Tr X.K true W H ([] ++ g) (W.and p) (upd H p (.dK [])) (p :: g) := Tr.new1 P.wok hn hk trivial (fun a z => by simpa using z) P.gw (by simpa using P.base.nd)
    have P2 : Pre X.K (W.and p) (upd H p (.dK [])) env σ [p] g := ⟨ER.move (k1 g) k2 k3 P.wok P.er fun _ z => z, t.nd, t.inW, t.wok⟩
    have h2 : Post X.K (VR X.K) E (calms kcs && calms vcs && true) (W.and p) (upd H p (.dK [])) ([p] ++ g) σ _ Q := Post.after0 (c1 := true) t (by rw [Bool.true_and]; exact h)
    refine hr (VR X.K) true _ Q _ σ (W.and p) _ env [p] g P2 h2 ?_
    intro ps H2 ds e W2 f g2 rp P3 post t3 q3
    have hp2 : H2 p = some (.dK []) := t3.keep p _ upd_same (.inl (P2.dis p List.mem_cons_self))
    split at post
    · rename_i hz
      obtain ⟨more, ws, fn, fd, e1, dk, rn, pn⟩ := rp.merge hz.1 (.k [] [] rfl List.nodup_nil) .nil
      refine ⟨hp2, more, e1, ?_, fun kk => ?_⟩
      · have := rp.len
        rw [e1, List.length_map] at this
        omega
      · have nd3 := P3.nd
        have pm : (([p] ++ f) ++ g2).Perm (p :: (fn ++ (fd ++ g2))) := List.perm_iff_count.mpr fun z => by
          have a1 := pn.count_eq z
          simp only [List.count_append, List.count_cons, List.count_nil] at a1 ⊢
          omega
        have ndA := (pm.nodup_iff).mp nd3
        obtain ⟨nD, ndB⟩ := List.nodup_cons.mp ndA
        have wD : W2 p := P3.inW p ((pm.mem_iff).mpr List.mem_cons_self)
        have ndC : ((p :: fn) ++ g2).Nodup := List.nodup_cons.mpr ⟨fun z => nD ((List.mem_append.mp z).elim (List.mem_append_left _) fun z => List.mem_append_right _ (List.mem_append_right _ z)),
          List.nodup_append.mpr ⟨(List.nodup_append.mp ndB).1, (List.nodup_append.mp (List.nodup_append.mp ndB).2.1).2.1, fun a ha b hb e => (List.nodup_append.mp ndB).2.2 a ha b (List.mem_append_right _ hb) e⟩⟩
        have subC : ∀ a ∈ (p :: fn) ++ g2, a ∈ ([p] ++ f) ++ g2 := fun a z => (pm.mem_iff).mpr (by
          rcases List.mem_append.mp z with z | z
          · exact (List.mem_cons.mp z).elim (fun e => by rw [e]; exact List.mem_cons_self) fun z => List.mem_cons_of_mem _ (List.mem_append_left _ z)
          · exact List.mem_cons_of_mem _ (List.mem_append_right _ (List.mem_append_right _ z)))
        have nDn : p ∉ fn ++ g2 := (List.nodup_cons.mp ndC).1
        have w0 : Tr X.K (calms kcs && calms vcs && true) W H ([] ++ g) W2 H2 (([p] ++ f) ++ g2) := (t.trans (P2.wide t3 P3.er)).weakc fun z => by
          rw [Bool.and_true] at z
          rw [z]; rfl
        have tF : Tr X.K (calms kcs && calms vcs && true) W H ([] ++ g) W2 (upd H2 p (.dK (mergeK [] more))) ((p :: fn) ++ g2) := Tr.chgNew w0 hn (List.mem_append_left _ (List.mem_append_left _ List.mem_cons_self)) trivial subC ndC
        rw [q3] at h
        dsimp only [Hc.R.bind_ok] at h
        rw [if_pos hz] at h
        exact h W2 _ (.ref p) (p :: fn) g2 tF (.dicO upd_same dk (rn.hop P3.wok wD fun z => nDn (List.mem_append_left _ z))) (P3.er.hop P3.wok wD fun z => nDn (List.mem_append_right _ z))
    · exact post.elim
end
end Hc

set_option Elab.async false
set_option linter.all false
set_option maxRecDepth 100000
set_option maxHeartbeats 2000000
namespace Hc
open PySem PySem.Spec PyProof.Rows L2
def spG (K : PySem.W.Frag) (n : Nat) (sem : List D → Rc) : List V → Hp → VK → Prop := fun vs H Q => vs.length = n ∧ ∃ (W : Wr) (ds : List D) (fp : List Addr), VRs K W H ds vs fp ∧ fp.Nodup ∧ (∀ a ∈ fp, W a) ∧ Wok W H ∧
  match sem ds with
  | .ok d ps => ∀ W' H' v fv fu, Tr K false W H fp W' H' (fv ++ fu) → VR K W' H' d v fv → VRs K W' H' ps vs fu → Q v H'
  | _ => False
def CX0 : CXT := fun _ _ _ _ _ _ => False
def EX0 : XK := fun _ _ _ => False
structure FnG (P : Program) (w : World) (K : PySem.W.Frag) (mg : Str → Option Value) (base : Heap) (k : Nat) (f : Addr) (fd : FuncData) (ps : List Str) (sem : List D → Rc) : Prop where
  go : ∀ (A : Around) (outer : List Env) (s : Shared) (H : Hp) (args : Args) (us : List Value) (vs : List V) (Q : VK), Room k A → A.guards = some [] → Env0 P w K mg base A outer s H → BindsTo s fd args (ps.zip us) → Vals vs us → spG K ps.length sem vs H Q →
    codeAny (model P w) A (.call (.ref f) args) (CR CX0 outer P w H s Q EX0) s
section
variable {X : Cx} {E : XW} {a b o e : Expr} {A B C : CE} {ra rb rc ro r : Slots → R D} {sh : Bool} {pos p apos cpos : Pos} {k : Nat} {f : Addr} {fd : FuncData} {ps : List Str} {sem : List D → Rc} {x : Str} {es : List Expr} {t : TA}
theorem FnG.run {pins : List (Addr × Obj)} {σ : L2.St} {H : Hp} {s : Shared} {Q : VK} {us : List Value} {vs : List V} (F : FnG X.prog X.w X.K X.mg X.base k f fd ps sem) (hr : Room k X.A) (hg : X.A.guards = some []) (hb : Binds X.K fd ps []) (I : Inv X pins σ H s) (r : Vals vs us) (h : spG X.K ps.length sem vs H Q) :
    wpAny (model X.prog X.w) X.A (call (.ref f) us) (EP X pins σ Q) X.xe s := by
  have hn : (us ++ []).length = ps.length := by rw [List.append_nil, ← r.length]; exact h.1
  have b := hb s us I.kIn hn
  rw [List.append_nil] at b
  refine wpAny_call (codeAny_mono (F.go X.A X.stack s H _ _ _ Q hr hg I.env0 b r h) fun z s' q => ?_)
  cases z with
  | error _ => exact False.elim q
  | ok y => cases y with
    | ret _ => exact I.after q
    | _ => exact False.elim q
def tFn (K : PySem.W.Frag) (n : Nat) (sem : List D → Rc) (t : TA) : TE := fun σ H Q => t σ H fun vs H1 => KOK K H1 → spG K n sem vs H1 Q
theorem FnG.pe (F : FnG X.prog X.w X.K X.mg X.base k f fd ps sem) (hr : Room k X.A) (hg : X.A.guards = some []) (hgl : Gl X x) (hm : X.mg x = some (.ref f)) (hk : PySem.W.keepIn X.K (.ref f) = true) (hb : Binds X.K fd ps []) (hd : (x == ("__debug__" : Str)) = false) (ha : PA X es t)
    (hs : ∀ y ∈ es, ∀ z q, y ≠ .Starred z q) (hne : es ≠ []) : PE X (.Call (.Name x p) es [] pos) (tFn X.K ps.length sem t) := by
  cases es with
  | nil => exact absurd rfl hne
  | cons e es =>
    refine ⟨fun pins s σ H Q I h => wpAny_Call_Name_kw (ld_glob I hgl hm ?_ hd)⟩
    refine PySem.W.callWith_K (h₀ := X.base) I.ok.mod.kin hk (thn (ha.run pos pins s σ H _ I h) fun us s1 ⟨vs, H1, I1, r, q⟩ => ⟨I1.kIn, F.run hr hg hb I1 r (q (kok I1))⟩) (noStar es (hs e List.mem_cons_self)) (spl_one (X := X) es fun y hy => hs y (List.mem_cons_of_mem _ hy))
inductive RAs (K : PySem.W.Frag) (σ : L2.St) (W : Wr) (H : Hp) : List (CE × D) → List V → List Addr → Prop
  | nil : RAs K σ W H [] [] []
  | bw {i : Nat} {d : D} {v : V} {xs : List (CE × D)} {vs : List V} {fp : List Addr} : σ[i]? = some (some v) → RAs K σ W H xs vs fp → RAs K σ W H ((.bw i, d) :: xs) (v :: vs) fp
  | io {i : Nat} {d : D} {v : V} {xs : List (CE × D)} {vs : List V} {fp : List Addr} : σ[i]? = some (some v) → RAs K σ W H xs vs fp → RAs K σ W H ((.io i, d) :: xs) (v :: vs) fp
  | vl {c : CE} {d : D} {v : V} {xs : List (CE × D)} {vs : List V} {f fp : List Addr} : (∀ i, c ≠ .bw i) → (∀ i, c ≠ .io i) → VR K W H d v f → RAs K σ W H xs vs fp → RAs K σ W H ((c, d) :: xs) (v :: vs) (f ++ fp)
theorem RAs.move {K : PySem.W.Frag} {σ : L2.St} {W W' : Wr} {H H' : Hp} {g : List Addr} (mv : ∀ {d : D} {v : V} {f : List Addr}, VR K W H d v f → (∀ a ∈ f, a ∈ g) → VR K W' H' d v f) : ∀ {xs : List (CE × D)} {vs : List V} {fp : List Addr}, RAs K σ W H xs vs fp → (∀ a ∈ fp, a ∈ g) → RAs K σ W' H' xs vs fp
  | _, _, _, .nil, _ => .nil
  | _, _, _, .bw h t, s => .bw h (t.move mv s)
  | _, _, _, .io h t, s => .io h (t.move mv s)
  | _, _, _, .vl h1 h2 r t, s => .vl h1 h2 (mv r fun a z => s a (List.mem_append_left _ z)) (t.move mv fun a z => s a (List.mem_append_right _ z))
inductive SndA (X : Cx) (E : XW) : Expr → CE → (Slots → R D) → Prop
  | bw {e : Expr} {i : Nat} {r : Slots → R D} : PE X e (tVar i) → SndA X E e (.bw i) r
  | io {e : Expr} {i : Nat} {r : Slots → R D} : PE X e (tVar i) → SndA X E e (.io i) r
  | ow {e : Expr} {c : CE} {r : Slots → R D} : Snd X E e (.ow c) r → SndA X E e (.ow c) r
  | vl {e : Expr} {c : CE} {r : Slots → R D} : (∀ i, c ≠ .bw i) → (∀ i, c ≠ .io i) → (∀ a, c ≠ .ow a) → Snd X E e c r → SndA X E e c r
inductive SndAs (X : Cx) (E : XW) : List Expr → List (CE × (Slots → R D)) → Prop
  | nil : SndAs X E [] []
  | cons {e : Expr} {c : CE} {r : Slots → R D} {es : List Expr} {l : List (CE × (Slots → R D))} : SndA X E e c r → (∀ x p, e ≠ .Starred x p) → SndAs X E es l → SndAs X E (e :: es) ((c, r) :: l)
def RA1 (K : PySem.W.Frag) (σ : L2.St) (c : CE) : Rl D V := fun W H d v f => RAs K σ W H [(c, d)] [v] f
theorem paArgs : ∀ {es : List Expr} {l : List (CE × (Slots → R D))}, SndAs X E es l → PA X es (fun σ H Q => tG X.K (RAs X.K σ) E false (seqA l) σ H Q)
  | _, _, .nil => by
    refine pa_imp pa_nil ?_
    rintro σ H Q ⟨W, env, g, P, h⟩
    exact P.done (f := []) (Ra := RAs X.K σ) h .nil (by simp)
  | _, _, .cons (e := e) (c := c) (r := r) (es := es) (l := l) s hs t => by
    have ht := paArgs t
    have one : PE X e (fun σ H Q => tG X.K (RA1 X.K σ c) E false (argE c r) σ H Q) := by
      cases s with
      | bw h =>
        rename_i i
        refine pe_imp h ?_
        rintro σ H Q ⟨W, env, g, P, z⟩
        have z : Post X.K (RA1 X.K σ (.bw i)) E false W H g σ (lift ((env.at i).map fun _ => D.non) env) Q := z
        cases q : env.at i with
        | none => rw [q] at z; exact z.elim
        | some d =>
          rw [q] at z
          obtain ⟨v, f, hv, hd⟩ := tVar_of P q
          exact ⟨v, hv, P.done (f := []) (Ra := RA1 X.K σ (.bw i)) z (.bw hv .nil) (by simp)⟩
      | io h =>
        rename_i i
        refine pe_imp h ?_
        rintro σ H Q ⟨W, env, g, P, z⟩
        have z : Post X.K (RA1 X.K σ (.io i)) E false W H g σ (lift ((env.at i).map fun _ => D.non) env) Q := z
        cases q : env.at i with
        | none => rw [q] at z; exact z.elim
        | some d =>
          rw [q] at z
          obtain ⟨v, f, hv, hd⟩ := tVar_of P q
          exact ⟨v, hv, P.done (f := []) (Ra := RA1 X.K σ (.io i)) z (.io hv .nil) (by simp)⟩
      | ow h =>
        rename_i c
        refine pe_imp h.pe ?_
        rintro σ H Q ⟨W, env, g, P, z⟩
        refine ⟨W, env, g, P, ?_⟩
        have z : Post X.K (RA1 X.K σ (.ow c)) E false W H g σ (r env) Q := z
        cases q : r env with
        | no => rw [q] at z; exact z
        | ex x e => rw [q] at z; exact fun W' H' g' t er => z W' H' g' (t.weakc fun z => by cases z) er
        | ok d e =>
          rw [q] at z
          intro W' H' b f g' t ra er
          refine z W' H' b f g' (t.weakc fun z => by cases z) ?_ er
          have w := RAs.vl (K := X.K) (σ := σ) (xs := []) (vs := []) (fp := []) (c := .ow c) (fun i z => by cases z) (fun i z => by cases z) ra .nil
          rw [List.append_nil] at w
          exact w
      | vl h1 h2 h3 h =>
        refine pe_imp h.pe ?_
        rintro σ H Q ⟨W, env, g, P, z⟩
        refine ⟨W, env, g, P, ?_⟩
        have z : Post X.K (RA1 X.K σ c) E (c.calm && false) W H ([] ++ g) σ ((r env).bind fun d e => .ok d.fz e) Q := by
          rw [Bool.and_false]
          refine Post.cong z ?_
          cases c <;> first | rfl | exact absurd rfl (h1 _) | exact absurd rfl (h2 _) | exact absurd rfl (h3 _)
        refine Post.mono (P.run (Ra := VR X.K) z) ?_
        rintro v H2 ⟨d, e', W', f', g', _, l, P', t1, post⟩
        simp only [List.nil_append] at P' post
        obtain ⟨W2, P2, t2, k1, _⟩ := P'.freeze
        have w := RAs.vl (K := X.K) (σ := σ) (xs := []) (vs := []) (fp := []) h1 h2 (k1 _ _ _ l fun _ z => z) .nil
        exact post W2 H2 v [] g' (t2 _) w P2.er
    refine pa_imp (pa_cons one ht (noStar _ hs)) ?_
    rintro σ H Q ⟨W, env, g, P, h⟩
    refine ⟨W, env, g, P, ?_⟩
    have h : Post X.K (RAs X.K σ) E (false && false) W H ([] ++ g) σ ((argE c r env).bind fun d e => (seqA l e).bind fun ds e => .ok ((c, d) :: ds) e) Q := h
    refine Post.mono (P.run (Ra := RA1 X.K σ c) h) ?_
    rintro v H2 ⟨d, e', W', f', g', _, ra, P', t1, post⟩
    simp only [List.nil_append] at P' post
    refine ⟨W', e', g', P'.base, ?_⟩
    have post : Post X.K (RAs X.K σ) E (false && false) W' H2 (f' ++ g') σ ((seqA l e').bind fun ds e => .ok ((c, d) :: ds) e) Q := post
    refine Post.mono (P'.run (Ra := RAs X.K σ) post) ?_
    rintro vs H3 ⟨ds, e2, W2, f2, g2, _, rs, P2, t2, post2⟩
    have ra' : RAs X.K σ W2 H3 [(c, d)] [v] f' := RAs.move (g := f') (fun h s => h.aside t2 P'.gw fun a z => P'.dis a (s a z)) ra fun _ z => z
    refine P2.done (Ra := RAs X.K σ) post2 ?_ fun a z => z
    cases ra' with
    | bw h n => cases n; exact .bw h rs
    | io h n => cases n; exact .io h rs
    | vl h1 h2 h n => cases n; rw [List.append_nil]; exact .vl h1 h2 h rs
end
section
variable {K : PySem.W.Frag} {W W0 W1 W2 W3 W' : Wr} {H H0 H1 H2 H' : Hp} {F g fp f : List Addr} {env old : Slots} {σ σ1 σ2 : L2.St} {d : D} {v : V} {c c' : Bool}
mutual
theorem VR.noFz : ∀ {d : D} {v : V} {f : List Addr}, VR K W H d v f → d.noFz = true → VR K W' H d v f
  | _, _, _, .non, _ => .non
  | _, _, _, .bl b, _ => .bl b
  | _, _, _, .int i, _ => .int i
  | _, _, _, .str s, _ => .str s
  | _, _, _, .gone v, h => by cases h
  | _, _, _, .tup q t, h => .tup q (VRs.noFz t h)
  | _, _, _, .own e t, h => .own e (VRs.noFz t h)
  | _, _, _, .frz e n t, h => by cases h
  | _, _, _, .dicO e k t, h => .dicO e k (VRs.noFz t h)
  | _, _, _, .dicF e n k t, h => by cases h
theorem VRs.noFz : ∀ {d : List D} {v : List V} {f : List Addr}, VRs K W H d v f → noFzs d = true → VRs K W' H d v f
  | _, _, _, .nil, _ => .nil
  | _, _, _, .cons t u, h => by
    have h' := Bool.and_eq_true_iff.mp h
    exact .cons (VR.noFz t h'.1) (VRs.noFz u h'.2)
end
theorem fetch_at : ∀ {xs : List (CE × D)} {env e : Slots} {ds : List D} {i : Nat} {y : D}, fetch xs env = some (ds, e) → e.at i = some y → env.at i = some y
  | [], env, e, ds, i, y, h, q => by cases h; exact q
  | (c, d) :: r, env, e, ds, i, y, h, q => by
    unfold fetch at h
    split at h
    · rename_i j
      split at h
      · split at h
        · rename_i ds' e' hf
          split at h
          · cases h; exact fetch_at hf q
          · cases h
        · cases h
      · cases h
    · rename_i j
      split at h
      · split at h
        · rename_i ds' e' hf
          cases h
          have z := fetch_at hf q
          by_cases hj : j = i
          · subst hj
            by_cases lt : j < env.length
            · rw [at_set lt] at z; cases z
            · have e1 : env.set j none = env := List.set_eq_of_length_le (by omega)
              rw [e1] at z
              exact z
          · rw [at_set_ne hj] at z
            exact z
        · cases h
      · cases h
    · split at h
      · rename_i ds' e' hf
        cases h; exact fetch_at hf q
      · cases h
theorem fetchOk : ∀ {xs : List (CE × D)} {vs : List V} {fp : List Addr} {env e : Slots} {ds : List D} {g : List Addr}, Wok W H → RAs K σ W H xs vs fp → ER K W H env σ g → fetch xs env = some (ds, e) →
    ∃ fa g', ER K W H e σ g' ∧ (fa ++ g').Perm (fp ++ g) ∧ (∀ W' : Wr, (∀ a, W' a → W a) → (∀ a ∈ g', ¬ W' a) → VRs K W' H ds vs fa) ∧ (lent xs = false → VRs K W H ds vs fa)
  | _, _, _, env, e, ds, g, wk, .nil, er, h => by
    cases h
    exact ⟨[], g, er, .refl _, fun _ _ _ => .nil, fun _ => .nil⟩
  | _, _, _, env, e, ds, g, wk, .bw (i := i) (v := v) hv t, er, h => by
    unfold fetch at h
    dsimp only at h
    split at h
    · rename_i x hx
      split at h
      · rename_i ds' e' hf
        split at h
        · rename_i hi
          cases h
          obtain ⟨fa, g', h1, h2, h3, h4⟩ := fetchOk wk t er hf
          refine ⟨fa, g', h1, h2, fun W' k1 k2 => ?_, fun z => by cases z⟩
          obtain ⟨y, hy⟩ := Option.isSome_iff_exists.mp hi
          have := fetch_at hf hy
          rw [hx] at this; cases this
          obtain ⟨v', f, gx, m1, m2, m3, m4⟩ := h1.take hy
          rw [hv] at m1; cases m1
          exact .cons (f := []) (m2.fzd wk k1 fun a z => k2 a ((m4.mem_iff).mp (List.mem_append_left _ z))) (h3 W' k1 k2)
        · cases h
      · cases h
    · cases h
  | _, _, _, env, e, ds, g, wk, .io (i := i) (v := v) hv t, er, h => by
    unfold fetch at h
    dsimp only at h
    split at h
    · rename_i x hx
      split at h
      · rename_i ds' e' hf
        cases h
        obtain ⟨v', f, gx, m1, m2, m3, m4⟩ := er.take hx
        rw [hv] at m1; cases m1
        obtain ⟨fa, g', h1, h2, h3, h4⟩ := fetchOk wk t m3 hf
        refine ⟨f ++ fa, g', h1, List.perm_iff_count.mpr fun z => ?_, fun W' k1 k2 => .cons (m2.less wk k1) (h3 W' k1 k2), fun z => .cons m2 (h4 z)⟩
        have e1 := h2.count_eq z
        have e2 := m4.count_eq z
        simp only [List.count_append] at e1 e2 ⊢
        omega
      · cases h
    · cases h
  | _, _, _, env, e, ds, g, wk, .vl (c := c) (d := d) (f := f) (xs := xs) n1 n2 r t, er, h => by
    have h' : (match fetch xs env with
        | some (ds, e) => some (d :: ds, e)
        | none => none) = some (ds, e) := by
      cases c <;> first | exact h | exact absurd rfl (n1 _) | exact absurd rfl (n2 _)
    have hl : lent ((c, d) :: xs) = lent xs := by cases c <;> first | rfl | exact absurd rfl (n1 _)
    split at h'
    · rename_i ds' e' hf
      cases h'
      obtain ⟨fa, g', h1, h2, h3, h4⟩ := fetchOk wk t er hf
      refine ⟨f ++ fa, g', h1, List.perm_iff_count.mpr fun z => ?_, fun W' k1 k2 => .cons (r.less wk k1) (h3 W' k1 k2), fun z => .cons r (h4 (hl ▸ z))⟩
      have e1 := h2.count_eq z
      simp only [List.count_append] at e1 ⊢
      omega
    · cases h'
theorem set_same {σ : L2.St} {i : Nat} {v : V} (h : σ[i]? = some (some v)) : σ.set i (some v) = σ := set_self h
theorem backAll : ∀ {xs : List (CE × D)} {vs : List V} {f0 fu : List Addr} {ps : List D} {e : Slots} {g : List Addr}, RAs K σ W H xs vs f0 → VRs K W2 H2 ps vs fu → ER K W3 H2 e σ g →
    ((backOk xs ps = true ∧ ∀ (d : D) (v : V) (f : List Addr), VR K W2 H2 d v f → d.noFz = true → VR K W3 H2 d v f) ∨ ∀ (d : D) (v : V) (f : List Addr), VR K W2 H2 d v f → VR K W3 H2 d v f) → ∃ f1 g', ER K W3 H2 (giveBack xs ps e) σ g' ∧ (f1 ++ g').Perm (fu ++ g)
  | _, _, _, _, _, e, g, .nil, .nil, er, _ => ⟨[], g, er, .refl _⟩
  | _, _, _, _, _, e, g, .bw (xs := xs) hv t, .cons (f := f) (g := f3) (ds := ps) r q, er, h => by
    obtain ⟨f1, g', h1, h2⟩ := backAll (e := e) t q er (h.imp (fun z => ⟨z.1, z.2⟩) id)
    exact ⟨f ++ f1, g', h1, by rw [List.append_assoc, List.append_assoc]; exact h2.append_left f⟩
  | _, _, _, _, _, e, g, .io (i := i) (v := v) (xs := xs) hv t, .cons (f := f) (g := f3) (d := p) (ds := ps) r q, er, h => by
    have r' : VR K W3 H2 p v f := by
      rcases h with h | h
      · exact h.2 _ _ _ r (Bool.and_eq_true_iff.mp h.1).1
      · exact h _ _ _ r
    obtain ⟨f4, g4, h3, h4⟩ := er.storeAny i r'
    rw [set_same hv] at h3
    obtain ⟨f1, g', h1, h2⟩ := backAll (e := e.set i (some p)) t q h3 (h.imp (fun z => ⟨(Bool.and_eq_true_iff.mp z.1).2, z.2⟩) id)
    refine ⟨f4 ++ f1, g', h1, List.perm_iff_count.mpr fun z => ?_⟩
    have e1 := h2.count_eq z
    have e2 := h4.count_eq z
    simp only [List.count_append] at e1 e2 ⊢
    omega
  | _, _, _, _, _, e, g, .vl (c := c) (d := d0) (xs := xs) n1 n2 r0 t, .cons (f := f) (g := f3) (d := p) (ds := ps) r q, er, h => by
    have hb : backOk ((c, d0) :: xs) (p :: ps) = backOk xs ps := by cases c <;> first | rfl | exact absurd rfl (n2 _)
    obtain ⟨f1, g', h1, h2⟩ := backAll (e := e) t q er (h.imp (fun z => ⟨hb ▸ z.1, z.2⟩) id)
    have hg : giveBack ((c, d0) :: xs) (p :: ps) e = giveBack xs ps e := by cases c <;> first | rfl | exact absurd rfl (n2 _)
    rw [hg]
    exact ⟨f ++ f1, g', h1, by rw [List.append_assoc, List.append_assoc]; exact h2.append_left f⟩
end
section
variable {X : Cx} {E : XW} {a b o e : Expr} {A B C : CE} {ra rb rc ro r : Slots → R D} {sh : Bool} {pos p apos cpos : Pos} {k : Nat} {f : Addr} {fd : FuncData} {ps : List Str} {x : Str} {es : List Expr} {Γ : Glob}
theorem seqA_len : ∀ {l : List (CE × (Slots → R D))} {env e : Slots} {xs : List (CE × D)}, seqA l env = .ok xs e → xs.length = l.length
  | [], env, e, xs, h => by cases h; rfl
  | (c, r) :: l, env, e, xs, h => by
    obtain ⟨d, e1, _, h⟩ := bind_ok h
    obtain ⟨ds, e2, h2, h⟩ := bind_ok h
    cases h
    simp only [List.length_cons]
    rw [seqA_len h2]
theorem RAs.len {K : PySem.W.Frag} {σ : L2.St} {W : Wr} {H : Hp} : ∀ {xs : List (CE × D)} {vs : List V} {fp : List Addr}, RAs K σ W H xs vs fp → xs.length = vs.length
  | _, _, _, .nil => rfl
  | _, _, _, .bw _ t => by simp only [List.length_cons]; rw [t.len]
  | _, _, _, .io _ t => by simp only [List.length_cons]; rw [t.len]
  | _, _, _, .vl _ _ _ t => by simp only [List.length_cons]; rw [t.len]
theorem Tr.frame {K : PySem.W.Frag} {W W' : Wr} {H H' : Hp} {fa fb g : List Addr} {c : Bool} (t : Tr K c W H fa W' H' fb) (dis : ∀ a ∈ g, a ∉ fa) (hg : ∀ a ∈ g, W a) (nd : g.Nodup) : Tr K c W H (fa ++ g) W' H' (fb ++ g) where
  keep := fun a o e h => t.keep a o e (h.imp (fun n z => n (List.mem_append_left _ z)) id)
  new := t.new
  stay := fun a w n => t.stay a w fun z => n (List.mem_append_left _ z)
  src := fun a h => (List.mem_append.mp h).elim (fun z => (t.src a z).imp (List.mem_append_left _) id) fun z => .inl (List.mem_append_right _ z)
  inW := fun a h => (List.mem_append.mp h).elim (t.inW a) fun z => t.stay a (hg a z) (dis a z)
  nd := List.nodup_append.mpr ⟨t.nd, nd, fun a ha b hb e => by
    subst e
    rcases t.src a ha with z | z
    · exact dis a hb z
    · obtain ⟨o, e, _⟩ := t.wok0 a (hg a hb)
      rw [z] at e; cases e⟩
  wok0 := t.wok0
  wok := t.wok
  old := t.old
theorem Tr.lend {K : PySem.W.Frag} {W W1 W' : Wr} {H H' : Hp} {fa fb g : List Addr} {c : Bool} (h0 : ∀ a, W1 a ↔ (W a ∧ a ∉ g)) (wk : Wok W H) (t : Tr K c W1 H fa W' H' fb) (dis : ∀ a ∈ g, a ∉ fa) (hg : ∀ a ∈ g, W a) (nd : g.Nodup) : Tr K c W H (fa ++ g) (fun a => W' a ∨ a ∈ g) H' (fb ++ g) where
  keep := fun a o e h => t.keep a o e (h.imp (fun n z => n (List.mem_append_left _ z)) id)
  new := fun a w => w.elim (fun w => (t.new a w).imp (fun z => ((h0 a).mp z).1) id) fun z => .inl (hg a z)
  stay := fun a w n => .inl (t.stay a ((h0 a).mpr ⟨w, fun z => n (List.mem_append_right _ z)⟩) fun z => n (List.mem_append_left _ z))
  src := fun a h => (List.mem_append.mp h).elim (fun z => (t.src a z).imp (List.mem_append_left _) id) fun z => .inl (List.mem_append_right _ z)
  inW := fun a h => (List.mem_append.mp h).imp (t.inW a) id
  nd := List.nodup_append.mpr ⟨t.nd, nd, fun a ha b hb e => by
    subst e
    rcases t.src a ha with z | z
    · exact dis a hb z
    · obtain ⟨o, e, _⟩ := wk a (hg a hb)
      rw [z] at e; cases e⟩
  wok0 := wk
  wok := fun a w => w.elim (t.wok a) fun z => by
    obtain ⟨o, e, ow⟩ := wk a (hg a z)
    exact ⟨o, t.keep a o e (.inl (dis a z)), ow⟩
  old := t.old
theorem peCall {l : List (CE × (Slots → R D))} (F : FnG X.prog X.w X.K X.mg X.base k f fd ps (Γ x)) (hr : Room k X.A) (hg : X.A.guards = some []) (hgl : Gl X x) (hm : X.mg x = some (.ref f)) (hk : PySem.W.keepIn X.K (.ref f) = true) (hb : Binds X.K fd ps []) (hd : (x == ("__debug__" : Str)) = false)
    (s : SndAs X E0 es l) (hs : ∀ y ∈ es, ∀ z q, y ≠ .Starred z q) (hne : es ≠ []) (hlen : l.length = ps.length) : PE X (.Call (.Name x p) es [] pos) (tE X.K E0 false (cCall Γ x l)) := by
  refine pe_any fun σ H Q h => ⟨_, F.pe hr hg hgl hm hk hb hd (paArgs s) hs hne, ?_⟩
  obtain ⟨W, env, g, P, h⟩ := h
  refine ⟨W, env, g, P, ?_⟩
  have h : Post X.K (VR X.K) E0 (false && false) W H ([] ++ g) σ ((seqA l env).bind fun xs e => match fetch xs e with
    | none => .no
    | some (ds, e) => (match Γ x ds with
      | .ok r ps => if (!lent xs || (r.noFz && backOk xs ps)) = true then .ok r (giveBack xs ps e) else .no
      | .ex x => .ex x e
      | .no => .no)) Q := h
  refine Post.mono (P.run (Ra := RAs X.K σ) h) ?_
  rintro vs H1 ⟨xs, e1, W1, F1, g1, hq, ra, P1, t1, post⟩
  simp only [List.nil_append] at P1 post
  intro kk
  have hl : vs.length = ps.length := by rw [← ra.len, seqA_len hq, hlen]
  refine ⟨hl, ?_⟩
  split at post
  · exact post.elim
  · rename_i ds e2 hf
    obtain ⟨fa, g', er, pm, k1, k2⟩ := fetchOk P1.wok ra P1.er hf
    have nd : (fa ++ g').Nodup := (pm.nodup_iff).mpr P1.nd
    have inw : ∀ b ∈ fa ++ g', W1 b := fun b z => P1.inW b ((pm.mem_iff).mp z)
    have sub : ∀ b ∈ fa ++ g', b ∈ F1 ++ g1 := fun b z => (pm.mem_iff).mp z
    have disj : ∀ b ∈ g', b ∉ fa := fun b z y => (List.nodup_append.mp nd).2.2 b y b z rfl
    have ndg := (List.nodup_append.mp nd).2.1
    have nda := (List.nodup_append.mp nd).1
    have gw : ∀ b ∈ g', W1 b := fun b z => inw b (List.mem_append_right _ z)
    have aw : ∀ b ∈ fa, W1 b := fun b z => inw b (List.mem_append_left _ z)
    have P2 : Pre X.K W1 H1 e2 σ fa g' := ⟨er, nd, inw, P1.wok⟩
    have t0 : Tr X.K true W1 H1 (F1 ++ g1) W1 H1 (fa ++ g') := Tr.same P1.wok sub inw nd
    cases hlt : lent xs with
    | false =>
      refine ⟨W1, ds, fa, k2 hlt, nda, aw, P1.wok, ?_⟩
      cases qΓ : Γ x ds with
      | no => rw [qΓ] at post; exact post.elim
      | ex x0 =>
        rw [qΓ] at post
        exact (post W1 H1 g' (Tr.same P1.wok (fun b z => sub b (List.mem_append_right _ z)) gw ndg) er).elim
      | ok d ps' =>
        rw [qΓ] at post
        intro W2 H2 v fv fu t rv rps
        dsimp only at post
        rw [hlt, if_pos (by rfl)] at post
        have fr := t.frame disj gw ndg
        obtain ⟨f1, g2, h1, h2⟩ := backAll ra rps (er.aside t aw disj) (.inr fun _ _ _ z => z)
        have s2 : ∀ b ∈ g2, b ∈ fu ++ g' := fun b z => (h2.mem_iff).mp (List.mem_append_right _ z)
        have nd2 := (h2.nodup_iff).mpr (show (fu ++ g').Nodup from by
          have := fr.nd
          rw [List.append_assoc] at this
          exact (List.nodup_append.mp this).2.1)
        refine fun _ => post W2 H2 v fv g2 (((t0.trans fr).weakc fun z => by cases z).less (fun b z => ?_) ?_) rv h1
        · rw [List.append_assoc]
          exact (List.mem_append.mp z).elim (List.mem_append_left _) fun z => List.mem_append_right _ (s2 b z)
        · have := fr.nd
          rw [List.append_assoc] at this
          obtain ⟨n1, n2, n3⟩ := List.nodup_append.mp this
          exact List.nodup_append.mpr ⟨n1, (List.nodup_append.mp nd2).2.1, fun a ha b hb => n3 a ha b (s2 b hb)⟩
    | true =>
      refine ⟨fun a => W1 a ∧ a ∉ g', ds, fa, k1 _ (fun a w => w.1) (fun a z w => w.2 z), nda, fun b z => ⟨aw b z, fun y => disj b y z⟩, fun a w => P1.wok a w.1, ?_⟩
      cases qΓ : Γ x ds with
      | no => rw [qΓ] at post; exact post.elim
      | ex x0 =>
        rw [qΓ] at post
        exact (post W1 H1 g' (Tr.same P1.wok (fun b z => sub b (List.mem_append_right _ z)) gw ndg) er).elim
      | ok d ps' =>
        rw [qΓ] at post
        intro W2 H2 v fv fu t rv rps
        dsimp only at post
        rw [hlt] at post
        split at post
        · rename_i hc
          have hc : d.noFz = true ∧ backOk xs ps' = true := by simpa using hc
          have fr := Tr.lend (W := W1) (g := g') (fun a => Iff.rfl) P1.wok t disj gw ndg
          have er3 : ER X.K (fun a => W2 a ∨ a ∈ g') H2 e2 σ g' := ER.move (g := g') (fun a z o e => t.keep a o e (.inl (disj a z))) (fun a o e n => ⟨fr.keep a o e (.inl fun y => n (inw a y)), fun w => (fr.new a w).elim n fun z => by rw [e] at z; cases z.1⟩) (fun a o e n w => (fr.new a w).elim n fun z => by rw [e] at z; cases z.2) P1.wok er fun _ z => z
          obtain ⟨f1, g2, h1, h2⟩ := backAll (W3 := fun a => W2 a ∨ a ∈ g') ra rps er3 (.inl ⟨hc.2, fun _ _ _ h z => h.noFz z⟩)
          have s2 : ∀ b ∈ g2, b ∈ fu ++ g' := fun b z => (h2.mem_iff).mp (List.mem_append_right _ z)
          have nd2 := (h2.nodup_iff).mpr (show (fu ++ g').Nodup from by
            have := fr.nd
            rw [List.append_assoc] at this
            exact (List.nodup_append.mp this).2.1)
          refine fun _ => post _ H2 v fv g2 (((t0.trans fr).weakc fun z => by cases z).less (fun b z => ?_) ?_) (rv.noFz hc.1) h1
          · rw [List.append_assoc]
            exact (List.mem_append.mp z).elim (List.mem_append_left _) fun z => List.mem_append_right _ (s2 b z)
          · have := fr.nd
            rw [List.append_assoc] at this
            obtain ⟨n1, n2, n3⟩ := List.nodup_append.mp this
            exact List.nodup_append.mpr ⟨n1, (List.nodup_append.mp nd2).2.1, fun a ha b hb => n3 a ha b (s2 b hb)⟩
        · exact post.elim
def KBind (K : PySem.W.Frag) (fd : FuncData) (ps ks : List Str) (perm : List Nat) : Prop := ∀ (s : Shared) (ws : List Value), K.In s.heap → ws.length = ks.length → BindsTo s fd ⟨[], ks.zip ws⟩ (ps.zip (perm.map fun j => ws.getD j .none))
theorem pk_imp {es : List Keyword} {t t' : TA} (h : PK X es t) (k : ∀ σ H Q, t' σ H Q → t σ H Q) : PK X es t' := ⟨fun pos pins s σ H Q I q => h.run pos pins s σ H Q I (k σ H Q q)⟩
theorem argOk {e : Expr} {c : CE} {r : Slots → R D} (s : SndA X E e c r) : PE X e (fun σ H Q => tG X.K (RA1 X.K σ c) E false (argE c r) σ H Q) := by
  cases s with
  | bw h =>
    rename_i i
    refine pe_imp h ?_
    rintro σ H Q ⟨W, env, g, P, z⟩
    have z : Post X.K (RA1 X.K σ (.bw i)) E false W H g σ (lift ((env.at i).map fun _ => D.non) env) Q := z
    cases q : env.at i with
    | none => rw [q] at z; exact z.elim
    | some d =>
      rw [q] at z
      obtain ⟨v, f, hv, hd⟩ := tVar_of P q
      exact ⟨v, hv, P.done (f := []) (Ra := RA1 X.K σ (.bw i)) z (.bw hv .nil) (by simp)⟩
  | io h =>
    rename_i i
    refine pe_imp h ?_
    rintro σ H Q ⟨W, env, g, P, z⟩
    have z : Post X.K (RA1 X.K σ (.io i)) E false W H g σ (lift ((env.at i).map fun _ => D.non) env) Q := z
    cases q : env.at i with
    | none => rw [q] at z; exact z.elim
    | some d =>
      rw [q] at z
      obtain ⟨v, f, hv, hd⟩ := tVar_of P q
      exact ⟨v, hv, P.done (f := []) (Ra := RA1 X.K σ (.io i)) z (.io hv .nil) (by simp)⟩
  | ow h =>
    rename_i c
    refine pe_imp h.pe ?_
    rintro σ H Q ⟨W, env, g, P, z⟩
    refine ⟨W, env, g, P, ?_⟩
    have z : Post X.K (RA1 X.K σ (.ow c)) E false W H g σ (r env) Q := z
    cases q : r env with
    | no => rw [q] at z; exact z
    | ex x e => rw [q] at z; exact fun W' H' g' t er => z W' H' g' (t.weakc fun z => by cases z) er
    | ok d e =>
      rw [q] at z
      intro W' H' b f g' t ra er
      refine z W' H' b f g' (t.weakc fun z => by cases z) ?_ er
      have w := RAs.vl (K := X.K) (σ := σ) (xs := []) (vs := []) (fp := []) (c := .ow c) (fun i z => by cases z) (fun i z => by cases z) ra .nil
      rw [List.append_nil] at w
      exact w
  | vl h1 h2 h3 h =>
    refine pe_imp h.pe ?_
    rintro σ H Q ⟨W, env, g, P, z⟩
    refine ⟨W, env, g, P, ?_⟩
    have z : Post X.K (RA1 X.K σ c) E (c.calm && false) W H ([] ++ g) σ ((r env).bind fun d e => .ok d.fz e) Q := by
      rw [Bool.and_false]
      refine Post.cong z ?_
      cases c <;> first | rfl | exact absurd rfl (h1 _) | exact absurd rfl (h2 _) | exact absurd rfl (h3 _)
    refine Post.mono (P.run (Ra := VR X.K) z) ?_
    rintro v H2 ⟨d, e', W', f', g', _, l, P', t1, post⟩
    simp only [List.nil_append] at P' post
    obtain ⟨W2, P2, t2, k1, _⟩ := P'.freeze
    have w := RAs.vl (K := X.K) (σ := σ) (xs := []) (vs := []) (fp := []) h1 h2 (k1 _ _ _ l fun _ z => z) .nil
    exact post W2 H2 v [] g' (t2 _) w P2.er
inductive SndKs (X : Cx) (E : XW) : List Keyword → List (CE × (Slots → R D)) → Prop
  | nil : SndKs X E [] []
  | cons {nm : Option Str} {e : Expr} {kp : Pos} {c : CE} {r : Slots → R D} {es : List Keyword} {l : List (CE × (Slots → R D))} : SndA X E e c r → SndKs X E es l → SndKs X E (⟨nm, e, kp⟩ :: es) ((c, r) :: l)
theorem pkArgs : ∀ {es : List Keyword} {l : List (CE × (Slots → R D))}, SndKs X E es l → PK X es (fun σ H Q => tG X.K (RAs X.K σ) E false (seqA l) σ H Q)
  | _, _, .nil => by
    refine pk_imp pk_nil ?_
    rintro σ H Q ⟨W, env, g, P, h⟩
    exact P.done (f := []) (Ra := RAs X.K σ) h .nil (by simp)
  | _, _, .cons (c := c) (r := r) (es := es) (l := l) s t => by
    have ht := pkArgs t
    refine pk_imp (pk_cons (argOk s) ht) ?_
    rintro σ H Q ⟨W, env, g, P, h⟩
    refine ⟨W, env, g, P, ?_⟩
    have h : Post X.K (RAs X.K σ) E (false && false) W H ([] ++ g) σ ((argE c r env).bind fun d e => (seqA l e).bind fun ds e => .ok ((c, d) :: ds) e) Q := h
    refine Post.mono (P.run (Ra := RA1 X.K σ c) h) ?_
    rintro v H2 ⟨d, e', W', f', g', _, ra, P', t1, post⟩
    simp only [List.nil_append] at P' post
    refine ⟨W', e', g', P'.base, ?_⟩
    have post : Post X.K (RAs X.K σ) E (false && false) W' H2 (f' ++ g') σ ((seqA l e').bind fun ds e => .ok ((c, d) :: ds) e) Q := post
    refine Post.mono (P'.run (Ra := RAs X.K σ) post) ?_
    rintro vs H3 ⟨ds, e2, W2, f2, g2, _, rs, P2, t2, post2⟩
    have ra' : RAs X.K σ W2 H3 [(c, d)] [v] f' := RAs.move (g := f') (fun h s => h.aside t2 P'.gw fun a z => P'.dis a (s a z)) ra fun _ z => z
    refine P2.done (Ra := RAs X.K σ) post2 ?_ fun a z => z
    cases ra' with
    | bw h n => cases n; exact .bw h rs
    | io h n => cases n; exact .io h rs
    | vl h1 h2 h n => cases n; rw [List.append_nil]; exact .vl h1 h2 h rs
theorem VRs.perm {K : PySem.W.Frag} {W : Wr} {H : Hp} {ds : List D} {vs : List V} (h : VRs K W H ds vs []) : ∀ perm : List Nat, (∀ j ∈ perm, j < ds.length) → VRs K W H (perm.map fun j => ds.getD j .non) (perm.map fun j => vs.getD j .non) []
  | [], _ => .nil
  | j :: js, hp => by
    have lt := hp j List.mem_cons_self
    obtain ⟨v, hv, rv⟩ := h.at (i := j) (d := ds[j]) (by simp [lt])
    refine .cons (f := []) (g := []) ?_ (VRs.perm h js fun i hi => hp i (List.mem_cons_of_mem _ hi))
    show VR K W H (ds.getD j .non) (vs.getD j .non) []
    rw [List.getD_eq_getElem?_getD, List.getD_eq_getElem?_getD, hv]
    simpa [lt] using rv
theorem Vals.permV {vs : List V} {us : List Value} (h : Vals vs us) : ∀ perm : List Nat, Vals (perm.map fun j => vs.getD j .non) (perm.map fun j => us.getD j .none)
  | [] => .nil
  | j :: js => by
    refine .cons ?_ (Vals.permV h js)
    show RelV (vs.getD j .non) (us.getD j .none)
    rw [List.getD_eq_getElem?_getD, List.getD_eq_getElem?_getD]
    cases q : vs[j]? with
    | some v =>
      obtain ⟨u, hu, r⟩ := h.get q
      rw [hu]
      exact r
    | none =>
      have : us[j]? = none := by
        rw [List.getElem?_eq_none_iff] at q ⊢
        rw [← h.length]
        exact q
      rw [this]
      exact rfl
def tFnK (K : PySem.W.Frag) (n m : Nat) (perm : List Nat) (sem : List D → Rc) (t : TA) : TE := fun σ H Q => t σ H fun vs H1 => KOK K H1 → vs.length = m ∧ spG K n sem (perm.map fun j => vs.getD j .non) H1 Q
theorem FnG.peK {sem : List D → Rc} {x : Str} {kws : List Keyword} {ks : List Str} {perm : List Nat} {t : TA} (F : FnG X.prog X.w X.K X.mg X.base k f fd ps sem) (hr : Room k X.A) (hg : X.A.guards = some []) (hgl : Gl X x) (hm : X.mg x = some (.ref f)) (hk : PySem.W.keepIn X.K (.ref f) = true) (hb : KBind X.K fd ps ks perm) (hd : (x == ("__debug__" : Str)) = false) (ha : PK X kws t)
    (hall : (backToKw pos (keywordEach kws X.env)).all (·.1.isSome) = true) (hks : (backToKw pos (keywordEach kws X.env)).filterMap (·.1) = ks) (hno : (backToKw pos (keywordEach kws X.env)).any (·.1.isNone) = false) : PE X (.Call (.Name x p) [] kws pos) (tFnK X.K ps.length ks.length perm sem t) := by
  refine ⟨fun pins s σ H Q I h => wpAny_Call_Name_kw (ld_glob I hgl hm ?_ hd)⟩
  refine PySem.W.callWith_KW0 (h₀ := X.base) I.ok.mod.kin hk hall (thn (ha.run pos pins s σ H _ I h) fun ws s1 ⟨zs, H1, I1, rz, q⟩ => ⟨I1.kIn, ?_⟩) (by rw [hno]; rfl)
  rw [hks]
  obtain ⟨q1, q2⟩ := q (kok I1)
  have b := hb s1 ws I1.kIn (by rw [← rz.length]; exact q1)
  refine wpAny_call (codeAny_mono (F.go X.A X.stack s1 H1 _ _ _ Q hr hg I1.env0 b (Vals.permV rz perm) q2) fun z s' q => ?_)
  cases z with
  | error _ => exact False.elim q
  | ok y => cases y with
    | ret _ => exact I1.after q
    | _ => exact False.elim q
def kwNames : List Keyword → List Str → Bool
  | [], [] => true
  | k :: ks, x :: xs => decide (k.arg = some x) && kwNames ks xs
  | _, _ => false
theorem kwNames_ok {env : Env} {pos : Pos} : ∀ {kws : List Keyword} {ks : List Str}, kwNames kws ks = true → (backToKw pos (keywordEach kws env)).all (·.1.isSome) = true ∧ (backToKw pos (keywordEach kws env)).filterMap (·.1) = ks ∧ (backToKw pos (keywordEach kws env)).any (·.1.isNone) = false
  | [], [], _ => ⟨rfl, rfl, rfl⟩
  | ⟨nm, e, kp⟩ :: kws, x :: ks, h => by
    obtain ⟨h1, h2⟩ := Bool.and_eq_true_iff.mp h
    have h1 : nm = some x := of_decide_eq_true h1
    subst h1
    obtain ⟨a, b, c⟩ := kwNames_ok (env := env) (pos := pos) h2
    unfold backToKw at a b c ⊢
    unfold keywordEach
    refine ⟨?_, ?_, ?_⟩
    · simpa using a
    · simp only [List.map_cons, List.filterMap_cons]
      rw [b]
    · simpa using c
  | [], _ :: _, h => by cases h
  | _ :: _, [], h => by cases h
theorem peCallk {x : Str} {kws : List Keyword} {ks : List Str} {perm : List Nat} {l : List (CE × (Slots → R D))} (F : FnG X.prog X.w X.K X.mg X.base k f fd ps (Γ x)) (hr : Room k X.A) (hg : X.A.guards = some []) (hgl : Gl X x) (hm : X.mg x = some (.ref f)) (hk : PySem.W.keepIn X.K (.ref f) = true) (hb : KBind X.K fd ps ks perm) (hd : (x == ("__debug__" : Str)) = false)
    (s : SndKs X E0 kws l) (hall : (backToKw pos (keywordEach kws X.env)).all (·.1.isSome) = true) (hks : (backToKw pos (keywordEach kws X.env)).filterMap (·.1) = ks) (hno : (backToKw pos (keywordEach kws X.env)).any (·.1.isNone) = false) (hl : l.length = ks.length) (hp : perm.length = ps.length) : PE X (.Call (.Name x p) [] kws pos) (tE X.K E0 false (cCallk Γ x perm l)) := by
  refine pe_any fun σ H Q h => ⟨_, F.peK hr hg hgl hm hk hb hd (pkArgs s) hall hks hno, ?_⟩
  obtain ⟨W, env, g, P, h⟩ := h
  refine ⟨W, env, g, P, ?_⟩
  have h : Post X.K (VR X.K) E0 (false && false) W H ([] ++ g) σ ((seqA l env).bind fun xs e => match fetch xs e with
    | none => .no
    | some (ds, e) => if (noOwns ds && perm.all fun j => decide (j < ds.length)) = true then (match Γ x (perm.map fun j => ds.getD j .non) with
      | .ok r _ => if (!lent xs || r.noFz) = true then .ok r e else .no
      | .ex x => .ex x e
      | .no => .no) else .no) Q := h
  refine Post.mono (P.run (Ra := RAs X.K σ) h) ?_
  rintro vs H1 ⟨xs, e1, W1, F1, g1, hq, ra, P1, t1, post⟩
  simp only [List.nil_append] at P1 post
  intro kk
  refine ⟨by rw [← ra.len, seqA_len hq, hl], by rw [List.length_map, hp], ?_⟩
  split at post
  · exact post.elim
  · rename_i ds e2 hf
    split at post
    case isFalse => exact post.elim
    rename_i hc
    obtain ⟨hc1, hc2⟩ := Bool.and_eq_true_iff.mp hc
    have hc2 : ∀ j ∈ perm, j < ds.length := fun j hj => of_decide_eq_true (List.all_eq_true.mp hc2 j hj)
    obtain ⟨fa, g', er, pm, k1, k2⟩ := fetchOk P1.wok ra P1.er hf
    have nd : (fa ++ g').Nodup := (pm.nodup_iff).mpr P1.nd
    have inw : ∀ b ∈ fa ++ g', W1 b := fun b z => P1.inW b ((pm.mem_iff).mp z)
    have sub : ∀ b ∈ fa ++ g', b ∈ F1 ++ g1 := fun b z => (pm.mem_iff).mp z
    have ndg := (List.nodup_append.mp nd).2.1
    have gw : ∀ b ∈ g', W1 b := fun b z => inw b (List.mem_append_right _ z)
    have t0 : Tr X.K true W1 H1 (F1 ++ g1) W1 H1 g' := Tr.same P1.wok (fun b z => sub b (List.mem_append_right _ z)) gw ndg
    cases hlt : lent xs with
    | false =>
      have hds := k2 hlt
      have z := hds.none_of hc1
      subst z
      refine ⟨W1, _, [], hds.perm perm hc2, List.nodup_nil, (fun b z => by cases z), P1.wok, ?_⟩
      cases qΓ : Γ x (perm.map fun j => ds.getD j .non) with
      | no => rw [qΓ] at post; exact post.elim
      | ex x0 =>
        rw [qΓ] at post
        exact (post W1 H1 g' (t0.weakc fun z => by cases z) er).elim
      | ok d ps' =>
        rw [qΓ] at post
        intro W2 H2 v fv fu t rv rps
        dsimp only at post
        rw [hlt, if_pos (by rfl)] at post
        have fr := t.frame (g := g') (fun b z => by simp) gw ndg
        have nn : (fv ++ g').Nodup := by
          have := fr.nd
          rw [List.append_assoc] at this
          obtain ⟨n1, n2, n3⟩ := List.nodup_append.mp this
          exact List.nodup_append.mpr ⟨n1, (List.nodup_append.mp n2).2.1, fun a ha b hb => n3 a ha b (List.mem_append_right _ hb)⟩
        refine fun _ => post W2 H2 v fv g' (((t0.trans fr).weakc fun z => by cases z).less (fun b z => ?_) nn) rv (er.aside t (by simp) (by simp))
        rw [List.append_assoc]
        exact (List.mem_append.mp z).elim (List.mem_append_left _) fun z => List.mem_append_right _ (List.mem_append_right _ z)
    | true =>
      have hds := k1 (fun a => W1 a ∧ a ∉ g') (fun a w => w.1) (fun a z w => w.2 z)
      have z := hds.none_of hc1
      subst z
      refine ⟨fun a => W1 a ∧ a ∉ g', _, [], hds.perm perm hc2, List.nodup_nil, (fun b z => by cases z), (fun a w => P1.wok a w.1), ?_⟩
      cases qΓ : Γ x (perm.map fun j => ds.getD j .non) with
      | no => rw [qΓ] at post; exact post.elim
      | ex x0 =>
        rw [qΓ] at post
        exact (post W1 H1 g' (t0.weakc fun z => by cases z) er).elim
      | ok d ps' =>
        rw [qΓ] at post
        intro W2 H2 v fv fu t rv rps
        dsimp only at post
        rw [hlt] at post
        split at post
        · rename_i hc
          have hc : d.noFz = true := by simpa using hc
          have fr := Tr.lend (W := W1) (g := g') (fun a => Iff.rfl) P1.wok t (fun b z => by simp) gw ndg
          have er3 : ER X.K (fun a => W2 a ∨ a ∈ g') H2 e2 σ g' := ER.move (g := g') (fun a z o e => t.keep a o e (.inl (by simp))) (fun a o e n => ⟨fr.keep a o e (.inl fun y => n (gw a (by simpa using y))), fun w => (fr.new a w).elim n fun z => by rw [e] at z; cases z.1⟩) (fun a o e n w => (fr.new a w).elim n fun z => by rw [e] at z; cases z.2) P1.wok er fun _ z => z
          have nn : (fv ++ g').Nodup := by
            have := fr.nd
            rw [List.append_assoc] at this
            obtain ⟨n1, n2, n3⟩ := List.nodup_append.mp this
            exact List.nodup_append.mpr ⟨n1, (List.nodup_append.mp n2).2.1, fun a ha b hb => n3 a ha b (List.mem_append_right _ hb)⟩
          refine fun _ => post _ H2 v fv g' (((t0.trans fr).weakc fun z => by cases z).less (fun b z => ?_) nn) (rv.noFz hc) er3
          rw [List.append_assoc]
          exact (List.mem_append.mp z).elim (List.mem_append_left _) fun z => List.mem_append_right _ (List.mem_append_right _ z)
        · exact post.elim
end
section
variable {K : PySem.W.Frag} {W W0 W1 W2 W' : Wr} {H H0 H' : Hp} {σ : L2.St} {old env : Slots} {g : List Addr}
theorem keepS_some {o n : Option D} {d : D} (h : keepS o n = some d) : n = some d ∧ (d.noFz = true ∨ (o = some d ∧ d.noOwn = true)) := by
  cases n with
  | none => cases o <;> cases h
  | some x =>
    cases o with
    | none =>
      have h : (if x.noFz = true then some x else none) = some d := h
      split at h
      · rename_i z; cases h; exact ⟨rfl, .inl z⟩
      · cases h
    | some y =>
      have h : (if x.noFz = true then some x else if (y.noOwn && D.same y x) = true then some x else none) = some d := h
      split at h
      · rename_i z; cases h; exact ⟨rfl, .inl z⟩
      · split at h
        · rename_i z
          cases h
          obtain ⟨z1, z2⟩ := Bool.and_eq_true_iff.mp z
          have := same_eq z2
          subst this
          exact ⟨rfl, .inr ⟨rfl, z1⟩⟩
        · cases h
theorem ER.lendB (hp : ∀ (d : D) (v : V), VR K W0 H0 d v [] → VR K W2 H' d v []) : ∀ {old new : Slots} {σ : L2.St} {g0 g : List Addr}, ER K W0 H0 old σ g0 → ER K W' H' new σ g → ∃ f g', ER K W2 H' (lendBack old new) σ g' ∧ (f ++ g').Perm g := by
  intro old
  induction old with
  | nil =>
    intro new σ g0 g ho h
    cases ho
    cases h
    exact ⟨[], [], .nil, .refl _⟩
  | cons o os ih =>
    intro new σ g0 g ho h
    have tl : ∃ σh σt g1, σ = σh :: σt ∧ ER K W0 H0 os σt g1 := by
      cases ho with
      | no t => exact ⟨_, _, _, rfl, t⟩
      | so r t => exact ⟨_, _, _, rfl, t⟩
    obtain ⟨σh, σt, g1, rfl, ht⟩ := tl
    cases h with
    | no t =>
      obtain ⟨f, g', h1, h2⟩ := ih ht t
      refine ⟨f, g', ?_, h2⟩
      have this : ∀ ns : Slots, lendBack (o :: os) (none :: ns) = none :: lendBack os ns := fun ns => by
        show keepS o none :: _ = _
        cases o <;> rfl
      rw [this]
      exact .no h1
    | so r t =>
      rename_i d v new' fd gt
      obtain ⟨f, g', h1, h2⟩ := ih ht t
      have e : ∀ ns : Slots, lendBack (o :: os) (some d :: ns) = keepS o (some d) :: lendBack os ns := fun _ => rfl
      rw [e]
      cases q : keepS o (some d) with
      | none =>
        refine ⟨fd ++ f, g', .no h1, ?_⟩
        rw [List.append_assoc]
        exact h2.append_left fd
      | some d2 =>
        obtain ⟨q1, q2⟩ := keepS_some q
        cases q1
        rcases q2 with z | ⟨z, zo⟩
        · refine ⟨f, fd ++ g', .so (r.noFz z) h1, ?_⟩
          have p1 : (f ++ (fd ++ g')).Perm (fd ++ (f ++ g')) := List.perm_iff_count.mpr fun a => by simp only [List.count_append]; omega
          exact p1.trans (h2.append_left fd)
        · subst z
          cases ho with
          | so r0 t0 =>
            have := r0.none_of zo
            subst this
            refine ⟨fd ++ f, [] ++ g', .so (hp _ _ r0) h1, ?_⟩
            rw [List.nil_append, List.append_assoc]
            exact h2.append_left fd
end
theorem okLnd {X : Cx} {E : XW} {e : Expr} {C : CE} {r : Slots → R D} {k : Nat} (s : Snd X E e C r) : Snd X E e (.lnd k C) (cLnd k r) := by
  refine Snd.mk1 (pe_imp s.pe ?_) (fun _ => rfl) (fun _ => rfl) fun _ z => by cases z
  rintro σ H Q ⟨W, env, g, P, h⟩
  unfold cLnd at h
  cases hx : env.at k with
  | none => rw [hx] at h; exact h.elim
  | some x =>
  rw [hx] at h
  dsimp only at h
  obtain ⟨v0, fk, g', hσ, vx, er', pm⟩ := P.er.take hx
  have nd := (pm.nodup_iff).mpr P.base.nd
  obtain ⟨ndk, ndg, disj⟩ := List.nodup_append.mp nd
  have lt : k < env.length := at_lt hx
  have inw : ∀ a ∈ fk ++ g', W a := fun a z => P.gw a ((pm.mem_iff).mp z)
  let W1 : Wr := fun a => W a ∧ a ∉ fk
  have h1 : ∀ a, W1 a → W a := fun a w => w.1
  have vf : VR X.K W1 H x.fz v0 [] := VR.fzd P.wok h1 vx fun a z w => w.2 z
  have er1 : ER X.K W1 H (env.set k none) σ g' := ER.less P.wok h1 er'
  have lt2 : k < (env.set k none).length := by rw [List.length_set]; exact lt
  obtain ⟨g1, er2, pm2⟩ := er1.put (i := k) (by rw [at_set lt]) lt2 hσ vf
  rw [List.set_set] at er2
  rw [List.nil_append] at pm2
  have dk : ∀ a ∈ fk, a ∉ g1 := fun a z y => disj a z a ((pm2.mem_iff).mp y) rfl
  have P1 : Pre X.K W1 H (env.set k (some x.fz)) σ [] g1 := ⟨er2, by simpa using (pm2.nodup_iff).mpr ndg, fun a z => by
    have z : a ∈ g' := (pm2.mem_iff).mp (by simpa using z)
    exact ⟨inw a (List.mem_append_right _ z), fun y => disj a y a z rfl⟩, fun a w => P.wok a w.1⟩
  refine ⟨W1, env.set k (some x.fz), g1, P1, ?_⟩
  cases qr : r (env.set k (some x.fz)) with
  | no => rw [qr] at h; exact h.elim
  | ex y z => rw [qr] at h; exact h.elim
  | ok d e' =>
  rw [qr] at h
  unfold lnd2 at h
  dsimp only at h
  split at h
  case isFalse => exact h.elim
  rename_i hfz
  intro W' H' v f g2 t rv er3
  have kw : ∀ a ∈ fk, W a := fun a z => inw a (List.mem_append_left _ z)
  have tl := Tr.lend (W := W) (g := fk) (fun a => Iff.rfl) P.wok t dk kw ndk
  have ht : Tr X.K C.calm W H g (fun a => W' a ∨ a ∈ fk) H' ((f ++ g2) ++ fk) := tl.more fun a z => by
    rcases List.mem_append.mp z with z | z
    · exact (pm.mem_iff).mp (List.mem_append_right _ ((pm2.mem_iff).mp z))
    · exact (pm.mem_iff).mp (List.mem_append_left _ z)
  have g1w : ∀ a ∈ g1 ++ fk, W a := fun a z => by
    rcases List.mem_append.mp z with z | z
    · exact inw a (List.mem_append_right _ ((pm2.mem_iff).mp z))
    · exact kw a z
  have hp : ∀ (d : D) (v : V), VR X.K W H d v [] → VR X.K (fun a => W' a ∨ a ∈ fk) H' d v [] := fun d v q => q.aside tl g1w fun a z => by cases z
  obtain ⟨fl, gl, el, pl⟩ := ER.lendB (W' := W') hp P.er er3
  obtain ⟨fd, gd, ed, pd⟩ := el.drop k
  have len : (lendBack env e').length = σ.length := el.length
  have ltb : k < (lendBack env e').length := by rw [len, ← P.er.length]; exact lt
  have vx2 : VR X.K (fun a => W' a ∨ a ∈ fk) H' x v0 fk := VR.move (g := fk) (fun a z o e => t.keep a o e (.inl (dk a z))) (fun a o e n => ⟨tl.keep a o e (.inl fun y => n (g1w a y)), fun w => (tl.new a w).elim n fun z => by rw [e] at z; cases z.1⟩) (fun a o e n w => (tl.new a w).elim n fun z => by rw [e] at z; cases z.2) P.wok vx fun _ z => z
  obtain ⟨g3, e3, pm3⟩ := ed.put (i := k) (by rw [at_set ltb]) (by rw [List.length_set]; exact ltb) hσ vx2
  rw [List.set_set] at e3
  have sub : ∀ a ∈ f ++ g3, a ∈ (f ++ g2) ++ fk := fun a z => by
    rcases List.mem_append.mp z with z | z
    · exact List.mem_append_left _ (List.mem_append_left _ z)
    · rcases List.mem_append.mp ((pm3.mem_iff).mp z) with z | z
      · exact List.mem_append_right _ z
      · exact List.mem_append_left _ (List.mem_append_right _ ((pl.mem_iff).mp (List.mem_append_right _ ((pd.mem_iff).mp (List.mem_append_right _ z)))))
  have ndf : (f ++ g3).Nodup := by
    have n0 := tl.nd
    have hc : ∀ a, (f ++ g3).count a ≤ ((f ++ g2) ++ fk).count a := fun a => by
      have c1 := pm3.count_eq a
      have c2 := pd.count_eq a
      have c3 := pl.count_eq a
      simp only [List.count_append] at c1 c2 c3 ⊢
      omega
    exact List.nodup_iff_count.mpr fun a => Nat.le_trans (hc a) (List.nodup_iff_count.mp n0 a)
  exact h _ H' v f g3 (ht.less sub ndf) (rv.noFz hfz) e3
end Hc

set_option Elab.async false
set_option linter.all false
set_option maxRecDepth 100000
set_option maxHeartbeats 2000000
namespace Hc
open PySem PySem.Spec PyProof.Rows L2
def Same (is : List Nat) (σ σ' : L2.St) : Prop := σ'.length = σ.length ∧ ∀ j, j ∉ is → σ'[j]? = σ[j]?
theorem Same.refl {is : List Nat} {σ : L2.St} : Same is σ σ := ⟨rfl, fun _ _ => rfl⟩
theorem Same.trans {is : List Nat} {σ σ1 σ2 : L2.St} (h : Same is σ σ1) (h' : Same is σ1 σ2) : Same is σ σ2 := ⟨h'.1.trans h.1, fun j z => (h'.2 j z).trans (h.2 j z)⟩
theorem Same.mono {is js : List Nat} {σ σ1 : L2.St} (h : Same is σ σ1) (s : ∀ j ∈ is, j ∈ js) : Same js σ σ1 := ⟨h.1, fun j z => h.2 j fun y => z (s j y)⟩
def PostS (K : PySem.W.Frag) (is : List Nat) (W : Wr) (H : Hp) (fp : List Addr) (σ : L2.St) (r : R Fw) (D : Ends) : Prop := match r with
  | .ok .nx e => ∀ W' H' σ' g, Tr K false W H fp W' H' g → ER K W' H' e σ' g → Same is σ σ' → D.nx σ' H'
  | .ok .brk e => ∀ W' H' σ' g, Tr K false W H fp W' H' g → ER K W' H' e σ' g → Same is σ σ' → D.bk σ' H'
  | .ok .ct e => ∀ W' H' σ' g, Tr K false W H fp W' H' g → ER K W' H' e σ' g → Same is σ σ' → D.ct σ' H'
  | .ok (.ret d) e => ∀ W' H' σ' v f g, Tr K false W H fp W' H' (f ++ g) → VR K W' H' d v f → ER K W' H' e σ' g → Same is σ σ' → D.rt v H'
  | .ex _ _ => False
  | .no => False
def tS (K : PySem.W.Frag) (is : List Nat) (r : Slots → R Fw) : TS := fun D σ H => ∃ W env g, Pre K W H env σ [] g ∧ PostS K is W H g σ (r env) D
section
variable {K : PySem.W.Frag} {W W1 W' : Wr} {H H1 H' : Hp} {fp fp1 g : List Addr} {σ σ1 : L2.St} {is js : List Nat} {r : R Fw} {D : Ends} {env : Slots}
theorem PostS.after (t : Tr K false W H fp W1 H1 fp1) (s : Same is σ σ1) (h : PostS K is W H fp σ r D) : PostS K is W1 H1 fp1 σ1 r D := by
  cases r with
  | no => exact h
  | ex x e => exact h
  | ok f e => cases f with
    | nx => exact fun W' H' σ' g t' er s' => h W' H' σ' g (t.trans t') er (s.trans s')
    | brk => exact fun W' H' σ' g t' er s' => h W' H' σ' g (t.trans t') er (s.trans s')
    | ct => exact fun W' H' σ' g t' er s' => h W' H' σ' g (t.trans t') er (s.trans s')
    | ret d => exact fun W' H' σ' v f g t' rv er s' => h W' H' σ' v f g (t.trans t') rv er (s.trans s')
theorem PostS.mono (h : PostS K js W H fp σ r D) (s : ∀ j ∈ is, j ∈ js) : PostS K is W H fp σ r D := by
  cases r with
  | no => exact h
  | ex x e => exact h
  | ok f e => cases f with
    | nx => exact fun W' H' σ' g t' er s' => h W' H' σ' g t' er (s'.mono s)
    | brk => exact fun W' H' σ' g t' er s' => h W' H' σ' g t' er (s'.mono s)
    | ct => exact fun W' H' σ' g t' er s' => h W' H' σ' g t' er (s'.mono s)
    | ret d => exact fun W' H' σ' v f g t' rv er s' => h W' H' σ' v f g t' rv er (s'.mono s)
theorem Pre.runS {α β : Type} {Ra : Rl α β} {c : Bool} {r : R α} {k : α → Slots → R Hc.Fw} (P : Pre K W H env σ [] g) (h : PostS K is W H g σ (r.bind k) D) :
    Post K Ra E0 c W H g σ r fun b H' => ∃ a e W' f g', r = .ok a e ∧ Ra W' H' a b f ∧ Pre K W' H' e σ f g' ∧ PostS K is W' H' (f ++ g') σ (k a e) D := by
  cases r with
  | no => exact h
  | ex x e => exact h.elim
  | ok a e => exact fun W' H' b f g' t ra er => ⟨a, e, W', f, g', rfl, ra, by simpa using P.step t er, PostS.after (t.weakc fun z => by cases z) .refl h⟩
theorem store_end {d : Hc.D} {v : V} {f : List Addr} {i : Nat} (P : Pre K W H env σ f g) (r : VR K W H d v f) (h : PostS K [i] W H (f ++ g) σ (.ok .nx (env.set i (some d))) D) : gName i v σ H D.nx := by
  obtain ⟨f0, g', h1, h2⟩ := P.er.storeAny i r
  have nd : (f0 ++ g').Nodup := (h2.nodup_iff).mpr P.nd
  have sub : ∀ a ∈ g', a ∈ f ++ g := fun a z => (h2.mem_iff).mp (List.mem_append_right _ z)
  exact h W H _ g' (Tr.same P.wok sub (fun a z => P.inW a (sub a z)) (List.nodup_append.mp nd).2.1) h1 ⟨List.length_set, fun j hj => List.getElem?_set_ne fun z => hj (by rw [z]; exact List.mem_singleton.mpr rfl)⟩
theorem bind_end {d : Hc.D} {v : V} {f : List Addr} {tg : Tg} {e' : Slots} (P : Pre K W H env σ f g) (r : VR K W H d v f) (hb : bindTg tg d env = some e') (h : PostS K (tgS tg) W H (f ++ g) σ (.ok .nx e') D) : gT K tg v σ H D.nx := by
  refine bindOk r P.er hb fun σ' g' b => ?_
  obtain ⟨f0, h2⟩ := b.pm
  have nd : (f0 ++ g').Nodup := (h2.nodup_iff).mpr P.nd
  have sub : ∀ a ∈ g', a ∈ f ++ g := fun a z => (h2.mem_iff).mp (List.mem_append_right _ z)
  exact h W H _ g' (Tr.same P.wok sub (fun a z => P.inW a (sub a z)) (List.nodup_append.mp nd).2.1) b.er ⟨b.len, b.σs⟩
end
theorem ps_imp {X : Cx} {e : Stmt} {t t' : TS} (h : PS X e t) (k : ∀ D σ H, t' D σ H → t D σ H) : PS X e t' := ⟨fun pins s σ H D I q => h.run pins s σ H D I (k D σ H q)⟩
theorem pss_imp {X : Cx} {e : List Stmt} {t t' : TS} (h : PSs X e t) (k : ∀ D σ H, t' D σ H → t D σ H) : PSs X e t' := ⟨fun pins s σ H D I q => h.run pins s σ H D I (k D σ H q)⟩
theorem ps_kok {X : Cx} {e : Stmt} {t t' : TS} (h : PS X e t) (k : ∀ D σ H, t' D σ H → t { D with nx := fun σ H => KOK X.K H → D.nx σ H } σ H) : PS X e t' := ⟨fun pins s σ H D I q => by
  refine thn (h.run pins s σ H _ I (k D σ H q)) fun f s' z => ?_
  cases f with
  | next =>
    obtain ⟨σ', H', I', q⟩ := z
    exact ⟨σ', H', I', q (kok I')⟩
  | brk => exact z
  | cont => exact z
  | ret u => exact z⟩
section
variable {X : Cx} {a b o e : Expr} {A B C : CE} {ra rb rc ro r : Slots → R D} {pos p apos cpos : Pos} {Γ : Glob} {st : Stmt} {sts : List Stmt} {is js : List Nat} {c : Bool}
theorem psNil : PSs X [] (tS X.K [] fun env => .ok .nx env) := pss_imp pss_nil fun D σ H ⟨W, env, g, P, h⟩ =>
  h W H σ g (Tr.same P.wok (fun _ z => z) P.gw (by simpa using P.nd)) P.er .refl
def seqS (f : Slots → R Fw) (k : Slots → R Fw) (env : Slots) : R Fw := (f env).bind fun f e => match f with
  | .nx => k e
  | .ret d => .ok (.ret d) e
  | .brk => .ok .brk e
  | .ct => .ok .ct e
theorem psCons {f k : Slots → R Fw} (h : PS X st (tS X.K is f)) (h' : PSs X sts (tS X.K js k)) : PSs X (st :: sts) (tS X.K (is ++ js) (seqS f k)) := by
  refine pss_imp (pss_cons h h') ?_
  rintro D σ H ⟨W, env, g, P, q⟩
  refine ⟨W, env, g, P, ?_⟩
  have l1 : ∀ j ∈ is, j ∈ is ++ js := fun j z => List.mem_append_left _ z
  unfold seqS at q
  cases e : f env with
  | no => rw [e] at q; exact q
  | ex x e1 => rw [e] at q; exact q.elim
  | ok w e1 =>
    rw [e] at q
    cases w with
    | nx =>
      intro W' H' σ' g' t er s
      exact ⟨W', e1, g', ⟨er, by simpa using t.nd, by simpa using t.inW, t.wok⟩, (PostS.after t (s.mono l1) q).mono fun j z => List.mem_append_right _ z⟩
    | brk => exact fun W' H' σ' g' t er s => q W' H' σ' g' t er (s.mono l1)
    | ct => exact fun W' H' σ' g' t er s => q W' H' σ' g' t er (s.mono l1)
    | ret d => exact fun W' H' σ' v f g' t rv er s => q W' H' σ' v f g' t rv er (s.mono l1)
theorem psExpr (he : PE X e (tE X.K E0 c r)) (hs : swapsWith e none pos.line X.env = pure false) : PS X (.Expr e pos) (tS X.K [] fun env => (r env).bind fun _ e => .ok .nx e) := by
  refine ps_imp (ps_expr he hs) ?_
  rintro D σ H ⟨W, env, g, P, q⟩
  refine ⟨W, env, g, P, Post.mono (P.runS (Ra := VR X.K) q) ?_⟩
  rintro v H' ⟨d, e', W', f, g', _, l, P', post⟩
  exact post W' H' σ g' (Tr.same P'.wok (fun a z => List.mem_append_right _ z) P'.gw (by simpa using P'.base.nd)) P'.er .refl
theorem psRet (he : PE X e (tE X.K E0 c r)) : PS X (.Return (some e) pos) (tS X.K [] fun env => (r env).bind fun d e => .ok (.ret d) e) := by
  refine ps_imp (ps_ret he) ?_
  rintro D σ H ⟨W, env, g, P, q⟩
  refine ⟨W, env, g, P, Post.mono (P.runS (Ra := VR X.K) q) ?_⟩
  rintro v H' ⟨d, e', W', f, g', _, l, P', post⟩
  exact post W' H' σ v f g' (Tr.same P'.wok (fun a z => z) P'.inW P'.nd) l P'.er .refl
theorem psRetN : PS X (.Return none pos) (tS X.K [] fun env => .ok (.ret .non) env) := ps_imp ps_retN fun D σ H ⟨W, env, g, P, q⟩ =>
  q W H σ .non [] g (Tr.same P.wok (fun a z => by simpa using z) (by simpa using P.gw) (by simpa using P.nd)) .non P.er .refl
theorem psPass : PS X (.Pass pos) (tS X.K [] fun env => .ok .nx env) := ps_imp ps_pass fun D σ H ⟨W, env, g, P, h⟩ =>
  h W H σ g (Tr.same P.wok (fun _ z => z) P.gw (by simpa using P.nd)) P.er .refl
theorem psDoc {x j p} : PS X (.Expr (.Constant (.str x) j p) pos) (tS X.K [] fun env => .ok .nx env) := ps_imp ps_doc fun D σ H ⟨W, env, g, P, h⟩ =>
  h W H σ g (Tr.same P.wok (fun _ z => z) P.gw (by simpa using P.nd)) P.er .refl
theorem psBrk : PS X (.Break pos) (tS X.K [] fun env => .ok .brk env) := ps_imp ps_break fun D σ H ⟨W, env, g, P, h⟩ =>
  h W H σ g (Tr.same P.wok (fun _ z => z) P.gw (by simpa using P.nd)) P.er .refl
theorem psCont : PS X (.Continue pos) (tS X.K [] fun env => .ok .ct env) := ps_imp ps_continue fun D σ H ⟨W, env, g, P, h⟩ =>
  h W H σ g (Tr.same P.wok (fun _ z => z) P.gw (by simpa using P.nd)) P.er .refl
theorem psNever : PS X st (tS X.K is fun _ => .no) := ps_imp ps_never fun D σ H ⟨W, env, g, P, h⟩ => h
theorem psIf {tc : Slots → R Bool} {fa fb : Slots → R Fw} {sa sb : List Stmt} (hc : PT X e (tT X.K E0 c tc)) (ha : PSs X sa (tS X.K is fa)) (hb : PSs X sb (tS X.K js fb)) : PS X (.If e sa sb pos) (tS X.K (is ++ js) fun env => (tc env).bind fun k e => if k = true then fa e else fb e) := by
  refine ps_imp (ps_if hc ha hb) ?_
  rintro D σ H ⟨W, env, g, P, q⟩
  refine ⟨W, env, g, P, Post.mono (P.runS (Ra := RB) q) ?_⟩
  rintro k H' ⟨k', e', W', f, g', _, ⟨rfl, rfl⟩, P', post⟩
  cases k' with
  | true => rw [if_pos rfl] at post ⊢; exact ⟨W', e', g', P', PostS.mono post fun j z => List.mem_append_left _ z⟩
  | false => rw [if_neg Bool.false_ne_true] at post ⊢; exact ⟨W', e', g', P', PostS.mono post fun j z => List.mem_append_right _ z⟩
theorem psStore {te : TE} {i : Nat} (hp : PS X st (tAsg te (gName i))) (hm : ∀ σ H Q, tE X.K E0 c r σ H Q → te σ H fun v H' => KOK X.K H' → Q v H') : PS X st (tS X.K [i] fun env => (r env).bind fun d e => .ok .nx (e.set i (some d))) := by
  refine ps_kok hp ?_
  rintro D σ H ⟨W, env, g, P, q⟩
  refine hm σ H (fun v H' => gName i v σ H' D.nx) ⟨W, env, g, P, Post.mono (P.runS (Ra := VR X.K) q) ?_⟩
  rintro v H' ⟨d, e', W', f, g', _, l, P', post⟩
  exact store_end P' l post
theorem psUnp {tg : Tg} {tgE : Expr} (he : PE X e (tE X.K E0 c r)) (hg : PG X tgE (gT X.K tg)) (hs : swapsWithSole [tgE] e pos.line X.env = pure false) (hw : swappedStores [tgE] e X.env = pure none) (h1 : (assignEach [tgE] X.env).map (·.2) = [assign tgE X.env]) :
    PS X (.Assign [tgE] e pos) (tS X.K (tgS tg) fun env => (r env).bind fun d e => match bindTg tg d e with
      | some e => .ok .nx e
      | none => .no) := by
  refine ps_imp (ps_asg he hg hs hw h1) ?_
  rintro D σ H ⟨W, env, g, P, q⟩
  refine ⟨W, env, g, P, Post.mono (P.runS (Ra := VR X.K) q) ?_⟩
  rintro v H' ⟨d, e', W', f, g', _, l, P', post⟩
  split at post
  · rename_i e2 hb
    exact bind_end P' l hb post
  · exact post.elim
theorem psPar {i j : Nat} {x y : Str} {px py pt : Pos} {kt k2 pt2} (sa : PE X a (tE X.K E0 A.calm ra)) (sb : PE X b (tE X.K E0 B.calm rb)) (hs1 : ∀ x p, a ≠ .Starred x p) (hs2 : ∀ x p, b ≠ .Starred x p) (hc : X.calm = true) (hN : X.N.Nodup) (hi : X.N[i]? = some x) (hj : X.N[j]? = some y) (hij : i ≠ j)
    (hx : X.env.scope.names.lookup x = some .local) (hy : X.env.scope.names.lookup y = some .local)
    (hw : swappedStores [.Tuple [.Name x px, .Name y py] kt pt] (.Tuple [a, b] k2 pt2) X.env = pure (some [x, y]))
    (hs : swapsWithSole [.Tuple [.Name x px, .Name y py] kt pt] (.Tuple [a, b] k2 pt2) pos.line X.env = pure false) :
    PS X (.Assign [.Tuple [.Name x px, .Name y py] kt pt] (.Tuple [a, b] k2 pt2) pos) (tS X.K [i, j] fun env => (ra env).bind fun x e => (rb e).bind fun y e => .ok .nx ((e.set i (some x)).set j (some y))) := by
  refine ps_imp (ps_par hc hN hi hj hij hx hy (pa_cons sa (pa_cons sb pa_nil (noStar _ hs2)) (noStar _ hs1)) hw hs) ?_
  rintro D σ H ⟨W, env, g, P, q⟩
  refine ⟨W, env, g, P, Post.mono (P.runS (Ra := VR X.K) q) ?_⟩
  rintro v H' ⟨d, e', W', f, g', _, l, P', post⟩
  refine ⟨W', e', g', P'.base, ?_⟩
  have post : PostS X.K [i, j] W' H' (f ++ g') σ ((rb e').bind fun y e => .ok .nx ((e.set i (some d)).set j (some y))) D := post
  cases qb : rb e' with
  | no => rw [qb] at post; exact post
  | ex x e => rw [qb] at post; exact post.elim
  | ok d2 e2 =>
    rw [qb] at post
    intro W2 H2 v2 f2 g2 t2 r2 er2
    have P2 := P'.step (t2.weakc (c' := false) fun z => by cases z) er2
    have l2 := l.aside t2 P'.gw P'.dis
    obtain ⟨f3, g3, h3, p3⟩ := P2.er.storeAny i l2
    obtain ⟨f4, g4, h4, p4⟩ := h3.storeAny j r2
    have pm : (f4 ++ (f3 ++ g4)).Perm ((f ++ f2) ++ g2) := List.perm_iff_count.mpr fun z => by
      have e1 := p3.count_eq z
      have e2 := p4.count_eq z
      simp only [List.count_append] at e1 e2 ⊢
      omega
    have nd := (pm.nodup_iff).mpr P2.nd
    have sub : ∀ a ∈ g4, a ∈ (f ++ f2) ++ g2 := fun a z => (pm.mem_iff).mp (List.mem_append_right _ (List.mem_append_right _ z))
    have tt : Tr X.K false W' H' (f ++ g') W2 H2 g4 := (P'.wide (t2.weakc (c' := false) fun z => by cases z) er2).less sub (List.nodup_append.mp (List.nodup_append.mp nd).2.1).2.1
    refine ⟨v, v2, rfl, post W2 H2 _ g4 tt h4 ⟨by rw [List.length_set, List.length_set], fun k hk => ?_⟩⟩
    rw [List.getElem?_set_ne fun z => hk (by rw [z]; simp), List.getElem?_set_ne fun z => hk (by rw [z]; simp)]
theorem psFor {tg : Tg} {tgE iter : Expr} {body : List Stmt} {I : CE} {ri : Slots → R D} {f : Slots → R Fw} (hp : PassesOwn (model X.prog X.w) X.A X.env X.xe) (hc : X.calm = true) (hi : PI X tgE iter (tI X.K E0 I.calm (cIt I ri))) (hg : PG X tgE (gT X.K tg)) (hb : PSs X body (tS X.K is f)) (hs : ∀ x, foldedSetIterable iter X.env x = pure x) :
    PS X (.For tgE iter body [] pos) (tS X.K (tgS tg ++ is) fun env => (cIt I ri env).bind fun p e => if p.2.all (fun q => !(tgS tg ++ is).contains q.1) = true then forL p.2 tg f p.1 e else .no) := by
  refine ps_imp (ps_for hp hc hi hg hb hs) ?_
  rintro D σ H ⟨W, env, g, P, q⟩
  refine ⟨W, env, g, P, Post.mono (P.runS (Ra := RI X.K σ) q) ?_⟩
  rintro J H1 ⟨p, e1, W1, f1, g1, _, ⟨rfl, wk⟩, P1, post⟩
  simp only [List.nil_append] at post
  split at post
  · rename_i hall
    obtain ⟨xs, gs⟩ := p
    dsimp only at wk post hall
    have hout : ∀ q ∈ gs, q.1 ∉ tgS tg ++ is := fun q hq z => by
      have := (List.all_eq_true.mp hall) q hq
      simp only [Bool.not_eq_true', List.contains_eq_mem, decide_eq_false_iff_not] at this
      exact this z
    refine ⟨fun i m s H => m = xs.length - i ∧ i ≤ xs.length ∧ ∃ W env g, Pre X.K W H env s [] g ∧ PostS X.K (tgS tg ++ is) W H g s (forL gs tg f (xs.drop i) env) D ∧ (∀ d v, VR X.K W1 H1 d v [] → VR X.K W H d v []) ∧ Same (tgS tg ++ is) σ s,
      ⟨_, rfl, Nat.zero_le _, W1, e1, g1, P1, by rw [List.drop_zero]; exact post, fun _ _ z => z, .refl⟩, ?_⟩
    rintro i m s H2 ⟨rfl, hle, W2, env2, g2, P2, post2, pers, same⟩
    have st : stays gs env2 = true := by
      cases z : xs.drop i with
      | nil => rw [z] at post2; unfold forL at post2; split at post2; assumption; exact post2.elim
      | cons d ds => rw [z] at post2; unfold forL at post2; split at post2; assumption; exact post2.elim
    have okJ := wk W2 H2 env2 s g2 pers (fun q hq => same.2 _ (hout q hq)) P2.er P2.wok st
    by_cases hlt : i < xs.length
    · obtain ⟨go, yl⟩ := okJ.1 i xs[i] (by simp [hlt])
      refine .inr ⟨go, fun s H => ∃ W env g, Pre X.K W H env s [] g ∧ PostS X.K (tgS tg ++ is) W H g s (forL gs tg f (xs.drop (i + 1)) env) D ∧ (∀ d v, VR X.K W1 H1 d v [] → VR X.K W H d v []) ∧ Same (tgS tg ++ is) σ s,
        fun s' H' z => ⟨xs.length - (i + 1), by omega, rfl, hlt, z⟩, fun x H' y => ?_⟩
      rw [List.drop_eq_getElem_cons hlt] at post2
      unfold forL at post2
      rw [if_pos st] at post2
      obtain ⟨vx, hH'⟩ := yl x H' y
      have S : Pre X.K W2 H' env2 s [] g2 ∧ Tr X.K false W2 H2 g2 W2 H' g2 := by
        have t0 : Tr X.K false W2 H2 g2 W2 H2 g2 := Tr.same P2.wok (fun _ z => z) P2.gw (by simpa using P2.nd)
        rcases hH' with rfl | ⟨Tt, zs, hT, rfl⟩
        · exact ⟨P2, t0⟩
        · exact ⟨P2.tupT hT, t0.tupT hT⟩
      obtain ⟨P3, t3⟩ := S
      clear hH' yl y go
      cases qb : bindTg tg xs[i] env2 with
      | none => rw [qb] at post2; exact post2.elim
      | some e3 =>
        rw [qb] at post2
        dsimp only at post2
        refine bindOk vx P3.er qb fun σ2 g3 b => ?_
        obtain ⟨f3, pm3⟩ := b.pm
        have nd3 : (f3 ++ g3).Nodup := (pm3.nodup_iff).mpr (by simpa using P3.base.nd)
        have sub3 : ∀ a ∈ g3, a ∈ g2 := fun a z => by simpa using (pm3.mem_iff).mp (List.mem_append_right f3 z)
        have ndg3 := (List.nodup_append.mp nd3).2.1
        have P4 : Pre X.K W2 H' e3 σ2 [] g3 := ⟨b.er, by simpa using ndg3, fun a z => P3.gw a (sub3 a (by simpa using z)), P3.wok⟩
        have t4 : Tr X.K false W2 H2 g2 W2 H' g3 := t3.less sub3 ndg3
        have s4 : Same (tgS tg ++ is) s σ2 := ⟨b.len, fun j hj => b.σs j fun z => hj (List.mem_append_left _ z)⟩
        have pers4 : ∀ d v, VR X.K W1 H1 d v [] → VR X.K W2 H' d v [] := fun d v z => (pers d v z).aside t4 P2.gw fun _ z => by cases z
        refine ⟨W2, e3, g3, P4, ?_⟩
        have s5 : ∀ {σ'}, Same is σ2 σ' → Same (tgS tg ++ is) σ2 σ' := fun z => z.mono fun j hj => List.mem_append_right _ hj
        cases qf : f e3 with
        | no => rw [qf] at post2; exact post2.elim
        | ex x e => rw [qf] at post2; exact post2.elim
        | ok w e5 =>
          rw [qf] at post2
          have next : ∀ (r : R Fw), PostS X.K (tgS tg ++ is) W2 H2 g2 s r D → PostS X.K (tgS tg ++ is) W2 H' g3 σ2 r D := fun r h => PostS.after t4 s4 h
          cases w with
          | nx =>
            intro W' H5 σ' g' t er sm
            exact ⟨W', e5, g', ⟨er, by simpa using t.nd, by simpa using t.inW, t.wok⟩, PostS.after t (s5 sm) (next _ post2), fun d v z => (pers4 d v z).aside t P4.gw (fun _ z => by cases z), same.trans (s4.trans (s5 sm))⟩
          | ct =>
            intro W' H5 σ' g' t er sm
            exact ⟨W', e5, g', ⟨er, by simpa using t.nd, by simpa using t.inW, t.wok⟩, PostS.after t (s5 sm) (next _ post2), fun d v z => (pers4 d v z).aside t P4.gw (fun _ z => by cases z), same.trans (s4.trans (s5 sm))⟩
          | brk => exact fun W' H5 σ' g' t er sm => next (.ok .nx e5) post2 W' H5 σ' g' t er (s5 sm)
          | ret d => exact fun W' H5 σ' v f g' t rv er sm => next (.ok (.ret d) e5) post2 W' H5 σ' v f g' t rv er (s5 sm)
    · have e : i = xs.length := by omega
      subst e
      refine .inl ⟨okJ.2, ?_⟩
      rw [List.drop_length] at post2
      unfold forL at post2
      rw [if_pos st] at post2
      exact post2 W2 H2 s g2 (Tr.same P2.wok (fun _ z => z) P2.gw (by simpa using P2.nd)) P2.er .refl
  · exact post.elim
theorem mulOk {i j : Int} (hm : i.natAbs.log2 + j.natAbs.log2 < 1000000) : IntMulOk i j := by
  unfold IntMulOk
  have hi : Builtin.Int.intBits i ≤ i.natAbs.log2 + 1 := by
    unfold Builtin.Int.intBits
    split <;> omega
  have hj : Builtin.Int.intBits j ≤ j.natAbs.log2 + 1 := by
    unfold Builtin.Int.intBits
    split <;> omega
  have : Builtin.Int.intTooBig ((Builtin.Int.intBits i : Int) + (Builtin.Int.intBits j : Int)) = false := by
    unfold Builtin.Int.intTooBig
    rw [decide_eq_false]
    have h2 : (1000002 : Int) ≤ (PySem.bitsLine : Int) := by decide
    omega
  rw [this, Bool.and_false]
  exact Bool.false_ne_true
def ipM : TIp := fun x y H Q => ∃ i j : Int, x = V.int i ∧ y = V.int j ∧ i.natAbs.log2 + j.natAbs.log2 < 1000000 ∧ Q (V.int (i * j)) H
theorem ip_mulM {X : Cx} : PIp X .Mult ipM := by
  rintro pins s σ H x y v u Q I r1 r2 ⟨i, j, rfl, rfl, hm, q⟩
  obtain ⟨t, rfl⟩ := r1
  obtain ⟨t', rfl⟩ := r2
  exact imul_int ⟨V.int (i * j), H, I.tok (s.toks + 1), ⟨s.toks, rfl⟩, q⟩ (mulOk hm)
theorem psAug {x : Str} {i : Nat} {o : Bo} {px : Pos} {eE : Expr} {cc : Bool} {re : Slots → R D} (hN : X.N.Nodup) (hi : X.N[i]? = some x) (hx : L2.Loc X.env.scope x) (hf : X.fn x = true ∨ X.env.scope.names.lookup x = some .local) (se : PE X eE (tE X.K E0 cc re)) :
    PS X (.AugAssign (.Name x px) (boOp o) eE pos) (tS X.K [i] fun env => (lift (env.at i) env).bind fun x env => (re env).bind fun y e => (lift (augOp o x y) e).bind fun z e => .ok .nx (e.set i (some z))) := by
  have rd : ∀ {ti : TIp} (op : Int → Int → Int), ti = ipI op → (∀ a b z, augOp o a b = some z → ∃ m n, a = .int m ∧ b = .int n ∧ z = .int (op m n)) → ∀ D σ H, tS X.K [i] (fun env => (lift (env.at i) env).bind fun x env => (re env).bind fun y e => (lift (augOp o x y) e).bind fun z e => .ok .nx (e.set i (some z))) D σ H → tAug i (tE X.K E0 cc re) ti D σ H := by
    rintro ti op rfl hop D σ H ⟨W, env, g, P, q⟩
    cases h0 : env.at i with
    | none => simp only [h0] at q; exact q.elim
    | some d0 =>
      simp only [h0] at q
      obtain ⟨v0, f0, hv0, r0⟩ := tVar_of P h0
      refine ⟨v0, hv0, W, env, g, P, Post.mono (P.runS (Ra := VR X.K) q) ?_⟩
      rintro y H1 ⟨d, e1, W1, f1, g1, _, r1, P1, post⟩
      cases ha : augOp o d0 d with
      | none => rw [ha] at post; exact post.elim
      | some z =>
        rw [ha] at post
        obtain ⟨m, n, rfl, rfl, rfl⟩ := hop _ _ _ ha
        cases r0
        cases r1
        refine ⟨m, n, rfl, rfl, ?_⟩
        exact store_end P1 (.int (op m n)) post
  cases o with
  | add => exact ps_imp (ps_aug hN hi hx se ip_add hf) (rd (fun i j => i + j) rfl fun a b z h => by
      unfold augOp at h
      split at h <;> first | (cases h; exact ⟨_, _, rfl, rfl, rfl⟩) | (rename_i e; cases e) | cases h)
  | sub => exact ps_imp (ps_aug hN hi hx se ip_sub hf) (rd (fun i j => i - j) rfl fun a b z h => by
      unfold augOp at h
      split at h <;> first | (cases h; exact ⟨_, _, rfl, rfl, rfl⟩) | (rename_i e; cases e) | cases h)
  | mul =>
    refine ps_imp (ps_aug hN hi hx se ip_mulM hf) ?_
    rintro D σ H ⟨W, env, g, P, q⟩
    cases h0 : env.at i with
    | none => simp only [h0] at q; exact q.elim
    | some d0 =>
      simp only [h0] at q
      obtain ⟨v0, f0, hv0, r0⟩ := tVar_of P h0
      refine ⟨v0, hv0, W, env, g, P, Post.mono (P.runS (Ra := VR X.K) q) ?_⟩
      rintro y H1 ⟨d, e1, W1, f1, g1, _, r1, P1, post⟩
      cases ha : augOp .mul d0 d with
      | none => rw [ha] at post; exact post.elim
      | some z =>
        rw [ha] at post
        have key : ∃ m n, d0 = .int m ∧ d = .int n ∧ m.natAbs.log2 + n.natAbs.log2 < 1000000 ∧ z = .int (m * n) := by
          cases d0 with
          | int m =>
            cases d with
            | int n =>
              have ha : (if m.natAbs.log2 + n.natAbs.log2 < 1000000 then some (Hc.D.int (m * n)) else none) = some z := ha
              by_cases hm : m.natAbs.log2 + n.natAbs.log2 < 1000000
              · rw [if_pos hm] at ha
                exact ⟨m, n, rfl, rfl, hm, (Option.some.inj ha).symm⟩
              · rw [if_neg hm] at ha; cases ha
            | _ => cases ha
          | _ => cases d <;> cases ha
        obtain ⟨m, n, rfl, rfl, hm, rfl⟩ := key
        cases r0
        cases r1
        refine ⟨m, n, rfl, rfl, hm, ?_⟩
        exact store_end P1 (.int (m * n)) post
  | _ =>
    refine ps_imp (psNever (is := [i])) ?_
    rintro D σ H ⟨W, env, g, P, q⟩
    refine ⟨W, env, g, P, ?_⟩
    dsimp only at q
    cases h0 : env.at i with
    | none => rw [h0] at q; exact q.elim
    | some d0 =>
      rw [h0] at q
      dsimp only [lift_some, Hc.R.bind_ok] at q
      cases h1 : re env with
      | no => rw [h1] at q; exact q.elim
      | ex x e => rw [h1] at q; exact q.elim
      | ok d e => rw [h1] at q; cases d0 <;> cases d <;> exact q.elim
theorem psWhile {cE : Expr} {body : List Stmt} {cc : Bool} {tc : Slots → R Bool} {f : Slots → R Fw} (hp : PassesOwn (model X.prog X.w) X.A X.env X.xe) (hc : PT X cE (tT X.K E0 cc tc)) (hb : PSs X body (tS X.K is f)) : PS X (.While cE body [] pos) (tS X.K is (whileW tc f)) := by
  refine ps_imp (ps_while hp hc hb) ?_
  rintro D σ H ⟨W, env, g, P, q⟩
  obtain ⟨m, q⟩ : ∃ m, PostS X.K is W H g σ (whileL tc f m env) D := by
    unfold whileW at q
    split at q
    · exact ⟨_, q⟩
    · exact q.elim
  refine ⟨fun m s H => ∃ W env g, Pre X.K W H env s [] g ∧ PostS X.K is W H g s (whileL tc f m env) D, ⟨m, W, env, g, P, q⟩, ?_⟩
  rintro m s H2 ⟨W2, env2, g2, P2, post⟩
  cases m with
  | zero => exact post.elim
  | succ m =>
    refine ⟨W2, env2, g2, P2, Post.mono (P2.runS (Ra := RB) post) ?_⟩
    rintro b H3 ⟨k, e1, W3, f1, g3, _, ⟨rfl, rfl⟩, P3, post3⟩
    simp only [List.nil_append] at post3
    cases k with
    | false =>
      rw [if_neg Bool.false_ne_true] at post3 ⊢
      exact post3 W3 H3 s g3 (Tr.same P3.wok (fun _ z => z) P3.gw (by simpa using P3.nd)) P3.er .refl
    | true =>
      rw [if_pos rfl] at post3 ⊢
      refine ⟨fun s H => ∃ W env g, Pre X.K W H env s [] g ∧ PostS X.K is W H g s (whileL tc f m env) D, fun s' H' z => ⟨m, Nat.lt_succ_self _, z⟩, W3, e1, g3, P3, ?_⟩
      cases qf : f e1 with
      | no => rw [qf] at post3; exact post3.elim
      | ex x e => rw [qf] at post3; exact post3.elim
      | ok w e5 =>
        rw [qf] at post3
        cases w with
        | nx =>
          intro W' H5 σ' g' t er sm
          exact ⟨W', e5, g', ⟨er, by simpa using t.nd, by simpa using t.inW, t.wok⟩, PostS.after t sm post3⟩
        | ct =>
          intro W' H5 σ' g' t er sm
          exact ⟨W', e5, g', ⟨er, by simpa using t.nd, by simpa using t.inW, t.wok⟩, PostS.after t sm post3⟩
        | brk => exact post3
        | ret d => exact post3
end
end Hc

set_option Elab.async false
set_option linter.all false
set_option maxRecDepth 100000
set_option maxHeartbeats 2000000
namespace Hc
open PySem PySem.Spec PyProof.Rows L2
section
variable {X : Cx} {a b o e : Expr} {A B C Kc Ec : CE} {ra rb rc ro rk re r : Slots → R D} {pos p apos cpos : Pos} {Γ : Glob} {st : Stmt} {sts : List Stmt} {is js : List Nat} {c : Bool}
theorem setEnd {W : Wr} {H : Hp} {fa fp g : List Addr} {env : Slots} {σ : L2.St} {i : Nat} {ks : List D} {v v0 u kv : V} {d kd : D} {fk : List Addr} {En : Ends} (P : Pre X.K W H env σ fa g) (hy : VR X.K W H d v fp) (hfp : ∀ a ∈ fp, a ∈ fa) (hnp : fp.Nodup) (hkv : VR X.K W H kd kv fk) (hs : σ[i]? = some (some v0)) (hk : KOK X.K H → Wk X.K H v0 ks u)
    (post : PostS X.K [] W H (fa ++ g) σ ((cSetEnd i ks kd d env).bind fun _ e => .ok .nx e) En) : KOK X.K H → rSetL u kv v H fun H' => En.nx σ H' := by
  intro kk
  have hk := hk kk
  unfold cSetEnd at post
  cases hx : env.at i with
  | none => rw [hx] at post; exact post.elim
  | some x =>
  rw [hx] at post
  dsimp only [lift_some, Hc.R.bind_ok] at post
  cases hl : getK x ks with
  | none => rw [hl] at post; exact post.elim
  | some l =>
  rw [hl] at post
  dsimp only [lift_some, Hc.R.bind_ok] at post
  cases hp : set1 l kd d with
  | none => rw [hp] at post; exact post.elim
  | some l' =>
  rw [hp] at post
  dsimp only [lift_some, Hc.R.bind_ok] at post
  cases hx' : putK x ks l' with
  | none => rw [hx'] at post; exact post.elim
  | some x' =>
  rw [hx'] at post
  dsimp only [lift_some, Hc.R.bind_ok] at post
  obtain ⟨v1, f, g', h1, h2, h3, h4⟩ := P.er.take hx
  rw [hs] at h1; cases h1
  unfold set1 at hp
  split at hp
  · rename_i ds kz
    obtain ⟨j, hj, rfl⟩ := Option.map_eq_some_iff.mp hp
    cases hkv
    obtain ⟨fl, fr, t1, t2, t3⟩ := focus kk ks h2 hl hk ⟨_, _, hx'⟩
    obtain ⟨q, xs, fd, rfl, hH, hd, rfl⟩ : ∃ q xs fd, u = .ref q ∧ H q = some (.lst xs) ∧ VRs X.K W H ds xs fd ∧ fl = q :: fd := by cases t1 with | own h r => exact ⟨_, _, _, rfl, h, r, rfl⟩
    have lt : j < ds.length := ixN_lt hj
    obtain ⟨vj, fj, frj, s1, s2, s3, s4⟩ := hd.split (j := j) (d := ds[j]) (by simp [lt])
    have pm : (fa ++ g).Perm (fa ++ (q :: (fj ++ (frj ++ (fr ++ g'))))) := List.perm_iff_count.mpr fun z => by
      have e1 := h4.count_eq z
      have e2 := t2.count_eq z
      have e3 := s3.count_eq z
      simp only [List.count_append, List.count_cons] at e1 e2 e3 ⊢
      omega
    have nd := (pm.nodup_iff).mp P.nd
    obtain ⟨nd1, nd2, nd3⟩ := List.nodup_append.mp nd
    obtain ⟨na, nd2'⟩ := List.nodup_cons.mp nd2
    obtain ⟨ndj, nd4, nd5⟩ := List.nodup_append.mp nd2'
    have sub : ∀ b ∈ fa ++ (q :: (fj ++ (frj ++ (fr ++ g')))), b ∈ fa ++ g := fun b hb => (pm.mem_iff).mpr hb
    have aIn : q ∈ fa ++ g := sub q (List.mem_append_right _ List.mem_cons_self)
    have wa : W q := P.inW q aIn
    have nfp : q ∉ fp := fun z => nd3 q (hfp q z) q List.mem_cons_self rfl
    have nfr : q ∉ frj := fun z => na (List.mem_append_right _ (List.mem_append_left _ z))
    refine ⟨q, xs, kz, j, rfl, rfl, hH, by rw [← hd.length]; exact hj, ?_⟩
    obtain ⟨f2, k1, k2⟩ := s4 W (upd H q (.lst (xs.set j v))) d v fp (fun t s => t.hop P.wok wa fun z => nfr (s q z)) (hy.hop P.wok wa nfp)
    have nf2 : ∀ b ∈ f2, b ∈ fp ++ frj := fun b z => (k2.mem_iff).mp z
    have own' : VR X.K W (upd H q (.lst (xs.set j v))) (.lst true (ds.set j d)) (.ref q) (q :: f2) := .own upd_same k1
    obtain ⟨f3, m1, m2⟩ := t3 W (upd H q (.lst (xs.set j v))) _ _ _ hx' own' (fun t s => t.hop P.wok wa fun z => na (List.mem_append_right _ (List.mem_append_right _ (List.mem_append_left _ (s q z))))) fun b o eb hb => by
      refine (upd_ne ?_).trans eb
      rintro rfl
      rcases hb with hb | ⟨ys, rfl | ⟨ob, u, rfl⟩⟩
      · exact na (List.mem_append_right _ (List.mem_append_right _ (List.mem_append_left _ hb)))
      · rw [hH] at eb; cases eb
      · rw [hH] at eb; cases eb
    have lt2 := at_lt hx
    obtain ⟨g3, e3, p3⟩ := (h3.hop (u := .lst (xs.set j v)) P.wok wa fun z => na (List.mem_append_right _ (List.mem_append_right _ (List.mem_append_right _ z)))).put (i := i) (by rw [at_set lt2]) (by simpa using lt2) hs m1
    rw [List.set_set] at e3
    have pm2 : g3.Perm (fp ++ (q :: (frj ++ (fr ++ g')))) := List.perm_iff_count.mpr fun z => by
      have e1 := p3.count_eq z
      have e2 := m2.count_eq z
      have e3 := k2.count_eq z
      simp only [List.count_append, List.count_cons] at e1 e2 e3 ⊢
      omega
    have nd6 : (fp ++ (q :: (frj ++ (fr ++ g')))).Nodup := List.nodup_append.mpr ⟨hnp, List.nodup_cons.mpr ⟨fun z => na (List.mem_append_right _ z), nd4⟩, fun b hb c hc => nd3 b (hfp b hb) c ((List.mem_cons.mp hc).elim (fun z => by rw [z]; exact List.mem_cons_self) fun z => List.mem_cons_of_mem _ (List.mem_append_right _ z))⟩
    have t : Tr X.K false W H (fa ++ g) W (upd H q (.lst (xs.set j v))) g3 := by
      refine Tr.chg P.wok aIn P.inW trivial (fun b hb => sub b ?_) ((pm2.nodup_iff).mpr nd6)
      rcases List.mem_append.mp ((pm2.mem_iff).mp hb) with z | z
      · exact List.mem_append_left _ (hfp b z)
      · exact List.mem_append_right _ ((List.mem_cons.mp z).elim (fun z => by rw [z]; exact List.mem_cons_self) fun z => List.mem_cons_of_mem _ (List.mem_append_right _ z))
    exact post W _ σ g3 t e3 .refl
  · cases hp
theorem PSet.kok {X : Cx} {t : TSet} (h : PSet X t) : PSet X (fun o i v H Q => KOK X.K H → t o i v H Q) := fun pins s σ H o i v ov iv u Q I r1 r2 r3 q => h pins s σ H o i v ov iv u Q I r1 r2 r3 (q (Hc.kok I))
theorem psSub (so : Snd X E0 o C ro) (sk : Snd X E0 b Kc rk) (se : PE X e (tE X.K E0 Ec.calm re)) (hs : swapsWithSole [.Subscript o b p] e pos.line X.env = pure false) (hw : swappedStores [.Subscript o b p] e X.env = pure none) (h1 : (assignEach [.Subscript o b p] X.env).map (·.2) = [assign (.Subscript o b p) X.env])
    (ha : ∀ v, assign (.Subscript o b p) X.env v = (do
      let ov ← holding [v] (eval o X.env)
      let iv ← holding [v, ov] (eval b X.env)
      standAt p
      holding [v, ov, iv] (setItem ov iv v)
      release [v, ov, iv] [])) : PS X (.Assign [.Subscript o b p] e pos) (tS X.K [] fun env => (cSetSub C Kc rk re env).bind fun _ e => .ok .nx e) := by
  have anyP : ∀ {st : Stmt} {t' : TS}, (∀ D σ H, t' D σ H → ∃ t, PS X st t ∧ t D σ H) → PS X st t' := fun h => ⟨fun pins s σ H D I q => let ⟨t, ht, z⟩ := h D σ H q; ht.run pins s σ H D I z⟩
  refine anyP ?_
  rintro En σ H ⟨W, env, g, P, q⟩
  have q : PostS X.K [] W H g σ ((re env).bind fun d e => (match C with
    | .nm i => if (e.at i).isSome = true then (rk e).bind fun kd e => cSetEnd i [] kd d e else .no
    | _ => (match pathOf C e, peek Kc e with
      | some (i, ks), some kd => if ((e.at i).bind fun x => getK x ks).isSome = true then cSetEnd i ks kd d e else .no
      | some (i, ks), none => hidS i ks rk d e
      | _, _ => .no)).bind fun _ e => .ok .nx e) En := by
    have e : (cSetSub C Kc rk re env).bind (fun _ e => (.ok .nx e : R Fw)) = (re env).bind fun d e => (match C with
    | .nm i => if (e.at i).isSome = true then (rk e).bind fun kd e => cSetEnd i [] kd d e else .no
    | _ => (match pathOf C e, peek Kc e with
      | some (i, ks), some kd => if ((e.at i).bind fun x => getK x ks).isSome = true then cSetEnd i ks kd d e else .no
      | some (i, ks), none => hidS i ks rk d e
      | _, _ => .no)).bind fun _ e => .ok .nx e := by
      unfold cSetSub
      cases re env <;> rfl
    exact e ▸ q
  by_cases hc : ∃ i, C = .nm i
  · obtain ⟨i, rfl⟩ := hc
    refine ⟨_, ps_asg se (pg_sub (so.nm i rfl) sk.pe (PSet.kok set_list) ha) hs hw h1, W, env, g, P, Post.mono (P.runS (Ra := VR X.K) q) ?_⟩
    rintro v H' ⟨d, e', W', f, g', _, l, P', post⟩
    -- the name's value
    dsimp only at post
    split at post
    case isFalse => exact post.elim
    rename_i hz
    obtain ⟨x, z⟩ := Option.isSome_iff_exists.mp hz
    obtain ⟨v0, _, hv0, _⟩ := tVar_of P' z
    refine ⟨v0, hv0, W', e', g', P'.base, ?_⟩
    cases qk : rk e' with
    | no => rw [qk] at post; exact post.elim
    | ex x e => rw [qk] at post; exact post.elim
    | ok kd e2 =>
      rw [qk] at post
      intro W2 H2 kv f2 g2 t2 r2 er2
      have P2 := P'.step (t2.weakc (c' := false) fun z => by cases z) er2
      have tt := P'.wide (t2.weakc (c' := false) fun z => by cases z) er2
      exact setEnd P2 (l.aside t2 P'.gw P'.dis) (fun a z => List.mem_append_left _ z) (List.nodup_append.mp (List.nodup_append.mp P2.nd).1).1 r2 hv0 (fun _ => .nil _) (PostS.after tt .refl post)
  · -- the path
    have mid : ∀ {W' : Wr} {H' : Hp} {f g' : List Addr} {d : D} {e' : Slots}, PostS X.K [] W' H' (f ++ g') σ ((match C with
      | .nm i => if (e'.at i).isSome = true then (rk e').bind fun kd e => cSetEnd i [] kd d e else .no
      | _ => (match pathOf C e', peek Kc e' with
        | some (i, ks), some kd => if ((e'.at i).bind fun x => getK x ks).isSome = true then cSetEnd i ks kd d e' else .no
        | some (i, ks), none => hidS i ks rk d e'
        | _, _ => .no)).bind fun _ e => .ok .nx e) En → PostS X.K [] W' H' (f ++ g') σ ((match pathOf C e', peek Kc e' with
      | some (i, ks), some kd => if ((e'.at i).bind fun x => getK x ks).isSome = true then cSetEnd i ks kd d e' else .no
      | some (i, ks), none => hidS i ks rk d e'
      | _, _ => .no).bind fun _ e => .ok .nx e) En := by
      intro W' H' f g' d e' post
      cases C <;> first | exact post | exact absurd ⟨_, rfl⟩ hc
    cases qp : (match re env with
      | .ok _ e' => peek Kc e'
      | _ => none) with
    | some kd =>
      refine ⟨_, ps_asg se (pg_sub so.pw sk.pk (PSet.kok set_list) ha) hs hw h1, W, env, g, P, Post.mono (P.runS (Ra := VR X.K) q) ?_⟩
      rintro v H' ⟨d, e', W', f, g', hr, l, P', post⟩
      rw [hr] at qp
      dsimp only at qp
      have post := mid post
      cases q1 : pathOf C e' with
      | none => rw [q1] at post; exact post.elim
      | some pr =>
      obtain ⟨i, ks⟩ := pr
      rw [q1, qp] at post
      dsimp only at post
      split at post
      case isFalse => exact post.elim
      rename_i hz
      obtain ⟨y, hy⟩ := Option.isSome_iff_exists.mp hz
      obtain ⟨x, hx, hg⟩ := Option.bind_eq_some_iff.mp hy
      refine ⟨W', e', g', i, ks, x, y, P'.base, q1, hx, hg, fun v0 u fu hv0 hw hu => ⟨W', e', g', kd, P'.base, qp, fun kv fk hkv => ?_⟩⟩
      exact setEnd P' l (fun _ z => z) (List.nodup_append.mp P'.nd).1 hkv hv0 (fun _ => hw) post
    | none =>
      refine ⟨_, ps_asg se (pg_sub so.pw sk.pe (PSet.kok set_list) ha) hs hw h1, W, env, g, P, Post.mono (P.runS (Ra := VR X.K) q) ?_⟩
      rintro v H' ⟨d, e', W', f, g', hr, l, P', post⟩
      rw [hr] at qp
      dsimp only at qp
      have post := mid post
      cases q1 : pathOf C e' with
      | none => rw [q1] at post; exact post.elim
      | some pr =>
      obtain ⟨i, ks⟩ := pr
      rw [q1, qp] at post
      dsimp only [hidS] at post
      cases hx : e'.at i with
      | none => rw [hx] at post; exact post.elim
      | some x =>
      rw [hx] at post
      dsimp only at post
      split at post
      case isFalse => exact post.elim
      rename_i hz
      obtain ⟨y, hg⟩ := Option.isSome_iff_exists.mp hz
      refine ⟨W', e', g', i, ks, x, y, P'.base, q1, hx, hg, fun v0 u fu hv0 hw hu => ?_⟩
      obtain ⟨v1, fx, gx, hσ, vx, er', pm⟩ := P'.er.take hx
      rw [hv0] at hσ; cases hσ
      have pm2 : (f ++ g').Perm ((f ++ fx) ++ gx) := List.perm_iff_count.mpr fun z => by
        have e1 := pm.count_eq z
        simp only [List.count_append] at e1 ⊢
        omega
      have PH : Pre X.K W' H' (e'.set i none) σ (f ++ fx) gx := ⟨er', (pm2.nodup_iff).mp P'.nd, fun a h => P'.inW a ((pm2.mem_iff).mpr h), P'.wok⟩
      refine ⟨W', e'.set i none, gx, PH.base, ?_⟩
      cases qk : rk (e'.set i none) with
      | no => rw [qk] at post; exact post.elim
      | ex x e => rw [qk] at post; exact post.elim
      | ok kd e2 =>
        rw [qk] at post
        intro W2 H2 kv f2 g2 t2 r2 er2
        have t2' := t2.weakc (c' := false) fun z => by cases z
        dsimp only [Hc.R.bind_ok] at post
        cases hn : e2.at i with
        | some z => rw [hn] at post; exact post.elim
        | none =>
        rw [hn] at post
        dsimp only at post
        have P2 := PH.step t2' er2
        have tt := PH.wide t2' er2
        have l2 := l.aside t2 PH.gw fun a h => PH.dis a (List.mem_append_left _ h)
        have vx2 := vx.aside t2 PH.gw fun a h => PH.dis a (List.mem_append_right _ h)
        have lt : i < e2.length := by
          rw [er2.length, ← P'.er.length]
          exact at_lt hx
        obtain ⟨g3, er3, pm3⟩ := er2.put (i := i) hn lt hv0 vx2
        have pm4 : (((f ++ fx) ++ f2) ++ g2).Perm ((f ++ f2) ++ g3) := List.perm_iff_count.mpr fun z => by
          have e1 := pm3.count_eq z
          simp only [List.count_append] at e1 ⊢
          omega
        have P3 : Pre X.K W2 H2 (e2.set i (some x)) σ (f ++ f2) g3 := ⟨er3, (pm4.nodup_iff).mp P2.nd, fun a h => P2.inW a ((pm4.mem_iff).mpr h), P2.wok⟩
        have tt' : Tr X.K false W' H' (f ++ g') W2 H2 ((f ++ f2) ++ g3) := ⟨fun a o e h => tt.keep a o e (h.imp (fun z y => z ((pm2.mem_iff).mpr y)) id), tt.new, fun a w h => tt.stay a w fun z => h ((pm2.mem_iff).mpr z), fun a h => (tt.src a ((pm4.mem_iff).mpr h)).imp (pm2.mem_iff).mpr id, P3.inW, P3.nd, tt.wok0, tt.wok, tt.old⟩
        have he : ∃ l0 x0, putK x ks l0 = some x0 := by
          have atx : Slots.at (e2.set i (some x)) i = some x := by rw [at_set lt]
          unfold cSetEnd at post
          rw [atx] at post
          dsimp only [lift_some, Hc.R.bind_ok] at post
          rw [hg] at post
          dsimp only [lift_some, Hc.R.bind_ok] at post
          cases hp : set1 y kd d with
          | none => rw [hp] at post; exact post.elim
          | some l' =>
          rw [hp] at post
          dsimp only [lift_some, Hc.R.bind_ok] at post
          cases hx' : putK x ks l' with
          | none => rw [hx'] at post; exact post.elim
          | some x' => exact ⟨_, _, hx'⟩
        have hk2 : KOK X.K H2 → Wk X.K H2 v0 ks u := fun kk => by
          have kk' : KOK X.K H' := fun a o e => by
            cases z : H' a with
            | none => rfl
            | some o1 =>
              obtain ⟨o2, z2⟩ := t2.old a o1 z
              rw [kk a o e] at z2; cases z2
          refine Wk.under kk' ks vx hg hw he fun a o e m => t2.keep a o e (.inl fun z => ?_)
          rcases m with m | ⟨xs, m⟩
          · exact PH.dis a (List.mem_append_right _ m) z
          · obtain ⟨o', e1, ow⟩ := PH.wok a (PH.gw a z)
            rw [e] at e1; cases e1
            rcases m with rfl | ⟨ob, u, rfl⟩
            · exact ow.elim
            · exact ow.elim
        exact setEnd P3 l2 (fun a z => List.mem_append_left _ z) (List.nodup_append.mp (List.nodup_append.mp P3.nd).1).1 r2 hv0 hk2 (PostS.after tt' .refl post)
def gtL (X : Cx) : V → V → Hp → VK → Prop := fun o i H Q => ∃ p xs n v, o = .ref p ∧ i = .int (n : Nat) ∧ n < 2 ^ 62 ∧ H p = some (.lst xs) ∧ xs[n]? = some v ∧ Q v H
theorem get_list : PGet X (gtL X) := by
  intro pins s σ H o i ov iv Q I ro ri h
  obtain ⟨p, xs, n, z, rfl, rfl, hn, hp, he, q⟩ := h
  cases ro
  obtain ⟨t, rfl⟩ := ri
  obtain ⟨its, m, r, ho, hz⟩ := I.lst hp
  obtain ⟨w, ew, rw'⟩ := r.get he
  have pl : PlainL s.heap p its.toArray := ⟨_, m, ho, rfl, rfl, rfl⟩
  exact wpAny_getItem_list pl.isList (by omega) (by omega) (by rw [Int.toNat_natCast]; simpa using ew) ⟨z, H, I, rw', q⟩
theorem psAugS {i n : Nat} {m : Int} (hn : n < 2 ^ 62) (so : PE X o (tVar i)) (sb : PE X b (tP X.K (.lit (.int (n : Int))))) (se : PE X e (tP X.K (.lit (.int m))))
    (ha : ∀ ov iv new, augStore b ov iv new = (do holding [new, ov, iv] (setItem ov iv new); release [new, ov, iv] []; pure .next)) :
    PS X (.AugAssign (.Subscript o b p) .Add e pos) (tS X.K [] fun env => (cSetSub (.nm i) (.lit (.int (n : Int))) (fun env => .ok (.int (n : Int)) env) (cBin .add (.sub (.nm i) (.lit (.int (n : Int)))) (cSub (.nm i) (cNm i) (.lit (.int (n : Int))) fun env => .ok (.int (n : Int)) env) (.lit (.int m)) fun env => .ok (.int m) env) env).bind fun _ e => .ok .nx e) := by
  have anyP : ∀ {st : Stmt} {t' : TS}, (∀ D σ H, t' D σ H → ∃ t, PS X st t ∧ t D σ H) → PS X st t' := fun h => ⟨fun pins s σ H D I q => let ⟨t, ht, z⟩ := h D σ H q; ht.run pins s σ H D I z⟩
  refine anyP ?_
  rintro En σ H ⟨W, env, g, P, q⟩
  refine ⟨_, ps_augS so sb get_list se ip_add (PSet.kok set_list) ha, ?_⟩
  cases hx : env.at i with
  | none =>
    simp [cSetSub, cBin, two, cSub, peek, hx, lift, Hc.R.bind] at q
    exact q.elim
  | some x =>
  obtain ⟨a, ha2, q⟩ : ∃ a : Int, pick x (.int (n : Int)) = some (.int a) ∧ PostS X.K [] W H ([] ++ g) σ ((cSetEnd i [] (.int (n : Int)) (.int (a + m)) env).bind fun _ e => .ok .nx e) En := by
    cases hp : pick x (.int (n : Int)) with
    | some r =>
      by_cases hr : r.noOwn = true
      · cases r <;> first
          | (refine ⟨_, rfl, ?_⟩
             simpa [cSetSub, cBin, two, cSub, peek, hx, hp, hr, lift, Hc.R.bind, opd, binop] using q)
          | (refine False.elim ?_
             simpa [cSetSub, cBin, two, cSub, peek, hx, hp, hr, lift, Hc.R.bind, opd, binop, PostS] using q)
      · refine False.elim ?_
        simpa [cSetSub, cBin, two, cSub, peek, hx, hp, hr, lift, Hc.R.bind, opd, binop, PostS] using q
    | none =>
      refine False.elim ?_
      cases hp2 : pickA x (.int (n : Int)) with
      | none => simpa [cSetSub, cBin, two, cSub, peek, hx, hp, hp2, lift, Hc.R.bind, opd, binop, PostS] using q
      | some r =>
        cases x with
        | str z =>
          have e : pickA (.str z) (.int (n : Int)) = if z.length ≤ sz then (L2.atI z.cps.toList (n : Int)).map fun c => D.str ⟨#[c]⟩ else none := rfl
          have hp2' := hp2
          rw [e] at hp2'
          split at hp2'
          · obtain ⟨c, _, rfl⟩ := Option.map_eq_some_iff.mp hp2'
            simpa [cSetSub, cBin, two, cSub, peek, hx, hp, hp2, lift, Hc.R.bind, opd, binop, PostS, D.noOwn] using q
          · cases hp2'
        | _ =>
          have z := hp2.symm.trans hp
          cases z
  obtain ⟨v0, f, hv0, hv⟩ := tVar_of P hx
  refine ⟨v0, hv0, W, env, g, .int (n : Int), P, rfl, fun kv fk hkv => ?_⟩
  cases hkv
  have hl : ∃ ds, x = .lst true ds ∧ ds[n]? = some (.int a) := by
    cases x with
    | lst b ds =>
      cases b with
      | true =>
        refine ⟨ds, rfl, ?_⟩
        have e : L2.atI ds (n : Int) = some (.int a) := ha2
        obtain ⟨j, h1, h2, h3, h4, h5⟩ := atI_get e
        rw [seqIndex_of (by omega) h5] at h1
        rw [Int.toNat_natCast] at h1
        cases h1
        exact h2
      | false =>
        unfold cSetEnd at q
        rw [hx] at q
        exact q.elim
    | tup ds =>
      unfold cSetEnd at q
      rw [hx] at q
      exact q.elim
    | _ => cases ha2
  obtain ⟨ds, rfl, hds⟩ := hl
  cases hv with
  | own hH r =>
    rename_i p xs fd
    have lt : n < xs.length := by
      rw [← r.length]
      exact (List.getElem?_eq_some_iff.mp hds).1
    obtain ⟨f', hvv, _, _⟩ := r.get hds (List.getElem?_eq_getElem lt)
    have ex : xs[n] = .int a := by
      generalize xs[n] = y at hvv
      cases hvv
      rfl
    refine ⟨p, xs, n, .int a, rfl, rfl, hn, hH, by rw [List.getElem?_eq_getElem lt, ex], W, env, g, .int m, P, rfl, fun ev fe hev => ?_⟩
    cases hev
    refine ⟨a, m, rfl, rfl, ?_⟩
    exact setEnd P (fp := []) (hy := .int _) (fun a z => by cases z) List.nodup_nil (.int _) hv0 (fun _ => .nil _) q
end
section
variable {K : PySem.W.Frag} {W W' : Wr} {H H' : Hp} {fp g : List Addr} {env : Slots} {σ : L2.St}
theorem ER.nones : ∀ m : Nat, ER K W H (List.replicate m none) (List.replicate m none) []
  | 0 => .nil
  | m + 1 => .no (ER.nones m)
theorem ER.begin (m : Nat) : ∀ {ds : List D} {vs : List V} {fp : List Addr}, VRs K W H ds vs fp → ER K W H (ds.map some ++ List.replicate m none) (vs.map some ++ List.replicate m none) fp
  | _, _, _, .nil => ER.nones m
  | _, _, _, .cons t r => .so t (ER.begin m r)
theorem finals_set {keep : Nat → Bool} {o : Option D} {n : Nat} : ∀ {m : Nat}, m ≤ n → finals keep (env.set n o) m = finals keep env m
  | 0, _ => rfl
  | m + 1, h => by
    unfold finals
    rw [finals_set (by omega), at_set_ne (by omega)]
theorem finalsOk {keep : Nat → Bool} {vs : List V} : ∀ {n : Nat} {env : Slots} {g : List Addr}, ER K W H env σ g → (∀ k v, k < n → keep k = true → vs[k]? = some v → σ[k]? = some (some v)) → n ≤ vs.length → ∃ fu f0, VRs K W H (finals keep env n) (vs.take n) fu ∧ (fu ++ f0).Perm g
  | 0, env, g, er, _, _ => ⟨[], g, by rw [List.take_zero]; exact .nil, .refl _⟩
  | n + 1, env, g, er, hk, hn => by
    have lt : n < vs.length := by omega
    have tk : vs.take (n + 1) = vs.take n ++ [vs[n]] := by rw [List.take_succ]; simp [lt]
    have plain : ∃ fu f0, VRs K W H (finals keep env n ++ [.gone]) (vs.take (n + 1)) fu ∧ (fu ++ f0).Perm g := by
      obtain ⟨fu, f0, h1, h2⟩ := finalsOk (n := n) er (fun k v h => hk k v (by omega)) (by omega)
      refine ⟨fu ++ ([] ++ []), f0, ?_, by simpa using h2⟩
      rw [tk]
      exact h1.app (.cons (.gone _) .nil)
    unfold finals
    by_cases hkn : keep n = true
    · rw [if_pos hkn]
      cases q : env.at n with
      | none => exact plain
      | some d =>
        obtain ⟨v, f, g', h1, h2, h3, h4⟩ := er.take q
        rw [hk n vs[n] (by omega) hkn (by simp [lt])] at h1
        cases h1
        obtain ⟨fu, f0, k1, k2⟩ := finalsOk (n := n) h3 (fun k v h => hk k v (by omega)) (by omega)
        rw [finals_set (Nat.le_refl n)] at k1
        refine ⟨fu ++ (f ++ []), f0, ?_, List.perm_iff_count.mpr fun z => ?_⟩
        · rw [tk]
          exact k1.app (.cons h2 .nil)
        · have e1 := h4.count_eq z
          have e2 := k2.count_eq z
          simp only [List.count_append, List.count_nil] at e1 e2 ⊢
          omega
    · rw [if_neg hkn]
      exact plain
theorem PostS.of {is : List Nat} {n m : Nat} {r : R Fw} {vs : List V} {ds : List D} {Q : VK} (hl : vs.length = n) (h : match (match r with
    | .ok (.ret d) e => Rc.ok d (finals (fun k => !is.contains k) e n)
    | .ok .nx e => .ok .non (finals (fun k => !is.contains k) e n)
    | .ok .brk _ => .no
    | .ok .ct _ => .no
    | .ex x _ => .ex x
    | .no => .no) with
    | .ok d ps => ∀ W' H' v fv fu, Tr K false W H fp W' H' (fv ++ fu) → VR K W' H' d v fv → VRs K W' H' ps vs fu → Q v H'
    | _ => False) : PostS K is W H fp (vs.map some ++ List.replicate m none) r { nx := fun _ H' => Q .non H', rt := Q } := by
  have fin : ∀ {W' : Wr} {H' : Hp} {σ' : L2.St} {e : Slots} {g : List Addr}, ER K W' H' e σ' g → Same is (vs.map some ++ List.replicate m none) σ' → ∃ fu f0, VRs K W' H' (finals (fun k => !is.contains k) e n) vs fu ∧ (fu ++ f0).Perm g := by
    intro W' H' σ' e g er s
    obtain ⟨fu, f0, h1, h2⟩ := finalsOk (keep := fun k => !is.contains k) (vs := vs) (n := n) er (fun k v hk hkeep hv => by
      have hk' : k ∉ is := by simpa using hkeep
      rw [s.2 k hk', List.getElem?_append_left (by simp; omega), List.getElem?_map, hv]
      rfl) (by omega)
    rw [List.take_of_length_le (by omega)] at h1
    exact ⟨fu, f0, h1, h2⟩
  have less : ∀ {W' : Wr} {H' : Hp} {f g fu f0 : List Addr}, Tr K false W H fp W' H' (f ++ g) → (fu ++ f0).Perm g → Tr K false W H fp W' H' (f ++ fu) := fun {W' H' f g fu f0} t p => t.less (fun a z => (List.mem_append.mp z).elim (List.mem_append_left _) fun z => List.mem_append_right _ ((p.mem_iff).mp (List.mem_append_left _ z))) (by
    have nd : (f ++ (fu ++ f0)).Nodup := ((p.append_left f).nodup_iff).mpr t.nd
    rw [← List.append_assoc] at nd
    exact (List.nodup_append.mp nd).1)
  cases r with
  | no => exact h
  | ex x e => exact h
  | ok f e => cases f with
    | brk => exact h.elim
    | ct => exact h.elim
    | nx =>
      intro W' H' σ' g t er s
      obtain ⟨fu, f0, h1, h2⟩ := fin er s
      exact h W' H' .non [] fu (less (f := []) t h2) .non h1
    | ret d =>
      intro W' H' σ' v f g t rv er s
      obtain ⟨fu, f0, h1, h2⟩ := fin er s
      exact h W' H' v f fu (less t h2) rv h1
end
theorem fnG_of {P : Program} {w : World} {K : PySem.W.Frag} {mg : Str → Option Value} {base : Heap} {k : Nat} {f : Addr} {name qual : Str} {params : Arguments} {body : List Stmt} {scope : Scope} {dV kV doc pm cdv ct oc : Value} {an od : Option Addr} {osl : Array (Option Value)} {N ps : List Str} {Γ : Glob} {cb : List CS}
    (lk : K.lookup f = some ⟨oc, od, .func (PySem.W.fnOf name qual params body scope dV kV doc pm an cdv ct), osl⟩) (hcd : PySem.W.codeIn K cdv qual = true) (S : FnScope N ps scope)
    (hbody : ∀ (A : Around) (outer : List Env) (s : Shared) (H : Hp), Room k (A.deeper (envOfC qual scope s.heap.objs.size f cdv)) → (A.deeper (envOfC qual scope s.heap.objs.size f cdv)).guards = some [] → PSs (cxOf CX0 P w K mg base N qual scope f cdv A outer s H EX0) body (tS K (asgs cb) (execs Γ cb))) :
    FnG P w K mg base (k + 1) f (PySem.W.fnOf name qual params body scope dV kV doc pm an cdv ct) ps (runDef Γ N.length cb) := by
  constructor
  intro A outer s H args us vs Q room hgd env0 bnd rel prom
  obtain ⟨hlen, W, ds, fp, rds, nd, inW, wok, hsem⟩ := prom
  have kin : K.In s.heap := env0.mod.kin.keeps fun b o e => (env0.bs b o e).1
  have nol : s.heap.NoLimit := env0.mod.nolimit.keeps fun b o e => (env0.bs b o e).1
  have parK : ∀ y ∈ ps.zip us, scope.names.lookup y.1 = some .local ∨ (scope.names.lookup y.1 = some .cell ∧ ((cellsFrom (s.heap.objs.size + 1) scope.names []).lookup y.1).isSome = true) := by
    rintro ⟨n, v⟩ hy
    exact (S.par n (List.of_mem_zip hy).1).imp id fun q => ⟨q, PySem.W.cellsFrom_some _ _ _ (.inl q)⟩
  refine codeAny_call_function room.depth (kin _ _ lk) rfl S.co S.gen rfl (PySem.W.codeRec_of kin hcd) (bnd _ _ _ _ ?_)
  refine wpAny_newFunctionEnv_cells S.kind parK fun ev hev s1 x => ?_
  subst hev
  refine ⟨nol.keeps x.toInCall.keep, codeAny_func ?_⟩
  have body := hbody A outer s H (room.deeper _) (by show A.guards = some []; exact hgd)
  have inv : Inv (cxOf CX0 P w K mg base N qual scope f cdv A outer s H EX0) [] (L2.start N vs) H s1 := inv_start S room.hd env0 hlen rel x
  have start' : (tS K (asgs cb) (execs Γ cb)) { nx := fun _ H' => Q .non H', rt := Q } (L2.start N vs) H := by
    refine ⟨W, _, fp, ⟨ER.begin (N.length - vs.length) rds, by simpa using nd, by simpa using inW, wok⟩, ?_⟩
    rw [show N.length - vs.length = N.length - ds.length by rw [rds.length]]
    have hsem := hsem
    unfold runDef at hsem
    rw [rds.length] at hsem
    have z := PostS.of (is := asgs cb) (m := N.length - vs.length) (n := vs.length) (Q := Q) (ds := ds) rfl hsem
    unfold L2.start
    rw [rds.length]
    exact z
  refine wpAny_mono (body.run [] s1 (L2.start N vs) H _ inv start') (fun fl s2 hs => ?_) fun e s2 hs => hs
  cases fl with
  | ret u =>
    obtain ⟨v, σ2, H2, J, rv, q⟩ := hs
    exact ⟨v, H2, J.os, J.bare, J.base, J.hok, rv, q⟩
  | next =>
    obtain ⟨σ2, H2, J, q⟩ := hs
    exact ⟨.non, H2, J.os, J.bare, J.base, J.hok, rfl, q⟩
  | brk =>
    obtain ⟨_, _, _, q⟩ := hs
    exact False.elim q
  | cont =>
    obtain ⟨_, _, _, q⟩ := hs
    exact False.elim q
end Hc

set_option Elab.async false
set_option linter.all false
set_option maxRecDepth 100000
set_option maxHeartbeats 2000000
namespace Hc
open PySem PySem.Spec PyProof.Rows L2
section
variable {X : Cx} {b o e : Expr} {Kc Ec : CE} {ro rk re : Slots → R D} {pos p : Pos}
theorem psDset {n i : Nat} {cc : Bool} (hr : Room n X.A) (so : PE X o (tVar i)) (sk : Snd X E0 b Kc rk) (se : PE X e (tE X.K E0 cc re)) (hs : swapsWith e (some (.Subscript o b p)) pos.line X.env = pure false) :
    PS X (.Assign [.Subscript o b p] e pos) (tS X.K [] fun env => (re env).bind fun d e => if (e.at i).isSome = true then (rk e).bind fun kd e => (lift (e.at i) e).bind fun x e => (lift (dputOp x kd d) e).bind fun x e => .ok .nx (e.set i (some x)) else .no) := by
  have hu := unitsOf hr
  refine ps_imp (ps_dput (by omega) so sk.pe se hs) ?_
  rintro En σ H ⟨W, env, g, P, q⟩
  refine ⟨W, env, g, P, Post.mono (P.runS (Ra := VR X.K) q) ?_⟩
  rintro v H' ⟨d, e', W', f, g', _, l, P', post⟩
  split at post
  case isFalse => exact post.elim
  rename_i hz
  obtain ⟨x, z⟩ := Option.isSome_iff_exists.mp hz
  obtain ⟨v0, _, hv0, _⟩ := tVar_of P' z
  refine ⟨v0, hv0, W', e', g', P'.base, ?_⟩
  cases qk : rk e' with
  | no => rw [qk] at post; exact post.elim
  | ex x e => rw [qk] at post; exact post.elim
  | ok kd e2 =>
    rw [qk] at post
    intro W2 H2 kv f2 g2 t2 r2 er2
    have P2 := P'.step (t2.weakc (c' := false) fun z => by cases z) er2
    have tt := P'.wide (t2.weakc (c' := false) fun z => by cases z) er2
    have post := PostS.after tt .refl post
    have l2 := l.aside t2 P'.gw P'.dis
    clear tt t2 er2
    dsimp only [Hc.R.bind_ok] at post
    cases hx : e2.at i with
    | none => rw [hx] at post; exact post.elim
    | some x2 =>
    rw [hx] at post
    dsimp only [lift_some, Hc.R.bind_ok] at post
    cases hp : dputOp x2 kd d with
    | none => rw [hp] at post; exact post.elim
    | some x3 =>
    rw [hp] at post
    dsimp only [lift_some, Hc.R.bind_ok] at post
    obtain ⟨v1, fx, gx, h1, h2, h3, h4⟩ := P2.er.take hx
    rw [hv0] at h1; cases h1
    unfold dputOp at hp
    split at hp
    case h_2 => cases hp
    rename_i x2 t ks ds
    split at hp
    case isFalse => cases hp
    rename_i hzk
    cases hp
    rw [putD_eq] at post
    obtain ⟨a, ho, vs, fp0, rfl, e0, k0, r0, rfl⟩ : ∃ a ho vs fp0, v0 = .ref a ∧ H2 a = some ho ∧ DK t ks vs ho ∧ VRs X.K W2 H2 ds vs fp0 ∧ fx = a :: fp0 := by cases h2 with | dicO e k r => exact ⟨_, _, _, _, rfl, e, k, r, rfl⟩
    obtain ⟨o', hput, ow, dk'⟩ := k0.put (v := v) e0 r2 hzk.1 hzk.2
    obtain ⟨_, lt⟩ := k0.get e0 r2 hzk.1
    refine ⟨a, _, rfl, hput, ?_⟩
    have pm : ((f ++ f2) ++ g2).Perm (a :: (f ++ (f2 ++ (fp0 ++ gx)))) := List.perm_iff_count.mpr fun z => by
      have e1 := h4.count_eq z
      simp only [List.count_append, List.count_cons] at e1 ⊢
      omega
    have nd := (pm.nodup_iff).mp P2.nd
    obtain ⟨na, nd2⟩ := List.nodup_cons.mp nd
    have aIn : a ∈ (f ++ f2) ++ g2 := (pm.mem_iff).mpr List.mem_cons_self
    have wa : W2 a := P2.inW a aIn
    have naf : a ∉ f := fun z => na (List.mem_append_left _ z)
    have nap : a ∉ fp0 := fun z => na (List.mem_append_right _ (List.mem_append_right _ (List.mem_append_left _ z)))
    have nag : a ∉ gx := fun z => na (List.mem_append_right _ (List.mem_append_right _ (List.mem_append_right _ z)))
    obtain ⟨fn, fd, rn, pn⟩ : ∃ fn fd, VRs X.K W2 (upd H2 a o') (putVs ks kd ds d) (putVs ks kd vs v) fn ∧ (fn ++ fd).Perm (fp0 ++ f) := by
      unfold putVs
      cases hk : keyAt ks kd with
      | none =>
        have q := (r0.hop (u := o') P2.wok wa nap).app (.cons (l2.hop (u := o') P2.wok wa naf) .nil)
        exact ⟨_, [], q, by simp⟩
      | some j =>
        have lj : j < ds.length := by rw [r0.length]; exact lt j hk
        obtain ⟨vj, fj, frj, s1, s2, s3, s4⟩ := r0.split (j := j) (d := ds[j]) (by simp [lj])
        have nfr : a ∉ frj := fun z => nap ((s3.mem_iff).mp (List.mem_append_right _ z))
        obtain ⟨fq, k1, k2⟩ := s4 W2 (upd H2 a o') d v f (fun t s => t.hop P2.wok wa fun z => nfr (s a z)) (l2.hop (u := o') P2.wok wa naf)
        refine ⟨fq, fj, k1, List.perm_iff_count.mpr fun z => ?_⟩
        have e1 := k2.count_eq z
        have e2 := s3.count_eq z
        simp only [List.count_append] at e1 e2 ⊢
        omega
    have lt2 := at_lt hx
    obtain ⟨g3, e3, p3⟩ := (h3.hop (u := o') P2.wok wa nag).put (i := i) (by rw [at_set lt2]) (by simpa using lt2) hv0 (VR.dicO upd_same dk' rn)
    rw [List.set_set] at e3
    have pm3 : ((fd ++ f2) ++ g3).Perm ((f ++ f2) ++ g2) := List.perm_iff_count.mpr fun z => by
      have e1 := p3.count_eq z
      have e2 := pn.count_eq z
      have e4 := pm.count_eq z
      simp only [List.count_append, List.count_cons] at e1 e2 e4 ⊢
      omega
    have nd3 := (pm3.nodup_iff).mpr P2.nd
    have t : Tr X.K false W2 H2 ((f ++ f2) ++ g2) W2 (upd H2 a o') g3 :=
      Tr.chg P2.wok aIn P2.inW ow (fun b hb => (pm3.mem_iff).mp (List.mem_append_right _ hb)) (List.nodup_append.mp nd3).2.1
    exact post W2 _ σ g3 t e3 .refl
end
end Hc

set_option Elab.async false
set_option linter.all false
set_option maxRecDepth 100000
set_option maxHeartbeats 4000000
namespace Hc
open PySem PySem.Spec PyProof.Rows L2
structure Sx where
  N : List Str
  sc : List (Str × NameKind)
  fnAll : Bool
  fnC : List Str := []
  k : Nat
  fs : List (Str × Nat)
  gi : List (Str × D)
  fr : List Str
  kb : List (Str × List Str × List Nat)
def Sx.gl (S : Sx) (x : Str) : Bool := decide (S.sc.lookup x = some .globalImplicit)
def Sx.plain (x : Str) : Bool := !(x == ("__debug__" : Str)) && !(x == ("__classdict__" : Str))
def Sx.var (S : Sx) (i : Nat) (x : Str) : Bool := decide (S.N[i]? = some x) && (decide (S.sc.lookup x = some .local) || decide (S.sc.lookup x = some .cell) || decide (S.sc.lookup x = some .free)) && Sx.plain x
def Sx.tgt (S : Sx) (i : Nat) (x : Str) : Bool := decide (S.N[i]? = some x) && (decide (S.sc.lookup x = some .local) || ((S.fnAll || S.fnC.contains x) && decide (S.sc.lookup x = some .cell)))
def Sx.inn (S : Sx) (scope : Scope) : Sx := { S with sc := scope.names.map fun (n, k) => if (k == .free && true && S.sc.lookup n == some .cell) then (n, .cell) else (n, k), fnAll := false, fnC := (scope.names.map (·.1)).filter fun x => scope.names.lookup x == some .cell }
def Sx.own (S : Sx) (vs : List Nat) : List (Str × Nat) := vs.map fun i => (S.N.getD i "", i)
def Sx.tgS (S : Sx) : Tg → Expr → Bool
  | .nm i, e => (match e with
    | .Name x _ => S.tgt i x
    | _ => false)
  | .tup is, e => (match e with
    | .Tuple es _ _ => go is es
    | _ => false)
  | .nst i is, e => (match e with
    | .Tuple [.Name x _, .Tuple es _ _] _ _ => S.tgt i x && go is es
    | _ => false)
  | .lst is, e => (match e with
    | .Tuple es _ _ => go is es
    | _ => false)
where go : List Nat → List Expr → Bool
  | [], [] => true
  | i :: is, e :: es => (match e with
    | .Name x _ => S.tgt i x
    | _ => false) && go is es
  | _, _ => false
def notStar : Expr → Bool
  | .Starred _ _ => false
  | _ => true
def needT : CE → Bool
  | .enu _ => true
  | .zip _ _ => true
  | _ => false
def isTupE : Expr → Bool
  | .Tuple _ _ _ => true
  | _ => false
def isSetE : Expr → Bool
  | .Set _ _ _ => true
  | _ => false
def plainIxB : Expr → Bool
  | .Slice _ _ _ _ => false
  | .Tuple _ _ _ => true
  | .Constant _ _ _ => true
  | .Name _ _ => true
  | .BinOp _ _ _ _ => true
  | .UnaryOp _ _ _ => true
  | .Call _ _ _ _ => true
  | .Subscript _ _ _ => true
  | .Attribute _ _ _ => true
  | .IfExp _ _ _ _ => true
  | _ => false
def tyIs (t : Ty) (x : Str) : Bool := decide (x = t.nm)
def litIs : D → Expr → Bool
  | .non, e => (match e with
    | .Constant .none _ _ => true
    | _ => false)
  | .bl b, e => (match e with
    | .Constant (.bool c) _ _ => b == c
    | _ => false)
  | .int i, e => (match e with
    | .Constant (.int j) _ _ => decide (i = j)
    | _ => false)
  | .str x, e => (match e with
    | .Constant (.str y) _ _ => decide (x = y)
    | _ => false)
  | _, _ => false
def opIs (o : Bo) (p : Operator) : Bool := decide (boOp o = p)
def cmIs (o : Cm) (p : CmpOp) : Bool := decide (cmOp o = p)
def baseOk : Expr → Bool
  | .Name _ _ => true
  | .Subscript _ _ _ => true
  | _ => false
def tysAre : List Ty → List Expr → Sx → Bool
  | [], [], _ => true
  | t :: ts, e :: es, S => (match e with
    | .Name x _ => tyIs t x && S.gl x && S.fr.contains x
    | _ => false) && tysAre ts es S
  | _, _, _ => false
def tstC : CE → Bool
  | .ife _ _ _ => false
  | .ow _ => false
  | .fzE _ => false
  | .andE a b => tstC a && tstC b
  | .orE a b => tstC a && tstC b
  | .notE a => tstC a
  | _ => true
def isNop : CE → Bool
  | .nop => true
  | _ => false
def baseOk2 : Expr → Bool
  | .Name _ _ => true
  | .Subscript _ _ _ => true
  | .Constant _ _ _ => true
  | _ => false
def vm0 : Vm → Bool
  | .lower => true
  | _ => false
def vm1 : Vm → Bool
  | .join => true
  | .split => true
  | _ => false
def vmL : Vm → Bool
  | .index => true
  | .count => true
  | _ => false
def someAll : List (Option Expr) → Option (List Expr)
  | [] => some []
  | some e :: r => (someAll r).map (e :: ·)
  | none :: _ => none
theorem someAll_of : ∀ {l : List (Option Expr)} {es : List Expr}, someAll l = some es → l = es.map some
  | [], _, h => by cases h; rfl
  | some e :: r, es, h => by
    obtain ⟨z, h1, rfl⟩ := Option.map_eq_some_iff.mp h
    rw [someAll_of h1]
    rfl
  | none :: _, _, h => by cases h
def callC (S : Sx) (x : Str) : Bool := S.gl x && S.fr.contains x
mutual
def chkE (S : Sx) : CE → Expr → Bool
  | .nm i, e => (match e with
    | .Name x _ => S.var i x
    | _ => false)
  | .mv i, e => (match e with
    | .Name x _ => S.var i x
    | _ => false)
  | .lit d, e => litIs d e
  | .gc x d, e => (match e with
    | .Name y _ => decide (x = y) && S.gl x && (S.gi.any fun p => decide (p.1 = x) && D.same p.2 d) && Sx.plain x
    | _ => false)
  | .tup cs, e => (match e with
    | .Tuple es _ _ => chkL S cs es
    | _ => false)
  | .lst cs, e => (match e with
    | .List es _ => chkL S cs es
    | _ => false)
  | .bin o a b, e => (match e with
    | .BinOp x p y _ => opIs o p && (plainC a && chkE S a x) && (plainC b && chkE S b y)
    | _ => false)
  | .neg a, e => (match e with
    | .UnaryOp .USub x _ => plainC a && chkE S a x
    | _ => false)
  | .andE a b, e => (match e with
    | .BoolOp .And (x :: y :: rest) pos => (plainC a && chkE S a x) && (plainC b && (match rest with
      | [] => chkE S b y
      | _ :: _ => chkE S b (.BoolOp .And (y :: rest) pos)))
    | _ => false)
  | .orE a b, e => (match e with
    | .BoolOp .Or (x :: y :: rest) pos => (plainC a && chkE S a x) && (plainC b && (match rest with
      | [] => chkE S b y
      | _ :: _ => chkE S b (.BoolOp .Or (y :: rest) pos)))
    | _ => false)
  | .notE a, e => (match e with
    | .UnaryOp .Not x _ => plainC a && chkE S a x
    | _ => false)
  | .cmp o a b, e => (match e with
    | .Compare x [p] [y] _ => cmIs o p && !behindInMarks p y && (plainC a && chkE S a x) && (plainC b && chkE S b y)
    | _ => false)
  | .chain o q a b c, e => (match e with
    | .Compare x [p, r] [y, z] _ => cmIs o p && cmIs q r && !lastMarks [p, r] [y, z] && (plainC a && chkE S a x) && (plainC b && chkE S b y) && (plainC c && chkE S c z)
    | _ => false)
  | .ife c a b, e => (match e with
    | .IfExp t x y _ => tstC c && (plainC c && chkE S c t) && (plainC a && chkE S a x) && (plainC b && chkE S b y)
    | _ => false)
  | .isi a ts, e => (match e with
    | .Call (.Name f _) [x, .Name y _] [] _ => decide (f = "isinstance") && callC S f && notStar x && (plainC a && chkE S a x) && (match ts with
      | [t] => tyIs t y && S.gl y && S.fr.contains y
      | _ => false)
    | .Call (.Name f _) [x, .Tuple es _ _] [] _ => decide (f = "isinstance") && callC S f && notStar x && (plainC a && chkE S a x) && tysAre ts es S && decide (ts.length ≤ sz)
    | _ => false)
  | .blt f cs, e => (match e with
    | .Call (.Name x _) es [] _ => decide (x = f.nm) && callC S x && (!es.isEmpty) && es.all notStar && chkL S cs es
    | _ => false)
  | .call f cs, e => (match e with
    | .Call (.Name x _) es [] _ => decide (x = f) && S.gl x && S.fs.contains (x, cs.length) && Sx.plain x && (!es.isEmpty) && es.all notStar && chkA S cs es
    | _ => false)
  | .callk f cs perm, e => (match e with
    | .Call (.Name x _) [] kws _ => decide (x = f) && S.gl x && S.fs.contains (x, perm.length) && Sx.plain x && (S.kb.any fun q => decide (q.1 = x) && decide (q.2.2 = perm) && kwNames kws q.2.1 && decide (q.2.1.length = cs.length)) && chkK S cs kws
    | _ => false)
  | .bw _, _ => false
  | .io _, _ => false
  | .sub a b, e => (match e with
    | .Subscript x y _ => plainIxB y && (plainC a && chkE S a x) && (plainC b && chkE S b y)
    | _ => false)
  | .sli a lo hi, e => (match e with
    | .Subscript x (.Slice l u none _) _ => (plainC a && chkE S a x) && (match l with
      | none => isNop lo
      | some l => !isNop lo && plainC lo && chkE S lo l) && (match u with
      | none => isNop hi
      | some u => !isNop hi && plainC hi && chkE S hi u)
    | _ => false)
  | .nop, _ => false
  | .ow a, e => plainC a && chkE S a e
  | .fzE a, e => plainC a && chkE S a e
  | .lnd _ a, e => (match e with
    | .Call _ _ _ _ => plainC a && chkE S a e
    | .Subscript _ _ _ => plainC a && chkE S a e
    | _ => false)
  | .mu m r cs, e => (match e with
    | .Call (.Attribute o x apos) es [] cpos => decide (x = m.nm) && baseOk o && (apos.endLine == cpos.line) && decide (es.length ≤ 2) && es.all notStar && (plainC r && chkE S r o) && chkL S cs es
    | _ => false)
  | .comp vs tg it c y, e => (match e with
    | .ListComp elt [⟨tgE, iter, ifs, 0⟩] scope _ => blkC S.N ⟨.function, S.sc, false, false, []⟩ scope (S.own vs) && (tgS tg).all (fun i => vs.contains i) && (S.inn scope).tgS tg tgE && (!needT it || isTupE tgE) && !isSetE iter && chkE S it iter &&
      (match ifs with
        | [] => isNop c
        | [t] => !isNop c && tstC c && (plainC c && chkE (S.inn scope) c t)
        | _ => false) && (plainC y && chkE (S.inn scope) y elt)
    | _ => false)
  | .rng1 a, e => (match e with
    | .Call (.Name x _) [y] [] _ => decide (x = "range") && callC S x && notStar y && (plainC a && chkE S a y)
    | _ => false)
  | .rng2 a b, e => (match e with
    | .Call (.Name x _) [y, z] [] _ => decide (x = "range") && callC S x && notStar y && notStar z && (plainC a && chkE S a y) && (plainC b && chkE S b z)
    | _ => false)
  | .rngd a b, e => (match e with
    | .Call (.Name x _) [y, z, .UnaryOp .USub (.Constant (.int 1) _ _) _] [] _ => decide (x = "range") && callC S x && notStar y && notStar z && (plainC a && chkE S a y) && (plainC b && chkE S b z)
    | _ => false)
  | .enu a, e => (match e with
    | .Call (.Name x _) [y] [] _ => decide (x = "enumerate") && callC S x && notStar y && (plainC a && chkE S a y)
    | _ => false)
  | .zip a b, e => (match e with
    | .Call (.Name x _) [y, z] [] _ => decide (x = "zip") && callC S x && notStar y && notStar z && (plainC a && chkE S a y) && (plainC b && chkE S b z)
    | _ => false)
  | .dnew _, e => (match e with
    | .Dict [] [] _ => true
    | _ => false)
  | .dget a b, e => (match e with
    | .Subscript x y _ => plainIxB y && (plainC a && chkE S a x) && (plainC b && chkE S b y)
    | _ => false)
  | .vm m a cs, e => (match e with
    | .Call (.Attribute o x apos) es [] cpos => decide (x = m.nm) && baseOk2 o && (apos.endLine == cpos.line) && (plainC a && chkE S a o) && (match cs, es with
      | [], [] => vm0 m
      | [b], [y] => vm1 m && notStar y && (plainC b && chkE S b y)
      | _, _ => false)
    | _ => false)
  | .vi m i b, e => (match e with
    | .Call (.Attribute (.Name z _) x apos) [y] [] cpos => decide (x = m.nm) && S.var i z && (apos.endLine == cpos.line) && vmL m && notStar y && (plainC b && chkE S b y)
    | _ => false)
  | .rev a, e => (match e with
    | .Subscript x (.Slice none none (some (.UnaryOp .USub (.Constant (.int 1) _ _) _)) _) _ => plainC a && chkE S a x
    | _ => false)
  | .lrng1 a, e => (match e with
    | .Call (.Name l _) [.Call (.Name r _) [y] [] _] [] _ => decide (l = "list") && callC S l && decide (r = "range") && callC S r && notStar y && (plainC a && chkE S a y)
    | _ => false)
  | .lrng2 a b, e => (match e with
    | .Call (.Name l _) [.Call (.Name r _) [y, z] [] _] [] _ => decide (l = "list") && callC S l && decide (r = "range") && callC S r && notStar y && notStar z && (plainC a && chkE S a y) && (plainC b && chkE S b z)
    | _ => false)
  | .dcomp vs tg it c k y, e => (match e with
    | .DictComp kx vx [⟨tgE, iter, ifs, 0⟩] scope _ => blkC S.N ⟨.function, S.sc, false, false, []⟩ scope (S.own vs) && (tgS tg).all (fun i => vs.contains i) && (S.inn scope).tgS tg tgE && (!needT it || isTupE tgE) && !isSetE iter && chkE S it iter &&
      (match ifs with
        | [] => isNop c
        | [t] => !isNop c && tstC c && (plainC c && chkE (S.inn scope) c t)
        | _ => false) && (plainC y && chkE (S.inn scope) y vx) && (plainC k && chkE (S.inn scope) k kx)
    | _ => false)
  | .ddisp ks vs, e => (match e with
    | .Dict kes ves _ => (match someAll kes with
      | some ke => !ke.isEmpty && decide (ke.length = ves.length) && decide (ke.length ≤ 15) && chkL S ks ke && chkL S vs ves
      | none => false)
    | _ => false)
def chkL (S : Sx) : List CE → List Expr → Bool
  | [], es => es.isEmpty
  | c :: cs, es => (match es with
    | e :: es => notStar e && (plainC c && chkE S c e) && chkL S cs es
    | _ => false)
def chkA (S : Sx) : List CE → List Expr → Bool
  | [], es => es.isEmpty
  | c :: cs, es => (match es with
    | e :: es => notStar e && (match c with
      | .bw i => (match e with
        | .Name x _ => S.var i x
        | _ => false)
      | .io i => (match e with
        | .Name x _ => S.var i x
        | _ => false)
      | c => plainC c && chkE S c e) && chkA S cs es
    | _ => false)
def chkK (S : Sx) : List CE → List Keyword → Bool
  | [], es => es.isEmpty
  | c :: cs, es => (match es with
    | e :: es => (match c with
      | .bw i => (match e.value with
        | .Name x _ => S.var i x
        | _ => false)
      | .io i => (match e.value with
        | .Name x _ => S.var i x
        | _ => false)
      | c => plainC c && chkE S c e.value) && chkK S cs es
    | _ => false)
end
end Hc

set_option Elab.async false
set_option linter.all false
set_option maxRecDepth 100000
set_option maxHeartbeats 8000000
namespace Hc
open PySem PySem.Spec PyProof.Rows L2
inductive GiOk (mg : Str → Option Value) (x : Str) : D → Prop
  | int {i : Int} {t : Tok} : mg x = some (.int i t) → GiOk mg x (.int i)
  | str {s : Str} {t : Tok} : mg x = some (.str s t) → GiOk mg x (.str s)
structure Ctx (Γ : Glob) (S : Sx) (X : Cx) : Prop where
  N : X.N = S.N
  nd : S.N.Nodup
  sc : X.env.scope.names = S.sc
  kind : X.env.scope.kind = .function
  calm : X.calm = true
  room : Room S.k X.A
  gd : X.A.guards = some []
  fn : S.fnAll = true → ∀ x, X.fn x = true
  fnC : ∀ x ∈ S.fnC, X.fn x = true
  fs : ∀ x n, (x, n) ∈ S.fs → ∃ f fd ps, ps.length = n ∧ FnG X.prog X.w X.K X.mg X.base S.k f fd ps (Γ x) ∧ X.mg x = some (.ref f) ∧ PySem.W.keepIn X.K (.ref f) = true ∧ Binds X.K fd ps [] ∧ ∀ ks perm, (x, ks, perm) ∈ S.kb → KBind X.K fd ps ks perm
  gi : ∀ x d, (x, d) ∈ S.gi → GiOk X.mg x d
  fr : ∀ x ∈ S.fr, X.mg x = none
theorem and3 {a b : Bool} (h : (a && b) = true) : a = true ∧ b = true := Bool.and_eq_true_iff.mp h
theorem nstar {e : Expr} (h : notStar e = true) : ∀ x p, e ≠ .Starred x p := by
  rintro x p rfl
  cases h
theorem nstars {es : List Expr} (h : es.all notStar = true) : ∀ e ∈ es, ∀ x p, e ≠ .Starred x p := fun e he => nstar (List.all_eq_true.mp h e he)
section
variable {Γ : Glob} {S : Sx} {X : Cx} {x : Str} {i : Nat} {pos p p2 : Pos} {a b e : Expr} {A B C : CE} {ra rb rc r : Slots → R D}
theorem Ctx.fnx (h : Ctx Γ S X) (q : (S.fnAll || S.fnC.contains x) = true) : X.fn x = true := (Bool.or_eq_true_iff.mp q).elim (fun z => h.fn z x) fun z => h.fnC x (by simpa using z)
theorem Ctx.gl (h : Ctx Γ S X) (g : S.gl x = true) : Gl X x := by
  have g : S.sc.lookup x = some .globalImplicit := of_decide_eq_true g
  rw [← h.sc] at g
  exact g
theorem Ctx.call (h : Ctx Γ S X) (g : callC S x = true) : Gl X x ∧ X.mg x = none := ⟨h.gl (and3 g).1, h.fr _ (by simpa using (and3 g).2)⟩
theorem plain2 (h : Sx.plain x = true) : (x == ("__debug__" : Str)) = false ∧ (x == ("__classdict__" : Str)) = false := by
  unfold Sx.plain at h
  simpa using h
theorem Ctx.var (h : Ctx Γ S X) (v : S.var i x = true) : X.N[i]? = some x ∧ Vis X.env.scope x ∧ (x == ("__debug__" : Str)) = false ∧ (x == ("__classdict__" : Str)) = false := by
  obtain ⟨v1, v2⟩ := and3 v
  obtain ⟨v3, v4⟩ := and3 v1
  refine ⟨by rw [h.N]; exact of_decide_eq_true v3, ?_, plain2 v2⟩
  unfold Vis
  rw [h.sc]
  simpa [or_assoc] using v4
theorem Ctx.tgt (h : Ctx Γ S X) (v : S.tgt i x = true) : PG X (.Name x pos) (gName i) := by
  obtain ⟨v1, v2⟩ := and3 v
  have e : X.N[i]? = some x := by rw [h.N]; exact of_decide_eq_true v1
  rcases Bool.or_eq_true_iff.mp v2 with q | q
  · have q : X.env.scope.names.lookup x = some .local := by rw [h.sc]; exact of_decide_eq_true q
    exact pg_name (by rw [h.N]; exact h.nd) e (.inl q) (.inr q)
  · obtain ⟨q1, q2⟩ := and3 q
    have q2 : X.env.scope.names.lookup x = some .cell := by rw [h.sc]; exact of_decide_eq_true q2
    exact pg_name (by rw [h.N]; exact h.nd) e (.inr q2) (.inl ((Bool.or_eq_true_iff.mp q1).elim (fun z => h.fn z x) fun z => h.fnC x (by simpa using z)))
theorem goTg (h : Ctx Γ S X) : ∀ {is : List Nat} {es : List Expr}, Sx.tgS.go S is es = true → PGs X es (gAll is) ∧ es.length = is.length ∧ (∀ e ∈ es, ∃ x p, e = .Name x p)
  | [], [], _ => ⟨pgs_nil, rfl, fun _ z => by cases z⟩
  | i :: is, e :: es, v => by
    unfold Sx.tgS.go at v
    obtain ⟨v1, v2⟩ := and3 v
    obtain ⟨h1, h2, h3⟩ := goTg h v2
    split at v1
    · rename_i x p
      refine ⟨pgs_cons (h.tgt v1) h1 rfl, by simp [h2], fun e he => ?_⟩
      rcases List.mem_cons.mp he with rfl | he
      · exact ⟨_, _, rfl⟩
      · exact h3 e he
    · cases v1
  | [], _ :: _, v => by cases v
  | _ :: _, [], v => by cases v
theorem names_each : ∀ {es : List Expr}, (∀ e ∈ es, ∃ x p, e = Expr.Name x p) → ∀ env : Env, (assignEach es env).length = es.length ∧ (assignEach es env).findIdx? (·.1) = none
  | [], _, _ => ⟨rfl, rfl⟩
  | e :: es, h, env => by
    obtain ⟨x, p, rfl⟩ := h e List.mem_cons_self
    obtain ⟨h1, h2⟩ := names_each (es := es) (fun e he => h e (List.mem_cons_of_mem _ he)) env
    refine ⟨?_, ?_⟩
    · show (assignEach es env).length + 1 = es.length + 1
      rw [h1]
    · show List.findIdx? (·.1) ((false, _) :: assignEach es env) = none
      rw [List.findIdx?_cons]
      simp [h2]
theorem Ctx.tg (h : Ctx Γ S X) {tg : Tg} (v : S.tgS tg e = true) : PG X e (gT X.K tg) := by
  unfold Sx.tgS at v
  split at v
  · split at v
    · exact h.tgt v
    · cases v
  · split at v
    · obtain ⟨h1, h2, h3⟩ := goTg h v
      obtain ⟨k1, k2⟩ := names_each h3 X.env
      exact pg_tup h.calm h1 (by rw [k1, h2]) k2
    · cases v
  · split at v
    · obtain ⟨v1, v2⟩ := and3 v
      obtain ⟨h1, h2, h3⟩ := goTg h v2
      obtain ⟨k1, k2⟩ := names_each h3 X.env
      exact pg_tup h.calm (pgs_cons (h.tgt v1) (pgs_cons (pg_tup h.calm h1 (by rw [k1, h2]) k2) pgs_nil rfl) rfl) rfl rfl
    · cases v
  · split at v
    · obtain ⟨h1, h2, h3⟩ := goTg h v
      obtain ⟨k1, k2⟩ := names_each h3 X.env
      exact pg_lst h.calm h1 (by rw [k1, h2]) k2
    · cases v
theorem names_any : ∀ {l : List (Str × NameKind)} {f : Str → NameKind → NameKind}, True := trivial
theorem Ctx.blk (h : Ctx Γ S X) {scope : Scope} (hk : scope.kind = .function) (s : Shared) (H : Hp) (C : Addr) (cl : List (Str × Addr)) (fp : List Addr) : Ctx Γ (S.inn scope) (X.blk s H scope (compEnvC scope cl C X.env) fp) where
  N := h.N
  nd := h.nd
  sc := by
    show (relabel scope X.env).names = _
    unfold relabel Sx.inn
    have e : ∀ n, X.env.kindOf n = S.sc.lookup n := fun n => by rw [← h.sc]; rfl
    simp only [h.kind, e]
    rfl
  kind := hk
  calm := h.calm
  room := h.room
  gd := h.gd
  fn := fun z => by cases z
  fnC := fun x hx => (List.mem_filter.mp hx).2
  fs := h.fs
  gi := h.gi
  fr := h.fr
theorem pkAdd (sa : Snd X E0 a A ra) (sb : Snd X E0 b B rb) : PE X (.BinOp a .Add b pos) (tP X.K (.bin .add A B)) := by
  refine pe_imp (pe_op op_add sa.pk sb.pk) ?_
  rintro σ H Q ⟨W, env, g, d, P, e, q⟩
  simp only [peek] at e
  split at e
  · rename_i i j e1 e2
    cases e
    refine ⟨W, env, g, .int i, P, e1, fun v f hv => ⟨W, env, g, .int j, P, e2, fun u f2 hu => ?_⟩⟩
    cases hv; cases hu
    exact ⟨i, j, rfl, rfl, q _ _ (.int _)⟩
  · cases e
theorem pkSub' (sa : Snd X E0 a A ra) (sb : Snd X E0 b B rb) : PE X (.BinOp a .Sub b pos) (tP X.K (.bin .sub A B)) := by
  refine pe_imp (pe_op op_sub sa.pk sb.pk) ?_
  rintro σ H Q ⟨W, env, g, d, P, e, q⟩
  simp only [peek] at e
  split at e
  · rename_i i j e1 e2
    cases e
    refine ⟨W, env, g, .int i, P, e1, fun v f hv => ⟨W, env, g, .int j, P, e2, fun u f2 hu => ?_⟩⟩
    cases hv; cases hu
    exact ⟨i, j, rfl, rfl, q _ _ (.int _)⟩
  · cases e
theorem pkNeg (sa : Snd X E0 a A ra) : PE X (.UnaryOp .USub a pos) (tP X.K (.neg A)) := by
  refine pe_imp (pe_un un_neg sa.pk) ?_
  rintro σ H Q ⟨W, env, g, d, P, e, q⟩
  simp only [peek] at e
  split at e
  · rename_i i e1
    cases e
    refine ⟨W, env, g, .int i, P, e1, fun v f hv => ?_⟩
    cases hv
    exact ⟨i, rfl, q _ _ (.int _)⟩
  · cases e
theorem pkLen (h : Ctx Γ S X) (g : callC S "len" = true) (sa : Snd X E0 a A ra) (hs : ∀ y p, a ≠ .Starred y p) : PE X (.Call (.Name "len" p) [a] [] pos) (tP X.K (.blt .len [A])) := by
  obtain ⟨g1, g2⟩ := h.call g
  refine pe_imp (peCallV (f := .len) (opBl h.room h.gd h.calm .len) g1 g2 (pa_cons sa.pk pa_nil (noStar _ hs)) (fun x hx => by rw [List.mem_singleton.mp hx]; exact hs)) ?_
  rintro σ H Q ⟨W, env, g, d, P, e, q⟩
  simp only [peek] at e
  split at e
  · rename_i x e1
    have hd : ∃ i, d = .int i := by
      cases x <;> simp only [bltop] at e <;> first | (cases e; exact ⟨_, rfl⟩) | (split at e <;> cases e; exact ⟨_, rfl⟩) | cases e
    obtain ⟨i, rfl⟩ := hd
    exact ⟨W, env, g, x, P, e1, fun v f hv => ⟨W, [x], .int i, .cons hv .nil, e, ⟨fun v hv => q v [] hv, ⟨fun _ _ _ z => (by cases z), fun _ _ _ z => (by cases z)⟩⟩⟩⟩
  · cases e
theorem sTst' {c : Bool} (hp : Plain X e) (s : PE X e (tE X.K E0 c r)) : PT X e (tT X.K E0 c fun env => (r env).bind fun d e => lift (truth d) e) := by
  refine pt_any fun σ H Q h => ?_
  obtain ⟨W, env, g, P, h⟩ := h
  refine ⟨_, pt_truth s hp, W, env, g, P, ?_⟩
  have h : Post X.K RB E0 (c && true) W H ([] ++ g) σ ((r env).bind fun d e => lift (truth d) e) Q := by rw [Bool.and_true]; exact h
  refine Post.mono (P.run (Ra := VR X.K) h) ?_
  rintro v H' ⟨d, e', W', f', g', _, l, P', t, post⟩
  obtain ⟨k, hk, post⟩ := post_lift0 (γ := Bool) post
  exact ⟨k, l.tru hk, fun _ => (P'.base).done post ⟨rfl, rfl⟩ fun a z => by simp at z ⊢; exact .inr z⟩
theorem litOk {d : D} (h : litIs d e = true) : Snd X E0 e (.lit d) (fun env => .ok d env) := by
  unfold litIs at h
  split at h
  · split at h
    · exact okLit pe_non fun _ _ => .non
    · cases h
  · split at h
    · have h := eq_of_beq h
      subst h
      exact okLit pe_bl fun _ _ => .bl _
    · cases h
  · split at h
    · have h := of_decide_eq_true h
      subst h
      exact okLit pe_int fun _ _ => .int _
    · cases h
  · split at h
    · have h := of_decide_eq_true h
      subst h
      exact okLit pe_str fun _ _ => .str _
    · cases h
  · cases h
theorem noSl (h : plainIxB b = true) : NoSl b := fun _ _ => by cases b <;> first | rfl | cases h
theorem ixOk (h : plainIxB b = true) : PlainIx b := plainIx b fun l u s q z => by subst z; cases h
theorem tysOk (hX : Ctx Γ S X) : ∀ {ts : List Ty} {es : List Expr}, tysAre ts es S = true → TyEs X es ts
  | [], [], _ => .nil
  | t :: ts, e :: es, h => by
    unfold tysAre at h
    obtain ⟨h1, h2⟩ := and3 h
    split at h1
    · obtain ⟨h1, h3⟩ := and3 h1
      obtain ⟨h1, h4⟩ := and3 h1
      have e : _ = t.nm := of_decide_eq_true h1
      subst e
      exact .cons (hX.gl h4) (hX.fr _ (by simpa using h3)) (tysOk hX h2)
    · cases h1
  | [], _ :: _, h => by cases h
  | _ :: _, [], h => by cases h
end
end Hc

set_option Elab.async false
set_option linter.all false
set_option maxRecDepth 100000
set_option maxHeartbeats 16000000
namespace Hc
open PySem PySem.Spec PyProof.Rows L2
def tQ (K : PySem.W.Frag) (A B : CE) : TT := fun σ H Q => ∃ W env g i j, Pre K W H env σ [] g ∧ peek A env = some (.int i) ∧ peek B env = some (.int j) ∧ Q (decide (i = j)) H
theorem cmEqI (i j : Int) : cmpop .eq (.int i) (.int j) = some (decide (i = j)) := by
  show (if flat 60 (D.int i) = true ∧ flat 60 (D.int j) = true then some (deq (D.int i) (D.int j)) else none) = _
  rw [if_pos ⟨rfl, rfl⟩]
  simp only [deq, D.toP, PyData.eqv]
  by_cases h : i = j <;> simp [h]
theorem ptQ {X : Cx} {n : Nat} {a b : Expr} {A B : CE} {ra rb : Slots → R D} {pos : Pos} (hr : Room n X.A) (hm : behindInMarks (cmOp .eq) b = false) (sa : Snd X E0 a A ra) (sb : Snd X E0 b B rb) : PT X (.Compare a [cmOp .eq] [b] pos) (tQ X.K A B) := by
  refine pt_imp (pt_cmpR (opCm hr .eq) sa.pk sb.pk hm) ?_
  rintro σ H Q ⟨W, env, g, i, j, P, e1, e2, q⟩
  refine ⟨W, env, g, .int i, P, e1, fun v f hv => ⟨W, env, g, .int j, P, e2, fun u f2 hu => ?_⟩⟩
  exact ⟨W, f, f2, .int i, .int j, decide (i = j), .inl hv, .inl hu, cmEqI i j, _, rfl, q⟩
theorem pkIf {X : Cx} {t x y : Expr} {A B C D' : CE} {rx ry : Slots → R D} {pos : Pos} (hq : PT X t (tQ X.K A B)) (sx : Snd X E0 x C rx) (sy : Snd X E0 y D' ry) : PE X (.IfExp t x y pos) (tP X.K (.ife (.cmp .eq A B) C D')) := by
  refine pe_imp (pe_ifExp hq sx.pk sy.pk) ?_
  rintro σ H Q ⟨W, env, g, d, P, e, q⟩
  simp only [peek] at e
  split at e
  · rename_i i j e1 e2
    refine ⟨W, env, g, i, j, P, e1, e2, ?_⟩
    by_cases h : i = j
    · rw [if_pos h] at e
      rw [decide_eq_true h, if_pos rfl]
      exact ⟨W, env, g, d, P, e, q⟩
    · rw [if_neg h] at e
      rw [decide_eq_false h, if_neg Bool.false_ne_true]
      exact ⟨W, env, g, d, P, e, q⟩
  · cases e
theorem peekIf_no {c a b : CE} (h : ¬ ∃ A B, c = .cmp .eq A B) {env : Slots} : peek (.ife c a b) env = none := by
  cases c <;> first | rfl | skip
  rename_i o A B
  cases o <;> first | rfl | exact absurd ⟨_, _, rfl⟩ h
structure Good (Γ : Glob) (X : Cx) (c : CE) (e : Expr) : Prop where
  s : plainC c = true → Snd X E0 e c (ev Γ c).e
  t : plainC c = true → tstC c = true → PT X e (tT X.K E0 c.calm (ev Γ c).t)
  i : ∀ tg, (needT c = true → isTupE tg = true) → PI X tg e (tI X.K E0 c.calm (cIt c (ev Γ c).e))
  q : ∀ A B, c = .cmp .eq A B → PT X e (tQ X.K A B)
theorem Good.of {Γ : Glob} {X : Cx} {c : CE} {e : Expr} (s : Snd X E0 e c (ev Γ c).e) (t : tstC c = true → PT X e (tT X.K E0 c.calm (ev Γ c).t)) (hC : plainC c = true) (hq : ∀ A B, c = .cmp .eq A B → PT X e (tQ X.K A B) := by intro _ _ z; cases z) : Good Γ X c e := ⟨fun _ => s, fun _ => t, fun _ _ => piOne s hC, hq⟩
theorem Good.val {Γ : Glob} {X : Cx} {c : CE} {e : Expr} (hp : Plain X e) (ht : (ev Γ c).t = fun env => ((ev Γ c).e env).bind fun d e => lift (truth d) e) (s : Snd X E0 e c (ev Γ c).e) (hC : plainC c = true) (hq : ∀ A B, c = .cmp .eq A B → PT X e (tQ X.K A B) := by intro _ _ z; cases z) : Good Γ X c e :=
  .of s (fun _ => by rw [ht]; exact sTst' hp s.pe) hC hq
theorem Good.look {Γ : Glob} {X : Cx} {c : CE} {e : Expr} (hp : Plain X e) (ht : (ev Γ c).t = fun env => (view c (ev Γ c).e env).bind fun d e => lift (truth d) e) (s : Snd X E0 e c (ev Γ c).e) (hC : plainC c = true) (hq : ∀ A B, c = .cmp .eq A B → PT X e (tQ X.K A B) := by intro _ _ z; cases z) : Good Γ X c e :=
  .of s (fun _ => by rw [ht]; exact sTst hp s) hC hq
section
variable {X : Cx}
theorem plName {x p} : Plain X (.Name x p) := plain_of _ (fun _ _ _ z => by cases z) (fun _ _ z => by cases z) (fun _ _ _ _ z => by cases z) (fun _ _ _ _ z => by cases z)
theorem plConst {x j p} : Plain X (.Constant x j p) := plain_of _ (fun _ _ _ z => by cases z) (fun _ _ z => by cases z) (fun _ _ _ _ z => by cases z) (fun _ _ _ _ z => by cases z)
theorem plTup {x j p} : Plain X (.Tuple x j p) := plain_of _ (fun _ _ _ z => by cases z) (fun _ _ z => by cases z) (fun _ _ _ _ z => by cases z) (fun _ _ _ _ z => by cases z)
theorem plLst {x p} : Plain X (.List x p) := plain_of _ (fun _ _ _ z => by cases z) (fun _ _ z => by cases z) (fun _ _ _ _ z => by cases z) (fun _ _ _ _ z => by cases z)
theorem plBin {a o b p} : Plain X (.BinOp a o b p) := plain_of _ (fun _ _ _ z => by cases z) (fun _ _ z => by cases z) (fun _ _ _ _ z => by cases z) (fun _ _ _ _ z => by cases z)
theorem plDict {a b p} : Plain X (.Dict a b p) := plain_of _ (fun _ _ _ z => by cases z) (fun _ _ z => by cases z) (fun _ _ _ _ z => by cases z) (fun _ _ _ _ z => by cases z)
theorem plNeg {a p} : Plain X (.UnaryOp .USub a p) := plain_of _ (fun _ _ _ z => by cases z) (fun _ _ z => by cases z) (fun _ _ _ _ z => by cases z) (fun _ _ _ _ z => by cases z)
theorem plCall {f a k p} : Plain X (.Call f a k p) := plain_of _ (fun _ _ _ z => by cases z) (fun _ _ z => by cases z) (fun _ _ _ _ z => by cases z) (fun _ _ _ _ z => by cases z)
theorem plDc {a b g s p} : Plain X (.DictComp a b g s p) := plain_of _ (fun _ _ _ z => by cases z) (fun _ _ z => by cases z) (fun _ _ _ _ z => by cases z) (fun _ _ _ _ z => by cases z)
theorem plSub {a b p} : Plain X (.Subscript a b p) := plain_of _ (fun _ _ _ z => by cases z) (fun _ _ z => by cases z) (fun _ _ _ _ z => by cases z) (fun _ _ _ _ z => by cases z)
theorem plComp {a g s p} : Plain X (.ListComp a g s p) := plain_of _ (fun _ _ _ z => by cases z) (fun _ _ z => by cases z) (fun _ _ _ _ z => by cases z) (fun _ _ _ _ z => by cases z)
end
theorem pw_bool {X : Cx} {op : BoolOp} {vs : List Expr} {pos : Pos} {t : TT} (h : PT X (.BoolOp op vs pos) t) : PW X (.BoolOp op vs pos) t := ⟨fun _ pins s σ H Q I q => h.run pins s σ H Q I q⟩
theorem calm1 {X : Cx} {e : Expr} {c : Bool} {r : Slots → R D} (h : PE X e (tE X.K E0 (c && true) r)) : PE X e (tE X.K E0 c r) := by
  rw [Bool.and_true] at h
  exact h
theorem calm1' {X : Cx} {e : Expr} {a : CE} {r : Slots → R D} (h : PE X e (tE X.K E0 (a.calm && true) r)) : PE X e (tE X.K E0 (a.calm && calms []) r) := h
theorem calm2' {X : Cx} {e : Expr} {a b : CE} {r : Slots → R D} (h : PE X e (tE X.K E0 (a.calm && b.calm) r)) : PE X e (tE X.K E0 (a.calm && calms [b]) r) := by
  have z : calms [b] = b.calm := by show (b.calm && true) = _; rw [Bool.and_true]
  rw [z]
  exact h
theorem own_map {S : Sx} {vs : List Nat} : (S.own vs).map (·.2) = vs := by
  unfold Sx.own
  rw [List.map_map]
  show vs.map id = vs
  exact List.map_id vs
theorem blk_of {N : List Str} {sc sc' scope : Scope} {own : List (Str × Nat)} (h : BlkOk N sc scope own) (e : sc.names = sc'.names) : BlkOk N sc' scope own := ⟨h.kind, h.uniq, h.ix, fun y hy z => by rw [← e]; exact h.free y hy z, h.own⟩
theorem notSet {iter : Expr} (h : isSetE iter = false) (env : Env) (x : Value) : foldedSetIterable iter env x = pure x := by
  cases iter <;> first | rfl | cases h
theorem nopOf {c : CE} (h : isNop c = true) : c = .nop := by
  cases c <;> first | rfl | cases h
theorem tcN_of {c : CE} (h : isNop c = false) (tc : Slots → R Bool) : tcN c tc = tc := by
  funext e
  cases c <;> first | rfl | cases h
theorem ptsNil {X : Cx} {tc : Slots → R Bool} : PTs X [] (tT X.K E0 (CE.calm .nop) (tcN .nop tc)) := ⟨fun pins s σ H Q I q => pts_nil.run pins s σ H Q I (by
  obtain ⟨W, env, g, P, h⟩ := q
  exact P.done (f := []) (Ra := RB) h ⟨rfl, rfl⟩ (by simp))⟩
mutual
theorem okE {Γ : Glob} : ∀ (c : CE) {S : Sx} {X : Cx} {e : Expr}, Ctx Γ S X → chkE S c e = true → Good Γ X c e
  | .nm i, S, X, e, hX, h => by
    unfold chkE at h
    split at h
    · obtain ⟨h1, h2, h3, h4⟩ := hX.var h
      exact .look plName rfl (okNm h1 h2 h3 h4) rfl
    · cases h
  | .mv i, S, X, e, hX, h => by
    unfold chkE at h
    split at h
    · obtain ⟨h1, h2, h3, h4⟩ := hX.var h
      exact .val plName rfl (okMv h1 h2 h3 h4) rfl
    · cases h
  | .lit d, S, X, e, hX, h => by
    unfold chkE at h
    refine .look ?_ rfl (litOk h) rfl
    unfold litIs at h
    split at h
    · split at h
      · exact plConst
      · cases h
    · split at h
      · exact plConst
      · cases h
    · split at h
      · exact plConst
      · cases h
    · split at h
      · exact plConst
      · cases h
    · cases h
  | .gc x d, S, X, e, hX, h => by
    unfold chkE at h
    split at h
    · obtain ⟨h, h4⟩ := and3 h
      obtain ⟨h, h3⟩ := and3 h
      obtain ⟨h1, h2⟩ := and3 h
      have h1 := of_decide_eq_true h1
      subst h1
      obtain ⟨⟨x', d'⟩, hm, h3⟩ := List.any_eq_true.mp h3
      obtain ⟨h5, h6⟩ := and3 h3
      have h5 : x' = x := of_decide_eq_true h5
      have h6 : d' = d := same_eq h6
      subst h5 h6
      cases hX.gi _ _ hm with
      | int ht => exact .look plName rfl (okGc (pe_glob (hX.gl h2) ht (v := .int _) ⟨_, rfl⟩ (plain2 h4).1) fun _ _ => .int _) rfl
      | str ht => exact .look plName rfl (okGc (pe_glob (hX.gl h2) ht (v := .str _) ⟨_, rfl⟩ (plain2 h4).1) fun _ _ => .str _) rfl
    · cases h
  | .tup cs, S, X, e, hX, h => by
    unfold chkE at h
    split at h
    · exact .val plTup rfl (Snd.mk1 (peTup (okL cs hX h)) (fun _ => rfl) (fun _ => rfl) fun _ z => by cases z) rfl
    · cases h
  | .lst cs, S, X, e, hX, h => by
    unfold chkE at h
    split at h
    · exact .val plLst rfl (Snd.mk1 (peLst (okL cs hX h)) (fun _ => rfl) (fun _ => rfl) fun _ z => by cases z) rfl
    · cases h
  | .bin o a b, S, X, e, hX, h => by
    unfold chkE at h
    split at h
    · obtain ⟨h, h2⟩ := and3 h
      obtain ⟨h0, h1⟩ := and3 h
      have h0 := of_decide_eq_true h0
      subst h0
      have sa := (okE a hX (and3 h1).2).s (and3 h1).1
      have sb := (okE b hX (and3 h2).2).s (and3 h2).1
      refine .val plBin rfl ⟨sBin o sa sb, ?_, pw_no fun _ => rfl, fun _ z => by cases z⟩ rfl
      cases o
      case add => exact pkAdd sa sb
      case sub => exact pkSub' sa sb
      all_goals exact pk_no fun _ => rfl
    · cases h
  | .neg a, S, X, e, hX, h => by
    unfold chkE at h
    split at h
    · have sa := (okE a hX (and3 h).2).s (and3 h).1
      exact .val plNeg rfl ⟨peNeg sa.pe, pkNeg sa, pw_no fun _ => rfl, fun _ z => by cases z⟩ rfl
    · cases h
  | .andE a b, S, X, e, hX, h => by
    unfold chkE at h
    split at h
    · rename_i x y rest pos
      obtain ⟨h1, hz⟩ := and3 h
      obtain ⟨hb, hr⟩ := and3 hz
      clear h hz
      have ga := okE a hX (and3 h1).2
      have sa := ga.s (and3 h1).1
      cases rest with
      | nil =>
        have gb := okE b hX hr
        have sb := gb.s hb
        refine .of (Snd.mk1 (peAnd sa.pe (pe_one sb.pe)) (fun _ => rfl) (fun _ => rfl) fun _ z => by cases z) (fun ht => ?_) rfl
        obtain ⟨t1, t2⟩ := and3 ht
        exact (ptAnd (A := a) (B := b) (ga.t (and3 h1).1 t1) (pw_and1 (gb.t hb t2))).pt
      | cons z zs =>
        have gb := okE b hX hr
        have sb := gb.s hb
        refine .of (Snd.mk1 (peAnd sa.pe sb.pe) (fun _ => rfl) (fun _ => rfl) fun _ z => by cases z) (fun ht => ?_) rfl
        obtain ⟨t1, t2⟩ := and3 ht
        exact (ptAnd (A := a) (B := b) (ga.t (and3 h1).1 t1) (pw_bool (gb.t hb t2))).pt
    · cases h
  | .orE a b, S, X, e, hX, h => by
    unfold chkE at h
    split at h
    · rename_i x y rest pos
      obtain ⟨h1, hz⟩ := and3 h
      obtain ⟨hb, hr⟩ := and3 hz
      clear h hz
      have ga := okE a hX (and3 h1).2
      have sa := ga.s (and3 h1).1
      cases rest with
      | nil =>
        have gb := okE b hX hr
        have sb := gb.s hb
        refine .of (Snd.mk1 (peOr sa.pe (pe_one sb.pe)) (fun _ => rfl) (fun _ => rfl) fun _ z => by cases z) (fun ht => ?_) rfl
        obtain ⟨t1, t2⟩ := and3 ht
        exact (ptOr (A := a) (B := b) (ga.t (and3 h1).1 t1) (pw_or1 (gb.t hb t2))).pt
      | cons z zs =>
        have gb := okE b hX hr
        have sb := gb.s hb
        refine .of (Snd.mk1 (peOr sa.pe sb.pe) (fun _ => rfl) (fun _ => rfl) fun _ z => by cases z) (fun ht => ?_) rfl
        obtain ⟨t1, t2⟩ := and3 ht
        exact (ptOr (A := a) (B := b) (ga.t (and3 h1).1 t1) (pw_bool (gb.t hb t2))).pt
    · cases h
  | .notE a, S, X, e, hX, h => by
    unfold chkE at h
    split at h
    · have ga := okE a hX (and3 h).2
      exact .of (Snd.mk1 (peNot (ga.s (and3 h).1).pe) (fun _ => rfl) (fun _ => rfl) fun _ z => by cases z) (fun ht => ptNot (ga.t (and3 h).1 ht)) rfl
    · cases h
  | .cmp o a b, S, X, e, hX, h => by
    unfold chkE at h
    split at h
    · obtain ⟨h, h3⟩ := and3 h
      obtain ⟨h, h2⟩ := and3 h
      obtain ⟨h0, h1⟩ := and3 h
      have h0 := of_decide_eq_true h0
      subst h0
      have sa := (okE a hX (and3 h2).2).s (and3 h2).1
      have sb := (okE b hX (and3 h3).2).s (and3 h3).1
      exact .of (Snd.mk1 (sCmp hX.room o (by simpa using h1) sa sb) (fun _ => rfl) (fun _ => rfl) fun _ z => by cases z) (fun _ => sCmpT hX.room o (by simpa using h1) sa sb) rfl (by
        intro A B z
        cases z
        exact ptQ hX.room (by simpa using h1) sa sb)
    · cases h
  | .chain o q a b c, S, X, e, hX, h => by
    unfold chkE at h
    split at h
    · obtain ⟨h, h5⟩ := and3 h
      obtain ⟨h, h4⟩ := and3 h
      obtain ⟨h, h3⟩ := and3 h
      obtain ⟨h, h2⟩ := and3 h
      obtain ⟨h0, h1⟩ := and3 h
      have h0 := of_decide_eq_true h0
      have h1 := of_decide_eq_true h1
      subst h0 h1
      have sa := (okE a hX (and3 h3).2).s (and3 h3).1
      have sb := (okE b hX (and3 h4).2).s (and3 h4).1
      have sc := (okE c hX (and3 h5).2).s (and3 h5).1
      exact .of (Snd.mk1 (sChain hX.room o q (by simpa using h2) sa sb sc) (fun _ => rfl) (fun _ => rfl) fun _ z => by cases z) (fun _ => sChainT hX.room o q (by simpa using h2) sa sb sc) rfl
    · cases h
  | .ife c a b, S, X, e, hX, h => by
    unfold chkE at h
    split at h
    · obtain ⟨h, h3⟩ := and3 h
      obtain ⟨h, h2⟩ := and3 h
      obtain ⟨h0, h1⟩ := and3 h
      have sa := (okE a hX (and3 h2).2).s (and3 h2).1
      have sb := (okE b hX (and3 h3).2).s (and3 h3).1
      have gc := okE c hX (and3 h1).2
      refine .of ⟨peIf (gc.t (and3 h1).1 h0) sa.pe sb.pe, ?_, pw_no fun _ => rfl, fun _ z => by cases z⟩ (fun z => by cases z) rfl
      by_cases hc : ∃ A B, c = .cmp .eq A B
      · obtain ⟨A, B, rfl⟩ := hc
        exact pkIf (gc.q A B rfl) sa sb
      · exact pk_no fun env => peekIf_no hc
    · cases h
  | .isi a ts, S, X, e, hX, h => by
    unfold chkE at h
    split at h
    · obtain ⟨h, h4⟩ := and3 h
      obtain ⟨h, h3⟩ := and3 h
      obtain ⟨h, h2⟩ := and3 h
      obtain ⟨h0, h1⟩ := and3 h
      have h0 := of_decide_eq_true h0
      subst h0
      obtain ⟨g1, g2⟩ := hX.call h1
      have sa := (okE a hX (and3 h3).2).s (and3 h3).1
      split at h4
      · obtain ⟨h4, h6⟩ := and3 h4
        obtain ⟨h4, h5⟩ := and3 h4
        have e : _ = Ty.nm _ := of_decide_eq_true h4
        subst e
        exact .val plCall rfl (Snd.mk1 (calm1 (c := a.calm) (r := cIsi a (ev Γ a).e [_]) (sIsi1 g1 g2 (hX.gl h5) (hX.fr _ (by simpa using h6)) sa (nstar h2))) (fun _ => rfl) (fun _ => rfl) fun _ z => by cases z) rfl
      · cases h4
    · obtain ⟨h, h5⟩ := and3 h
      obtain ⟨h, h4⟩ := and3 h
      obtain ⟨h, h3⟩ := and3 h
      obtain ⟨h, h2⟩ := and3 h
      obtain ⟨h0, h1⟩ := and3 h
      have h0 := of_decide_eq_true h0
      subst h0
      obtain ⟨g1, g2⟩ := hX.call h1
      have sa := (okE a hX (and3 h3).2).s (and3 h3).1
      exact .val plCall rfl (Snd.mk1 (calm1 (c := a.calm) (r := cIsi a (ev Γ a).e ts) (sIsiN (of_decide_eq_true h5) g1 g2 (tysOk hX h4) sa (nstar h2))) (fun _ => rfl) (fun _ => rfl) fun _ z => by cases z) rfl
    · cases h
  | .blt f cs, S, X, e, hX, h => by
    unfold chkE at h
    split at h
    · rename_i x _ es _
      obtain ⟨h, h4⟩ := and3 h
      obtain ⟨h, h3⟩ := and3 h
      obtain ⟨h, h2⟩ := and3 h
      obtain ⟨h0, h1⟩ := and3 h
      have h0 := of_decide_eq_true h0
      subst h0
      obtain ⟨g1, g2⟩ := hX.call h1
      have ss := okL cs hX h4
      have ns := nstars h3
      cases cs with
      | nil => cases ss; cases h2
      | cons c cs =>
        cases ss with
        | cons sa na st =>
        cases cs with
        | nil =>
          cases st
          refine .val plCall rfl ⟨?_, ?_, pw_no fun _ => rfl, fun _ z => by cases z⟩ rfl
          · show PE X _ (tE X.K E0 (c.calm && true) (if f.looks = true then cBl1 f c (ev Γ c).e else cBl f [(ev Γ c).e]))
            cases hf : f.looks with
            | true => rw [if_pos rfl]; exact sBl1 hX.room hX.gd hX.calm g1 g2 sa na
            | false => rw [if_neg Bool.false_ne_true]; exact sBl (cs := [c]) hX.room hX.gd hX.calm g1 g2 (.cons sa na .nil) ns
          · by_cases hl : f = .len
            · subst hl
              exact pkLen hX h1 sa na
            · exact pk_no fun _ => by cases f <;> first | rfl | exact absurd rfl hl
        | cons c2 cs =>
          exact .val plCall rfl (Snd.mk1 (sBl hX.room hX.gd hX.calm g1 g2 (.cons sa na st) ns) (fun _ => by cases f <;> rfl) (fun _ => rfl) fun _ z => by cases z) rfl
    · cases h
  | .call f cs, S, X, e, hX, h => by
    unfold chkE at h
    split at h
    · rename_i x _ es _
      obtain ⟨h, h6⟩ := and3 h
      obtain ⟨h, h5⟩ := and3 h
      obtain ⟨h, h4⟩ := and3 h
      obtain ⟨h, h3⟩ := and3 h
      obtain ⟨h, h2⟩ := and3 h
      obtain ⟨h0, h1⟩ := and3 h
      have h0 := of_decide_eq_true h0
      subst h0
      obtain ⟨f, fd, ps, e1, F, e2, e3, e4, _⟩ := hX.fs _ _ (by simpa using h2)
      have hl : ∀ cs : List CE, (evA Γ cs).length = cs.length := fun cs => by
        induction cs with
        | nil => rfl
        | cons c cs ih => show (evA Γ cs).length + 1 = _; rw [ih]; rfl
      exact .val plCall rfl (Snd.mk1 (peCall F hX.room hX.gd (hX.gl h1) e2 e3 e4 (plain2 h3).1 (okA cs hX h6) (nstars h5) (by rintro rfl; cases h4) (by rw [hl, e1])) (fun _ => rfl) (fun _ => rfl) fun _ z => by cases z) rfl
    · cases h
  | .callk f cs perm, S, X, e, hX, h => by
    unfold chkE at h
    split at h
    · rename_i x _ kws _
      obtain ⟨h, h6⟩ := and3 h
      obtain ⟨h, h5⟩ := and3 h
      obtain ⟨h, h3⟩ := and3 h
      obtain ⟨h, h2⟩ := and3 h
      obtain ⟨h0, h1⟩ := and3 h
      have h0 := of_decide_eq_true h0
      subst h0
      obtain ⟨⟨y, ks, pm⟩, hq, h5⟩ := List.any_eq_true.mp h5
      obtain ⟨h5, h9⟩ := and3 h5
      obtain ⟨h5, h8⟩ := and3 h5
      obtain ⟨h5, h7⟩ := and3 h5
      have h5 := of_decide_eq_true h5
      have h7 := of_decide_eq_true h7
      have h9 := of_decide_eq_true h9
      dsimp only at h5 h7 h8 h9
      subst h5 h7
      obtain ⟨f, fd, ps, e1, F, e2, e3, e4, e5⟩ := hX.fs _ _ (by simpa using h2)
      have hl : ∀ cs : List CE, (evA Γ cs).length = cs.length := fun cs => by
        induction cs with
        | nil => rfl
        | cons c cs ih => show (evA Γ cs).length + 1 = _; rw [ih]; rfl
      exact .val plCall rfl (Snd.mk1 (peCallk F hX.room hX.gd (hX.gl h1) e2 e3 (e5 _ _ hq) (plain2 h3).1 (okK cs hX h6) (kwNames_ok h8).1 (kwNames_ok h8).2.1 (kwNames_ok h8).2.2 (by rw [hl, h9]) e1.symm) (fun _ => rfl) (fun _ => rfl) fun _ z => by cases z) rfl
    · cases h
  | .bw _, S, X, e, hX, h => by unfold chkE at h; cases h
  | .io _, S, X, e, hX, h => by unfold chkE at h; cases h
  | .sub a b, S, X, e, hX, h => by
    unfold chkE at h
    split at h
    · obtain ⟨h, h2⟩ := and3 h
      obtain ⟨h0, h1⟩ := and3 h
      have sa := (okE a hX (and3 h1).2).s (and3 h1).1
      have sb := (okE b hX (and3 h2).2).s (and3 h2).1
      have hb := ixOk h0
      exact .look plSub rfl ⟨peSub hb sa sb, pkSub hb sa sb, pwSub hb sa sb, fun _ z => by cases z⟩ rfl
    · cases h
  | .sli a lo hi, S, X, e, hX, h => by
    unfold chkE at h
    split at h
    · rename_i x l u _ _
      obtain ⟨h, h2⟩ := and3 h
      obtain ⟨h0, h1⟩ := and3 h
      have sa := (okE a hX (and3 h0).2).s (and3 h0).1
      have s1 : SndO X E0 l lo (ev Γ lo).e := by
        cases l with
        | none =>
          refine .inl ⟨rfl, ?_⟩
          cases lo <;> first | rfl | cases h1
        | some l =>
          obtain ⟨h1, h3⟩ := and3 h1
          obtain ⟨h1, h4⟩ := and3 h1
          exact .inr ⟨l, rfl, (fun z => by rw [z] at h1; cases h1), (okE lo hX h3).s h4⟩
      have s2 : SndO X E0 u hi (ev Γ hi).e := by
        cases u with
        | none =>
          refine .inl ⟨rfl, ?_⟩
          cases hi <;> first | rfl | cases h2
        | some l =>
          obtain ⟨h1, h3⟩ := and3 h2
          obtain ⟨h1, h4⟩ := and3 h1
          exact .inr ⟨l, rfl, (fun z => by rw [z] at h1; cases h1), (okE hi hX h3).s h4⟩
      exact .val plSub rfl (Snd.mk1 (peSli sa s1 s2) (fun _ => rfl) (fun _ => rfl) fun _ z => by cases z) rfl
    · cases h
  | .dnew t, S, X, e, hX, h => by
    unfold chkE at h
    split at h
    · exact .val plDict rfl (Snd.mk1 (sDnew t) (fun _ => rfl) (fun _ => rfl) fun _ z => by cases z) rfl
    · cases h
  | .dget a b, S, X, e, hX, h => by
    unfold chkE at h
    split at h
    · obtain ⟨h, h2⟩ := and3 h
      obtain ⟨h0, h1⟩ := and3 h
      exact .val plSub rfl (Snd.mk1 (sDget hX.room (noSl h0) ((okE a hX (and3 h1).2).s (and3 h1).1) ((okE b hX (and3 h2).2).s (and3 h2).1)) (fun _ => rfl) (fun _ => rfl) fun _ z => by cases z) rfl
    · cases h
  | .nop, S, X, e, hX, h => by unfold chkE at h; cases h
  | .ow a, S, X, e, hX, h => by
    unfold chkE at h
    exact .of (okOw ((okE a hX (and3 h).2).s (and3 h).1)) (fun z => by cases z) rfl
  | .fzE a, S, X, e, hX, h => by
    unfold chkE at h
    exact .of (okFz ((okE a hX (and3 h).2).s (and3 h).1)) (fun z => by cases z) rfl
  | .lnd k a, S, X, e, hX, h => by
    unfold chkE at h
    split at h
    · exact .val plCall rfl (okLnd ((okE a hX (and3 h).2).s (and3 h).1)) rfl
    · exact .val plSub rfl (okLnd ((okE a hX (and3 h).2).s (and3 h).1)) rfl
    · cases h
  | .mu m r cs, S, X, e, hX, h => by
    unfold chkE at h
    split at h
    · rename_i o x apos es cpos
      obtain ⟨h, h6⟩ := and3 h
      obtain ⟨h, h5⟩ := and3 h
      obtain ⟨h, h4⟩ := and3 h
      obtain ⟨h, h3⟩ := and3 h
      obtain ⟨h, h2⟩ := and3 h
      obtain ⟨h0, h1⟩ := and3 h
      have h0 := of_decide_eq_true h0
      subst h0
      have so := (okE r hX (and3 h5).2).s (and3 h5).1
      have hb : attributeBase o m.nm X.env (eval o X.env) = eval o X.env := by
        cases o <;> first | rfl | (cases h1; done)
      exact .val plCall rfl (Snd.mk1 (peMu so (okL cs hX h6) (of_decide_eq_true h3) (nstars h4) hb h2) (fun _ => rfl) (fun _ => rfl) fun _ z => by cases z) rfl
    · cases h
  | .comp vs tg it c y, S, X, e, hX, h => by
    unfold chkE at h
    split at h
    · rename_i elt tgE iter ifs scope _
      obtain ⟨h, h7⟩ := and3 h
      obtain ⟨h, h6⟩ := and3 h
      obtain ⟨h, h5⟩ := and3 h
      obtain ⟨h, h4⟩ := and3 h
      obtain ⟨h, h3⟩ := and3 h
      obtain ⟨h, h2⟩ := and3 h
      obtain ⟨h0, h1⟩ := and3 h
      have bk := blkOk_by h0
      have inn := fun s H C cl fp => hX.blk bk.kind s H C cl fp
      have gy := fun s H C cl fp => okE y (inn s H C cl fp) (and3 h7).2
      have hc : ∀ (s : Shared) (H : Hp) (C : Addr) (cl : List (Str × Addr)) (fp : List Addr), PTs (X.blk s H scope (compEnvC scope cl C X.env) fp) ifs (tT X.K E0 c.calm (tcN c (ev Γ c).t)) := by
        intro s H C cl fp
        split at h6
        · have e := nopOf h6
          subst e
          exact ptsNil
        · obtain ⟨h6, h9⟩ := and3 h6
          obtain ⟨h6, h8⟩ := and3 h6
          rw [tcN_of (by simpa using h6)]
          exact pts_one ((okE c (inn s H C cl fp) (and3 h9).2).t (and3 h9).1 h8)
        · cases h6
      have ht : needT it = true → isTupE tgE = true := fun z => by rw [z] at h3; simpa using h3
      exact .val plComp rfl (Snd.mk1 (peLc hX.calm (by rw [hX.N]; exact hX.nd) ((okE it hX h5).i tgE ht) (by rw [hX.N]; exact blk_of bk hX.sc.symm) own_map (fun i hi => by simpa using List.all_eq_true.mp h1 i hi) (fun s H C cl fp => (inn s H C cl fp).tg h2) hc
        (fun s H C cl fp => ((gy s H C cl fp).s (and3 h7).1).pe) (notSet (by simpa using h4) X.env)) (fun _ => rfl) (fun _ => rfl) fun _ z => by cases z) rfl
    · cases h
  | .rng1 a, S, X, e, hX, h => by
    unfold chkE at h
    split at h
    · obtain ⟨h, h3⟩ := and3 h
      obtain ⟨h, h2⟩ := and3 h
      obtain ⟨h0, h1⟩ := and3 h
      have h0 := of_decide_eq_true h0
      subst h0
      obtain ⟨g1, g2⟩ := hX.call h1
      have sa := (okE a hX (and3 h3).2).s (and3 h3).1
      exact ⟨(fun z => by cases z), (fun z => by cases z), fun tg _ => piR1 (A := a) g1 g2 sa (nstar h2), fun _ _ z => by cases z⟩
    · cases h
  | .rng2 a b, S, X, e, hX, h => by
    unfold chkE at h
    split at h
    · obtain ⟨h, h5⟩ := and3 h
      obtain ⟨h, h4⟩ := and3 h
      obtain ⟨h, h3⟩ := and3 h
      obtain ⟨h, h2⟩ := and3 h
      obtain ⟨h0, h1⟩ := and3 h
      have h0 := of_decide_eq_true h0
      subst h0
      obtain ⟨g1, g2⟩ := hX.call h1
      have sa := (okE a hX (and3 h4).2).s (and3 h4).1
      have sb := (okE b hX (and3 h5).2).s (and3 h5).1
      exact ⟨(fun z => by cases z), (fun z => by cases z), fun tg _ => piR2 (A := a) (B := b) g1 g2 sa sb (nstar h2) (nstar h3), fun _ _ z => by cases z⟩
    · cases h
  | .rngd a b, S, X, e, hX, h => by
    unfold chkE at h
    split at h
    · obtain ⟨h, h5⟩ := and3 h
      obtain ⟨h, h4⟩ := and3 h
      obtain ⟨h, h3⟩ := and3 h
      obtain ⟨h, h2⟩ := and3 h
      obtain ⟨h0, h1⟩ := and3 h
      have h0 := of_decide_eq_true h0
      subst h0
      obtain ⟨g1, g2⟩ := hX.call h1
      have sa := (okE a hX (and3 h4).2).s (and3 h4).1
      have sb := (okE b hX (and3 h5).2).s (and3 h5).1
      exact ⟨(fun z => by cases z), (fun z => by cases z), fun tg _ => piRd (A := a) (B := b) g1 g2 sa sb (nstar h2) (nstar h3), fun _ _ z => by cases z⟩
    · cases h
  | .enu a, S, X, e, hX, h => by
    unfold chkE at h
    split at h
    · obtain ⟨h, h3⟩ := and3 h
      obtain ⟨h, h2⟩ := and3 h
      obtain ⟨h0, h1⟩ := and3 h
      have h0 := of_decide_eq_true h0
      subst h0
      obtain ⟨g1, g2⟩ := hX.call h1
      have sa := (okE a hX (and3 h3).2).s (and3 h3).1
      refine ⟨(fun z => by cases z), (fun z => by cases z), fun tg ht => ?_, fun _ _ z => by cases z⟩
      have ht := ht rfl
      cases tg <;> first | (cases ht; done) | exact piEnu (A := a) g1 g2 sa (and3 h3).1 (nstar h2)
    · cases h
  | .zip a b, S, X, e, hX, h => by
    unfold chkE at h
    split at h
    · obtain ⟨h, h5⟩ := and3 h
      obtain ⟨h, h4⟩ := and3 h
      obtain ⟨h, h3⟩ := and3 h
      obtain ⟨h, h2⟩ := and3 h
      obtain ⟨h0, h1⟩ := and3 h
      have h0 := of_decide_eq_true h0
      subst h0
      obtain ⟨g1, g2⟩ := hX.call h1
      have sa := (okE a hX (and3 h4).2).s (and3 h4).1
      have sb := (okE b hX (and3 h5).2).s (and3 h5).1
      refine ⟨(fun z => by cases z), (fun z => by cases z), fun tg ht => ?_, fun _ _ z => by cases z⟩
      have ht := ht rfl
      cases tg <;> first | (cases ht; done) | exact piZip (A := a) (B := b) g1 g2 sa sb (and3 h4).1 (and3 h5).1 (nstar h2) (nstar h3)
    · cases h
  | .vm m a cs, S, X, e, hX, h => by
    unfold chkE at h
    split at h
    · rename_i o x apos es cpos
      obtain ⟨h, h4⟩ := and3 h
      obtain ⟨h, h3⟩ := and3 h
      obtain ⟨h, h2⟩ := and3 h
      obtain ⟨h0, h1⟩ := and3 h
      have h0 := of_decide_eq_true h0
      subst h0
      have sa := (okE a hX (and3 h3).2).s (and3 h3).1
      have hb : attributeBase o m.nm X.env (eval o X.env) = eval o X.env := by
        cases o <;> first | rfl | (cases h1; done)
      split at h4
      · cases m <;> first | (cases h4; done) | skip
        exact .val plCall rfl (Snd.mk1 (calm1' (pVm0 F.slot_str_lower F.type_str_lower sa hb h2)) (fun _ => rfl) (fun _ => rfl) fun _ z => by cases z) rfl
      · rename_i b y
        obtain ⟨h4, h5⟩ := and3 h4
        obtain ⟨h4, h6⟩ := and3 h4
        have sb := (okE b hX (and3 h5).2).s (and3 h5).1
        have key : ∀ (sl : Slot "str" m.nm m.idS) (ht : typeOf (.builtin m.idS) = pure (.type "method_descriptor")), Good Γ X (.vm m a [b]) (.Call (.Attribute o m.nm apos) [y] [] cpos) := fun sl ht =>
          .val plCall rfl (Snd.mk1 (calm2' (pVm1 sl ht sa sb (nstar h6) hb h2)) (fun _ => rfl) (fun _ => rfl) fun _ z => by cases z) rfl
        cases m <;> first | (cases h4; done) | skip
        · exact key F.slot_str_join F.type_str_join
        · exact key F.slot_str_split F.type_str_split
      · cases h4
    · cases h
  | .vi m i b, S, X, e, hX, h => by
    unfold chkE at h
    split at h
    · rename_i z zp x apos y cpos
      obtain ⟨h, h5⟩ := and3 h
      obtain ⟨h, h4⟩ := and3 h
      obtain ⟨h, h3⟩ := and3 h
      obtain ⟨h, h2⟩ := and3 h
      obtain ⟨h0, h1⟩ := and3 h
      have h0 := of_decide_eq_true h0
      subst h0
      have sb := (okE b hX (and3 h5).2).s (and3 h5).1
      obtain ⟨k1, k2, k3, k4⟩ := hX.var h1
      have key : ∀ (sl : Slot "list" m.nm m.idL) (ht : typeOf (.builtin m.idL) = pure (.type "method_descriptor")), Good Γ X (.vi m i b) (.Call (.Attribute (.Name z zp) m.nm apos) [y] [] cpos) := fun sl ht =>
        .val plCall rfl (Snd.mk1 (pVi (B := b) sl ht (pe_var k1 k2 k3 k4) sb (nstar h4) rfl h2) (fun _ => rfl) (fun _ => rfl) fun _ z => by cases z) rfl
      cases m <;> first | (cases h3; done) | skip
      · exact key F.slot_list_index F.type_list_index
      · exact key F.slot_list_count F.type_list_count
    · cases h
  | .rev a, S, X, e, hX, h => by
    unfold chkE at h
    split at h
    · exact .val plSub rfl (Snd.mk1 (peRev (A := a) ((okE a hX (and3 h).2).s (and3 h).1)) (fun _ => rfl) (fun _ => rfl) fun _ z => by cases z) rfl
    · cases h
  | .lrng1 a, S, X, e, hX, h => by
    unfold chkE at h
    split at h
    · obtain ⟨h, h5⟩ := and3 h
      obtain ⟨h, h4⟩ := and3 h
      obtain ⟨h, h3⟩ := and3 h
      obtain ⟨h, h2⟩ := and3 h
      obtain ⟨h0, h1⟩ := and3 h
      have h0 := of_decide_eq_true h0
      have h2 := of_decide_eq_true h2
      subst h0 h2
      obtain ⟨g1, g2⟩ := hX.call h1
      obtain ⟨g3, g4⟩ := hX.call h3
      exact .val plCall rfl (Snd.mk1 (peLr1 (A := a) hX.calm g1 g2 g3 g4 ((okE a hX (and3 h5).2).s (and3 h5).1) (nstar h4)) (fun _ => rfl) (fun _ => rfl) fun _ z => by cases z) rfl
    · cases h
  | .lrng2 a b, S, X, e, hX, h => by
    unfold chkE at h
    split at h
    · obtain ⟨h, h7⟩ := and3 h
      obtain ⟨h, h6⟩ := and3 h
      obtain ⟨h, h5⟩ := and3 h
      obtain ⟨h, h4⟩ := and3 h
      obtain ⟨h, h3⟩ := and3 h
      obtain ⟨h, h2⟩ := and3 h
      obtain ⟨h0, h1⟩ := and3 h
      have h0 := of_decide_eq_true h0
      have h2 := of_decide_eq_true h2
      subst h0 h2
      obtain ⟨g1, g2⟩ := hX.call h1
      obtain ⟨g3, g4⟩ := hX.call h3
      exact .val plCall rfl (Snd.mk1 (peLr2 (A := a) (B := b) hX.calm g1 g2 g3 g4 ((okE a hX (and3 h6).2).s (and3 h6).1) ((okE b hX (and3 h7).2).s (and3 h7).1) (nstar h4) (nstar h5)) (fun _ => rfl) (fun _ => rfl) fun _ z => by cases z) rfl
    · cases h
  | .dcomp vs tg it c k y, S, X, e, hX, h => by
    unfold chkE at h
    split at h
    · rename_i kx vx tgE iter ifs scope _
      obtain ⟨h, h8⟩ := and3 h
      obtain ⟨h, h7⟩ := and3 h
      obtain ⟨h, h6⟩ := and3 h
      obtain ⟨h, h5⟩ := and3 h
      obtain ⟨h, h4⟩ := and3 h
      obtain ⟨h, h3⟩ := and3 h
      obtain ⟨h, h2⟩ := and3 h
      obtain ⟨h0, h1⟩ := and3 h
      have bk := blkOk_by h0
      have inn := fun s H C cl fp => hX.blk bk.kind s H C cl fp
      have gy := fun s H C cl fp => okE y (inn s H C cl fp) (and3 h7).2
      have gk := fun s H C cl fp => okE k (inn s H C cl fp) (and3 h8).2
      have hc : ∀ (s : Shared) (H : Hp) (C : Addr) (cl : List (Str × Addr)) (fp : List Addr), PTs (X.blk s H scope (compEnvC scope cl C X.env) fp) ifs (tT X.K E0 c.calm (tcN c (ev Γ c).t)) := by
        intro s H C cl fp
        split at h6
        · have e := nopOf h6
          subst e
          exact ptsNil
        · obtain ⟨h6, h9⟩ := and3 h6
          obtain ⟨h6, h8⟩ := and3 h6
          rw [tcN_of (by simpa using h6)]
          exact pts_one ((okE c (inn s H C cl fp) (and3 h9).2).t (and3 h9).1 h8)
        · cases h6
      have ht : needT it = true → isTupE tgE = true := fun z => by rw [z] at h3; simpa using h3
      exact .val plDc rfl (Snd.mk1 (peDc hX.calm (by rw [hX.N]; exact hX.nd) ((okE it hX h5).i tgE ht) (by rw [hX.N]; exact blk_of bk hX.sc.symm) own_map (fun i hi => by simpa using List.all_eq_true.mp h1 i hi) (fun s H C cl fp => (inn s H C cl fp).tg h2) hc
        (fun s H C cl fp => ((gk s H C cl fp).s (and3 h8).1).pe) (fun s H C cl fp => ((gy s H C cl fp).s (and3 h7).1).pe) (notSet (by simpa using h4) X.env)) (fun _ => rfl) (fun _ => rfl) fun _ z => by cases z) rfl
    · cases h
  | .ddisp ks vs, S, X, e, hX, h => by
    unfold chkE at h
    split at h
    · rename_i kes ves _
      split at h
      · rename_i ke hke
        obtain ⟨h, h5⟩ := and3 h
        obtain ⟨h, h4⟩ := and3 h
        obtain ⟨h, h3⟩ := and3 h
        obtain ⟨h1, h2⟩ := and3 h
        have e := someAll_of hke
        subst e
        exact .val plDict rfl (Snd.mk1 (peDisp (okL ks hX h4) (okL vs hX h5) (of_decide_eq_true h2) (by rintro rfl; cases h1) (of_decide_eq_true h3)) (fun _ => rfl) (fun _ => rfl) fun _ z => by cases z) rfl
      · cases h
    · cases h
theorem okL {Γ : Glob} : ∀ (cs : List CE) {S : Sx} {X : Cx} {es : List Expr}, Ctx Γ S X → chkL S cs es = true → Snds X E0 es cs (evL Γ cs)
  | [], S, X, es, hX, h => by
    unfold chkL at h
    cases es with
    | nil => exact .nil
    | cons _ _ => cases h
  | c :: cs, S, X, es, hX, h => by
    unfold chkL at h
    split at h
    · obtain ⟨h, h2⟩ := and3 h
      obtain ⟨h0, h1⟩ := and3 h
      exact .cons ((okE c hX (and3 h1).2).s (and3 h1).1) (nstar h0) (okL cs hX h2)
    · cases h
theorem okA {Γ : Glob} : ∀ (cs : List CE) {S : Sx} {X : Cx} {es : List Expr}, Ctx Γ S X → chkA S cs es = true → SndAs X E0 es (evA Γ cs)
  | [], S, X, es, hX, h => by
    unfold chkA at h
    cases es with
    | nil => exact .nil
    | cons _ _ => cases h
  | c :: cs, S, X, es, hX, h => by
    unfold chkA at h
    split at h
    · obtain ⟨h, h2⟩ := and3 h
      obtain ⟨h0, h1⟩ := and3 h
      refine .cons ?_ (nstar h0) (okA cs hX h2)
      have gc := fun {e : Expr} (z : chkE S c e = true) => okE c hX z
      split at h1
      · split at h1
        · obtain ⟨k1, k2, k3, k4⟩ := hX.var h1
          exact .bw (pe_var k1 k2 k3 k4)
        · cases h1
      · split at h1
        · obtain ⟨k1, k2, k3, k4⟩ := hX.var h1
          exact .io (pe_var k1 k2 k3 k4)
        · cases h1
      · rename_i n1 n2
        have s := (gc (and3 h1).2).s (and3 h1).1
        by_cases hw : ∃ a, c = .ow a
        · obtain ⟨a, rfl⟩ := hw
          exact .ow s
        · exact .vl n1 n2 (fun a z => hw ⟨a, z⟩) s
    · cases h
theorem okK {Γ : Glob} : ∀ (cs : List CE) {S : Sx} {X : Cx} {es : List Keyword}, Ctx Γ S X → chkK S cs es = true → SndKs X E0 es (evA Γ cs)
  | [], S, X, es, hX, h => by
    unfold chkK at h
    cases es with
    | nil => exact .nil
    | cons _ _ => cases h
  | c :: cs, S, X, es, hX, h => by
    unfold chkK at h
    split at h
    · rename_i e es
      obtain ⟨nm, e, kp⟩ := e
      obtain ⟨h1, h2⟩ := and3 h
      refine .cons ?_ (okK cs hX h2)
      have gc := fun {e : Expr} (z : chkE S c e = true) => okE c hX z
      dsimp only at h1
      split at h1
      · split at h1
        · obtain ⟨k1, k2, k3, k4⟩ := hX.var h1
          exact .bw (pe_var k1 k2 k3 k4)
        · cases h1
      · split at h1
        · obtain ⟨k1, k2, k3, k4⟩ := hX.var h1
          exact .io (pe_var k1 k2 k3 k4)
        · cases h1
      · rename_i n1 n2
        have s := (gc (and3 h1).2).s (and3 h1).1
        by_cases hw : ∃ a, c = .ow a
        · obtain ⟨a, rfl⟩ := hw
          exact .ow s
        · exact .vl n1 n2 (fun a z => hw ⟨a, z⟩) s
    · cases h
end
end Hc

set_option Elab.async false
set_option linter.all false
set_option maxRecDepth 100000
set_option maxHeartbeats 16000000
namespace Hc
open PySem PySem.Spec PyProof.Rows L2
def isCompE : Expr → Bool
  | .ListComp _ _ _ _ => true
  | .SetComp _ _ _ _ => true
  | .DictComp _ _ _ _ _ => true
  | _ => false
def isCompC : CE → Bool
  | .comp _ _ _ _ _ => true
  | .fzE (.comp _ _ _ _ _) => true
  | _ => false
theorem isCompC_of {e : CE} (h : isCompC e = true) : (∃ vs tg it c y, e = .comp vs tg it c y) ∨ ∃ vs tg it c y, e = .fzE (.comp vs tg it c y) := by
  unfold isCompC at h
  split at h
  · exact .inl ⟨_, _, _, _, _, rfl⟩
  · exact .inr ⟨_, _, _, _, _, rfl⟩
  · cases h
def isDcC : CE → Bool
  | .dcomp _ _ _ _ _ _ => true
  | _ => false
def swB (S : Sx) (x : Str) (px : Pos) (scope : Scope) (pos : Pos) : Bool := (S.sc.lookup x == some .local) && px.line == pos.line && !(scope.names.any fun (n, k) => n == x && (k == .local || k == .cell))
def compSet (S : Sx) (x : Str) (px : Pos) (line : Nat) (v : Expr) : Bool := match v with
  | .ListComp _ _ scope pos => swB S x px scope pos
  | _ => false
def parB (S : Sx) (x y : Str) (px py : Pos) (a b : Expr) : Bool := decide (S.sc.lookup x = some .local) && decide (S.sc.lookup y = some .local) && (py.line == px.line) && decide (x ≠ y) && notStar a && notStar b && !([a, b].all (foldedForSure 8)) && !([a, b].all (constantsAlone 8))
def parN (S : Sx) (i j : Nat) (x y : Str) (a b : Expr) : Bool := (decide (S.sc.lookup x ≠ some .local) || decide (S.sc.lookup y ≠ some .local) || [a, b].all (foldedForSure 8)) && S.tgt i x && S.tgt j y && notStar a && notStar b
def augS (S : Sx) : CE → CE → CE → Expr → Expr → Expr → Bool
  | .nm i, .lit (.int k), .bin .add (.sub (.nm i2) (.lit (.int k2))) (.lit (.int m)), o, b, v => decide (i = i2) && decide (k = k2) && decide (0 ≤ k) && decide (k < 2 ^ 62) && plainIxB b && chkE S (.nm i) o && chkE S (.lit (.int k)) b && chkE S (.lit (.int m)) v
  | _, _, _, _, _, _ => false
theorem augS_of {S : Sx} {r k e : CE} {o b v : Expr} (h : augS S r k e o b v = true) : ∃ (i : Nat) (n : Nat) (m : Int), r = .nm i ∧ k = .lit (.int (n : Int)) ∧ e = .bin .add (.sub (.nm i) (.lit (.int (n : Int)))) (.lit (.int m)) ∧ n < 2 ^ 62 ∧ plainIxB b = true ∧ chkE S (.nm i) o = true ∧ chkE S (.lit (.int (n : Int))) b = true ∧ chkE S (.lit (.int m)) v = true := by
  unfold augS at h
  split at h
  · rename_i i k i2 k2 m
    obtain ⟨h, h8⟩ := and3 h
    obtain ⟨h, h7⟩ := and3 h
    obtain ⟨h, h6⟩ := and3 h
    obtain ⟨h, h5⟩ := and3 h
    obtain ⟨h, h4⟩ := and3 h
    obtain ⟨h, h3⟩ := and3 h
    obtain ⟨h1, h2⟩ := and3 h
    have e1 := of_decide_eq_true h1
    have e2 := of_decide_eq_true h2
    have e3 := of_decide_eq_true h3
    have e4 := of_decide_eq_true h4
    subst e1; subst e2
    obtain ⟨n, rfl⟩ := Int.eq_ofNat_of_zero_le e3
    exact ⟨i, n, m, rfl, rfl, rfl, by omega, h5, h6, h7, h8⟩
  · cases h
mutual
def chkS (S : Sx) : CS → Stmt → Bool
  | .set i e, s => (match s with
    | .Assign [.Name x px] v pos => S.tgt i x && (plainC e && chkE S e v) && (match v with
      | .ListComp _ _ _ _ => isCompC e
      | .DictComp _ _ _ _ _ => isDcC e
      | _ => !isCompE v)
    | _ => false)
  | .unp tg e, s => (match s with
    | .Assign [t] v _ => isTupE t && S.tgS tg t && (plainC e && chkE S e v) && !isTupE v
    | _ => false)
  | .par i j a b, s => (match s with
    | .Assign [.Tuple [.Name x px, .Name y py] _ _] (.Tuple [u, w] _ _) _ => decide (S.N[i]? = some x) && decide (S.N[j]? = some y) && decide (i ≠ j) && (parB S x y px py u w || parN S i j x y u w) && (plainC a && chkE S a u) && (plainC b && chkE S b w)
    | _ => false)
  | .setsub r k e, s => (match s with
    | .Assign [.Subscript o b _] v _ => plainIxB b && (plainC r && chkE S r o) && (plainC k && chkE S k b) && (plainC e && chkE S e v)
    | .AugAssign (.Subscript o b _) .Add v _ => augS S r k e o b v
    | _ => false)
  | .expr e, s => (match s with
    | .Expr v _ => !isCompE v && (plainC e && chkE S e v)
    | _ => false)
  | .ret e, s => (match s with
    | .Return (some v) _ => plainC e && chkE S e v
    | _ => false)
  | .retN, s => (match s with
    | .Return none _ => true
    | _ => false)
  | .ifS c a b, s => (match s with
    | .If t x y _ => tstC c && (plainC c && chkE S c t) && chkSs S a x && chkSs S b y
    | _ => false)
  | .forS tg it b, s => (match s with
    | .For t v body [] _ => S.tgS tg t && (!needT it || isTupE t) && !isSetE v && chkE S it v && chkSs S b body
    | _ => false)
  | .brk, s => (match s with
    | .Break _ => true
    | _ => false)
  | .cont, s => (match s with
    | .Continue _ => true
    | _ => false)
  | .pass, s => (match s with
    | .Pass _ => true
    | .Expr (.Constant (.str _) _ _) _ => true
    | _ => false)
  | .never, _ => true
  | .whileS c b, s => (match s with
    | .While t x [] _ => tstC c && (plainC c && chkE S c t) && chkSs S b x
    | _ => false)
  | .aug i o e, s => (match s with
    | .AugAssign (.Name x _) op v _ => S.tgt i x && opIs o op && (plainC e && chkE S e v)
    | _ => false)
  | .dset i k e, s => (match s with
    | .Assign [.Subscript (.Name x _) b _] v _ => S.var i x && (plainC k && chkE S k b) && (plainC e && chkE S e v) && !isCompE v
    | _ => false)
def chkSs (S : Sx) : List CS → List Stmt → Bool
  | [], ss => ss.isEmpty
  | c :: cs, ss => (match ss with
    | s :: ss => chkS S c s && chkSs S cs ss
    | _ => false)
end
structure CtxS (Γ : Glob) (S : Sx) (X : Cx) : Prop extends Ctx Γ S X where
  own : PassesOwn (model X.prog X.w) X.A X.env X.xe
section
variable {Γ : Glob} {S : Sx} {X : Cx} {x : Str} {i : Nat} {pos p p2 : Pos} {a b e : Expr}
theorem sw_none {v : Expr} (h : isCompE v = false) (t : Option Expr) (l : Nat) (env : Env) : swapsWith v t l env = pure false := by
  cases v <;> first | rfl | cases h
theorem sw_sub {o b : Expr} {p : Pos} (v : Expr) (l : Nat) (env : Env) : swapsWith v (some (.Subscript o b p)) l env = pure false := by
  cases v <;> rfl
theorem sw_tup {o : List Expr} {k : Nat} {p : Pos} (v : Expr) (l : Nat) (env : Env) : swapsWith v (some (.Tuple o k p)) l env = pure false := by
  cases v <;> rfl
theorem st_sub {o b : Expr} {p : Pos} (v : Expr) (env : Env) : swappedStores [.Subscript o b p] v env = pure none := by
  cases v <;> rfl
theorem st_tup {t v : Expr} (h : isTupE v = false) (env : Env) : swappedStores [t] v env = pure none := by
  cases v <;> first | (cases t <;> rfl; done) | cases h
theorem Ctx.block (h : Ctx Γ S X) : X.env.blockKind = .function := by
  unfold Env.blockKind
  rw [h.kind]
  rfl
theorem Ctx.kindOf (h : Ctx Γ S X) (x : Str) : X.env.kindOf x = S.sc.lookup x := by rw [← h.sc]; rfl
theorem sw_comp (h : Ctx Γ S X) {elt : Expr} {gs : List Comprehension} {scope : Scope} {cpos px : Pos} (l : Nat) : swapsWith (.ListComp elt gs scope cpos) (some (.Name x px)) l X.env = pure (swB S x px scope cpos) := by
  unfold swapsWith swB
  simp only [h.block, h.kindOf, Expr.pos]
  rfl
theorem st_par (h : Ctx Γ S X) {y : Str} {px py pt pt2 : Pos} {k k2 : Nat} (hp : parB S x y px py a b = true) : swappedStores [.Tuple [.Name x px, .Name y py] k pt] (.Tuple [a, b] k2 pt2) X.env = pure (some [x, y]) := by
  unfold parB at hp
  obtain ⟨hp, h8⟩ := and3 hp
  obtain ⟨hp, h7⟩ := and3 hp
  obtain ⟨hp, h6⟩ := and3 hp
  obtain ⟨hp, h5⟩ := and3 hp
  obtain ⟨hp, h4⟩ := and3 hp
  obtain ⟨hp, h3⟩ := and3 hp
  obtain ⟨h1, h2⟩ := and3 hp
  have h1 := of_decide_eq_true h1
  have h2 := of_decide_eq_true h2
  have h3 := eq_of_beq h3
  have h4 := of_decide_eq_true h4
  have k1 : X.env.kindOf x = some .local := (h.kindOf x).trans h1
  have k2 : X.env.kindOf y = some .local := (h.kindOf y).trans h2
  have h7 : ([a, b].all (foldedForSure 8)) = false := by
    cases z : [a, b].all (foldedForSure 8) with
    | true => rw [z] at h7; cases h7
    | false => rfl
  have h8 : ([a, b].all (constantsAlone 8)) = false := by
    cases z : [a, b].all (constantsAlone 8) with
    | true => rw [z] at h8; cases h8
    | false => rfl
  unfold swappedStores
  dsimp only [List.length_cons, List.length_nil, List.head?_cons, Option.map_some, Option.getD_some, Expr.pos]
  rw [h.block]
  rw [if_neg (by decide)]
  rw [if_neg (by
    intro z
    rw [List.any_cons, List.any_cons, List.any_nil, Bool.or_false, Bool.or_eq_true] at z
    rcases z with z | z
    · cases a <;> first | (cases z; done) | (cases h5; done)
    · cases b <;> first | (cases z; done) | (cases h6; done))]
  have ne : (y == x) = false := by simpa using Ne.symm h4
  simp only [List.filterMap_cons, List.filterMap_nil, k1, k2, h3, beq_self_eq_true, Bool.and_self, if_true, List.length_cons, List.length_nil, h7, h8]
  have ed : [x, y].eraseDups.length = 2 := by
    simp [List.eraseDups_cons, List.filter_cons, ne]
  rw [ed]
  rfl
theorem st_parN (h : Ctx Γ S X) {i j : Nat} {y : Str} {px py pt pt2 : Pos} {k k2 : Nat} (hp : parN S i j x y a b = true) : swappedStores [.Tuple [.Name x px, .Name y py] k pt] (.Tuple [a, b] k2 pt2) X.env = pure none := by
  unfold parN at hp
  obtain ⟨hp, h6⟩ := and3 hp
  obtain ⟨hp, h5⟩ := and3 hp
  obtain ⟨hp, _⟩ := and3 hp
  obtain ⟨hp, _⟩ := and3 hp
  unfold swappedStores
  dsimp only [List.length_cons, List.length_nil, List.head?_cons, Option.map_some, Option.getD_some, Expr.pos]
  rw [h.block]
  rw [if_neg (by decide)]
  rw [if_neg (by
    intro z
    rw [List.any_cons, List.any_cons, List.any_nil, Bool.or_false, Bool.or_eq_true] at z
    rcases z with z | z
    · cases a <;> first | (cases z; done) | (cases h5; done)
    · cases b <;> first | (cases z; done) | (cases h6; done))]
  have hx : ∀ z, (X.env.kindOf z == some NameKind.local) = decide (S.sc.lookup z = some .local) := fun z => by
    rw [h.kindOf]
    by_cases e : S.sc.lookup z = some .local
    · simp [e]
    · simp [e]
  simp only [List.filterMap_cons, List.filterMap_nil, hx]
  rcases Bool.or_eq_true_iff.mp hp with q | q
  · rcases Bool.or_eq_true_iff.mp q with q | q
    · have q := of_decide_eq_true q
      simp only [q, decide_false, Bool.false_and, Bool.false_eq_true, if_false]
      split <;> rfl
    · have q := of_decide_eq_true q
      simp only [q, decide_false, Bool.false_and, Bool.false_eq_true, if_false]
      split <;> rfl
  · rw [q, if_pos rfl]
    exact ite_self _
end
theorem setComp {Γ : Glob} {S : Sx} {X : Cx} {x : Str} {i : Nat} {px pos cpos : Pos} {vs : List Nat} {tg : Tg} {it c y : CE} {elt : Expr} {gs : List Comprehension} {scope : Scope} (hX : Ctx Γ S X) (h : chkE S (.comp vs tg it c y) (.ListComp elt gs scope cpos) = true) (nd : X.N.Nodup) (eN : X.N[i]? = some x) (hl : X.env.scope.names.lookup x = some .local)
    (hw : swapsWith (.ListComp elt gs scope cpos) (some (.Name x px)) pos.line X.env = pure true) : PS X (.Assign [.Name x px] (.ListComp elt gs scope cpos) pos) (tS X.K [i] (exec Γ (.set i (.comp vs tg it c y)))) := by
  unfold chkE at h
  split at h
  · rename_i heq
    cases heq
    rename_i tgE iter ifs
    obtain ⟨h, h7⟩ := and3 h
    obtain ⟨h, h6⟩ := and3 h
    obtain ⟨h, h5⟩ := and3 h
    obtain ⟨h, h4⟩ := and3 h
    obtain ⟨h, h3⟩ := and3 h
    obtain ⟨h, h2⟩ := and3 h
    obtain ⟨h0, h1⟩ := and3 h
    have bk := blkOk_by h0
    have inn := fun s H C cl fp => hX.blk bk.kind s H C cl fp
    have gy := fun s H C cl fp => okE y (inn s H C cl fp) (and3 h7).2
    have hc : ∀ (s : Shared) (H : Hp) (C : Addr) (cl : List (Str × Addr)) (fp : List Addr), PTs (X.blk s H scope (compEnvC scope cl C X.env) fp) ifs (tT X.K E0 c.calm (tcN c (ev Γ c).t)) := by
      intro s H C cl fp
      split at h6
      · have e := nopOf h6
        subst e
        exact ptsNil
      · obtain ⟨h6, h9⟩ := and3 h6
        obtain ⟨h6, h8⟩ := and3 h6
        rw [tcN_of (by simpa using h6)]
        exact pts_one ((okE c (inn s H C cl fp) (and3 h9).2).t (and3 h9).1 h8)
      · cases h6
    have hg' : ∀ (s : Shared) (H : Hp) (C : Addr) (cl : List (Str × Addr)) (fp : List Addr), PG (X.blk s H scope (compEnvC scope cl C X.env) fp) tgE (fun v σ H Q => KOK X.K H → gT X.K tg v σ H Q) := fun s H C cl fp => pg_kok ((inn s H C cl fp).tg h2)
    have he : ∀ (s : Shared) (H : Hp) (C : Addr) (cl : List (Str × Addr)) (fp : List Addr), PE (X.blk s H scope (compEnvC scope cl C X.env) fp) elt (tE X.K E0 y.calm (ev Γ y).e) := fun s H C cl fp => ((gy s H C cl fp).s (and3 h7).1).pe
    have hp := ps_setLc hX.calm nd eN hl hw ((okE it hX h5).i tgE fun z => by rw [z] at h3; simpa using h3) (by rw [hX.N]; exact blk_of bk hX.sc.symm) hg' hc he (notSet (by simpa using h4) X.env)
    rw [own_map] at hp
    exact psStore hp fun σ H Q z => lc_read (fun i hi => by simpa using List.all_eq_true.mp h1 i hi) z
  · cases h
theorem sw_dc {Γ : Glob} {S : Sx} {X : Cx} {x : Str} (h : Ctx Γ S X) {kx vx : Expr} {gs : List Comprehension} {scope : Scope} {cpos px : Pos} (l : Nat) : swapsWith (.DictComp kx vx gs scope cpos) (some (.Name x px)) l X.env = pure (swB S x px scope cpos) := by
  unfold swapsWith swB
  simp only [h.block, h.kindOf, Expr.pos]
  rfl
section
variable {X : Cx}
theorem ps_setDc {i : Nat} {y : Str} {py : Pos} {kx vx tg iter : Expr} {ifs : List Expr} {scope : Scope} {own : List (Str × Nat)} {pos spos : Pos} {wi : TI} {g : TG} {tt : TT} {tk tv : TE} (hc : X.calm = true) (hN : X.N.Nodup) (hy : X.N[i]? = some y) (hyl : X.env.scope.names.lookup y = some .local)
    (hsw : swapsWith (.DictComp kx vx [⟨tg, iter, ifs, 0⟩] scope pos) (some (.Name y py)) spos.line X.env = pure true) (hi : PI X tg iter wi) (ok : BlkOk X.N X.env.scope scope own)
    (hg : ∀ (s : Shared) (H : Hp) (C : Addr) (cl : List (Str × Addr)) (fp : List Addr), PG (X.blk s H scope (compEnvC scope cl C X.env) fp) tg g) (ht : ∀ (s : Shared) (H : Hp) (C : Addr) (cl : List (Str × Addr)) (fp : List Addr), PTs (X.blk s H scope (compEnvC scope cl C X.env) fp) ifs tt)
    (hk : ∀ (s : Shared) (H : Hp) (C : Addr) (cl : List (Str × Addr)) (fp : List Addr), PE (X.blk s H scope (compEnvC scope cl C X.env) fp) kx tk)
    (he : ∀ (s : Shared) (H : Hp) (C : Addr) (cl : List (Str × Addr)) (fp : List Addr), PE (X.blk s H scope (compEnvC scope cl C X.env) fp) vx tv) (hs : ∀ x, foldedSetIterable iter X.env x = pure x) :
    PS X (.Assign [.Name y py] (.DictComp kx vx [⟨tg, iter, ifs, 0⟩] scope pos) spos) (tAsg (tDc wi g tt tk tv (own.map (·.2))) (gName i)) := by
  refine ⟨fun pins s σ H D I h => ?_⟩
  rw [exec_Assign_Name_used _ _ _ _ hsw]
  refine wpAny_bind (wpAny_standAt (wpAny_bind ?_))
  show wpAny _ X.A (do let _ ← comprehension (.DictComp kx vx [⟨tg, iter, ifs, 0⟩] scope pos) scope X.env (firstIterPos [⟨tg, iter, ifs, 0⟩] pos) newDict false (eval iter X.env) (some (assign (.Name y py) X.env))) _ _ s
  have h : tDc wi g tt tk tv (own.map (·.2)) σ H (fun x H1 => gName i x σ H1 D.nx) := h
  refine wpAny_bind (thn (dc_core (Qf := fun _ s' => SP X pins D .next s') hc hN I hi ok hg ht hk he hs h fun L C s' m H' I' q hn f => ?_) fun _ s' hq => wpAny_pure (wpAny_pure hq))
  show wpAny _ _ (assign (.Name y py) X.env (.ref L)) _ _ _
  refine wpAny_assign_Name (store_ok2 (v := V.ref L) I' hN hy (.inl hyl) rfl (fun s2 I2 ⟨a, sb, ha⟩ => ?_) (.inr hyl))
  obtain ⟨f0, f1, f2, f3, f4, f5⟩ := f
  have haC : C ≠ a := by
    rcases ha with z | z
    · rw [z]; exact f1
    · exact fun e => f4 y a z e.symm
  refine ⟨m, hn.sameBut sb haC, fun h3 sb3 => ?_⟩
  exact ⟨_, H', I2.turned (t' := s2.toks) (fun b o hb e => (sb3.2 b hb).trans e) f0 f1 f3 f4 f5, q⟩
end
theorem setDc {Γ : Glob} {S : Sx} {X : Cx} {x : Str} {i : Nat} {px pos cpos : Pos} {vs : List Nat} {tg : Tg} {it c k y : CE} {kx vx : Expr} {gs : List Comprehension} {scope : Scope} (hX : Ctx Γ S X) (h : chkE S (.dcomp vs tg it c k y) (.DictComp kx vx gs scope cpos) = true) (nd : X.N.Nodup) (eN : X.N[i]? = some x) (hl : X.env.scope.names.lookup x = some .local)
    (hw : swapsWith (.DictComp kx vx gs scope cpos) (some (.Name x px)) pos.line X.env = pure true) : PS X (.Assign [.Name x px] (.DictComp kx vx gs scope cpos) pos) (tS X.K [i] (exec Γ (.set i (.dcomp vs tg it c k y)))) := by
  unfold chkE at h
  split at h
  · rename_i heq
    cases heq
    rename_i tgE iter ifs
    obtain ⟨h, h8⟩ := and3 h
    obtain ⟨h, h7⟩ := and3 h
    obtain ⟨h, h6⟩ := and3 h
    obtain ⟨h, h5⟩ := and3 h
    obtain ⟨h, h4⟩ := and3 h
    obtain ⟨h, h3⟩ := and3 h
    obtain ⟨h, h2⟩ := and3 h
    obtain ⟨h0, h1⟩ := and3 h
    have bk := blkOk_by h0
    have inn := fun s H C cl fp => hX.blk bk.kind s H C cl fp
    have gy := fun s H C cl fp => okE y (inn s H C cl fp) (and3 h7).2
    have gk := fun s H C cl fp => okE k (inn s H C cl fp) (and3 h8).2
    have hc : ∀ (s : Shared) (H : Hp) (C : Addr) (cl : List (Str × Addr)) (fp : List Addr), PTs (X.blk s H scope (compEnvC scope cl C X.env) fp) ifs (tT X.K E0 c.calm (tcN c (ev Γ c).t)) := by
      intro s H C cl fp
      split at h6
      · have e := nopOf h6
        subst e
        exact ptsNil
      · obtain ⟨h6, h9⟩ := and3 h6
        obtain ⟨h6, h8⟩ := and3 h6
        rw [tcN_of (by simpa using h6)]
        exact pts_one ((okE c (inn s H C cl fp) (and3 h9).2).t (and3 h9).1 h8)
      · cases h6
    have hg' : ∀ (s : Shared) (H : Hp) (C : Addr) (cl : List (Str × Addr)) (fp : List Addr), PG (X.blk s H scope (compEnvC scope cl C X.env) fp) tgE (fun v σ H Q => KOK X.K H → gT X.K tg v σ H Q) := fun s H C cl fp => pg_kok ((inn s H C cl fp).tg h2)
    have he : ∀ (s : Shared) (H : Hp) (C : Addr) (cl : List (Str × Addr)) (fp : List Addr), PE (X.blk s H scope (compEnvC scope cl C X.env) fp) vx (tE X.K E0 y.calm (ev Γ y).e) := fun s H C cl fp => ((gy s H C cl fp).s (and3 h7).1).pe
    have hk : ∀ (s : Shared) (H : Hp) (C : Addr) (cl : List (Str × Addr)) (fp : List Addr), PE (X.blk s H scope (compEnvC scope cl C X.env) fp) kx (tE X.K E0 k.calm (ev Γ k).e) := fun s H C cl fp => ((gk s H C cl fp).s (and3 h8).1).pe
    have hp := ps_setDc hX.calm nd eN hl hw ((okE it hX h5).i tgE fun z => by rw [z] at h3; simpa using h3) (by rw [hX.N]; exact blk_of bk hX.sc.symm) hg' hc hk he (notSet (by simpa using h4) X.env)
    rw [own_map] at hp
    exact psStore hp fun σ H Q z => dc_read (fun i hi => by simpa using List.all_eq_true.mp h1 i hi) z
  · cases h
theorem setFz {Γ : Glob} {X : Cx} {i : Nat} {c : CE} {st : Stmt} (hp : PS X st (tS X.K [i] (exec Γ (.set i c)))) : PS X st (tS X.K [i] (exec Γ (.set i (.fzE c)))) := ⟨fun pins s σ H Ed I q => hp.run pins s σ H Ed I (by
  obtain ⟨W, env, g, P, q⟩ := q
  refine ⟨W, env, g, P, ?_⟩
  have q : PostS X.K [i] W H g σ ((cFz (ev Γ c).e env).bind fun d e => .ok .nx (e.set i (some d))) Ed := q
  show PostS X.K [i] W H g σ (((ev Γ c).e env).bind fun d e => .ok .nx (e.set i (some d))) Ed
  unfold cFz at q
  cases z : (ev Γ c).e env with
  | no => rw [z] at q; exact q
  | ex x e => rw [z] at q; exact q
  | ok d e =>
    rw [z] at q
    intro W' H' σ' g' t er hs
    by_cases hi : i < e.length
    · have P2 : Pre X.K W' H' (e.set i (some d)) σ' [] g' := ⟨er, by simpa using t.nd, by simpa using t.inW, t.wok⟩
      have lt : i < (e.set i (some d)).length := by simpa using hi
      obtain ⟨v, f, g2, h1, h2, h3, h4⟩ := P2.er.take (at_set hi (some d))
      have nd : (f ++ g2).Nodup := (h4.nodup_iff).mpr P2.base.nd
      let W2 : Wr := fun a => W' a ∧ a ∉ f
      have hz : VR X.K W2 H' d.fz v [] := VR.fzd P2.wok (fun a w => w.1) h2 fun a ha w => w.2 ha
      obtain ⟨g3, e3, p3⟩ := (ER.less (W' := W2) P2.wok (fun a w => w.1) h3).put (i := i) (by rw [at_set lt]) (by simpa using hi) h1 hz
      rw [List.set_set, List.set_set] at e3
      have p4 : g3.Perm g2 := by simpa using p3
      have sub : ∀ a ∈ g3, a ∈ g' := fun a ha => (h4.mem_iff).mp (List.mem_append_right _ ((p4.mem_iff).mp ha))
      have inw : ∀ a ∈ g3, W2 a := fun a ha => ⟨P2.gw a (sub a ha), fun hf => (List.nodup_append.mp nd).2.2 a hf a ((p4.mem_iff).mp ha) rfl⟩
      have t2 : Tr X.K false W' H' g' W2 H' g3 := Tr.let P2.wok (fun a w => w.1) (fun a w n => ⟨w, fun hf => n ((h4.mem_iff).mp (List.mem_append_left _ hf))⟩) sub inw ((p4.nodup_iff).mpr (List.nodup_append.mp nd).2.1)
      exact q W2 H' σ' g3 (t.trans t2) e3 hs
    · have e1 : ∀ o : Option D, e.set i o = e := fun o => List.set_eq_of_length_le (by omega)
      rw [e1] at er
      exact q W' H' σ' g' t (by rw [e1]; exact er) hs)⟩
mutual
theorem okS {Γ : Glob} : ∀ (c : CS) {S : Sx} {X : Cx} {s : Stmt}, CtxS Γ S X → chkS S c s = true → PS X s (tS X.K (asg c) (exec Γ c))
  | .set i e, S, X, s, hX, h => by
    unfold chkS at h
    split at h
    · rename_i x px v pos
      obtain ⟨h, h3⟩ := and3 h
      obtain ⟨h1, h2⟩ := and3 h
      have se := (okE e hX.toCtx (and3 h2).2).s (and3 h2).1
      obtain ⟨t1, t2⟩ := and3 h1
      have eN : X.N[i]? = some x := by rw [hX.N]; exact of_decide_eq_true t1
      have nd : X.N.Nodup := by rw [hX.N]; exact hX.nd
      have loc : L2.Loc X.env.scope x ∧ (X.fn x = true ∨ X.env.scope.names.lookup x = some .local) := by
        unfold L2.Loc
        rw [hX.sc]
        rcases Bool.or_eq_true_iff.mp t2 with q | q
        · exact ⟨.inl (of_decide_eq_true q), .inr (of_decide_eq_true q)⟩
        · exact ⟨.inr (of_decide_eq_true (and3 q).2), .inl (hX.fnx (and3 q).1)⟩
      have plain : swapsWith v (some (.Name x px)) pos.line X.env = pure false → PS X (.Assign [.Name x px] v pos) (tS X.K [i] (exec Γ (.set i e))) := fun hs => psStore (ps_set nd eN loc.1 se.pe hs loc.2) fun σ H Q z => by
        obtain ⟨W, env, g, P, z⟩ := z
        exact ⟨W, env, g, P, Post.mono z fun b H y _ => y⟩
      by_cases hv2 : ∃ kx vx gs scope cpos, v = .DictComp kx vx gs scope cpos
      · obtain ⟨kx, vx, gs, scope, cpos, rfl⟩ := hv2
        have h3 : isDcC e = true := h3
        cases hb : swB S x px scope cpos with
        | false => exact plain (by rw [sw_dc hX.toCtx, hb])
        | true =>
        have hw : swapsWith (.DictComp kx vx gs scope cpos) (some (.Name x px)) pos.line X.env = pure true := by rw [sw_dc hX.toCtx, hb]
        have loc2 : X.env.scope.names.lookup x = some .local := by
          rw [hX.sc]
          unfold swB at hb
          exact eq_of_beq (and3 (and3 hb).1).1
        cases e <;> first | (cases h3; done) | exact setDc hX.toCtx (and3 h2).2 nd eN loc2 hw
      by_cases hv : ∃ elt gs scope cpos, v = .ListComp elt gs scope cpos
      · obtain ⟨elt, gs, scope, cpos, rfl⟩ := hv
        cases hb : swB S x px scope cpos with
        | false => exact plain (by rw [sw_comp hX.toCtx, hb])
        | true =>
          have hw : swapsWith (.ListComp elt gs scope cpos) (some (.Name x px)) pos.line X.env = pure true := by rw [sw_comp hX.toCtx, hb]
          have loc2 : X.env.scope.names.lookup x = some .local := by
            rw [hX.sc]
            unfold swB at hb
            exact eq_of_beq (and3 (and3 hb).1).1
          have h3 : isCompC e = true := h3
          rcases isCompC_of h3 with ⟨_, _, _, _, _, rfl⟩ | ⟨_, _, _, _, _, rfl⟩
          · exact setComp hX.toCtx (and3 h2).2 nd eN loc2 hw
          · have h4 := (and3 h2).2
            unfold chkE at h4
            exact setFz (setComp hX.toCtx (and3 h4).2 nd eN loc2 hw)
      · have hn : isCompE v = false := by
          cases v <;> first | exact absurd ⟨_, _, _, _, rfl⟩ hv | exact absurd ⟨_, _, _, _, _, rfl⟩ hv2 | simpa using h3
        exact plain (sw_none hn _ _ _)
    · cases h
  | .unp tg e, S, X, s, hX, h => by
    unfold chkS at h
    split at h
    · rename_i t v pos
      obtain ⟨h, h4⟩ := and3 h
      obtain ⟨h, h3⟩ := and3 h
      obtain ⟨h1, h2⟩ := and3 h
      have se := (okE e hX.toCtx (and3 h3).2).s (and3 h3).1
      have hs : swapsWithSole [t] v pos.line X.env = pure false := by
        cases t with
        | Tuple es k p =>
          show swapsWith v (some (.Tuple es k p)) pos.line X.env = _
          unfold swapsWith
          cases v <;> rfl
        | _ => cases h1
      exact psUnp se.pe (hX.toCtx.tg h2) hs (st_tup (by simpa using h4) _) (by cases t <;> first | rfl | cases h1)
    · cases h
  | .par i j a b, S, X, s, hX, h => by
    unfold chkS at h
    split at h
    · rename_i x px y py k pt u w k2 pt2 pos
      obtain ⟨h, h6⟩ := and3 h
      obtain ⟨h, h5⟩ := and3 h
      obtain ⟨h, h4⟩ := and3 h
      obtain ⟨h, h3⟩ := and3 h
      obtain ⟨h1, h2⟩ := and3 h
      have sa := (okE a hX.toCtx (and3 h5).2).s (and3 h5).1
      have sb := (okE b hX.toCtx (and3 h6).2).s (and3 h6).1
      rcases Bool.or_eq_true_iff.mp h4 with h4 | h4
      case inr =>
        have hn := st_parN (px := px) (py := py) (k := k) (k2 := k2) (pt := pt) (pt2 := pt2) hX.toCtx h4
        unfold parN at h4
        obtain ⟨h4, n2⟩ := and3 h4
        obtain ⟨h4, n1⟩ := and3 h4
        obtain ⟨h4, t2⟩ := and3 h4
        obtain ⟨_, t1⟩ := and3 h4
        have st := peTup (k := k2) (pos := pt2) (.cons sa (nstar n1) (.cons sb (nstar n2) .nil))
        have hg : PG X (.Tuple [.Name x px, .Name y py] k pt) (gT X.K (.tup [i, j])) := hX.toCtx.tg (by
          show Sx.tgS.go S [i, j] [.Name x px, .Name y py] = true
          show (S.tgt i x && (S.tgt j y && true)) = true
          rw [t1, t2]; rfl)
        have hs : swapsWithSole [.Tuple [.Name x px, .Name y py] k pt] (.Tuple [u, w] k2 pt2) pos.line X.env = pure false := sw_none (v := .Tuple [u, w] k2 pt2) rfl (some (.Tuple [.Name x px, .Name y py] k pt)) pos.line X.env
        have hp := psUnp (pos := pos) st hg hs hn rfl
        have he : (fun env => (cTup [(ev Γ a).e, (ev Γ b).e] env).bind fun d e => match bindTg (.tup [i, j]) d e with
            | some e => R.ok Fw.nx e
            | none => .no) = exec Γ (.par i j a b) := by
          funext env
          conv => rhs; unfold exec
          unfold cTup seqE seqE seqE
          cases (ev Γ a).e env with
          | no => rfl
          | ex x e => rfl
          | ok d e =>
            dsimp only [Hc.R.bind_ok]
            cases (ev Γ b).e e with
            | no => rfl
            | ex x e => rfl
            | ok d2 e2 => rfl
        exact Eq.mp (congrArg (fun f => PS X (.Assign [.Tuple [.Name x px, .Name y py] k pt] (.Tuple [u, w] k2 pt2) pos) (tS X.K [i, j] f)) he) hp
      have hw := st_par (k := k) (k2 := k2) (pt := pt) (pt2 := pt2) hX.toCtx h4
      unfold parB at h4
      obtain ⟨h4, _⟩ := and3 h4
      obtain ⟨h4, _⟩ := and3 h4
      obtain ⟨h4, n2⟩ := and3 h4
      obtain ⟨h4, n1⟩ := and3 h4
      obtain ⟨h4, _⟩ := and3 h4
      obtain ⟨h4, _⟩ := and3 h4
      obtain ⟨l1, l2⟩ := and3 h4
      exact psPar sa.pe sb.pe (nstar n1) (nstar n2) hX.calm (by rw [hX.N]; exact hX.nd) (by rw [hX.N]; exact of_decide_eq_true h1) (by rw [hX.N]; exact of_decide_eq_true h2) (of_decide_eq_true h3) (by rw [hX.sc]; exact of_decide_eq_true l1) (by rw [hX.sc]; exact of_decide_eq_true l2) hw (sw_tup (o := [.Name x px, .Name y py]) (k := k) (p := pt) (.Tuple [u, w] k2 pt2) pos.line X.env)
    · cases h
  | .setsub r k e, S, X, s, hX, h => by
    unfold chkS at h
    split at h
    · rename_i o b p v pos
      obtain ⟨h, h3⟩ := and3 h
      obtain ⟨h, h2⟩ := and3 h
      obtain ⟨h0, h1⟩ := and3 h
      exact psSub ((okE r hX.toCtx (and3 h1).2).s (and3 h1).1) ((okE k hX.toCtx (and3 h2).2).s (and3 h2).1) ((okE e hX.toCtx (and3 h3).2).s (and3 h3).1).pe (sw_sub (o := o) (b := b) (p := p) v pos.line X.env) (st_sub (o := o) (b := b) (p := p) v X.env) rfl fun v => by cases b <;> first | rfl | (cases h0; done)
    · rename_i o b p v pos
      obtain ⟨i, n, m, rfl, rfl, rfl, hn, h0, h1, h2, h3⟩ := augS_of h
      exact psAugS hn (((okE (.nm i) hX.toCtx h1).s rfl).nm i rfl) ((okE (.lit (.int (n : Int))) hX.toCtx h2).s rfl).pk ((okE (.lit (.int m)) hX.toCtx h3).s rfl).pk fun ov iv new => by cases b <;> first | rfl | (cases h0; done)
    · cases h
  | .expr e, S, X, s, hX, h => by
    unfold chkS at h
    split at h
    · obtain ⟨h1, h2⟩ := and3 h
      exact psExpr ((okE e hX.toCtx (and3 h2).2).s (and3 h2).1).pe (sw_none (by simpa using h1) _ _ _)
    · cases h
  | .ret e, S, X, s, hX, h => by
    unfold chkS at h
    split at h
    · exact psRet ((okE e hX.toCtx (and3 h).2).s (and3 h).1).pe
    · cases h
  | .retN, S, X, s, hX, h => by
    unfold chkS at h
    split at h
    · exact psRetN
    · cases h
  | .ifS c a b, S, X, s, hX, h => by
    unfold chkS at h
    split at h
    · obtain ⟨h, h4⟩ := and3 h
      obtain ⟨h, h3⟩ := and3 h
      obtain ⟨h1, h2⟩ := and3 h
      exact psIf ((okE c hX.toCtx (and3 h2).2).t (and3 h2).1 h1) (okSs a hX h3) (okSs b hX h4)
    · cases h
  | .forS tg it b, S, X, s, hX, h => by
    unfold chkS at h
    split at h
    · rename_i t v body pos
      obtain ⟨h, h5⟩ := and3 h
      obtain ⟨h, h4⟩ := and3 h
      obtain ⟨h, h3⟩ := and3 h
      obtain ⟨h1, h2⟩ := and3 h
      exact psFor hX.own hX.calm ((okE it hX.toCtx h4).i t fun z => by rw [z] at h2; simpa using h2) (hX.toCtx.tg h1) (okSs b hX h5) (notSet (by simpa using h3) X.env)
    · cases h
  | .brk, S, X, s, hX, h => by
    unfold chkS at h
    split at h
    · exact psBrk
    · cases h
  | .cont, S, X, s, hX, h => by
    unfold chkS at h
    split at h
    · exact psCont
    · cases h
  | .pass, S, X, s, hX, h => by
    unfold chkS at h
    split at h
    · exact psPass
    · exact psDoc
    · cases h
  | .never, S, X, s, hX, h => psNever
  | .whileS c b, S, X, s, hX, h => by
    unfold chkS at h
    split at h
    · obtain ⟨h, h3⟩ := and3 h
      obtain ⟨h1, h2⟩ := and3 h
      exact psWhile hX.own ((okE c hX.toCtx (and3 h2).2).t (and3 h2).1 h1) (okSs b hX h3)
    · cases h
  | .aug i o e, S, X, s, hX, h => by
    unfold chkS at h
    split at h
    · rename_i x px op v pos
      obtain ⟨h, h3⟩ := and3 h
      obtain ⟨h1, h2⟩ := and3 h
      have h2 := of_decide_eq_true h2
      subst h2
      have se := (okE e hX.toCtx (and3 h3).2).s (and3 h3).1
      obtain ⟨t1, t2⟩ := and3 h1
      have eN : X.N[i]? = some x := by rw [hX.N]; exact of_decide_eq_true t1
      have nd : X.N.Nodup := by rw [hX.N]; exact hX.nd
      have loc : L2.Loc X.env.scope x ∧ (X.fn x = true ∨ X.env.scope.names.lookup x = some .local) := by
        unfold L2.Loc
        rw [hX.sc]
        rcases Bool.or_eq_true_iff.mp t2 with q | q
        · exact ⟨.inl (of_decide_eq_true q), .inr (of_decide_eq_true q)⟩
        · exact ⟨.inr (of_decide_eq_true (and3 q).2), .inl (hX.fnx (and3 q).1)⟩
      exact psAug nd eN loc.1 loc.2 se.pe
    · cases h
  | .dset i k e, S, X, s, hX, h => by
    unfold chkS at h
    split at h
    · obtain ⟨h, h4⟩ := and3 h
      obtain ⟨h, h3⟩ := and3 h
      obtain ⟨h1, h2⟩ := and3 h
      obtain ⟨v1, v2, v3, v4⟩ := hX.toCtx.var h1
      exact psDset hX.room ((okNm (E := E0) v1 v2 v3 v4).nm i rfl) ((okE k hX.toCtx (and3 h2).2).s (and3 h2).1) ((okE e hX.toCtx (and3 h3).2).s (and3 h3).1).pe (sw_none (by simpa using h4) _ _ _)
    · cases h
theorem okSs {Γ : Glob} : ∀ (cs : List CS) {S : Sx} {X : Cx} {ss : List Stmt}, CtxS Γ S X → chkSs S cs ss = true → PSs X ss (tS X.K (asgs cs) (execs Γ cs))
  | [], S, X, ss, hX, h => by
    unfold chkSs at h
    cases ss with
    | nil => exact psNil
    | cons _ _ => cases h
  | c :: cs, S, X, ss, hX, h => by
    unfold chkSs at h
    split at h
    · obtain ⟨h1, h2⟩ := and3 h
      exact psCons (okS c hX h1) (okSs cs hX h2)
    · cases h
end
end Hc

set_option Elab.async false
set_option linter.all false
set_option maxRecDepth 100000
set_option maxHeartbeats 16000000
namespace Hc
open PySem PySem.Spec PyProof.Rows L2
structure DefR where
  nm : Str
  ps : List Str
  N : List Str
  st : Stmt
  cb : List CS
noncomputable def globOf : List DefR → Glob
  | [] => fun _ _ => .no
  | d :: ds => fun f xs => if f = d.nm then runDef (globOf ds) d.N.length d.cb xs else globOf ds f xs
def sig (ds : List DefR) : List (Str × Nat) := ds.map fun d => (d.nm, d.ps.length)
def sxOf (gi : List (Str × D)) (fr : List Str) (kb : List (Str × List Str × List Nat)) (ds : List DefR) (d : DefR) : Sx := { N := d.N, sc := (defScope d.st).names, fnAll := true, k := ds.length, fs := sig ds, gi := gi, fr := fr, kb := kb }
def scB (d : DefR) : Bool := decide ((defScope d.st).kind = .function) && !(defScope d.st).isCoroutine && !(defScope d.st).isGenerator && decide d.N.Nodup && decide (d.N.take d.ps.length = d.ps) &&
  (d.ps.all fun x => decide ((defScope d.st).names.lookup x = some .local) || decide ((defScope d.st).names.lookup x = some .cell)) && ((defScope d.st).names.all fun y => decide (y.2 ≠ .free))
theorem scOk {d : DefR} (h : scB d = true) : FnScope d.N d.ps (defScope d.st) := by
  unfold scB at h
  obtain ⟨h, h7⟩ := and3 h
  obtain ⟨h, h6⟩ := and3 h
  obtain ⟨h, h5⟩ := and3 h
  obtain ⟨h, h4⟩ := and3 h
  obtain ⟨h, h3⟩ := and3 h
  obtain ⟨h1, h2⟩ := and3 h
  exact ⟨of_decide_eq_true h1, by simpa using h2, by simpa using h3, of_decide_eq_true h4, of_decide_eq_true h5, fun x hx => (Bool.or_eq_true_iff.mp (List.all_eq_true.mp h6 x hx)).imp of_decide_eq_true of_decide_eq_true, fun y hy => of_decide_eq_true (List.all_eq_true.mp h7 y hy)⟩
def isNever : List CS → Bool
  | [.never] => true
  | _ => false
def chkP (gi : List (Str × D)) (fr : List Str) (kb : List (Str × List Str × List Nat)) : List DefR → Bool
  | [] => true
  | d :: ds => scB d && (isNever d.cb || chkSs (sxOf gi fr kb ds d) d.cb (defBody d.st)) && (ds.all fun e => e.nm != d.nm || decide (e.ps.length = d.ps.length)) && chkP gi fr kb ds
theorem FnG.mono {P : Program} {w : World} {K : PySem.W.Frag} {mg : Str → Option Value} {base : Heap} {k j : Nat} {f : Addr} {fd : FuncData} {ps : List Str} {sem : List D → Rc} (F : FnG P w K mg base k f fd ps sem) (h : k ≤ j) : FnG P w K mg base j f fd ps sem :=
  ⟨fun A outer s H args us vs Q r g e b v z => F.go A outer s H args us vs Q (r.mono h) g e b v z⟩
def AtHand (kb : List (Str × List Str × List Nat)) (K : PySem.W.Frag) (mg : Str → Option Value) (d : DefR) : Prop := ∃ fd, FunD K d.nm d.nm (defArgs d.st) (defBody d.st) (defScope d.st) [] [] (He.ga K d.nm) fd ∧ mg d.nm = some (.ref (He.ga K d.nm)) ∧ Binds K fd d.ps [] ∧ ∀ ks perm, (d.nm, ks, perm) ∈ kb → KBind K fd d.ps ks perm
def Known (P : Program) (w : World) (K : PySem.W.Frag) (mg : Str → Option Value) (base : Heap) (kb : List (Str × List Str × List Nat)) (ds : List DefR) : Prop :=
  ∀ x n, (x, n) ∈ sig ds → ∃ f fd ps, ps.length = n ∧ FnG P w K mg base ds.length f fd ps (globOf ds x) ∧ mg x = some (.ref f) ∧ PySem.W.keepIn K (.ref f) = true ∧ Binds K fd ps [] ∧ ∀ ks perm, (x, ks, perm) ∈ kb → KBind K fd ps ks perm
section
variable {P : Program} {w : World} {K : PySem.W.Frag} {mg : Str → Option Value} {base : Heap} {gi : List (Str × D)} {fr : List Str} {kb : List (Str × List Str × List Nat)}
theorem glob_at {d : DefR} {ds : List DefR} : globOf (d :: ds) d.nm = runDef (globOf ds) d.N.length d.cb := by
  funext xs
  show (if d.nm = d.nm then _ else _) = _
  rw [if_pos rfl]
theorem glob_off {d : DefR} {ds : List DefR} {x : Str} (h : x ≠ d.nm) : globOf (d :: ds) x = globOf ds x := by
  funext xs
  show (if x = d.nm then _ else _) = _
  rw [if_neg h]
theorem defOk (hgi : ∀ x d, (x, d) ∈ gi → GiOk mg x d) (hfr : ∀ x ∈ fr, mg x = none) {d : DefR} {ds : List DefR} (ih : Known P w K mg base kb ds) (hc : chkP gi fr kb (d :: ds) = true) {f : Addr} {fd : FuncData} (F : FunD K d.nm d.nm (defArgs d.st) (defBody d.st) (defScope d.st) [] [] f fd) :
    FnG P w K mg base (ds.length + 1) f fd d.ps (globOf (d :: ds) d.nm) := by
  unfold chkP at hc
  obtain ⟨hc, h4⟩ := and3 hc
  obtain ⟨hc, h3⟩ := and3 hc
  obtain ⟨h1, h2⟩ := and3 hc
  rw [glob_at]
  obtain ⟨oc, od, dV, kV, doc, pm, an, cdv, ct, osl, rfl, lk, hcd, _, _⟩ := F.ex
  refine fnG_of lk hcd (scOk h1) fun A outer s H room gd => ?_
  rcases Bool.or_eq_true_iff.mp h2 with z | z
  · have e : d.cb = [.never] := by
      unfold isNever at z
      split at z
      · assumption
      · cases z
    rw [e]
    exact pss_imp pss_never fun D σ H ⟨W, env, g, P, q⟩ => q
  · exact okSs (Γ := globOf ds) d.cb (S := sxOf gi fr kb ds d) ⟨⟨rfl, (scOk h1).nd, rfl, (scOk h1).kind, rfl, room, gd, fun _ _ => rfl, (fun _ h => nomatch h), ih, hgi, hfr⟩, passes_of rfl⟩ z
theorem progOk (hgi : ∀ x d, (x, d) ∈ gi → GiOk mg x d) (hfr : ∀ x ∈ fr, mg x = none) : ∀ ds : List DefR, (∀ d ∈ ds, AtHand kb K mg d) → chkP gi fr kb ds = true → Known P w K mg base kb ds
  | [], _, _ => fun x n h => by cases h
  | d :: ds, hd, hc => fun x n h => by
    have hc' := hc
    unfold chkP at hc'
    obtain ⟨hc', h4⟩ := and3 hc'
    obtain ⟨_, h3⟩ := and3 hc'
    have ih := progOk hgi hfr ds (fun e he => hd e (List.mem_cons_of_mem _ he)) h4
    by_cases hx : x = d.nm
    · subst hx
      have hn : d.ps.length = n := by
        rcases List.mem_cons.mp h with e | e
        · cases e; rfl
        · obtain ⟨e, he, z⟩ := List.mem_map.mp e
          have := List.all_eq_true.mp h3 e he
          have z1 : e.nm = d.nm := congrArg Prod.fst z
          have z2 : e.ps.length = n := congrArg Prod.snd z
          rcases Bool.or_eq_true_iff.mp this with q | q
          · rw [z1] at q; simp at q
          · rw [← of_decide_eq_true q, z2]
      obtain ⟨fd, F, hm, hb, hkb⟩ := hd d List.mem_cons_self
      exact ⟨_, fd, d.ps, hn, defOk hgi hfr ih hc F, hm, F.kp, hb, hkb⟩
    · have h' : (x, n) ∈ sig ds := by
        rcases List.mem_cons.mp h with e | e
        · cases e; exact absurd rfl hx
        · exact e
      obtain ⟨f, fd, ps, h1, h2, h3⟩ := ih x n h'
      refine ⟨f, fd, ps, h1, ?_, h3⟩
      rw [glob_off hx]
      exact h2.mono (Nat.le_succ _)
theorem byKw {x qual : Str} {params : Arguments} {body : List Stmt} {scope : Scope} {f : Addr} {fd : FuncData} {ps ks : List Str} {perm : List Nat} (F : FunD K x qual params body scope [] [] f fd)
    (h : ∀ (kV doc pm : Value) (an : Option Addr) (cdv ct : Value) (ws : List Value), ws.length = ks.length → bindArgs (PySem.W.fnOf x qual params body scope .none kV doc pm an cdv ct) ⟨[], ks.zip ws⟩ = pure (ps.zip (perm.map fun j => ws.getD j .none))) : KBind K fd ps ks perm := by
  obtain ⟨oc, od, dV, kV, doc, pm, an, cdv, ct, osl, rfl, lk, hcd, hD, hK⟩ := F.ex
  rcases hD with ⟨_, rfl⟩ | ⟨e, _⟩
  · exact fun s ws _ hl => .of_eq (h kV doc pm an cdv ct ws hl)
  · exact absurd rfl e
end
theorem chkP_tail {gi : List (Str × D)} {fr : List Str} {kb : List (Str × List Str × List Nat)} {d : DefR} {ds : List DefR} (h : chkP gi fr kb (d :: ds) = true) : chkP gi fr kb ds = true := by
  unfold chkP at h
  exact (and3 h).2
theorem ints_vr {K : PySem.W.Frag} {W : Wr} {H : Hp} : ∀ ns : List Int, VRs K W H (ns.map .int) (ns.map V.int) []
  | [] => .nil
  | n :: ns => .cons (f := []) (g := []) (.int n) (ints_vr ns)
theorem lawG {P : Program} {w : World} {K : PySem.W.Frag} {mg mb : Str → Option Value} {k : Nat} {fa a : Addr} {fd : FuncData} {x : Str} {sem : List D → Rc} {st : Shared} {us : List Value} {ns : List Int} (hK : K.In st.heap) (hG : st.heap.Ns mainGlobals mg) (hB : st.heap.Ns builtinsNs mb) (hbb : ∀ x : Str, x ≠ "__name__" → mb x = bootBuiltins x)
    (hL : st.heap.NoLimit) (hgen : st.gens = #[]) (hobj : st.heap.get? a = some { cls := .type "list", data := .seq us.toArray }) (hint : IntsAre us ns) (hlen : ns.length ≤ sizeLine) (room : Room k callerA) (F : ∀ base : Heap, K.In base → base.Ns mainGlobals mg → FnG P w K mg base k fa fd [x] sem)
    (bind : ∀ (s : Shared) (u : Value), K.In s.heap → BindsTo s fd ⟨[u], []⟩ [(x, u)]) (hsem : ∃ ps, sem [.lst false (ns.map .int)] = .ok (.bl true) ps) :
    codeAny (model P w) callerA (.call (.ref fa) ⟨[.ref a], []⟩) (fun r s' => r = .ok (.ret (.bool true)) ∧ OldK st.heap s'.heap ∧ s'.os = st.os ∧ AllBare s'.gens) st := by
  have rel := vals_ints hint
  have usl := hint.length
  -- by an abstract heap that tracks the script alone, or nothing
  have main : ∀ H : Hp, (∀ b, H b = none ∨ ∃ o xs, H b = some (.frz o (.lst xs))) → FzL K H a (ns.map V.int) → HOk P w H st.heap → (∀ b, H b ≠ none → b = a ∧ K.lookup a = none) →
      codeAny (model P w) callerA (.call (.ref fa) ⟨[.ref a], []⟩) (fun r s' => r = .ok (.ret (.bool true)) ∧ OldK st.heap s'.heap ∧ s'.os = st.os ∧ AllBare s'.gens) st := by
    intro H onlyF fz hok own
    have dictNo : ∀ {b : Addr} {o : Obj} {es : Array DictEntry} {ep : Nat}, st.heap.get? b = some o → o.data = .dict es ep → H b = none := by
      intro b o es ep e hd
      cases q : H b with
      | none => rfl
      | some u =>
        obtain ⟨rfl, _⟩ := own b (by rw [q]; exact Option.some_ne_none _)
        rw [hobj] at e
        cases e
        have hd' : Data.seq us.toArray _ = Data.dict es ep := hd
        cases hd'
    have nsM : ∀ {b : Addr} {m : Str → Option Value}, st.heap.Ns b m → (hidT st.heap H).Ns b m := by
      rintro b m ⟨o, es, ep, e, hd, hr⟩
      exact ⟨o, es, ep, hidT_get e (dictNo e hd), hd, hr⟩
    have kM : K.In (hidT st.heap H) := by
      intro b o e
      refine hidT_get (hK b o e) ?_
      cases q : H b with
      | none => rfl
      | some u =>
        obtain ⟨rfl, z⟩ := own b (by rw [q]; exact Option.some_ne_none _)
        rw [z] at e
        cases e
    obtain ⟨mc, l1, l2⟩ := hL
    have md : Mod K mg (hidT st.heap H) := ⟨kM, nsM hG, ⟨mb, nsM hB, hbb⟩, mc, nsM l1, l2⟩
    have env : Env0 P w K mg (hidT st.heap H) callerA [] st H := { frames := rfl, mod := md, bs := fun b o e => of_hidT e, bsz := by rw [hidT_size]; exact Nat.le_refl _, funs := trivial, frf := (fun b hb => by cases hb), hok := hok, bare := .of_eq hgen }
    obtain ⟨ps, hps⟩ := hsem
    have prom : spG K [x].length sem [.ref a] H (fun v _ => v = .bl true) := by
      refine ⟨rfl, fun _ => False, [.lst false (ns.map .int)], [], .cons (f := []) (g := []) (.frz fz (fun z => z) (ints_vr ns)) .nil, List.nodup_nil, (fun b hb => by cases hb), (fun b hb => hb.elim), ?_⟩
      rw [hps]
      intro W' H' v fv fu _ rv _
      cases rv
      rfl
    refine codeAny_mono ((F _ kM (nsM hG)).go callerA [] st H ⟨[.ref a], []⟩ [.ref a] [.ref a] _ room rfl env (bind st (.ref a) hK) (.cons rfl .nil) prom) fun z s2 q => ?_
    cases z with
    | error e => exact False.elim q
    | ok fl => cases fl with
      | next => exact False.elim q
      | brk => exact False.elim q
      | cont => exact False.elim q
      | ret u =>
        obtain ⟨v, H2, eos, ebare, un, hok2, ru, rfl⟩ := q
        have eu : u = Value.bool true := ru
        subst eu
        refine ⟨rfl, .of_keep fun b o e => ?_, eos, ebare⟩
        rcases onlyF b with z | ⟨ob, xs, z⟩
        · exact un.keep b o e z (fun h => by cases h) (fun h => by cases h)
        · obtain ⟨e1, _⟩ := hok b _ z
          obtain ⟨e2, _⟩ := hok2 b _ (un.frzs b ob _ z)
          rw [e] at e1
          cases e1
          exact e2
  cases hk : K.lookup a with
  | some o =>
    have e := hK a o hk
    rw [hobj] at e
    cases e
    refine main (fun _ => none) (fun _ => .inl rfl) (.inr ⟨us, _, hk, by rw [usl]; exact hlen, rel⟩) (fun b u z => by have z' : (none : Option HO) = some u := z; cases z') fun b z => absurd rfl z
  | none =>
    let H : Hp := fun b => if b = a then some (.frz { cls := .type "list", data := .seq us.toArray } (.lst (ns.map V.int))) else none
    have at_a : H a = some (.frz { cls := .type "list", data := .seq us.toArray } (.lst (ns.map V.int))) := if_pos rfl
    have off : ∀ b, b ≠ a → H b = none := fun b hb => if_neg hb
    refine main H (fun b => ?_) (.inl (.inr ⟨_, at_a⟩)) (fun b u z => ?_) fun b z => ⟨?_, hk⟩
    · by_cases hb : b = a
      · subst hb; exact .inr ⟨_, _, at_a⟩
      · exact .inl (off b hb)
    · by_cases hb : b = a
      · subst hb
        rw [at_a] at z
        cases z
        exact ⟨hobj, by rw [List.length_map]; exact hlen, us, _, rel, hobj⟩
      · rw [off b hb] at z
        cases z
    · by_cases hb : b = a
      · exact hb
      · exact absurd (off b hb) z
end Hc

set_option Elab.async false
set_option linter.all false
set_option maxRecDepth 100000
set_option maxHeartbeats 1000000
namespace Hc
open PySem
theorem run_nx {Γ : Glob} {n : Nat} {body : List CS} {ds : List D} {env e : Slots} (he : ds.map some ++ List.replicate (n - ds.length) none = env) (h : execs Γ body env = .ok .nx e) : runDef Γ n body ds = .ok .non (finals (fun k => !(asgs body).contains k) e ds.length) := by
  unfold runDef
  rw [he, h]
theorem run_ret {Γ : Glob} {n : Nat} {body : List CS} {ds : List D} {env e : Slots} {d : D} (he : ds.map some ++ List.replicate (n - ds.length) none = env) (h : execs Γ body env = .ok (.ret d) e) : runDef Γ n body ds = .ok d (finals (fun k => !(asgs body).contains k) e ds.length) := by
  unfold runDef
  rw [he, h]
theorem exec_nx {Γ : Glob} {s : CS} {r : List CS} {env e : Slots} (h : exec Γ s env = .ok .nx e) : execs Γ (s :: r) env = execs Γ r e := by
  show (exec Γ s env).bind _ = _
  rw [h]
  rfl
theorem exec_ret {Γ : Glob} {s : CS} {r : List CS} {env e : Slots} {d : D} (h : exec Γ s env = .ok (.ret d) e) : execs Γ (s :: r) env = .ok (.ret d) e := by
  show (exec Γ s env).bind _ = _
  rw [h]
  rfl
theorem exec_for {Γ : Glob} {tg : Tg} {it : CE} {b : List CS} {env e e2 : Slots} {xs : List D} {g : List (Nat × D)} (h : cIt it (ev Γ it).e env = .ok (xs, g) e) (hg : g.all (fun q => !(tgS tg ++ asgs b).contains q.1) = true) (hl : forL g tg (execs Γ b) xs e = .ok .nx e2) : exec Γ (.forS tg it b) env = .ok .nx e2 := by
  show (cIt it (ev Γ it).e env).bind _ = _
  rw [h]
  show (if g.all (fun q => !(tgS tg ++ asgs b).contains q.1) = true then _ else _) = _
  rw [if_pos hg, hl]
theorem forL_fold {α : Type} {gs : List (Nat × D)} {tg : Tg} {body : Slots → R Fw} (enc : α → Slots) (f : α → D → α) (I : List D → α → Prop) (st : ∀ ds a, I ds a → stays gs (enc a) = true)
    (hs : ∀ a d ds, I (d :: ds) a → I ds (f a d) ∧ ∃ e, bindTg tg d (enc a) = some e ∧ body e = .ok .nx (enc (f a d))) : ∀ (ds : List D) (a : α), I ds a → I [] (ds.foldl f a) ∧ forL gs tg body ds (enc a) = .ok .nx (enc (ds.foldl f a))
  | [], a, ha => by
    refine ⟨ha, ?_⟩
    unfold forL
    rw [if_pos (st _ a ha)]
    rfl
  | d :: ds, a, ha => by
    obtain ⟨h1, e, h2, h3⟩ := hs a d ds ha
    obtain ⟨k1, k2⟩ := forL_fold enc f I st hs ds (f a d) h1
    refine ⟨k1, ?_⟩
    unfold forL
    rw [if_pos (st _ a ha), h2]
    dsimp only
    rw [h3]
    exact k2
theorem compL_map {gs : List (Nat × D)} {vs : List Nat} {step : D → Slots → R (Option D)} (env : Slots) (f : D → Option D) (st : stays gs env = true) : ∀ (ds acc : List D), (∀ d ∈ ds, ∃ e, step d env = .ok (f d) e ∧ wipeE e vs = env) → acc.length + ds.length ≤ sz →
    compL gs vs step acc ds env = .ok (acc ++ ds.filterMap f) env
  | [], acc, _, _ => by
    unfold compL
    rw [if_pos st]
    simp
  | d :: ds, acc, hs, hz => by
    obtain ⟨e, h1, h2⟩ := hs d List.mem_cons_self
    simp only [List.length_cons] at hz
    unfold compL
    rw [if_pos st, h1]
    dsimp only [R.bind_ok]
    cases q : f d with
    | none =>
      dsimp only
      rw [h2, compL_map env f st ds acc (fun x hx => hs x (List.mem_cons_of_mem _ hx)) (by omega), List.filterMap_cons, q]
    | some y =>
      dsimp only
      rw [if_pos (by omega), h2, compL_map env f st ds (acc ++ [y]) (fun x hx => hs x (List.mem_cons_of_mem _ hx)) (by simp; omega), List.filterMap_cons, q]
      simp
theorem sames_map {α : Type} (f : α → D) (h : ∀ a, D.same (f a) (f a) = true) : ∀ xs : List α, sames (xs.map f) (xs.map f) = true
  | [] => rfl
  | x :: xs => by
    show (D.same (f x) (f x) && sames (xs.map f) (xs.map f)) = true
    rw [h x, sames_map f h xs]
    rfl
theorem same_int (i : Int) : D.same (.int i) (.int i) = true := by
  show (i == i) = true
  simp
theorem fzs_map {α : Type} (f : α → D) (h : ∀ a, (f a).fz = f a) : ∀ xs : List α, fzs (xs.map f) = xs.map f
  | [] => rfl
  | x :: xs => by
    show (f x).fz :: fzs (xs.map f) = _
    rw [h x, fzs_map f h xs]
    rfl
theorem noOwns_map {α : Type} (f : α → D) (h : ∀ a, (f a).noOwn = true) : ∀ xs : List α, noOwns (xs.map f) = true
  | [] => rfl
  | x :: xs => by
    show ((f x).noOwn && noOwns (xs.map f)) = true
    rw [h x, noOwns_map f h xs]
    rfl
end Hc

set_option Elab.async false
set_option linter.all false
set_option maxRecDepth 100000
set_option maxHeartbeats 1000000
namespace Hc
open PySem
inductive Lock {α β : Type} (a : α) (b : β) : Type
  | mk : Lock a b
def R.wp {α : Type} (r : R α) (Q : α → Slots → Prop) (X : Exc → Slots → Prop) (l : Lock Q X := .mk) : Prop := match r with
  | .ok a e => Q a e
  | .ex x e => X x e
  | .no => False
def Rc.wp (r : Rc) (Q : D → List D → Prop) (X : Exc → Prop) (l : Lock Q X := .mk) : Prop := match r with
  | .ok d ps => Q d ps
  | .ex x => X x
  | .no => False
abbrev noX : Exc → Slots → Prop := fun _ _ => False
abbrev noXc : Exc → Prop := fun _ => False
theorem R.wp_imp {α : Type} {r : R α} {Q Q' : α → Slots → Prop} {X X' : Exc → Slots → Prop} (h : r.wp Q X) (hq : ∀ a e, Q a e → Q' a e) (hx : ∀ x e, X x e → X' x e) : r.wp Q' X' := by
  cases r with
  | ok a e => exact hq a e h
  | ex x e => exact hx x e h
  | no => exact h
theorem R.wp_ok {α : Type} {a : α} {e : Slots} {Q : α → Slots → Prop} {X : Exc → Slots → Prop} (h : Q a e) : (R.ok a e).wp Q X := h
theorem R.wp_bind {α β : Type} {r : R α} {f : α → Slots → R β} {Q : β → Slots → Prop} {X : Exc → Slots → Prop} (h : r.wp (fun a e => (f a e).wp Q X) X) : (r.bind f).wp Q X := by
  cases r with
  | ok a e => exact h
  | ex x e => exact h
  | no => exact h
theorem R.wp_guard {α : Type} {c : Prop} [Decidable c] {r s : R α} {Q : α → Slots → Prop} {X : Exc → Slots → Prop} (hc : c) (h : r.wp Q X) : (if c then r else s).wp Q X := by
  rw [if_pos hc]; exact h
theorem R.wp_ite {α : Type} {c : Prop} [Decidable c] {r s : R α} {Q : α → Slots → Prop} {X : Exc → Slots → Prop} (h1 : c → r.wp Q X) (h2 : ¬ c → s.wp Q X) : (if c then r else s).wp Q X := by
  by_cases h : c
  · rw [if_pos h]; exact h1 h
  · rw [if_neg h]; exact h2 h
theorem R.wp_ex {α : Type} {r : R α} {Q : α → Slots → Prop} (h : r.wp Q noX) : ∃ a e, r = .ok a e ∧ Q a e := by
  cases r with
  | ok a e => exact ⟨a, e, rfl, h⟩
  | ex x e => exact h.elim
  | no => exact h.elim
theorem Rc.wp_ex {r : Rc} {Q : D → List D → Prop} (h : r.wp Q noXc) : ∃ d ps, r = .ok d ps ∧ Q d ps := by
  cases r with
  | ok a e => exact ⟨a, e, rfl, h⟩
  | ex x => exact h.elim
  | no => exact h.elim
theorem Rc.wp_imp {r : Rc} {Q Q' : D → List D → Prop} {X X' : Exc → Prop} (h : r.wp Q X) (hq : ∀ a e, Q a e → Q' a e) (hx : ∀ x, X x → X' x) : r.wp Q' X' := by
  cases r with
  | ok a e => exact hq a e h
  | ex x => exact hx x h
  | no => exact h
def Rc.go (r : Rc) (e : Slots) (k : D → List D → R D) : R D := match r with
  | .ok d ps => k d ps
  | .ex x => .ex x e
  | .no => .no
theorem Rc.go_wp {r : Rc} {e : Slots} {k : D → List D → R D} {Q : D → Slots → Prop} {X : Exc → Slots → Prop} (h : r.wp (fun d ps => (k d ps).wp Q X) (fun x => X x e)) : (r.go e k).wp Q X := by
  cases r with
  | ok a e => exact h
  | ex x => exact h
  | no => exact h
def goOf (o : Option (List D × Slots)) (k : List D → Slots → R D) : R D := match o with
  | none => .no
  | some (ds, e) => k ds e
@[simp] theorem goOf_some (ds : List D) (e : Slots) (k : List D → Slots → R D) : goOf (some (ds, e)) k = k ds e := rfl
theorem cCall_eq (Γ : Glob) (f : Str) (l : List (CE × (Slots → R D))) (env : Slots) : cCall Γ f l env = (seqA l env).bind fun xs e => goOf (fetch xs e) fun ds e => (Γ f ds).go e fun r ps => if (!lent xs || (r.noFz && backOk xs ps)) = true then .ok r (giveBack xs ps e) else .no := by
  unfold cCall
  congr 1
theorem cCallk_eq (Γ : Glob) (f : Str) (perm : List Nat) (l : List (CE × (Slots → R D))) (env : Slots) : cCallk Γ f perm l env = (seqA l env).bind fun xs e => goOf (fetch xs e) fun ds e => if (noOwns ds && perm.all fun j => decide (j < ds.length)) = true then (Γ f (perm.map fun j => ds.getD j .non)).go e fun r _ => if (!lent xs || r.noFz) = true then .ok r e else .no else .no := by
  unfold cCallk
  congr 1
noncomputable def after (Γ : Glob) (r : List CS) : Fw → Slots → R Fw
  | .nx, e => execs Γ r e
  | .ret d, e => .ok (.ret d) e
  | .brk, e => .ok .brk e
  | .ct, e => .ok .ct e
theorem step {Γ : Glob} {s : CS} {r : List CS} {env : Slots} {Q : Fw → Slots → Prop} {X : Exc → Slots → Prop} (h : (exec Γ s env).wp (fun f e => (after Γ r f e).wp Q X) X) : (execs Γ (s :: r) env).wp Q X := by
  have e : execs Γ (s :: r) env = (exec Γ s env).bind (after Γ r) := by
    show (exec Γ s env).bind _ = _
    congr 1
    funext f e
    cases f <;> rfl
  rw [e]
  exact R.wp_bind h
theorem run_wp {Γ : Glob} {n : Nat} {body : List CS} {ds : List D} {env : Slots} {Q : D → List D → Prop} {X : Exc → Prop} (he : ds.map some ++ List.replicate (n - ds.length) none = env)
    (h : (execs Γ body env).wp (fun f e => match f with
      | .ret d => Q d (finals (fun k => !(asgs body).contains k) e ds.length)
      | .nx => Q .non (finals (fun k => !(asgs body).contains k) e ds.length)
      | _ => False) (fun x _ => X x)) : (runDef Γ n body ds).wp Q X := by
  unfold runDef
  rw [he]
  revert h
  cases execs Γ body env with
  | ok f e => cases f <;> intro h <;> exact h
  | ex x e => intro h; exact h
  | no => intro h; exact h
theorem forL_wp {σ : Type} {g : List (Nat × D)} {tg : Tg} {body : Slots → R Fw} {Q : Fw → Slots → Prop} {X : Exc → Slots → Prop} {xs : List D} (enc : σ → Slots) (I : Nat → σ → Prop)
    (st : ∀ s, stays g (enc s) = true)
    (hs : ∀ k d s, xs[k]? = some d → I k s → ∃ e1, bindTg tg d (enc s) = some e1 ∧ (body e1).wp (fun f e2 => match f with
      | .nx => ∃ s', e2 = enc s' ∧ I (k + 1) s'
      | .ct => ∃ s', e2 = enc s' ∧ I (k + 1) s'
      | .brk => Q .nx e2
      | .ret d => Q (.ret d) e2) X)
    (hend : ∀ s, I xs.length s → Q .nx (enc s)) : ∀ (k : Nat) (ds : List D) (s : σ), xs.drop k = ds → I k s → k ≤ xs.length → (forL g tg body ds (enc s)).wp Q X
  | k, [], s, hd, hI, hk => by
    unfold forL
    rw [if_pos (st s)]
    have : k = xs.length := by
      have := congrArg List.length hd
      simp at this
      omega
    subst this
    exact hend s hI
  | k, d :: ds, s, hd, hI, hk => by
    have hlt : k < xs.length := by
      have := congrArg List.length hd
      simp at this
      omega
    have hg : xs[k]? = some d := by
      have : (xs.drop k)[0]? = some d := by rw [hd]; rfl
      simpa using this
    have hd2 : xs.drop (k + 1) = ds := by
      have : (xs.drop k).drop 1 = ds := by rw [hd]; rfl
      rwa [List.drop_drop] at this
    obtain ⟨e1, h1, h2⟩ := hs k d s hg hI
    unfold forL
    rw [if_pos (st s), h1]
    dsimp only
    refine R.wp_bind (R.wp_imp h2 (fun f e hq => ?_) fun _ _ h => h)
    cases f with
    | nx =>
      obtain ⟨s', rfl, hI'⟩ := hq
      exact forL_wp enc I st hs hend (k + 1) ds s' hd2 hI' hlt
    | ct =>
      obtain ⟨s', rfl, hI'⟩ := hq
      exact forL_wp enc I st hs hend (k + 1) ds s' hd2 hI' hlt
    | brk => exact hq
    | ret d => exact hq
theorem for_wp {σ : Type} {Γ : Glob} {tg : Tg} {it : CE} {b : List CS} {env : Slots} {g : List (Nat × D)} {Q : Fw → Slots → Prop} {X : Exc → Slots → Prop} {xs : List D} (enc : σ → Slots) (I : Nat → σ → Prop) (s0 : σ)
    (hit : cIt it (ev Γ it).e env = .ok (xs, g) (enc s0)) (hg : g.all (fun q => !(tgS tg ++ asgs b).contains q.1) = true) (st : ∀ s, stays g (enc s) = true) (h0 : I 0 s0)
    (hs : ∀ k d s, xs[k]? = some d → I k s → ∃ e1, bindTg tg d (enc s) = some e1 ∧ (execs Γ b e1).wp (fun f e2 => match f with
      | .nx => ∃ s', e2 = enc s' ∧ I (k + 1) s'
      | .ct => ∃ s', e2 = enc s' ∧ I (k + 1) s'
      | .brk => Q .nx e2
      | .ret d => Q (.ret d) e2) X)
    (hend : ∀ s, I xs.length s → Q .nx (enc s)) : (exec Γ (.forS tg it b) env).wp Q X := by
  show ((cIt it (ev Γ it).e env).bind _).wp Q X
  rw [hit]
  show (if g.all (fun q => !(tgS tg ++ asgs b).contains q.1) = true then _ else _ : R Fw).wp Q X
  rw [if_pos hg]
  exact forL_wp enc I st hs hend 0 xs s0 rfl h0 (Nat.zero_le _)
theorem compL_wp {σ : Type} {g : List (Nat × D)} {vs : List Nat} {stp : D → Slots → R (Option D)} {Q : List D → Slots → Prop} {X : Exc → Slots → Prop} {xs : List D} (enc : σ → Slots) (I : Nat → List D → σ → Prop)
    (st : ∀ s, stays g (enc s) = true) (hz : xs.length ≤ sz)
    (hs : ∀ k d acc s, xs[k]? = some d → I k acc s → (stp d (enc s)).wp (fun o e2 => ∃ s', wipeE e2 vs = enc s' ∧ match o with
      | some y => I (k + 1) (acc ++ [y]) s'
      | none => I (k + 1) acc s') X)
    (hend : ∀ acc s, I xs.length acc s → Q acc (enc s)) : ∀ (k : Nat) (ds acc : List D) (s : σ), xs.drop k = ds → I k acc s → k ≤ xs.length → acc.length ≤ k → (compL g vs stp acc ds (enc s)).wp Q X
  | k, [], acc, s, hd, hI, hk, _ => by
    unfold compL
    rw [if_pos (st s)]
    have : k = xs.length := by
      have := congrArg List.length hd
      simp at this
      omega
    subst this
    exact hend acc s hI
  | k, d :: ds, acc, s, hd, hI, hk, ha => by
    have hlt : k < xs.length := by
      have := congrArg List.length hd
      simp at this
      omega
    have hg : xs[k]? = some d := by
      have : (xs.drop k)[0]? = some d := by rw [hd]; rfl
      simpa using this
    have hd2 : xs.drop (k + 1) = ds := by
      have : (xs.drop k).drop 1 = ds := by rw [hd]; rfl
      rwa [List.drop_drop] at this
    unfold compL
    rw [if_pos (st s)]
    refine R.wp_bind (R.wp_imp (hs k d acc s hg hI) (fun o e hq => ?_) fun _ _ h => h)
    obtain ⟨s', he, hq⟩ := hq
    cases o with
    | none =>
      dsimp only at hq ⊢
      rw [he]
      exact compL_wp enc I st hz hs hend (k + 1) ds acc s' hd2 hq hlt (by omega)
    | some y =>
      dsimp only at hq ⊢
      rw [if_pos (by omega), he]
      exact compL_wp enc I st hz hs hend (k + 1) ds (acc ++ [y]) s' hd2 hq hlt (by simp; omega)
theorem comp_wp {σ : Type} {Γ : Glob} {vs : List Nat} {tg : Tg} {it c el : CE} {env e : Slots} {g : List (Nat × D)} {Q : D → Slots → Prop} {X : Exc → Slots → Prop} {xs : List D} (enc : σ → Slots) (I : Nat → List D → σ → Prop) (s0 : σ)
    (hit : cIt it (ev Γ it).e env = .ok (xs, g) e) (he : wipeE e vs = enc s0) (st : ∀ s, stays g (enc s) = true) (hz : xs.length ≤ sz) (h0 : I 0 [] s0)
    (hs : ∀ k d acc s, xs[k]? = some d → I k acc s → (turnE tg c (ev Γ c).t (ev Γ el).e d (enc s)).wp (fun o e2 => ∃ s', wipeE e2 vs = enc s' ∧ match o with
      | some y => I (k + 1) (acc ++ [y]) s'
      | none => I (k + 1) acc s') X)
    (hend : ∀ acc s, I xs.length acc s → Q (.lst true acc) (again e (enc s) vs)) : ((ev Γ (.comp vs tg it c el)).e env).wp Q X := by
  show ((cIt it (ev Γ it).e env).bind _).wp Q X
  rw [hit]
  show ((compL g vs (turnE tg c (ev Γ c).t (ev Γ el).e) [] xs (wipeE e vs)).bind _).wp Q X
  rw [he]
  exact R.wp_bind (compL_wp enc I st hz hs hend 0 xs [] s0 rfl h0 (Nat.zero_le _) (Nat.zero_le _))
end Hc

set_option Elab.async false
set_option linter.all false
set_option maxRecDepth 100000
set_option maxHeartbeats 1000000
namespace Hc
open PySem PySem.Spec PyProof.Rows L2
section
variable {α β : Type} {Γ : Glob} {Q : α → Slots → Prop} {X : Exc → Slots → Prop}
theorem w_step {s : CS} {r : List CS} {env : Slots} {Q : Fw → Slots → Prop} : (execs Γ (s :: r) env).wp Q X = (exec Γ s env).wp (fun f e => (after Γ r f e).wp Q X) X := by
  have e : execs Γ (s :: r) env = (exec Γ s env).bind (after Γ r) := by
    show (exec Γ s env).bind _ = _
    congr 1
    funext f e
    cases f <;> rfl
  rw [e]
  cases exec Γ s env <;> rfl
theorem w_bind {r : R β} {f : β → Slots → R α} : (r.bind f).wp Q X = r.wp (fun a e => (f a e).wp Q X) X := by cases r <;> rfl
theorem w_ok {a : α} {e : Slots} : (R.ok a e).wp Q X = Q a e := rfl
theorem w_no : (R.no : R α).wp Q X = False := rfl
theorem w_guard {c : Prop} [Decidable c] {r : R α} : (if c then r else .no).wp Q X = (c ∧ r.wp Q X) := by
  by_cases h : c
  · rw [if_pos h]; simp [h]
  · rw [if_neg h]; simp [h, R.wp]
theorem w_lnd {k : Nat} {x : D} {env : Slots} {r : R D} {Q : D → Slots → Prop} : (lnd2 k x env r).wp Q X = r.wp (fun d e => d.noFz = true ∧ Q d ((lendBack env e).set k (some x))) noX := by
  cases r with
  | no => rfl
  | ex y e => rfl
  | ok d e =>
    show (if d.noFz = true then R.ok d ((lendBack env e).set k (some x)) else .no).wp Q X = (d.noFz = true ∧ Q d ((lendBack env e).set k (some x)))
    by_cases h : d.noFz = true
    · rw [if_pos h]; simp [h, R.wp]
    · rw [if_neg h]; simp [h, R.wp]
theorem lb_cons (o n : Option D) (os ns : Slots) : lendBack (o :: os) (n :: ns) = keepS o n :: lendBack os ns := rfl
theorem lb_nil : lendBack [] [] = [] := rfl
theorem keepS_none (o : Option D) : keepS o none = none := by cases o <;> rfl
theorem keepS_no (d : D) : keepS none (some d) = if d.noFz = true then some d else none := rfl
theorem keepS_so (o d : D) : keepS (some o) (some d) = if d.noFz = true then some d else if (o.noOwn && D.same o d) = true then some d else none := rfl
theorem w_mute {r : R α} : (mute r).wp Q X = r.wp Q noX := by cases r <;> rfl
theorem w_go {r : Rc} {e : Slots} {k : D → List D → R D} {Q : D → Slots → Prop} : (r.go e k).wp Q X = r.wp (fun d ps => (k d ps).wp Q X) (fun x => X x e) := by cases r <;> rfl
theorem wc_ok {d : D} {ps : List D} {Q : D → List D → Prop} {X : Exc → Prop} : (Rc.ok d ps).wp Q X = Q d ps := rfl
theorem w_nil {env : Slots} {Q : Fw → Slots → Prop} : (execs Γ [] env).wp Q X = Q .nx env := rfl
theorem af_nx {r : List CS} {e : Slots} : after Γ r .nx e = execs Γ r e := rfl
theorem af_ret {r : List CS} {e : Slots} {d : D} : after Γ r (.ret d) e = .ok (.ret d) e := rfl
theorem af_brk {r : List CS} {e : Slots} : after Γ r .brk e = .ok .brk e := rfl
theorem af_ct {r : List CS} {e : Slots} : after Γ r .ct e = .ok .ct e := rfl
def onS (o : Option β) (k : β → R α) : R α := match o with
  | some d => k d
  | none => .no
theorem onS_some (d : β) (k : β → R α) : onS (some d) k = k d := rfl
theorem w_onS {o : Option β} {k : β → R α} : (onS o k).wp Q X = ∃ d, o = some d ∧ (k d).wp Q X := by
  cases o with
  | none => simp [onS, R.wp]
  | some d => simp [onS]
def altS (o : Option β) (k : β → R α) (s : R α) : R α := match o with
  | some d => k d
  | none => s
theorem altS_some (d : β) (k : β → R α) (s : R α) : altS (some d) k s = k d := rfl
theorem altS_none (k : β → R α) (s : R α) : altS none k s = s := rfl
end
theorem at_lit0 {o : Option D} {env : Slots} : Slots.at (o :: env) 0 = o := rfl
section
variable {Γ : Glob} {env : Slots}
theorem lift_eq {α : Type} (o : Option α) (env : Slots) : lift o env = onS o fun a => .ok a env := by cases o <;> rfl
theorem cNm_eq (i : Nat) : cNm i env = onS (env.at i) fun d => .ok d.fz (env.set i (some d.fz)) := by
  unfold cNm
  cases env.at i <;> rfl
theorem cMv_eq (i : Nat) : cMv i env = onS (env.at i) fun d => .ok d (env.set i none) := by
  unfold cMv
  cases env.at i <;> rfl
theorem view_eq (c : CE) (r : Slots → R D) : view c r env = altS (peek c env) (fun d => .ok d env) (r env) := by
  unfold view
  cases peek c env <;> rfl
theorem opd_eq (sh : Bool) (c : CE) (r : Slots → R D) : opd sh c r env = match c with
    | .nm i => onS (env.at i) fun d => if (!sh || d.shal) = true then .ok d env else .no
    | _ => r env := by
  cases c <;> first | rfl | skip
  unfold opd
  rename_i i
  dsimp only
  cases env.at i <;> rfl
theorem cSub_eq (a : CE) (ra : Slots → R D) (b : CE) (rb : Slots → R D) : cSub a ra b rb env = altS (peek (.sub a b) env) (fun r => if r.noOwn = true then .ok r env else .no) (match a with
    | .nm i => onS (env.at i) fun _ => (rb env).bind fun k e => onS (e.at i) fun x => onS (pickA x k) fun r => if r.noOwn = true then .ok r e else .no
    | _ => (ra env).bind fun x e => (rb e).bind fun k e => onS (pickA x k) fun r => .ok r e) := by
  unfold cSub
  cases peek (.sub a b) env with
  | some r => rfl
  | none =>
    dsimp only [altS]
    cases a <;> simp only [lift_eq]
    all_goals (try rfl)
    rename_i i
    cases env.at i <;> simp only [onS, R.bind] 
    congr 1
    funext k e
    cases e.at i <;> simp only [onS, R.bind] 
    cases pickA _ k <;> rfl
def negD : D → Option D
  | .int i => some (.int (-i))
  | _ => none
def addD : D → D → Option D
  | .int i, .int j => some (.int (i + j))
  | _, _ => none
def subD : D → D → Option D
  | .int i, .int j => some (.int (i - j))
  | _, _ => none
theorem peek_nm (i : Nat) : peek (.nm i) env = env.at i := rfl
theorem peek_lit (d : D) : peek (.lit d) env = some d := rfl
theorem peek_gc (x : Str) (d : D) : peek (.gc x d) env = some d := rfl
theorem peek_sub (a b : CE) : peek (.sub a b) env = (peek a env).bind fun x => (peek b env).bind fun k => pick x k := by
  show (match peek a env, peek b env with
    | some x, some k => pick x k
    | _, _ => none) = _
  cases peek a env <;> cases peek b env <;> rfl
theorem peek_neg (a : CE) : peek (.neg a) env = (peek a env).bind negD := by
  show (match peek a env with
    | some (D.int i) => some (D.int (-i))
    | _ => none) = _
  rcases peek a env with _ | d
  · rfl
  · cases d <;> rfl
theorem peek_len (a : CE) : peek (.blt .len [a]) env = (peek a env).bind fun x => bltop .len [x] := by
  show (match peek a env with
    | some x => bltop .len [x]
    | none => none) = _
  cases peek a env <;> rfl
theorem peek_add (a b : CE) : peek (.bin .add a b) env = (peek a env).bind fun x => (peek b env).bind fun y => addD x y := by
  show (match peek a env, peek b env with
    | some (D.int i), some (D.int j) => some (D.int (i + j))
    | _, _ => none) = _
  rcases peek a env with _ | d
  · rfl
  · rcases peek b env with _ | e
    · cases d <;> rfl
    · cases d <;> cases e <;> rfl
theorem peek_bsub (a b : CE) : peek (.bin .sub a b) env = (peek a env).bind fun x => (peek b env).bind fun y => subD x y := by
  show (match peek a env, peek b env with
    | some (D.int i), some (D.int j) => some (D.int (i - j))
    | _, _ => none) = _
  rcases peek a env with _ | d
  · rfl
  · rcases peek b env with _ | e
    · cases d <;> rfl
    · cases d <;> cases e <;> rfl
theorem peek_call (f : Str) (es : List CE) : peek (.call f es) env = none := rfl
theorem peek_lst (es : List CE) : peek (.lst es) env = none := rfl
theorem peek_tup (es : List CE) : peek (.tup es) env = none := rfl
theorem peek_sli (a b c : CE) : peek (.sli a b c) env = none := rfl
theorem peek_comp (vs : List Nat) (tg : Tg) (a b c : CE) : peek (.comp vs tg a b c) env = none := rfl
theorem peek_mul (a b : CE) : peek (.bin .mul a b) env = none := rfl
theorem peek_mod (a b : CE) : peek (.bin .mod a b) env = none := rfl
theorem peek_fdv (a b : CE) : peek (.bin .fdv a b) env = none := rfl
theorem peek_pow (a b : CE) : peek (.bin .pow a b) env = none := rfl
theorem peek_callk (f : Str) (es : List CE) (p : List Nat) : peek (.callk f es p) env = none := rfl
theorem peek_ifeq (a b x y : CE) : peek (.ife (.cmp .eq a b) x y) env = (peek a env).bind fun i => (peek b env).bind fun j => match i, j with
    | .int i, .int j => if i = j then peek x env else peek y env
    | _, _ => none := by
  show (match peek a env, peek b env with
    | some (D.int i), some (D.int j) => if i = j then peek x env else peek y env
    | _, _ => none) = _
  rcases peek a env with _ | d
  · rfl
  · rcases peek b env with _ | e
    · cases d <;> rfl
    · cases d <;> cases e <;> rfl
theorem peek_ifgt (a b x y : CE) : peek (.ife (.cmp .gt a b) x y) env = none := rfl
theorem peek_iflt (a b x y : CE) : peek (.ife (.cmp .lt a b) x y) env = none := rfl
theorem peek_ifne (a b x y : CE) : peek (.ife (.cmp .ne a b) x y) env = none := rfl
theorem peek_ifle (a b x y : CE) : peek (.ife (.cmp .le a b) x y) env = none := rfl
theorem peek_ifge (a b x y : CE) : peek (.ife (.cmp .ge a b) x y) env = none := rfl
theorem peek_ifis (a b x y : CE) : peek (.ife (.cmp .is_ a b) x y) env = none := rfl
theorem peek_ifisn (a b x y : CE) : peek (.ife (.cmp .isn a b) x y) env = none := rfl
theorem peek_ifinn (a b x y : CE) : peek (.ife (.cmp .inn a b) x y) env = none := rfl
theorem peek_ifnin (a b x y : CE) : peek (.ife (.cmp .nin a b) x y) env = none := rfl
theorem peek_ifnm (i : Nat) (x y : CE) : peek (.ife (.nm i) x y) env = none := rfl
theorem peek_ifand (a b x y : CE) : peek (.ife (.andE a b) x y) env = none := rfl
theorem peek_ifor (a b x y : CE) : peek (.ife (.orE a b) x y) env = none := rfl
theorem peek_ifnot (a x y : CE) : peek (.ife (.notE a) x y) env = none := rfl
theorem peek_ifsub (a b x y : CE) : peek (.ife (.sub a b) x y) env = none := rfl
theorem peek_ifcall (f : Str) (a : List CE) (x y : CE) : peek (.ife (.call f a) x y) env = none := rfl
theorem peek_ifisi (a : CE) (t : List Ty) (x y : CE) : peek (.ife (.isi a t) x y) env = none := rfl
theorem peek_isi (a : CE) (ts : List Ty) : peek (.isi a ts) env = none := rfl
theorem peek_cmp (o : Cm) (a b : CE) : peek (.cmp o a b) env = none := rfl
theorem peek_mu (m : Mu) (a : CE) (es : List CE) : peek (.mu m a es) env = none := rfl
theorem peek_mv (i : Nat) : peek (.mv i) env = none := rfl
theorem peek_sum (a : CE) : peek (.blt .sum [a]) env = none := rfl
theorem peek_repr (a : CE) : peek (.blt .repr [a]) env = none := rfl
theorem peek_int (a : CE) : peek (.blt .int [a]) env = none := rfl
theorem peek_str (a : CE) : peek (.blt .str [a]) env = none := rfl
theorem peek_all (a : CE) : peek (.blt .all [a]) env = none := rfl
theorem peek_max2 (a b : CE) : peek (.blt .max2 [a, b]) env = none := rfl
theorem peek_min2 (a b : CE) : peek (.blt .min2 [a, b]) env = none := rfl
theorem peek_fzE (a : CE) : peek (.fzE a) env = none := rfl
theorem peek_lnd (k : Nat) (a : CE) : peek (.lnd k a) env = none := rfl
theorem peek_nop : peek .nop env = none := rfl
theorem peek_vm (m : Vm) (a : CE) (es : List CE) : peek (.vm m a es) env = none := rfl
theorem peek_vi (m : Vm) (i : Nat) (b : CE) : peek (.vi m i b) env = none := rfl
theorem peek_rev (a : CE) : peek (.rev a) env = none := rfl
theorem peek_lrng1 (a : CE) : peek (.lrng1 a) env = none := rfl
theorem peek_lrng2 (a b : CE) : peek (.lrng2 a b) env = none := rfl
theorem peek_dcomp (vs : List Nat) (tg : Tg) (a b k c : CE) : peek (.dcomp vs tg a b k c) env = none := rfl
theorem peek_ddisp (ks vs : List CE) : peek (.ddisp ks vs) env = none := rfl
theorem peek_dnew (t : Bool) : peek (.dnew t) env = none := rfl
theorem peek_dget (a b : CE) : peek (.dget a b) env = none := rfl
theorem peek_not (a : CE) : peek (.notE a) env = none := rfl
theorem peek_and (a b : CE) : peek (.andE a b) env = none := rfl
theorem peek_or (a b : CE) : peek (.orE a b) env = none := rfl
theorem peek_chain (o p : Cm) (a b c : CE) : peek (.chain o p a b c) env = none := rfl
theorem peek_shl (a b : CE) : peek (.bin .shl a b) env = none := rfl
theorem peek_shr (a b : CE) : peek (.bin .shr a b) env = none := rfl
theorem peek_band (a b : CE) : peek (.bin .band a b) env = none := rfl
theorem peek_bor (a b : CE) : peek (.bin .bor a b) env = none := rfl
theorem peek_sorted (a : CE) : peek (.blt .sorted [a]) env = none := rfl
theorem peek_list (a : CE) : peek (.blt .list [a]) env = none := rfl
theorem peek_tuple (a : CE) : peek (.blt .tuple [a]) env = none := rfl
theorem peek_divmod (a b : CE) : peek (.blt .divmod [a, b]) env = none := rfl
theorem peek_abs (a : CE) : peek (.blt .abs [a]) env = none := rfl
theorem peek_bool (a : CE) : peek (.blt .bool [a]) env = none := rfl
theorem pickA_lst (o : Bool) (xs : List D) (i : Int) : pickA (.lst o xs) (.int i) = atI xs i := rfl
theorem pickA_tup (xs : List D) (i : Int) : pickA (.tup xs) (.int i) = atI xs i := rfl
theorem pickA_str (s : Str) (i : Int) : pickA (.str s) (.int i) = if s.length ≤ sz then (atI s.cps.toList i).map fun c => .str ⟨#[c]⟩ else none := rfl
theorem walk_lst (o : Bool) (xs : List D) : (D.lst o xs).walk? = some xs := rfl
theorem walk_tup (xs : List D) : (D.tup xs).walk? = some xs := rfl
theorem walk_str (s : Str) : (D.str s).walk? = some (chars s) := rfl
theorem revOp_lst (o : Bool) (xs : List D) : revOp (.lst o xs) = some (.lst true xs.reverse) := rfl
theorem dSorted (o : Bool) (xs : List D) : bltop .sorted [.lst o xs] = if noOwns xs = true ∧ xs.length ≤ sz ∧ sortOk xs = true then some (.lst true (sortD xs)) else none := rfl
theorem dListL (o : Bool) (xs : List D) : bltop .list [.lst o xs] = if noOwns xs = true then some (.lst true xs) else none := rfl
theorem dListT (xs : List D) : bltop .list [.tup xs] = if noOwns xs = true then some (.lst true xs) else none := rfl
theorem dTupL (o : Bool) (xs : List D) : bltop .tuple [.lst o xs] = if noOwns xs = true then some (.tup xs) else none := rfl
theorem dTupT (xs : List D) : bltop .tuple [.tup xs] = if noOwns xs = true then some (.tup xs) else none := rfl
theorem dDivmod (i j : Int) : bltop .divmod [.int i, .int j] = if 0 < j ∧ j < 1073741824 then some (.tup [.int (i / j), .int (i % j)]) else none := rfl
theorem dAbs (i : Int) : bltop .abs [.int i] = some (.int (if i < 0 then -i else i)) := rfl
theorem dBoolI (i : Int) : bltop .bool [.int i] = some (.bl (i != 0)) := rfl
theorem dBoolB (b : Bool) : bltop .bool [.bl b] = some (.bl b) := rfl
theorem dStrS (s : Str) : bltop .str [.str s] = some (.str s) := rfl
theorem dIndex (o : Bool) (xs : List D) (y : D) : vmop .index (.lst o xs) [y] = if flat 0 y = true ∧ xs.all (flat 0) = true then (xs.findIdx? fun z => deq z y).map fun (k : Nat) => D.int (k : Int) else none := rfl
theorem dCount (o : Bool) (xs : List D) (k : Int) : vmop .count (.lst o xs) [.int k] = (intsOf xs).map fun (ns : List Int) => D.int ((ns.count k : Nat) : Int) := rfl
theorem dLower (s : Str) : vmop .lower (.str s) [] = if s.length ≤ 5000000 then some (.str (Txt.lower s)) else none := rfl
theorem dJoin (s : Str) (o : Bool) (xs : List D) : vmop .join (.str s) [.lst o xs] = (strsOf xs).bind fun ys => if (ys.map (·.length)).sum + ys.length * s.length ≤ 16777216 then some (.str (Txt.join s ys)) else none := rfl
theorem dSplit (s u : Str) : vmop .split (.str s) [.str u] = if (u.length == 0) = false ∧ s.length + 2 ≤ sz then some (.lst true ((Txt.split s u).map .str)) else none := rfl
theorem dInsert (xs : List D) (i : Int) (y : D) : muop .insert (.lst true xs) [.int i, y] = if xs.length < sz ∧ 0 ≤ i ∧ i < 2 ^ 63 then some (.lst true (xs.take i.toNat ++ [y] ++ xs.drop i.toNat), .non) else none := rfl
theorem dRemove (xs : List D) (k : Int) : muop .remove (.lst true xs) [.int k] = (intsOf xs).bind fun ns => (ns.findIdx? fun n => n == k).map fun j => (.lst true (xs.eraseIdx j), .non) := rfl
theorem dShr (i j : Int) : binop .shr (.int i) (.int j) = if 0 ≤ j then some (.int (i / 2 ^ j.toNat)) else none := rfl
theorem dShl (i j : Int) : binop .shl (.int i) (.int j) = if 0 ≤ j ∧ j ≤ 1000 ∧ i.natAbs < 2 ^ 64 then some (.int (i * 2 ^ j.toNat)) else none := rfl
theorem dBand (i j : Int) : binop .band (.int i) (.int j) = some (.int (Builtin.bitAnd i j)) := rfl
theorem dBor (i j : Int) : binop .bor (.int i) (.int j) = some (.int (Builtin.bitOr i j)) := rfl
theorem cutOp_str (z : Str) (lo hi : Option Int) : cutOp (.str z) lo hi = if z.length ≤ sz then some (.str (cutS z lo hi)) else none := rfl
theorem fetch_nil : fetch [] env = some ([], env) := rfl
theorem fetch_cons (c : CE) (d : D) (r : List (CE × D)) : fetch ((c, d) :: r) env = match c with
    | .bw i => (env.at i).bind fun x => (fetch r env).bind fun p => if (p.2.at i).isSome = true then some (x.fz :: p.1, p.2) else none
    | .io i => (env.at i).bind fun x => (fetch r (env.set i none)).bind fun p => some (x :: p.1, p.2)
    | _ => (fetch r env).bind fun p => some (d :: p.1, p.2) := by
  cases c
  case bw i =>
    dsimp only
    cases h : env.at i with
    | none => simp [fetch, h]
    | some x => cases h2 : fetch r env <;> simp [fetch, h, h2]
  case io i =>
    dsimp only
    cases h : env.at i with
    | none => simp [fetch, h]
    | some x => cases h2 : fetch r (env.set i none) <;> simp [fetch, h, h2]
  all_goals
    dsimp only
    cases h2 : fetch r env <;> simp [fetch, h2]
theorem pick_lst (o : Bool) (xs : List D) (i : Int) : pick (.lst o xs) (.int i) = atI xs i := rfl
theorem pick_tup (xs : List D) (i : Int) : pick (.tup xs) (.int i) = atI xs i := rfl
end
section
variable {α : Type}
theorem atI_0 (a : α) (l : List α) : atI (a :: l) 0 = some a := by simp [atI, ixN]
theorem atI_1 (a b : α) (l : List α) : atI (a :: b :: l) 1 = some b := by
  have : (1 : Int) < (l.length : Int) + 1 + 1 := by omega
  simp [atI, ixN, this]
theorem atI_2 (a b c : α) (l : List α) : atI (a :: b :: c :: l) 2 = some c := by
  have : (2 : Int) < (l.length : Int) + 1 + 1 + 1 := by omega
  simp [atI, ixN, this]
theorem atI_3 (a b c d : α) (l : List α) : atI (a :: b :: c :: d :: l) 3 = some d := by
  have : (3 : Int) < (l.length : Int) + 1 + 1 + 1 + 1 := by omega
  simp [atI, ixN, this]
theorem atI_some {xs : List α} {i : Int} (h : 0 ≤ i) (h2 : i < xs.length) : ∃ x, atI xs i = some x ∧ xs[i.toNat]? = some x := by
  have : i.toNat < xs.length := by omega
  refine ⟨xs[i.toNat], ?_, by simp [this]⟩
  unfold atI ixN
  rw [if_pos h, if_pos h2]
  simp [this]
end
theorem Rc.then {r : Rc} {P Q : D → List D → Prop} {X : Exc → Prop} (h : r.wp P noXc) (k : ∀ d ps, P d ps → Q d ps) : r.wp Q X := Rc.wp_imp h k fun _ z => z.elim
def outs : List Bool → Slots → List D
  | [], _ => []
  | b :: bs, [] => .gone :: outs bs []
  | b :: bs, o :: e => (if b = true then o.getD .gone else .gone) :: outs bs e
def retQ (Q : D → List D → Prop) (ks : List Bool) : Fw → Slots → Prop
  | .ret d, e => Q d (outs ks e)
  | .nx, e => Q .non (outs ks e)
  | _, _ => False
theorem retQ_ret (Q : D → List D → Prop) (ks : List Bool) (d : D) (e : Slots) : retQ Q ks (.ret d) e = Q d (outs ks e) := rfl
theorem retQ_nx (Q : D → List D → Prop) (ks : List Bool) (e : Slots) : retQ Q ks .nx e = Q .non (outs ks e) := rfl
theorem outs_nil (e : Slots) : outs [] e = [] := by cases e <;> rfl
theorem outs_t (bs : List Bool) (o : Option D) (e : Slots) : outs (true :: bs) (o :: e) = o.getD .gone :: outs bs e := rfl
theorem outs_f (bs : List Bool) (o : Option D) (e : Slots) : outs (false :: bs) (o :: e) = .gone :: outs bs e := rfl
def keeps (f : Nat → Bool) (n : Nat) : List Bool := (List.range n).map f
theorem outs_snoc : ∀ (ks : List Bool) (b : Bool) (e : Slots), outs (ks ++ [b]) e = outs ks e ++ [if b = true then (e.at ks.length).getD .gone else .gone]
  | [], b, [] => by cases b <;> rfl
  | [], b, o :: e => by cases e <;> rfl
  | k :: ks, b, [] => by
    show D.gone :: outs (ks ++ [b]) [] = _
    rw [outs_snoc ks b []]
    have : ∀ i, Slots.at [] i = none := fun i => rfl
    rw [this, this]
    rfl
  | k :: ks, b, o :: e => by
    show _ :: outs (ks ++ [b]) e = _
    rw [outs_snoc ks b e]
    rfl
theorem finals_outs (f : Nat → Bool) (e : Slots) : ∀ n, finals f e n = outs (keeps f n) e
  | 0 => by cases e <;> rfl
  | n + 1 => by
    have h : keeps f (n + 1) = keeps f n ++ [f n] := by unfold keeps; rw [List.range_succ, List.map_append]; rfl
    rw [h, outs_snoc]
    show finals f e n ++ _ = _
    rw [finals_outs f e n]
    have : (keeps f n).length = n := by unfold keeps; simp
    rw [this]
theorem run_wp2 {Γ : Glob} {n : Nat} {body : List CS} {ds : List D} {env : Slots} {ks : List Bool} {Q : D → List D → Prop} {X : Exc → Prop} (he : ds.map some ++ List.replicate (n - ds.length) none = env) (hk : keeps (fun k => !(asgs body).contains k) ds.length = ks)
    (h : (execs Γ body env).wp (retQ Q ks) (fun x _ => X x)) : (runDef Γ n body ds).wp Q X := by
  refine run_wp he (R.wp_imp h (fun f e hq => ?_) fun _ _ z => z)
  rw [finals_outs, hk]
  cases f <;> exact hq
theorem keeps_of {f : Nat → Bool} {n : Nat} {ks : List Bool} (h : (List.range n).map f = ks) : keeps f n = ks := h
def turnQ {σ : Type} (enc : σ → Slots) (I : σ → Prop) (Q : Fw → Slots → Prop) : Fw → Slots → Prop
  | .nx, e => ∃ s', e = enc s' ∧ I s'
  | .ct, e => ∃ s', e = enc s' ∧ I s'
  | .brk, e => Q .nx e
  | .ret d, e => Q (.ret d) e
theorem turnQ_nx {σ : Type} (enc : σ → Slots) (I : σ → Prop) (Q : Fw → Slots → Prop) (e : Slots) : turnQ enc I Q .nx e = ∃ s', e = enc s' ∧ I s' := rfl
theorem turnQ_ct {σ : Type} (enc : σ → Slots) (I : σ → Prop) (Q : Fw → Slots → Prop) (e : Slots) : turnQ enc I Q .ct e = ∃ s', e = enc s' ∧ I s' := rfl
theorem turnQ_brk {σ : Type} (enc : σ → Slots) (I : σ → Prop) (Q : Fw → Slots → Prop) (e : Slots) : turnQ enc I Q .brk e = Q .nx e := rfl
theorem turnQ_ret {σ : Type} (enc : σ → Slots) (I : σ → Prop) (Q : Fw → Slots → Prop) (e : Slots) (d : D) : turnQ enc I Q (.ret d) e = Q (.ret d) e := rfl
theorem loop {σ : Type} {g : List (Nat × D)} {tg : Tg} {body : Slots → R Fw} {Q : Fw → Slots → Prop} {X : Exc → Slots → Prop} {xs : List D} {env : Slots} (enc : σ → Slots) (I : Nat → σ → Prop) (s0 : σ) (he : env = enc s0)
    (st : ∀ s, stays g (enc s) = true) (h0 : I 0 s0)
    (hs : ∀ k d s, xs[k]? = some d → I k s → ∃ e1, bindTg tg d (enc s) = some e1 ∧ (body e1).wp (turnQ enc (I (k + 1)) Q) X)
    (hend : ∀ s, I xs.length s → Q .nx (enc s)) : (forL g tg body xs env).wp Q X := by
  subst he
  exact forL_wp enc I st (fun k d s h1 h2 => let ⟨e1, q1, q2⟩ := hs k d s h1 h2; ⟨e1, q1, R.wp_imp q2 (fun f e hq => by cases f <;> exact hq) fun _ _ z => z⟩) hend 0 xs s0 rfl h0 (Nat.zero_le _)
theorem cloop {σ : Type} {g : List (Nat × D)} {vs : List Nat} {stp : D → Slots → R (Option D)} {Q : List D → Slots → Prop} {X : Exc → Slots → Prop} {xs : List D} {env : Slots} (enc : σ → Slots) (I : Nat → List D → σ → Prop) (s0 : σ) (he : env = enc s0)
    (st : ∀ s, stays g (enc s) = true) (hz : xs.length ≤ sz) (h0 : I 0 [] s0)
    (hs : ∀ k d acc s, xs[k]? = some d → I k acc s → (stp d (enc s)).wp (fun o e2 => ∃ s', wipeE e2 vs = enc s' ∧ match o with
      | some y => I (k + 1) (acc ++ [y]) s'
      | none => I (k + 1) acc s') X)
    (hend : ∀ acc s, I xs.length acc s → Q acc (enc s)) : (compL g vs stp [] xs env).wp Q X := by
  subst he
  exact compL_wp enc I st hz hs hend 0 xs [] s0 rfl h0 (Nat.zero_le _) (Nat.zero_le _)
theorem downto_len (lo : Int) (n : Nat) : (downto lo n).length = n := by simp [downto]
theorem downto_get {lo : Int} {n k : Nat} {d : D} (h : (downto lo n)[k]? = some d) : d = .int (lo - k) ∧ k < n := by
  unfold downto at h
  rw [List.getElem?_map] at h
  obtain ⟨j, hj, rfl⟩ := Option.map_eq_some_iff.mp h
  obtain ⟨h1, h2⟩ := List.getElem?_eq_some_iff.mp hj
  simp at h1 h2
  refine ⟨?_, h1⟩
  rw [h2]
  congr 1
  omega
theorem upto_len (lo : Int) (n : Nat) : (upto lo n).length = n := by simp [upto]
theorem upto_get {lo : Int} {n k : Nat} {d : D} (h : (upto lo n)[k]? = some d) : d = .int (lo + k) ∧ k < n := by
  unfold upto at h
  rw [List.getElem?_map] at h
  obtain ⟨j, hj, rfl⟩ := Option.map_eq_some_iff.mp h
  obtain ⟨h1, h2⟩ := List.getElem?_eq_some_iff.mp hj
  simp at h1 h2
  exact ⟨by rw [h2], h1⟩
mutual
def D.solid : D → Bool
  | .tup xs => solids xs
  | .lst _ xs => solids xs
  | .dic _ _ ks vs => solids ks && solids vs
  | .obj _ _ _ vs => solids vs
  | .gone => false
  | .non => true
  | .bl _ => true
  | .int _ => true
  | .str _ => true
def solids : List D → Bool
  | [] => true
  | d :: ds => d.solid && solids ds
end
mutual
theorem same_self : ∀ {d : D}, d.solid = true → D.same d d = true
  | .non, _ => rfl
  | .bl b, _ => by simp [D.same]
  | .int i, _ => by simp [D.same]
  | .str s, _ => by simp [D.same]
  | .gone, h => by cases h
  | .tup xs, h => by
    have h : solids xs = true := h
    simp [D.same, sames_self h]
  | .lst o xs, h => by
    have h : solids xs = true := h
    simp [D.same, sames_self h]
  | .dic o t ks vs, h => by
    have h := Bool.and_eq_true_iff.mp (h : (solids ks && solids vs) = true)
    simp [D.same, sames_self h.1, sames_self h.2]
  | .obj o c fs vs, h => by
    have h : solids vs = true := h
    simp [D.same, sames_self h]
theorem sames_self : ∀ {d : List D}, solids d = true → sames d d = true
  | [], _ => rfl
  | d :: ds, h => by
    have h := Bool.and_eq_true_iff.mp (h : (d.solid && solids ds) = true)
    simp [sames, same_self h.1, sames_self h.2]
end
theorem solids_map {α : Type} (f : α → D) (h : ∀ a, (f a).solid = true) : ∀ xs : List α, solids (xs.map f) = true
  | [] => rfl
  | x :: xs => by
    show ((f x).solid && solids (xs.map f)) = true
    rw [h x, solids_map f h xs]
    rfl
theorem solid_ints (xs : List Int) : solids (xs.map D.int) = true := solids_map _ (fun _ => rfl) xs
theorem stays_one {i : Nat} {d : D} {env : Slots} (h : env.at i = some d) (hs : d.solid = true) : stays [(i, d)] env = true := by
  simp [stays, h, same_self hs]
theorem atI_mem {α : Type} {xs : List α} {i : Int} (h : 0 ≤ i) (h2 : i < xs.length) : ∃ x, atI xs i = some x ∧ x ∈ xs := by
  obtain ⟨x, h1, h2⟩ := atI_some h h2
  exact ⟨x, h1, List.mem_of_getElem? h2⟩
theorem log2_of_lt {n k : Nat} (h : n < 2 ^ k) (hk : 0 < k) : n.log2 < k := by
  by_cases h0 : n = 0
  · subst h0; simpa using hk
  · exact (Nat.log2_lt h0).mpr h
theorem dMulB {i j : Int} (h1 : i.natAbs < 2 ^ 1000) (h2 : j.natAbs < 2 ^ 1000) : binop .mul (.int i) (.int j) = some (.int (i * j)) := by
  have a := log2_of_lt h1 (by decide)
  have b := log2_of_lt h2 (by decide)
  show (if i.natAbs.log2 + j.natAbs.log2 < 1000000 then _ else _) = _
  rw [if_pos (by omega)]
theorem big1000 {n : Nat} (h : n < 1000000000000) : n < 2 ^ 1000 := Nat.lt_trans h (by decide +kernel)
theorem dMulS {i j : Int} (h1 : -1000000000 ≤ i ∧ i ≤ 1000000000) (h2 : -1000000000 ≤ j ∧ j ≤ 1000000000) : binop .mul (.int i) (.int j) = some (.int (i * j)) := dMulB (big1000 (by omega)) (big1000 (by omega))
theorem flat1 {α : Type} (x : α) : ∀ k : Nat, (List.replicate k [x]).flatten = List.replicate k x
  | 0 => rfl
  | k + 1 => by rw [List.replicate_succ, List.replicate_succ, List.flatten_cons, flat1 x k]; rfl
theorem dRep1 {o : Bool} {x : D} {k : Int} (hx : x.noOwn = true) (h2 : k ≤ 1000000) (h1 : -1000000 ≤ k) : binop .mul (.lst o [x]) (.int k) = some (.lst true (List.replicate k.toNat x)) := by
  have n1 : noOwns [x] = true := by show (x.noOwn && true) = true; rw [hx]; rfl
  show (if noOwns [x] = true ∧ [x].length * k.toNat ≤ sz ∧ -(2 ^ 63) ≤ k ∧ k < 2 ^ 63 then some (D.lst true (List.replicate k.toNat [x]).flatten) else none) = _
  rw [if_pos ⟨n1, by simp only [List.length_cons, List.length_nil, sz]; omega, by omega, by omega⟩, flat1]
theorem rep_ints (k : Nat) (c : Int) : List.replicate k (D.int c) = (List.replicate k c).map .int := by rw [List.map_replicate]
theorem cut_to (xs : List D) {n : Int} (h : 0 ≤ n) : cutD xs none (some n) = xs.take n.toNat := by
  unfold cutD HT.sIx
  have : ¬ n < 0 := by omega
  simp only [this, if_false, List.drop_zero, Nat.sub_zero]
  rw [Nat.min_comm]
  rcases Nat.le_total xs.length n.toNat with q | q
  · rw [Nat.min_eq_left q, List.take_of_length_le (Nat.le_refl _), List.take_of_length_le q]
  · rw [Nat.min_eq_right q]
theorem cutOp_lst (o : Bool) (xs : List D) (lo hi : Option Int) : cutOp (.lst o xs) lo hi = some (.lst true (cutD xs lo hi)) := rfl
theorem muop_ext {xs ys : List D} {o : Bool} : muop .extend (.lst true xs) [.lst o ys] = if xs.length + ys.length ≤ sz then some (.lst true (xs ++ ys), .non) else none := rfl
theorem muop_app {xs : List D} {y : D} : muop .append (.lst true xs) [y] = if xs.length < sz then some (.lst true (xs ++ [y]), .non) else none := rfl
theorem onS_if {α β : Type} {c : Prop} [Decidable c] {x : β} {k : β → R α} : onS (if c then some x else none) k = if c then k x else .no := by
  by_cases h : c
  · rw [if_pos h, if_pos h]; rfl
  · rw [if_neg h, if_neg h]; rfl
theorem atI_all {α : Type} {P : α → Prop} {xs : List α} {i : Int} (h : 0 ≤ i) (h2 : i < xs.length) (h3 : ∀ x ∈ xs, P x) : ∃ x, atI xs i = some x ∧ P x := by
  obtain ⟨x, h1, h2⟩ := atI_mem h h2
  exact ⟨x, h1, h3 x h2⟩
theorem atI_mapF {α β : Type} (f : α → β) (xs : List α) (i : Int) : atI (xs.map f) i = (atI xs i).map f := by
  unfold atI
  rw [List.length_map]
  cases ixN xs.length i with
  | none => rfl
  | some j => simp
theorem atI_ints (ns : List Int) {lo hi i : Int} {xs : List D} (e : xs = ns.map .int) (h : 0 ≤ i) (h2 : i < ns.length) (h3 : ∀ x ∈ ns, lo ≤ x ∧ x ≤ hi) : ∃ u : Int, atI xs i = some (.int u) ∧ lo ≤ u ∧ u ≤ hi := by
  subst e
  obtain ⟨x, h1, h2⟩ := atI_all h h2 h3
  exact ⟨x, by rw [atI_mapF, h1]; rfl, h2⟩
theorem ixN_1_0 : ixN 1 0 = some 0 := rfl
theorem ixN_2_0 : ixN 2 0 = some 0 := rfl
theorem ixN_2_1 : ixN 2 1 = some 1 := rfl
theorem ixN_3_0 : ixN 3 0 = some 0 := rfl
theorem ixN_3_1 : ixN 3 1 = some 1 := rfl
theorem ixN_3_2 : ixN 3 2 = some 2 := rfl
theorem ixN_4_0 : ixN 4 0 = some 0 := rfl
theorem ixN_4_1 : ixN 4 1 = some 1 := rfl
theorem ixN_4_2 : ixN 4 2 = some 2 := rfl
theorem ixN_4_3 : ixN 4 3 = some 3 := rfl
theorem getK_nil (d : D) : getK d [] = some d := by cases d <;> rfl
theorem getK_cons (d k : D) (ks : List D) : getK d (k :: ks) = (pick d k).bind fun x => getK x ks := by
  rw [getK]
  cases pick d k <;> rfl
theorem putK_nil (d n : D) : Hc.putK d [] n = some n := by cases d <;> rfl
theorem putK_cons (d k n : D) (ks : List D) : Hc.putK d (k :: ks) n = (pick d k).bind fun x => (Hc.putK x ks n).bind fun y => put1 d k y := by
  rw [Hc.putK]
  cases pick d k with
  | none => rfl
  | some x =>
    dsimp only [Option.bind_some]
    cases Hc.putK x ks n <;> rfl
theorem put1_lst (xs : List D) (i : Int) (d : D) : put1 (.lst true xs) (.int i) d = (ixN xs.length i).map fun j => .lst true (xs.set j d) := rfl
theorem put1_tup (xs : List D) (i : Int) (d : D) : put1 (.tup xs) (.int i) d = (ixN xs.length i).map fun j => .tup (xs.set j d) := rfl
theorem set1_lst (xs : List D) (i : Int) (d : D) : set1 (.lst true xs) (.int i) d = (ixN xs.length i).map fun j => .lst true (xs.set j d) := rfl
theorem isL_lst (o : Bool) (xs : List D) : isL (some (.lst o xs)) = true := rfl
theorem dPop0 (x : D) (xs : List D) : muop .popAt (.lst true (x :: xs)) [.int 0] = some (.lst true xs, x) := by
  have h : seqIndex? 0 (xs.length + 1) = some 0 := by unfold seqIndex?; simp
  simp [muop, h]
theorem addL_if {o p : Bool} {a b : List D} : binop .add (.lst o a) (.lst p b) = if a.length + b.length ≤ sz then some (.lst true (a ++ b)) else none := rfl
theorem lstq_lst (o : Bool) (xs : List D) : (D.lst o xs).lst? = some xs := rfl
theorem enum_get : ∀ {xs : List D} {n k : Nat} {d : D}, (enumD n xs)[k]? = some d → ∃ x, xs[k]? = some x ∧ d = .tup [.int ((n + k : Nat) : Int), x]
  | x :: xs, n, 0, d, h => by cases h; exact ⟨x, rfl, rfl⟩
  | x :: xs, n, k + 1, d, h => by
    obtain ⟨y, h1, h2⟩ := enum_get (n := n + 1) (xs := xs) (k := k) h
    refine ⟨y, h1, ?_⟩
    rw [h2]
    have e : n + 1 + k = n + (k + 1) := by omega
    rw [e]
theorem ite_ok {α : Type} {c : Prop} [Decidable c] {a b : α} {e : Slots} : (if c then R.ok a e else R.ok b e) = R.ok (if c then a else b) e := by split <;> rfl
theorem iteI {c : Prop} [Decidable c] {a b : Int} : (if c then D.int a else D.int b) = D.int (if c then a else b) := by split <;> rfl
theorem dIs_non : cmpop .is_ .non .non = some true := rfl
theorem dIsn_non : cmpop .isn .non .non = some false := rfl
theorem dIs_int (i : Int) : cmpop .is_ (.int i) .non = some false := rfl
theorem dIsn_int (i : Int) : cmpop .isn (.int i) .non = some true := rfl
theorem dIs_bl (b : Bool) : cmpop .is_ (.bl b) .non = some false := rfl
theorem dIsn_bl (b : Bool) : cmpop .isn (.bl b) .non = some true := rfl
theorem dIs_str (s : Str) : cmpop .is_ (.str s) .non = some false := rfl
theorem dIsn_str (s : Str) : cmpop .isn (.str s) .non = some true := rfl
theorem dIs_tup (xs : List D) : cmpop .is_ (.tup xs) .non = some false := rfl
theorem dIsn_tup (xs : List D) : cmpop .isn (.tup xs) .non = some true := rfl
theorem dIs_lst (o : Bool) (xs : List D) : cmpop .is_ (.lst o xs) .non = some false := rfl
theorem dIsn_lst (o : Bool) (xs : List D) : cmpop .isn (.lst o xs) .non = some true := rfl
theorem dEqN : cmpop .eq .non .non = some true := rfl
theorem zipOp_lst (a b : CE) (o p : Bool) (xs ys : List D) : zipOp a b (.lst o xs) (.lst p ys) = (its a (.lst o xs)).bind fun xs => (its b (.lst p ys)).map fun ys => .lst false (zipD xs ys) := rfl
theorem zipOp_tup (a b : CE) (xs ys : List D) : zipOp a b (.tup xs) (.tup ys) = (its a (.tup xs)).bind fun xs => (its b (.tup ys)).map fun ys => .lst false (zipD xs ys) := rfl
theorem all_lst (o : Bool) (xs : List D) : bltop .all [.lst o xs] = (boolsOf xs).map fun bs => .bl (bs.all id) := rfl
theorem bools_map : ∀ bs : List Bool, boolsOf (bs.map D.bl) = some bs
  | [] => rfl
  | b :: bs => by show (boolsOf (bs.map D.bl)).map (b :: ·) = _; rw [bools_map bs]; rfl
theorem sum_lst (o : Bool) (xs : List D) : bltop .sum [.lst o xs] = (intsOf xs).map fun ns => .int ns.sum := rfl
theorem ints_map : ∀ ns : List Int, intsOf (ns.map D.int) = some ns
  | [] => rfl
  | n :: ns => by show (intsOf (ns.map D.int)).map (n :: ·) = _; rw [ints_map ns]; rfl
theorem zip_len : ∀ (xs ys : List D), (zipD xs ys).length = min xs.length ys.length
  | [], _ => by simp [zipD]
  | x :: xs, [] => by simp [zipD]
  | x :: xs, y :: ys => by simp only [zipD, List.length_cons, zip_len xs ys]; omega
theorem wp_eval {α : Type} {r : R α} {a : α} {e : Slots} {Q : α → Slots → Prop} {X : Exc → Slots → Prop} (h : r = .ok a e) (k : Q a e) : r.wp Q X := by rw [h]; exact k
theorem set_wp {Γ : Glob} {i : Nat} {c : CE} {r : List CS} {env : Slots} {Q : Fw → Slots → Prop} {X : Exc → Slots → Prop} (h : ((ev Γ c).e env).wp (fun d e => (execs Γ r (e.set i (some d))).wp Q X) X) : (execs Γ (.set i c :: r) env).wp Q X := by
  refine step ?_
  show (((ev Γ c).e env).bind fun d e => .ok Fw.nx (e.set i (some d))).wp _ _
  exact R.wp_bind h
theorem ret_wp {Γ : Glob} {c : CE} {r : List CS} {env : Slots} {Q : Fw → Slots → Prop} {X : Exc → Slots → Prop} (h : ((ev Γ c).e env).wp (fun d e => Q (.ret d) e) X) : (execs Γ (.ret c :: r) env).wp Q X := by
  refine step ?_
  show (((ev Γ c).e env).bind fun d e => .ok (Fw.ret d) e).wp _ _
  exact R.wp_bind h
theorem bin_wp {Γ : Glob} {o : Bo} {a b : CE} {env : Slots} {Q : D → Slots → Prop} {X : Exc → Slots → Prop} (h2 : ∀ ra rb env, two true a ra b rb env = (ra env).bind fun x e => (rb e).bind fun y e => .ok (x, y) e)
    (h : ((ev Γ a).e env).wp (fun x e => ((ev Γ b).e e).wp (fun y e => (onS (binop o x y) fun d => .ok d e).wp Q X) X) X) : ((ev Γ (.bin o a b)).e env).wp Q X := by
  show (((two true a (ev Γ a).e b (ev Γ b).e env)).bind fun p e => lift (binop o p.1 p.2) e).wp _ _
  rw [h2]
  refine R.wp_bind (R.wp_bind (R.wp_imp h (fun x e h => ?_) fun _ _ z => z))
  refine R.wp_bind (R.wp_imp h (fun y e h => ?_) fun _ _ z => z)
  rw [w_ok, lift_eq]
  exact h
theorem truth_bl (b : Bool) : truth (.bl b) = some b := rfl
theorem truth_int (i : Int) : truth (.int i) = some (i != 0) := rfl
theorem dAdd (i j : Int) : binop .add (.int i) (.int j) = some (.int (i + j)) := rfl
theorem dSub (i j : Int) : binop .sub (.int i) (.int j) = some (.int (i - j)) := rfl
theorem dMul {i j : Int} (h : i.natAbs.log2 + j.natAbs.log2 < 1000000) : binop .mul (.int i) (.int j) = some (.int (i * j)) := by
  show (if _ then _ else _) = _
  rw [if_pos h]
theorem dMod {i j : Int} (h : 0 < j) : binop .mod (.int i) (.int j) = some (.int (i % j)) := by
  show (if _ then _ else _) = _
  rw [if_pos h]
theorem dAddL {o p : Bool} {a b : List D} (h : a.length + b.length ≤ sz) : binop .add (.lst o a) (.lst p b) = some (.lst true (a ++ b)) := by
  show (if _ then _ else _) = _
  rw [if_pos h]
theorem dLt (i j : Int) : cmpop .lt (.int i) (.int j) = some (decide (i < j)) := rfl
theorem dLe (i j : Int) : cmpop .le (.int i) (.int j) = some (decide (i ≤ j)) := rfl
theorem dGt (i j : Int) : cmpop .gt (.int i) (.int j) = some (decide (j < i)) := rfl
theorem dGe (i j : Int) : cmpop .ge (.int i) (.int j) = some (decide (j ≤ i)) := rfl
theorem dEq (i j : Int) : cmpop .eq (.int i) (.int j) = some (decide (i = j)) := by
  show (if flat 60 (D.int i) = true ∧ flat 60 (D.int j) = true then some (deq (D.int i) (D.int j)) else none) = _
  rw [if_pos ⟨rfl, rfl⟩]
  simp only [deq, D.toP, PyData.eqv]
  by_cases h : i = j <;> simp [h]
theorem dNe (i j : Int) : cmpop .ne (.int i) (.int j) = some (decide (i ≠ j)) := by
  show (if flat 60 (D.int i) = true ∧ flat 60 (D.int j) = true then some (!deq (D.int i) (D.int j)) else none) = _
  rw [if_pos ⟨rfl, rfl⟩]
  simp only [deq, D.toP, PyData.eqv]
  by_cases h : i = j <;> simp [h]
theorem dEqB (i j : Bool) : cmpop .eq (.bl i) (.bl j) = some (i == j) := by
  cases i <;> cases j <;> rfl
theorem dNeB (i j : Bool) : cmpop .ne (.bl i) (.bl j) = some (i != j) := by
  cases i <;> cases j <;> rfl
theorem dEqS (a b : Str) : cmpop .eq (.str a) (.str b) = some (decide (a = b)) := rfl
theorem dNeS (a b : Str) : cmpop .ne (.str a) (.str b) = some (!decide (a = b)) := rfl
theorem dLtS (a b : Str) : cmpop .lt (.str a) (.str b) = some (decide (a.cps.toList < b.cps.toList)) := rfl
theorem dLeS (a b : Str) : cmpop .le (.str a) (.str b) = some (!decide (b.cps.toList < a.cps.toList)) := rfl
theorem dGtS (a b : Str) : cmpop .gt (.str a) (.str b) = some (decide (b.cps.toList < a.cps.toList)) := rfl
theorem dGeS (a b : Str) : cmpop .ge (.str a) (.str b) = some (!decide (a.cps.toList < b.cps.toList)) := rfl
theorem dLenL (o : Bool) (xs : List D) : bltop .len [.lst o xs] = some (.int (xs.length : Int)) := rfl
theorem dLenT (xs : List D) : bltop .len [.tup xs] = some (.int (xs.length : Int)) := rfl
theorem dIntI (i : Int) : bltop .int [.int i] = some (.int i) := rfl
theorem dIntB (b : Bool) : bltop .int [.bl b] = some (.int (if b = true then 1 else 0)) := rfl
theorem dMin (i j : Int) : bltop .min2 [.int i, .int j] = some (.int (if j < i then j else i)) := rfl
theorem dMax (i j : Int) : bltop .max2 [.int i, .int j] = some (.int (if j > i then j else i)) := rfl
theorem shal_int (i : Int) : (D.int i).shal = true := rfl
theorem shal_bl (i : Bool) : (D.bl i).shal = true := rfl
theorem shal_str (i : Str) : (D.str i).shal = true := rfl
theorem shal_non : D.non.shal = true := rfl
theorem shal_lst (o : Bool) (xs : List D) : (D.lst o xs).shal = noOwns xs := rfl
theorem shal_tup (xs : List D) : (D.tup xs).shal = noOwns xs := rfl
theorem items_lst (o : Bool) (xs : List D) : (D.lst o xs).items? = some xs := rfl
theorem items_tup (xs : List D) : (D.tup xs).items? = some xs := rfl
theorem own_ints (xs : List Int) : noOwns (xs.map D.int) = true := noOwns_map _ (fun _ => rfl) xs
theorem fz_ints (xs : List Int) : fzs (xs.map D.int) = xs.map D.int := fzs_map _ (fun _ => rfl) xs
theorem noFzs_ints : ∀ (xs : List Int), noFzs (xs.map D.int) = true
  | [] => rfl
  | x :: xs => noFzs_ints xs
theorem dApp {xs : List D} {y : D} (h : xs.length < sz) : muop .append (.lst true xs) [y] = some (.lst true (xs ++ [y]), .non) := by
  show (if _ then _ else _) = _
  rw [if_pos h]
theorem dExt {xs ys : List D} {o : Bool} (h : xs.length + ys.length ≤ sz) : muop .extend (.lst true xs) [.lst o ys] = some (.lst true (xs ++ ys), .non) := by
  show (if _ then _ else _) = _
  rw [if_pos h]
theorem dRev {xs : List D} : muop .reverse (.lst true xs) [] = some (.lst true xs.reverse, .non) := rfl
end Hc

set_option Elab.async false
set_option linter.all false
set_option maxRecDepth 100000
set_option maxHeartbeats 1000000
namespace Hc
open PySem PySem.Spec PyProof.Rows L2
theorem whileL_eq {tc : Slots → R Bool} {body : Slots → R Fw} : ∀ (n m : Nat) (env : Slots), whileL tc body n env ≠ .no → whileL tc body m env ≠ .no → whileL tc body n env = whileL tc body m env
  | 0, _, _, h, _ => absurd rfl h
  | _ + 1, 0, _, _, h => absurd rfl h
  | n + 1, m + 1, env, h1, h2 => by
    unfold whileL at h1 h2 ⊢
    cases q : tc env with
    | no => rfl
    | ex x e => rfl
    | ok k e =>
      rw [q] at h1 h2
      dsimp only [R.bind_ok] at h1 h2 ⊢
      cases k with
      | false => rfl
      | true =>
        rw [if_pos rfl] at h1 h2 ⊢
        rw [if_pos rfl]
        cases q2 : body e with
        | no => rfl
        | ex x e => rfl
        | ok f e2 =>
          rw [q2] at h1 h2
          dsimp only [R.bind_ok] at h1 h2 ⊢
          cases f with
          | nx => exact whileL_eq n m e2 h1 h2
          | ct => exact whileL_eq n m e2 h1 h2
          | brk => rfl
          | ret d => rfl
theorem R.wp_no {α : Type} {r : R α} {Q : α → Slots → Prop} {X : Exc → Slots → Prop} (h : r.wp Q X) : r ≠ .no := by
  rintro rfl
  exact h
theorem whileL_wp {σ : Type} {tc : Slots → R Bool} {body : Slots → R Fw} {Q : Fw → Slots → Prop} {X : Exc → Slots → Prop} (enc : σ → Slots) (I : σ → Prop) (μ : σ → Nat)
    (hs : ∀ s, I s → (tc (enc s)).wp (fun k e => if k = true then (body e).wp (turnQ enc (fun s' => I s' ∧ μ s' < μ s) Q) X else Q .nx e) X) : ∀ (n : Nat) (s : σ), I s → μ s < n → (whileL tc body n (enc s)).wp Q X
  | 0, _, _, h => absurd h (Nat.not_lt_zero _)
  | n + 1, s, hI, h => by
    unfold whileL
    refine R.wp_bind (R.wp_imp (hs s hI) (fun k e hq => ?_) fun _ _ z => z)
    cases k with
    | false =>
      rw [if_neg Bool.false_ne_true] at hq ⊢
      exact hq
    | true =>
      rw [if_pos rfl] at hq ⊢
      refine R.wp_bind (R.wp_imp hq (fun f e2 hq => ?_) fun _ _ z => z)
      cases f with
      | nx =>
        obtain ⟨s', rfl, h1, h2⟩ := hq
        exact whileL_wp enc I μ hs n s' h1 (by omega)
      | ct =>
        obtain ⟨s', rfl, h1, h2⟩ := hq
        exact whileL_wp enc I μ hs n s' h1 (by omega)
      | brk => exact hq
      | ret d => exact hq
theorem wloop {σ : Type} {tc : Slots → R Bool} {body : Slots → R Fw} {Q : Fw → Slots → Prop} {X : Exc → Slots → Prop} {env : Slots} (enc : σ → Slots) (I : σ → Prop) (μ : σ → Nat) (s0 : σ) (he : env = enc s0) (h0 : I s0)
    (hs : ∀ s, I s → (tc (enc s)).wp (fun k e => if k = true then (body e).wp (turnQ enc (fun s' => I s' ∧ μ s' < μ s) Q) X else Q .nx e) X) : (whileW tc body env).wp Q X := by
  subst he
  have hw := whileL_wp enc I μ hs (μ s0 + 1) s0 h0 (Nat.lt_succ_self _)
  have hex : ∃ n, whileL tc body n (enc s0) ≠ .no := ⟨_, R.wp_no hw⟩
  unfold whileW
  rw [dif_pos hex, ← whileL_eq _ _ _ (R.wp_no hw) hex.choose_spec]
  exact hw
theorem exec_while {Γ : Glob} {c : CE} {b : List CS} {env : Slots} : exec Γ (.whileS c b) env = whileW (ev Γ c).t (execs Γ b) env := by
  conv => lhs; unfold exec
theorem dcompL_map {gs : List (Nat × D)} {vs : List Nat} {step : D → Slots → R (Option (D × D))} (env : Slots) (f g : D → D) (st : stays gs env = true) : ∀ (ds ks us : List D), (∀ d ∈ ds, (∃ e, step d env = .ok (some (f d, g d)) e ∧ wipeE e vs = env) ∧ kOk (f d) = true) → ks.length + ds.length ≤ sz →
    dcompL gs vs step ks us ds env = .ok (mergeD ks us (ds.map fun d => (f d, g d))) env
  | [], ks, us, _, _ => by
    unfold dcompL
    rw [if_pos st]
    rfl
  | d :: ds, ks, us, hs, hz => by
    obtain ⟨⟨e, h1, h2⟩, h3⟩ := hs d List.mem_cons_self
    simp only [List.length_cons] at hz
    have hl : (putD ks us (f d) (g d)).1.length ≤ ks.length + 1 := by
      unfold putD
      cases keyAt ks (f d) <;> simp
    unfold dcompL
    rw [if_pos st, h1]
    dsimp only [R.bind_ok]
    rw [if_pos ⟨h3, by omega⟩, h2, dcompL_map env f g st ds _ _ (fun x hx => hs x (List.mem_cons_of_mem _ hx)) (by omega)]
    rfl
theorem dcompL_wp {gs : List (Nat × D)} {vs : List Nat} {step : D → Slots → R (Option (D × D))} {env : Slots} {xs : List D} {Q : List D × List D → Slots → Prop} {X : Exc → Slots → Prop} (f g : D → D) (st : stays gs env = true) (hs : ∀ d ∈ xs, (∃ e, step d env = .ok (some (f d, g d)) e ∧ wipeE e vs = env) ∧ kOk (f d) = true) (hz : xs.length ≤ sz)
    (h : Q (mergeD [] [] (xs.map fun d => (f d, g d))) env) : (dcompL gs vs step [] [] xs env).wp Q X := by
  rw [dcompL_map env f g st xs [] [] hs (by simpa using hz)]
  exact h
theorem keyAt_some {ks : List D} {k : D} : (keyAt ks k).isSome = ks.any fun z => D.same z k := by
  unfold keyAt
  rw [List.findIdx?_isSome]
theorem putD_any (ks us : List D) (k v z : D) (hk : kOk k = true) (hks : ∀ x ∈ ks, kOk x = true) : (putD ks us k v).1.any (fun x => D.same x z) = (ks.any (fun x => D.same x z) || D.same k z) := by
  unfold putD
  cases h : keyAt ks k with
  | none => simp
  | some i =>
    dsimp only
    cases q : D.same k z with
    | false => simp
    | true =>
      have hs := congrArg Option.isSome h
      rw [keyAt_some] at hs
      have e := same_eq q
      subst e
      rw [hs]
      simp
theorem putD_ok (ks us : List D) (k v : D) (hk : kOk k = true) (hks : ∀ x ∈ ks, kOk x = true) : ∀ x ∈ (putD ks us k v).1, kOk x = true := by
  unfold putD
  cases h : keyAt ks k with
  | none =>
    intro x hx
    rcases List.mem_append.mp hx with hx | hx
    · exact hks x hx
    · rw [List.mem_singleton.mp hx]; exact hk
  | some i => exact hks
theorem mergeD_any : ∀ (ps : List (D × D)) (ks us : List D) (z : D), (∀ p ∈ ps, kOk p.1 = true) → (∀ x ∈ ks, kOk x = true) → (mergeD ks us ps).1.any (fun x => D.same x z) = (ks.any (fun x => D.same x z) || ps.any fun p => D.same p.1 z)
  | [], ks, us, z, _, _ => by simp [mergeD]
  | (k, v) :: ps, ks, us, z, h, hk => by
    have h1 := h (k, v) List.mem_cons_self
    unfold mergeD
    rw [mergeD_any ps _ _ z (fun p hp => h p (List.mem_cons_of_mem _ hp)) (putD_ok ks us k v h1 hk), putD_any ks us k v z h1 hk]
    simp [Bool.or_assoc]
theorem mergeD_nodup : ∀ (ps : List (D × D)) (ks us : List D), (∀ p ∈ ps, kOk p.1 = true) → (∀ x ∈ ks, kOk x = true) → (ks ++ ps.map Prod.fst).Nodup → mergeD ks us ps = (ks ++ ps.map Prod.fst, us ++ ps.map Prod.snd)
  | [], ks, us, _, _, _ => by simp [mergeD]
  | (k, v) :: ps, ks, us, h, hk, nd => by
    have h1 := h (k, v) List.mem_cons_self
    have n1 : keyAt ks k = none := by
      cases q : keyAt ks k with
      | none => rfl
      | some i =>
        have hs := congrArg Option.isSome q
        rw [keyAt_some] at hs
        obtain ⟨x, hx, e⟩ := List.any_eq_true.mp hs
        have e := same_eq e
        subst e
        exact absurd rfl ((List.nodup_append.mp nd).2.2 x hx x (by simp))
    unfold mergeD putD
    rw [n1]
    dsimp only
    rw [mergeD_nodup ps _ _ (fun p hp => h p (List.mem_cons_of_mem _ hp)) (fun x hx => (List.mem_append.mp hx).elim (hk x) fun hx => by rw [List.mem_singleton.mp hx]; exact h1) (by simpa using nd)]
    simp
theorem dInD (x : D) (o t : Bool) (ks vs : List D) : cmpop .inn x (.dic o t ks vs) = if keyOk t x = true then some (keyAt ks x).isSome else none := by
  cases x <;> rfl
theorem dNinD (x : D) (o t : Bool) (ks vs : List D) : cmpop .nin x (.dic o t ks vs) = if keyOk t x = true then some (!(keyAt ks x).isSome) else none := by
  cases x <;> rfl
theorem dLenD (o t : Bool) (ks vs : List D) : bltop .len [.dic o t ks vs] = some (.int (ks.length : Int)) := rfl
def CE.isIo : CE → Bool
  | .io _ => true
  | _ => false
theorem noIo_cons (c : CE) (d : D) (r : List (CE × D)) : noIo ((c, d) :: r) = (!c.isIo && noIo r) := by cases c <;> rfl
theorem noIo_nil : noIo [] = true := rfl
theorem gb_noIo : ∀ {l : List (CE × D)} {ps : List D} {e : Slots}, noIo l = true → giveBack l ps e = e
  | [], ps, e, _ => by cases ps <;> rfl
  | (c, d) :: r, [], e, h => by cases c <;> rfl
  | (c, d) :: r, p :: ps, e, h => by
    cases c <;> first | (cases h; done) | exact gb_noIo (l := r) h
theorem bo_noIo : ∀ {l : List (CE × D)} {ps : List D}, noIo l = true → backOk l ps = true
  | [], ps, _ => by cases ps <;> rfl
  | (c, d) :: r, [], h => by cases c <;> rfl
  | (c, d) :: r, p :: ps, h => by
    cases c <;> first | (cases h; done) | exact bo_noIo (l := r) h
theorem deq_of {x y : D} (hx : flat 60 x = true) (h : x.toP = y.toP) : deq x y = true := by
  unfold deq
  rw [← h]
  exact PySem.SeqAt.eqv_refl _ (flat_can x 60 hx).1
theorem dEqT (xs : List D) (y : D) : cmpop .eq (.tup xs) y = if flat 60 (.tup xs) = true ∧ flat 60 y = true then some (deq (.tup xs) y) else none := by cases y <;> rfl
theorem dNeT (xs : List D) (y : D) : cmpop .ne (.tup xs) y = if flat 60 (.tup xs) = true ∧ flat 60 y = true then some (!deq (.tup xs) y) else none := by cases y <;> rfl
theorem dEqL (o : Bool) (xs : List D) (y : D) : cmpop .eq (.lst o xs) y = if flat 60 (.lst o xs) = true ∧ flat 60 y = true then some (deq (.lst o xs) y) else none := by cases y <;> rfl
theorem dNeL (o : Bool) (xs : List D) (y : D) : cmpop .ne (.lst o xs) y = if flat 60 (.lst o xs) = true ∧ flat 60 y = true then some (!deq (.lst o xs) y) else none := by cases y <;> rfl
theorem eqT {xs ys : List D} (hx : flat 60 (.tup xs) = true) (hy : flat 60 (.tup ys) = true) (h : (D.tup xs).toP = (D.tup ys).toP) : cmpop .eq (.tup xs) (.tup ys) = some true ∧ cmpop .ne (.tup xs) (.tup ys) = some false := by
  rw [dEqT, dNeT, if_pos ⟨hx, hy⟩, if_pos ⟨hx, hy⟩, deq_of hx h]
  exact ⟨rfl, rfl⟩
theorem eqL {o p : Bool} {xs ys : List D} (hx : flat 60 (.lst o xs) = true) (hy : flat 60 (.lst p ys) = true) (h : (D.lst o xs).toP = (D.lst p ys).toP) : cmpop .eq (.lst o xs) (.lst p ys) = some true ∧ cmpop .ne (.lst o xs) (.lst p ys) = some false := by
  rw [dEqL, dNeL, if_pos ⟨hx, hy⟩, if_pos ⟨hx, hy⟩, deq_of hx h]
  exact ⟨rfl, rfl⟩
end Hc

set_option Elab.async false
set_option linter.all false
set_option maxRecDepth 100000
set_option maxHeartbeats 1000000
namespace Hc
open PySem PySem.Spec PyProof.Rows L2
section
variable {α β σ : Type} {g : List (Nat × D)} {vs : List Nat} {tg : Tg} {X : Exc → Slots → Prop} {env : Slots}
theorem comp_f {stp : D → Slots → R (Option D)} {Q : List D → Slots → Prop} (ys : List α) (enc : α → D) (enc' : β → D) (f : α → Option β) (st : stays g env = true) (hz : ys.length ≤ sz)
    (hs : ∀ y ∈ ys, (stp (enc y) env).wp (fun o e2 => wipeE e2 vs = env ∧ o = (f y).map enc') X)
    (hend : Q ((ys.filterMap f).map enc') env) : (compL g vs stp [] (ys.map enc) env).wp Q X := by
  refine cloop (σ := Unit) (fun _ => env) (fun k acc _ => acc = ((ys.take k).filterMap f).map enc') () rfl (fun _ => st) (by simpa using hz) (by simp) ?_ ?_
  · rintro k d acc _ hk rfl
    rw [List.getElem?_map] at hk
    obtain ⟨y, hy, rfl⟩ := Option.map_eq_some_iff.mp hk
    refine R.wp_imp (hs y (List.mem_of_getElem? hy)) ?_ fun _ _ z => z
    rintro o e ⟨h1, rfl⟩
    refine ⟨(), h1, ?_⟩
    have e2 : ys.take (k + 1) = ys.take k ++ [y] := by rw [List.take_succ, hy]; rfl
    cases q : f y with
    | none => simp [e2, q]
    | some z => simp [e2, q]
  · rintro acc _ rfl
    rw [List.length_map, List.take_length]
    exact hend
theorem comp_m {stp : D → Slots → R (Option D)} {Q : List D → Slots → Prop} (ys : List α) (enc : α → D) (enc' : β → D) (f : α → β) (st : stays g env = true) (hz : ys.length ≤ sz)
    (hs : ∀ y ∈ ys, (stp (enc y) env).wp (fun o e2 => wipeE e2 vs = env ∧ o = some (enc' (f y))) X)
    (hend : Q ((ys.map f).map enc') env) : (compL g vs stp [] (ys.map enc) env).wp Q X := by
  refine comp_f ys enc enc' (fun y => some (f y)) st hz (fun y hy => R.wp_imp (hs y hy) (fun o e h => h) fun _ _ z => z) ?_
  rw [List.filterMap_eq_map']
  exact hend
theorem comp_m' {stp : D → Slots → R (Option D)} {Q : List D → Slots → Prop} {xs : List D} (ys : List α) (enc : α → D) (enc' : β → D) (f : α → β) (e : xs = ys.map enc) (st : stays g env = true) (hz : ys.length ≤ sz)
    (hs : ∀ y ∈ ys, (stp (enc y) env).wp (fun o e2 => wipeE e2 vs = env ∧ o = some (enc' (f y))) X)
    (hend : Q ((ys.map f).map enc') env) : (compL g vs stp [] xs env).wp Q X := by
  subst e
  exact comp_m ys enc enc' f st hz hs hend
theorem comp_k {stp : D → Slots → R (Option D)} {Q : List D → Slots → Prop} (ys : List α) (enc : α → D) (enc' : β → D) (p : α → Bool) (f : α → β) (st : stays g env = true) (hz : ys.length ≤ sz)
    (hs : ∀ y ∈ ys, (stp (enc y) env).wp (fun o e2 => wipeE e2 vs = env ∧ o = if p y = true then some (enc' (f y)) else none) X)
    (hend : Q (((ys.filter p).map f).map enc') env) : (compL g vs stp [] (ys.map enc) env).wp Q X := by
  refine comp_f ys enc enc' (fun y => if p y = true then some (f y) else none) st hz (fun y hy => R.wp_imp (hs y hy) (fun o e h => ⟨h.1, ?_⟩) fun _ _ z => z) ?_
  · rw [h.2]
    by_cases q : p y = true
    · rw [if_pos q, if_pos q]; rfl
    · rw [if_neg q, if_neg q]; rfl
  · have : ys.filterMap (fun y => if p y = true then some (f y) else none) = (ys.filter p).map f := by
      clear hs hend hz
      induction ys with
      | nil => rfl
      | cons y ys ih =>
        by_cases q : p y = true
        · simp [q, ih]
        · simp [q, ih]
    rw [this]
    exact hend
theorem comp_p {stp : D → Slots → R (Option D)} {Q : List D → Slots → Prop} (ys : List α) (enc : α → D) (encS : σ → Slots) (I : List α → List D → σ → Prop) (s0 : σ) (he : env = encS s0) (st : ∀ s, stays g (encS s) = true) (hz : ys.length ≤ sz) (h0 : I [] [] s0)
    (hs : ∀ pre y post acc s, ys = pre ++ y :: post → I pre acc s → (stp (enc y) (encS s)).wp (fun o e2 => ∃ s', wipeE e2 vs = encS s' ∧ match o with
      | some d => I (pre ++ [y]) (acc ++ [d]) s'
      | none => I (pre ++ [y]) acc s') X)
    (hend : ∀ acc s, I ys acc s → Q acc (encS s)) : (compL g vs stp [] (ys.map enc) env).wp Q X := by
  refine cloop encS (fun k acc s => I (ys.take k) acc s) s0 he st (by simpa using hz) (by simpa using h0) ?_ ?_
  · rintro k d acc s hk hI
    rw [List.getElem?_map] at hk
    obtain ⟨y, hy, rfl⟩ := Option.map_eq_some_iff.mp hk
    obtain ⟨hlt, rfl⟩ := List.getElem?_eq_some_iff.mp hy
    have e : ys = ys.take k ++ ys[k] :: ys.drop (k + 1) := by simp
    have e2 : ys.take (k + 1) = ys.take k ++ [ys[k]] := by rw [List.take_succ, hy]; rfl
    rw [e2]
    exact hs _ _ _ acc s e hI
  · intro acc s hI
    rw [List.length_map, List.take_length] at hI
    exact hend acc s hI
theorem loop_p {body : Slots → R Fw} {Q : Fw → Slots → Prop} (ys : List α) (enc : α → D) (encS : σ → Slots) (I : List α → σ → Prop) (s0 : σ) (he : env = encS s0) (st : ∀ s, stays g (encS s) = true) (h0 : I [] s0)
    (hs : ∀ pre y post s, ys = pre ++ y :: post → I pre s → ∃ e1, bindTg tg (enc y) (encS s) = some e1 ∧ (body e1).wp (turnQ encS (I (pre ++ [y])) Q) X)
    (hend : ∀ s, I ys s → Q .nx (encS s)) : (forL g tg body (ys.map enc) env).wp Q X := by
  refine loop encS (fun k s => I (ys.take k) s) s0 he st (by simpa using h0) ?_ ?_
  · rintro k d s hk hI
    rw [List.getElem?_map] at hk
    obtain ⟨y, hy, rfl⟩ := Option.map_eq_some_iff.mp hk
    obtain ⟨hlt, rfl⟩ := List.getElem?_eq_some_iff.mp hy
    have e : ys = ys.take k ++ ys[k] :: ys.drop (k + 1) := by simp
    have e2 : ys.take (k + 1) = ys.take k ++ [ys[k]] := by rw [List.take_succ, hy]; rfl
    rw [e2]
    exact hs _ _ _ s e hI
  · intro s hI
    rw [List.length_map, List.take_length] at hI
    exact hend s hI
end
theorem rc_d {r : Rc} {d : D} (h : r.wp (fun x _ => x = d) noXc) : ∃ ps, r = .ok d ps := by
  obtain ⟨x, y, e, rfl⟩ := Rc.wp_ex h
  exact ⟨y, e⟩
theorem enum_map {α : Type} (enc : α → D) : ∀ (ys : List α) (n : Nat), enumD n (ys.map enc) = (ys.zipIdx n).map fun p => .tup [.int (p.2 : Int), enc p.1]
  | [], n => rfl
  | y :: ys, n => by
    show D.tup [.int n, enc y] :: enumD (n + 1) (ys.map enc) = _
    rw [enum_map enc ys (n + 1)]
    rfl
theorem zip_map {α β : Type} (e1 : α → D) (e2 : β → D) : ∀ (xs : List α) (ys : List β), zipD (xs.map e1) (ys.map e2) = (xs.zip ys).map fun p => .tup [e1 p.1, e2 p.2]
  | [], ys => by simp [zipD]
  | x :: xs, [] => by simp [zipD]
  | x :: xs, y :: ys => by
    show D.tup [e1 x, e2 y] :: zipD (xs.map e1) (ys.map e2) = _
    rw [zip_map e1 e2 xs ys]
    rfl
theorem upto_map (lo : Int) (n : Nat) : upto lo n = (List.range n).map fun (i : Nat) => .int (lo + i) := rfl
theorem upto0 (n : Nat) : upto 0 n = (List.range n).map fun (i : Nat) => .int (i : Int) := by
  unfold upto
  congr 1
  funext i
  rw [Int.zero_add]
theorem ltD_irr (x : D) : ltD x x = false := lex_irrefl _
theorem ltD_tr {x y z : D} (h1 : ltD x y = true) (h2 : ltD y z = true) : ltD x z = true := lex_trans _ _ _ h1 h2
theorem ltD_toks {x y : D} (h1 : ltD x y = false) (h2 : ltD y x = false) : PySem.W.keyToks x.toP = PySem.W.keyToks y.toP := lex_total _ _ h1 h2
theorem ltD_of_toks {x y z : D} (h : PySem.W.keyToks x.toP = PySem.W.keyToks y.toP) : ltD x z = ltD y z ∧ ltD z x = ltD z y := by
  unfold ltD PySem.W.dataLt
  rw [h]
  exact ⟨rfl, rfl⟩
theorem ltD_asy {x y : D} (h : ltD x y = true) : ltD y x = false := by
  cases q : ltD y x with
  | false => rfl
  | true =>
    have := ltD_tr h q
    rw [ltD_irr] at this
    cases this
theorem ltD_ng {x y z : D} (h1 : ltD x y = false) (h2 : ltD y z = false) : ltD x z = false := by
  cases q : ltD x z with
  | false => rfl
  | true =>
    cases q2 : ltD y x with
    | true =>
      have := ltD_tr q2 q
      rw [h2] at this
      cases this
    | false =>
      have e := ltD_toks h1 q2
      rw [(ltD_of_toks (z := z) e).1, h2] at q
      cases q
def ltL (xs ys : List D) : Bool := PyProof.Rows.lexLt PyProof.Rows.itemOrd (PySem.W.keyToksAll (toPs xs)) (PySem.W.keyToksAll (toPs ys))
theorem ltD_tup (xs ys : List D) : ltD (.tup xs) (.tup ys) = ltL xs ys := PySem.W.dataLt_tuple _ _
theorem ltD_lst (o p : Bool) (xs ys : List D) : ltD (.lst o xs) (.lst p ys) = ltL xs ys := PySem.W.dataLt_list _ _
theorem ltL_nil : ltL [] [] = false := lex_irrefl _
theorem ltL_yes {x y : D} {xs ys : List D} (h : PySem.W.alike x.toP y.toP = true) (e : deq x y = true) : ltL (x :: xs) (y :: ys) = ltL xs ys := PySem.W.dataLt_all_yes h e
theorem ltL_no {x y : D} {xs ys : List D} (h : PySem.W.alike x.toP y.toP = true) (e : deq x y = false) : ltL (x :: xs) (y :: ys) = ltD x y := PySem.W.dataLt_all_no h e
theorem ltD_int (i j : Int) : ltD (.int i) (.int j) = decide (i < j) := PySem.W.dataLt_int i j
theorem ltD_str (a b : Str) : ltD (.str a) (.str b) = decide (a.cps.toList < b.cps.toList) := PySem.W.dataLt_str a b
theorem deq_int (i j : Int) : deq (.int i) (.int j) = decide (i = j) := by
  unfold deq
  simp only [D.toP, PyData.eqv]
  by_cases h : i = j <;> simp [h]
theorem alike_int (i j : Int) : PySem.W.alike (D.int i).toP (D.int j).toP = true := by
  simp [D.toP, PySem.W.alike]
theorem ltL_int (i j : Int) (xs ys : List D) : ltL (.int i :: xs) (.int j :: ys) = if i = j then ltL xs ys else decide (i < j) := by
  by_cases h : i = j
  · rw [if_pos h, ltL_yes (alike_int i j) (by rw [deq_int]; simpa using h)]
  · rw [if_neg h, ltL_no (alike_int i j) (by rw [deq_int]; simpa using h), ltD_int]
theorem deq_str (a b : Str) : deq (.str a) (.str b) = decide (a = b) := by
  unfold deq
  simp only [D.toP, PyData.eqv]
  by_cases h : a = b <;> simp [h]
theorem ltL_str (a b : Str) (xs ys : List D) : ltL (.str a :: xs) (.str b :: ys) = if a = b then ltL xs ys else decide (a.cps.toList < b.cps.toList) := by
  have hal : PySem.W.alike (D.str a).toP (D.str b).toP = true := by simp [D.toP, PySem.W.alike]
  by_cases h : a = b
  · rw [if_pos h, ltL_yes hal (by rw [deq_str]; simpa using h)]
  · rw [if_neg h, ltL_no hal (by rw [deq_str]; simpa using h), ltD_str]
theorem sortD_mapL {α : Type} (enc : α → D) (le : α → α → Bool) (ys : List α) (h : ∀ a ∈ ys, ∀ b ∈ ys, le a b = !ltD (enc b) (enc a)) : sortD (ys.map enc) = (ys.mergeSort le).map enc := (List.map_mergeSort h).symm
theorem alike_self_of {α : Type} (enc : α → D) (ys : List α) (h : ∀ a ∈ ys, ∀ b ∈ ys, PySem.W.alike (enc a).toP (enc b).toP = true) : allTwo (fun x y => PySem.W.alike x.toP y.toP) (ys.map enc) = true := by
  unfold allTwo
  rw [List.all_eq_true]
  intro x hx
  obtain ⟨a, ha, rfl⟩ := List.mem_map.mp hx
  rw [List.all_eq_true]
  intro y hy
  obtain ⟨b, hb, rfl⟩ := List.mem_map.mp hy
  exact h a ha b hb
end Hc

set_option Elab.async false
set_option linter.all false
set_option maxRecDepth 100000
set_option maxHeartbeats 1000000
namespace Hp
open Hc PySem PySem.Spec PyProof.Rows L2
local macro_rules
  | `(tactic| simp! [$xs,*]) => `(tactic| simp -implicitDefEqProofs -dsimp only [↓Hc.w_bind, ↓Hc.w_ok, Hc.w_no, Hc.w_guard, Hc.w_go, Hc.w_nil, Hc.wc_ok, Hc.af_nx, Hc.af_ret, Hc.af_brk, Hc.af_ct, Hc.onS_some, Hc.altS_some, Hc.altS_none, Hc.exec, ev, evL, evA, mkE, cCall_eq, cCallk_eq, seqA, argE, Hc.cNm_eq, Hc.cMv_eq, Hc.fetch_nil, Hc.fetch_cons, goOf_some, lent, giveBack, backOk, noIo, cOrT, cNotT, cAndT, cOr, cNot, cAnd, Hc.view_eq, Hc.peek_nm, Hc.peek_lit, Hc.peek_gc, Hc.peek_sub, Hc.peek_neg, Hc.peek_len, Hc.peek_add, Hc.peek_bsub, Hc.peek_call, Hc.peek_lst, Hc.peek_nop, Hc.peek_tup, Hc.peek_sli, Hc.peek_comp, Hc.peek_mul, Hc.peek_mod, Hc.peek_fdv, Hc.peek_pow, Hc.peek_callk, Hc.peek_ifgt, Hc.peek_iflt, Hc.peek_ifne, Hc.peek_ifle, Hc.peek_ifge, Hc.peek_ifis, Hc.peek_ifisn, Hc.peek_ifinn, Hc.peek_ifnin, Hc.peek_ifnm, Hc.peek_ifand, Hc.peek_ifor, Hc.peek_ifnot, Hc.peek_ifsub, Hc.peek_ifcall, Hc.peek_ifisi, Hc.peek_ifeq, Hc.peek_isi, Hc.peek_cmp, Hc.peek_mu, Hc.peek_mv, Hc.peek_sum, Hc.peek_repr, Hc.peek_int, Hc.peek_str, Hc.peek_all, Hc.peek_max2, Hc.peek_min2, cChain, cCmp, cNeg, cBin, two, Hc.opd_eq, Hc.lift_eq, Hc.truth_bl, Hc.truth_int, D.fz, Hc.shal_int, Hc.shal_bl, Hc.shal_str, Hc.shal_non, Hc.shal_lst, Hc.shal_tup, flat, cIsi, isTy, cIf, cTup, cLst, seqE, Hc.cSub_eq, Hc.pick_lst, Hc.pick_tup, Hc.atI_0, Hc.atI_1, Hc.atI_2, Hc.atI_3, Hc.negD, Hc.addD, Hc.subD, cBl1, cBl, Bl.looks, Hc.dAdd, Hc.dSub, Hc.dLt, Hc.dLe, Hc.dGt, Hc.dGe, Hc.dEq, Hc.dNe, Hc.dEqB, Hc.dNeB, Hc.dEqS, Hc.dNeS, Hc.dLenL, Hc.dLenT, Hc.dIntI, Hc.dIntB, Hc.dMin, Hc.dMax, D.noOwn, noOwns, D.noFz, noFzs, Hc.own_ints, Hc.fz_ints, Hc.noFzs_ints, Hc.R.bind_ok, at_zero, at_succ, List.set_cons_zero, List.set_cons_succ, Option.map_some, Option.bind_some, Option.bind_none, sz, Nat.reduceAdd, Nat.reduceLeDiff, Nat.reduceLT, Int.reduceLE, Int.reduceLT, Int.reduceToNat, Hc.turnQ_nx, Hc.turnQ_ct, Hc.turnQ_brk, Hc.turnQ_ret, Hc.retQ_ret, Hc.retQ_nx, Hc.outs_nil, Hc.outs_t, Hc.outs_f, Option.getD_some, Option.getD_none, cIt, cRng1, cRng2, its, CE.isNm, guards, Hc.items_lst, Hc.items_tup, cMu, cMuEnd, Hc.isL_lst, List.map_cons, List.map_nil, List.getD_cons_zero, List.getD_cons_succ, Hc.getK_nil, Hc.getK_cons, Hc.putK_nil, Hc.putK_cons, Hc.put1_lst, Hc.put1_tup, Hc.set1_lst, Hc.dPop0, Hc.dRev, List.nil_append, List.cons_append, Hc.ixN_1_0, Hc.ixN_2_0, Hc.ixN_2_1, Hc.ixN_3_0, Hc.ixN_3_1, Hc.ixN_3_2, Hc.ixN_4_0, Hc.ixN_4_1, Hc.ixN_4_2, Hc.ixN_4_3, calms, CE.calm, pathOf, cSetSub, cSetEnd, cEnu, cZip, Hc.lstq_lst, Hc.addL_if, Hc.dEqN, Hc.zipOp_lst, Hc.zipOp_tup, Hc.all_lst, Hc.bools_map, Hc.sum_lst, Hc.ints_map, Hc.dIs_non, Hc.dIsn_non, Hc.dIs_int, Hc.dIsn_int, Hc.dIs_bl, Hc.dIsn_bl, Hc.dIs_str, Hc.dIsn_str, Hc.dIs_tup, Hc.dIsn_tup, Hc.dIs_lst, Hc.dIsn_lst, Hc.ite_ok, Hc.iteI, cComp, cSli, eNop, Hc.cutOp_lst, Hc.peek_vm, Hc.peek_vi, Hc.peek_rev, Hc.peek_lrng1, Hc.peek_lrng2, Hc.peek_dcomp, Hc.peek_ddisp, Hc.peek_dnew, Hc.peek_dget, Hc.peek_not, Hc.peek_and, Hc.peek_or, Hc.peek_chain, Hc.peek_shl, Hc.peek_shr, Hc.peek_band, Hc.peek_bor, Hc.peek_sorted, Hc.peek_list, Hc.peek_tuple, Hc.peek_divmod, Hc.peek_abs, Hc.peek_bool, Hc.pickA_lst, Hc.pickA_tup, Hc.walk_lst, Hc.walk_tup, Hc.revOp_lst, Hc.dSorted, Hc.dListL, Hc.dListT, Hc.dTupL, Hc.dTupT, Hc.dDivmod, Hc.dAbs, Hc.dBoolI, Hc.dBoolB, Hc.dStrS, Hc.dRemove, Hc.dShr, Hc.dShl, cVm0, cVm1, cVi, isL0, cRev, cLr1, cLr2, cDcomp, cDdisp, seqP, turnK, beq_self_eq_true, Bool.true_beq, Bool.false_beq, Hc.muop_ext, Hc.muop_app, Hc.onS_if, List.length_map, List.length_append, turnE, Hc.w_mute, bindTg, setAll, wipeE, Hc.again, Option.isSome_some, Bool.not_true, Bool.not_false, Bool.and_true, Bool.true_and, Bool.and_false, Bool.false_and, Bool.or_true, Bool.true_or, Bool.or_false, Bool.false_or, if_true, if_false, ite_true, ite_false, Bool.false_eq_true, true_and, and_true, decide_true, decide_false, reduceCtorEq, Nat.add_zero, Nat.zero_add, List.all_cons, List.all_nil, List.any_cons, List.any_nil, fzs, List.length_cons, List.length_nil, Option.some.injEq, exists_eq_left', $xs,*])
  | `(tactic| walk_at "s") => `(tactic| (refine step ?_; simp! []))
def Yes (r : Rc) : Prop := r.wp (fun d ps => d = .bl true ∧ ∃ a b, ps = [a, b]) noXc
def plainD : Nat → D → Bool
  | _, .non => true
  | _, .bl _ => true
  | _, .int _ => true
  | _, .str _ => true
  | n + 1, .tup xs => xs.all (plainD n) && decide (xs.length ≤ sz)
  | n + 1, .lst false xs => xs.all (plainD n) && decide (xs.length ≤ sz)
  | _, _ => false
theorem plain_fz : ∀ (n : Nat) (d : D), plainD n d = true → d.fz = d ∧ d.noOwn = true
  | _, .non, _ => ⟨rfl, rfl⟩
  | _, .bl _, _ => ⟨rfl, rfl⟩
  | _, .int _, _ => ⟨rfl, rfl⟩
  | _, .str _, _ => ⟨rfl, rfl⟩
  | 0, .tup xs, h => by simp [plainD] at h
  | 0, .lst true xs, h => by simp [plainD] at h
  | 0, .lst false xs, h => by simp [plainD] at h
  | n + 1, .lst true xs, h => by simp [plainD] at h
  | _, .gone, h => by simp [plainD] at h
  | _, .dic _ _ _ _, h => by simp [plainD] at h
  | _, .obj _ _ _ _, h => by simp [plainD] at h
  | n + 1, .tup xs, h => by
    simp only [plainD, Bool.and_eq_true, List.all_eq_true] at h
    have : ∀ (l : List D), (∀ x ∈ l, plainD n x = true) → fzs l = l ∧ noOwns l = true := by
      intro l
      induction l with
      | nil => intro _; exact ⟨rfl, rfl⟩
      | cons x l ih =>
        intro hl
        obtain ⟨h1, h2⟩ := plain_fz n x (hl x List.mem_cons_self)
        obtain ⟨h3, h4⟩ := ih fun y hy => hl y (List.mem_cons_of_mem _ hy)
        exact ⟨by show x.fz :: fzs l = _; rw [h1, h3], by show (x.noOwn && noOwns l) = true; rw [h2, h4]; rfl⟩
    obtain ⟨h1, h2⟩ := this xs h.1
    exact ⟨by show D.tup (fzs xs) = _; rw [h1], h2⟩
  | n + 1, .lst false xs, h => ⟨rfl, rfl⟩
theorem plains_own {n : Nat} : ∀ {l : List D}, l.all (plainD n) = true → noOwns l = true
  | [], _ => rfl
  | x :: l, h => by
    simp only [List.all_cons, Bool.and_eq_true] at h
    show (x.noOwn && noOwns l) = true
    rw [(plain_fz n x h.1).2, plains_own h.2]; rfl
theorem zip_get : ∀ {xs ys : List D} {i : Nat} {d : D}, (zipD xs ys)[i]? = some d → ∃ x y, xs[i]? = some x ∧ ys[i]? = some y ∧ d = .tup [x, y]
  | [], _, i, d, h => by simp [zipD] at h
  | x :: xs, [], i, d, h => by simp [zipD] at h
  | x :: xs, y :: ys, 0, d, h => by cases h; exact ⟨x, y, rfl, rfl, rfl⟩
  | x :: xs, y :: ys, i + 1, d, h => zip_get (xs := xs) (ys := ys) (i := i) h
def bEqual : List CS := [
  .ifS (.isi (.nm 1) [.list, .tuple]) [.ifS (.orE (.cmp .ne (.isi (.nm 0) [.list]) (.isi (.nm 1) [.list])) (.cmp .ne (.isi (.nm 0) [.tuple]) (.isi (.nm 1) [.tuple]))) [.ret (.lit (.bl false))] [], .ret (.andE (.cmp .eq (.blt .len [(.nm 0)]) (.blt .len [(.nm 1)])) (.blt .all [(.comp [2, 3] (.tup [2, 3]) (.zip (.nm 0) (.nm 1)) .nop (.call "_law_equal" [(.nm 2), (.nm 3)]))]))] [],
  .ifS (.orE (.cmp .is_ (.nm 1) (.lit .non)) (.isi (.nm 1) [.bool, .str])) [.ret (.andE (.cmp .eq (.nm 0) (.nm 1)) (.cmp .eq (.isi (.nm 0) [.bool]) (.isi (.nm 1) [.bool])))] [],
  .ret (.andE (.isi (.nm 0) [.int]) (.andE (.notE (.isi (.nm 0) [.bool])) (.cmp .eq (.nm 0) (.nm 1))))]
theorem equal_step {Γ : Glob} {n : Nat} (h : ∀ d, plainD n d = true → Yes (Γ "_law_equal" [d, d])) (d : D) (hd : plainD (n + 1) d = true) : Yes (runDef Γ 4 bEqual [d, d]) := by
  refine run_wp2 (env := [some d, some d, none, none]) (ks := [true, true]) rfl rfl ?_
  unfold bEqual
  cases d
  case int i =>
    walk_at "s"
    walk_at "s"
    walk_at "s"
    exact ⟨_, _, rfl⟩
  case bl i =>
    walk_at "s"
    walk_at "s"
    walk_at "s"
    exact ⟨_, _, rfl⟩
  case str i =>
    walk_at "s"
    walk_at "s"
    walk_at "s"
    exact ⟨_, _, rfl⟩
  case non =>
    walk_at "s"
    walk_at "s"
    walk_at "s"
    exact ⟨_, _, rfl⟩
  case gone => simp [plainD] at hd
  case dic => simp [plainD] at hd
  case obj => simp [plainD] at hd
  case tup xs =>
    simp only [plainD, Bool.and_eq_true, decide_eq_true_eq] at hd
    have ow := plains_own hd.1
    walk_at "s"
    refine step ?_
    simp! [ow]
    refine step ?_
    simp! [ow]
    refine cloop (σ := Unit) (fun _ => [some (.tup xs), some (.tup xs), none, none]) (fun k acc _ => acc = (List.replicate k true).map .bl) () rfl (fun _ => rfl) (by rw [Hc.zip_len]; omega) rfl ?_ ?_
    · intro k d acc _ hk ha
      obtain ⟨x, y, hx, hy, rfl⟩ := zip_get hk
      rw [hx] at hy; cases hy
      have px : plainD n x = true := List.all_eq_true.mp hd.1 x (List.mem_of_getElem? hx)
      obtain ⟨f1, f2⟩ := plain_fz n x px
      simp! [f1]
      refine Rc.then (h x px) ?_
      rintro _ _ ⟨rfl, a, b, rfl⟩
      simp! []
      refine ⟨(), ?_⟩; rw [ha, List.replicate_succ', List.map_append]; rfl
    · intro acc _ ha
      rw [ha]
      simp! [List.all_replicate]
      exact ⟨by simp, _, _, rfl⟩
  case lst o xs =>
    cases o
    · simp only [plainD, Bool.and_eq_true, decide_eq_true_eq] at hd
      have ow := plains_own hd.1
      walk_at "s"
      refine step ?_
      simp! [ow]
      refine step ?_
      simp! [ow]
      refine cloop (σ := Unit) (fun _ => [some (.lst false xs), some (.lst false xs), none, none]) (fun k acc _ => acc = (List.replicate k true).map .bl) () rfl (fun _ => rfl) (by rw [Hc.zip_len]; omega) rfl ?_ ?_
      · intro k d acc _ hk ha
        obtain ⟨x, y, hx, hy, rfl⟩ := zip_get hk
        rw [hx] at hy; cases hy
        have px : plainD n x = true := List.all_eq_true.mp hd.1 x (List.mem_of_getElem? hx)
        obtain ⟨f1, f2⟩ := plain_fz n x px
        simp! [f1]
        refine Rc.then (h x px) ?_
        rintro _ _ ⟨rfl, a, b, rfl⟩
        simp! []
        refine ⟨(), ?_⟩; rw [ha, List.replicate_succ', List.map_append]; rfl
      · intro acc _ ha
        rw [ha]
        simp! [List.all_replicate]
        exact ⟨by simp, _, _, rfl⟩
    · simp [plainD] at hd
theorem equal_base {Γ : Glob} (d : D) (hd : plainD 0 d = true) : Yes (runDef Γ 4 bEqual [d, d]) := by
  refine run_wp2 (env := [some d, some d, none, none]) (ks := [true, true]) rfl rfl ?_
  unfold bEqual
  cases d
  case int i =>
    walk_at "s"
    walk_at "s"
    walk_at "s"
    exact ⟨_, _, rfl⟩
  case bl i =>
    walk_at "s"
    walk_at "s"
    walk_at "s"
    exact ⟨_, _, rfl⟩
  case str i =>
    walk_at "s"
    walk_at "s"
    walk_at "s"
    exact ⟨_, _, rfl⟩
  case non =>
    walk_at "s"
    walk_at "s"
    walk_at "s"
    exact ⟨_, _, rfl⟩
  case gone => simp [plainD] at hd
  case dic => simp [plainD] at hd
  case obj => simp [plainD] at hd
  case tup => simp [plainD] at hd
  case lst => simp [plainD] at hd
end Hp

set_option Elab.async false
set_option linter.all false
set_option maxRecDepth 100000
set_option maxHeartbeats 1000000
namespace Hp
open Hc PySem PySem.Spec PyProof.Rows L2
local macro_rules
  | `(tactic| simp! [$xs,*]) => `(tactic| simp -implicitDefEqProofs -dsimp only [↓Hc.w_bind, ↓Hc.w_ok, Hc.w_no, Hc.w_guard, Hc.w_go, Hc.w_nil, Hc.wc_ok, Hc.af_nx, Hc.af_ret, Hc.af_brk, Hc.af_ct, Hc.onS_some, Hc.altS_some, Hc.altS_none, Hc.exec, ev, evL, evA, mkE, cCall_eq, cCallk_eq, seqA, argE, Hc.cNm_eq, Hc.cMv_eq, Hc.fetch_nil, Hc.fetch_cons, goOf_some, lent, giveBack, backOk, noIo, cOrT, cNotT, cAndT, cOr, cNot, cAnd, Hc.view_eq, Hc.peek_nm, Hc.peek_lit, Hc.peek_gc, Hc.peek_sub, Hc.peek_neg, Hc.peek_len, Hc.peek_add, Hc.peek_bsub, Hc.peek_call, Hc.peek_lst, Hc.peek_nop, Hc.peek_tup, Hc.peek_sli, Hc.peek_comp, Hc.peek_mul, Hc.peek_mod, Hc.peek_fdv, Hc.peek_pow, Hc.peek_callk, Hc.peek_ifgt, Hc.peek_iflt, Hc.peek_ifne, Hc.peek_ifle, Hc.peek_ifge, Hc.peek_ifis, Hc.peek_ifisn, Hc.peek_ifinn, Hc.peek_ifnin, Hc.peek_ifnm, Hc.peek_ifand, Hc.peek_ifor, Hc.peek_ifnot, Hc.peek_ifsub, Hc.peek_ifcall, Hc.peek_ifisi, Hc.peek_ifeq, Hc.peek_isi, Hc.peek_cmp, Hc.peek_mu, Hc.peek_mv, Hc.peek_sum, Hc.peek_repr, Hc.peek_int, Hc.peek_str, Hc.peek_all, Hc.peek_max2, Hc.peek_min2, cChain, cCmp, cNeg, cBin, two, Hc.opd_eq, Hc.lift_eq, Hc.truth_bl, Hc.truth_int, D.fz, Hc.shal_int, Hc.shal_bl, Hc.shal_str, Hc.shal_non, Hc.shal_lst, Hc.shal_tup, flat, cIsi, isTy, cIf, cTup, cLst, seqE, Hc.cSub_eq, Hc.pick_lst, Hc.pick_tup, Hc.atI_0, Hc.atI_1, Hc.atI_2, Hc.atI_3, Hc.negD, Hc.addD, Hc.subD, cBl1, cBl, Bl.looks, Hc.dAdd, Hc.dSub, Hc.dLt, Hc.dLe, Hc.dGt, Hc.dGe, Hc.dEq, Hc.dNe, Hc.dEqB, Hc.dNeB, Hc.dEqS, Hc.dNeS, Hc.dLenL, Hc.dLenT, Hc.dIntI, Hc.dIntB, Hc.dMin, Hc.dMax, D.noOwn, noOwns, D.noFz, noFzs, Hc.own_ints, Hc.fz_ints, Hc.noFzs_ints, Hc.R.bind_ok, at_zero, at_succ, List.set_cons_zero, List.set_cons_succ, Option.map_some, Option.bind_some, Option.bind_none, sz, Nat.reduceAdd, Nat.reduceLeDiff, Nat.reduceLT, Int.reduceLE, Int.reduceLT, Int.reduceToNat, Hc.turnQ_nx, Hc.turnQ_ct, Hc.turnQ_brk, Hc.turnQ_ret, Hc.retQ_ret, Hc.retQ_nx, Hc.outs_nil, Hc.outs_t, Hc.outs_f, Option.getD_some, Option.getD_none, cIt, cRng1, cRng2, its, CE.isNm, guards, Hc.items_lst, Hc.items_tup, cMu, cMuEnd, Hc.isL_lst, List.map_cons, List.map_nil, List.getD_cons_zero, List.getD_cons_succ, Hc.getK_nil, Hc.getK_cons, Hc.putK_nil, Hc.putK_cons, Hc.put1_lst, Hc.put1_tup, Hc.set1_lst, Hc.dPop0, Hc.dRev, List.nil_append, List.cons_append, Hc.ixN_1_0, Hc.ixN_2_0, Hc.ixN_2_1, Hc.ixN_3_0, Hc.ixN_3_1, Hc.ixN_3_2, Hc.ixN_4_0, Hc.ixN_4_1, Hc.ixN_4_2, Hc.ixN_4_3, calms, CE.calm, pathOf, cSetSub, cSetEnd, cEnu, cZip, Hc.lstq_lst, Hc.addL_if, Hc.dEqN, Hc.zipOp_lst, Hc.zipOp_tup, Hc.all_lst, Hc.bools_map, Hc.sum_lst, Hc.ints_map, Hc.dIs_non, Hc.dIsn_non, Hc.dIs_int, Hc.dIsn_int, Hc.dIs_bl, Hc.dIsn_bl, Hc.dIs_str, Hc.dIsn_str, Hc.dIs_tup, Hc.dIsn_tup, Hc.dIs_lst, Hc.dIsn_lst, Hc.ite_ok, Hc.iteI, cComp, cSli, eNop, Hc.cutOp_lst, Hc.peek_vm, Hc.peek_vi, Hc.peek_rev, Hc.peek_lrng1, Hc.peek_lrng2, Hc.peek_dcomp, Hc.peek_ddisp, Hc.peek_dnew, Hc.peek_dget, Hc.peek_not, Hc.peek_and, Hc.peek_or, Hc.peek_chain, Hc.peek_shl, Hc.peek_shr, Hc.peek_band, Hc.peek_bor, Hc.peek_sorted, Hc.peek_list, Hc.peek_tuple, Hc.peek_divmod, Hc.peek_abs, Hc.peek_bool, Hc.pickA_lst, Hc.pickA_tup, Hc.walk_lst, Hc.walk_tup, Hc.revOp_lst, Hc.dSorted, Hc.dListL, Hc.dListT, Hc.dTupL, Hc.dTupT, Hc.dDivmod, Hc.dAbs, Hc.dBoolI, Hc.dBoolB, Hc.dStrS, Hc.dRemove, Hc.dShr, Hc.dShl, cVm0, cVm1, cVi, isL0, cRev, cLr1, cLr2, cDcomp, cDdisp, seqP, turnK, beq_self_eq_true, Bool.true_beq, Bool.false_beq, Hc.muop_ext, Hc.muop_app, Hc.onS_if, List.length_map, List.length_append, turnE, Hc.w_mute, bindTg, setAll, wipeE, Hc.again, Option.isSome_some, Bool.not_true, Bool.not_false, Bool.and_true, Bool.true_and, Bool.and_false, Bool.false_and, Bool.or_true, Bool.true_or, Bool.or_false, Bool.false_or, if_true, if_false, ite_true, ite_false, Bool.false_eq_true, true_and, and_true, decide_true, decide_false, reduceCtorEq, Nat.add_zero, Nat.zero_add, List.all_cons, List.all_nil, List.any_cons, List.any_nil, fzs, List.length_cons, List.length_nil, Option.some.injEq, exists_eq_left', $xs,*])
  | `(tactic| walk_at "s") => `(tactic| (refine step ?_; simp! []))
def bIsInt : List CS := [
  .ret (.andE (.isi (.nm 0) [.int]) (.notE (.isi (.nm 0) [.bool])))]
def bClicks : List CS := [
  .ifS (.notE (.isi (.nm 1) [.list])) [.never] [],
  .forS (.tup [2, 3]) (.enu (.nm 1)) [.ifS (.orE (.notE (.call "is_integer" [(.nm 3)])) (.notE (.chain .le .lt (.lit (.int 0)) (.nm 3) (.nm 0)))) [.never] []]]
def bCols : List CS := [
  .ifS (.orE (.notE (.call "is_integer" [(.nm 0)])) (.notE (.chain .le .le (.lit (.int 1)) (.nm 0) (.gc "MOST_COLUMNS" (.int 8))))) [.never] []]
def bEffBy : List CS := [
  .par 1 2 (.lst []) (.gc "ASCENDING" (.int 1)),
  .set 3 (.lit .non),
  .forS (.nm 4) (.nm 0) [.ifS (.cmp .eq (.nm 4) (.nm 3)) [.set 1 (.comp [5, 6] (.tup [5, 6]) (.nm 1) .nop (.tup [(.nm 5), (.neg (.nm 6))])), .set 2 (.neg (.nm 2))] [.set 1 (.bin .add (.lst [(.tup [(.nm 4), (.gc "ASCENDING" (.int 1))])]) (.comp [7] (.nm 7) (.nm 1) (.cmp .ne (.sub (.nm 7) (.lit (.int 0))) (.nm 4)) (.nm 7)))], .set 3 (.nm 4)],
  .ret (.tup [(.mv 1), (.mv 2)])]
def bEffOf : List CS := [
  .expr (.call "check_columns" [(.nm 0)]),
  .expr (.call "check_clicks" [(.nm 0), (.nm 1)]),
  .ret (.call "effect_by_clicks" [(.nm 1)])]
def bBagF : List CS := [
  .ret (.lst [(.blt .max2 [(.lit (.int 0)), (.bin .sub (.nm 0) (.bin .pow (.lit (.int 10)) (.lit (.int 18))))]), (.bin .mod (.nm 0) (.bin .add (.bin .pow (.lit (.int 10)) (.lit (.int 37))) (.lit (.int 43)))), (.lit (.int 0))])]
def bDrawF : List CS := [
  .ifS (.cmp .gt (.sub (.nm 0) (.lit (.int 0))) (.lit (.int 0))) [.set 2 (.bin .mod (.sub (.nm 0) (.lit (.int 0))) (.nm 1)), .setsub (.nm 0) (.lit (.int 0)) (.bin .fdv (.sub (.nm 0) (.lit (.int 0))) (.nm 1)), .ret (.mv 2)] [],
  .setsub (.nm 0) (.lit (.int 2)) (.bin .add (.sub (.nm 0) (.lit (.int 2))) (.lit (.int 1))),
  .set 3 (.bin .mod (.bin .pow (.bin .add (.sub (.nm 0) (.lit (.int 1))) (.bin .mul (.lit (.int 49979687)) (.sub (.nm 0) (.lit (.int 2))))) (.lit (.int 3))) (.bin .add (.bin .pow (.lit (.int 10)) (.lit (.int 38))) (.lit (.int 133)))),
  .set 3 (.bin .mod (.bin .pow (.bin .add (.nm 3) (.bin .mul (.lit (.int 15485863)) (.sub (.nm 0) (.lit (.int 2))))) (.lit (.int 5))) (.bin .add (.bin .pow (.lit (.int 10)) (.lit (.int 36))) (.lit (.int 67)))),
  .ret (.bin .mod (.bin .fdv (.nm 3) (.lit (.int 524287))) (.nm 1))]
def bStepsF : List CS := [
  .set 3 (.call "_law_draw" [(.io 0), (.lit (.int 4))]),
  .set 4 (.call "_law_draw" [(.io 0), (.nm 1)]),
  .set 5 (.sub (.lst [(.nm 1), (.blt .min2 [(.lit (.int 2)), (.nm 1)]), (.nm 1), (.lit (.int 1))]) (.nm 3)),
  .set 6 (.lst []),
  .forS (.nm 7) (.rng1 (.call "_law_draw" [(.io 0), (.bin .add (.nm 2) (.lit (.int 1)))])) [.set 8 (.bin .mod (.bin .add (.bin .add (.nm 4) (.call "_law_draw" [(.io 0), (.nm 5)])) (.bin .mul (.nm 7) (.blt .int [(.cmp .eq (.nm 3) (.lit (.int 3)))]))) (.nm 1)), .expr (.mu .extend (.nm 6) [(.bin .mul (.lst [(.nm 8)]) (.bin .add (.lit (.int 1)) (.bin .mul (.sub (.lst [(.lit (.int 0)), (.lit (.int 1)), (.lit (.int 2))]) (.call "_law_draw" [(.io 0), (.lit (.int 3))])) (.blt .int [(.cmp .eq (.nm 3) (.lit (.int 2)))]))))])],
  .ret (.sli (.nm 6) .nop (.nm 2))]
def bOutF : List CS := [
  .set 1 (.lst []),
  .set 2 (.lit (.int 1)),
  .set 3 (.lit .non),
  .forS (.nm 4) (.nm 0) [.ifS (.cmp .eq (.nm 4) (.nm 3)) [.set 1 (.comp [5, 6] (.tup [5, 6]) (.nm 1) .nop (.tup [(.nm 5), (.bin .sub (.lit (.int 0)) (.nm 6))])), .set 2 (.bin .sub (.lit (.int 0)) (.nm 2))] [.set 1 (.bin .add (.lst [(.tup [(.nm 4), (.lit (.int 1))])]) (.comp [7] (.nm 7) (.nm 1) (.cmp .ne (.sub (.nm 7) (.lit (.int 0))) (.nm 4)) (.nm 7)))], .set 3 (.nm 4)],
  .ret (.tup [(.mv 1), (.mv 2)])]
abbrev cl (cs : List Int) : D := .lst false (cs.map .int)
abbrev kd (k : Int × Int) : D := .tup [.int k.1, .int k.2]
abbrev kl (o : Bool) (ks : List (Int × Int)) : D := .lst o (ks.map kd)
theorem own_kd (ks : List (Int × Int)) : noOwns (ks.map kd) = true := noOwns_map _ (fun _ => rfl) ks
theorem fz_kd (ks : List (Int × Int)) : fzs (ks.map kd) = ks.map kd := fzs_map _ (fun _ => rfl) ks
theorem noFz_kd : ∀ (ks : List (Int × Int)), noFzs (ks.map kd) = true
  | [] => rfl
  | x :: xs => noFz_kd xs
theorem solid_kd (ks : List (Int × Int)) : solids (ks.map kd) = true := solids_map _ (fun _ => rfl) ks
structure ESt where
  ks : List (Int × Int)
  base : Int
  last : Option Int
def stepK (s : ESt) (c : Int) : ESt := if s.last = some c then ⟨s.ks.map fun k => (k.1, -k.2), -s.base, some c⟩ else ⟨(c, 1) :: s.ks.filter fun k => k.1 != c, s.base, some c⟩
def lastD : Option Int → D
  | none => .non
  | some c => .int c
def s0 : ESt := ⟨[], 1, none⟩
def spec (cs : List Int) : ESt := cs.foldl stepK s0
theorem step_len (s : ESt) (c : Int) : (stepK s c).ks.length ≤ s.ks.length + 1 := by
  unfold stepK
  split
  · simp
  · have := List.length_filter_le (fun k : Int × Int => k.1 != c) s.ks
    simp only [List.length_cons]
    omega
theorem fold_len : ∀ (cs : List Int) (s : ESt), (cs.foldl stepK s).ks.length ≤ s.ks.length + cs.length
  | [], s => Nat.le_refl _
  | c :: cs, s => by
    have h1 := fold_len cs (stepK s c)
    have h2 := step_len s c
    simp only [List.foldl_cons, List.length_cons]
    omega
theorem spec_len (cs : List Int) : (spec cs).ks.length ≤ cs.length := by simpa [s0, spec] using fold_len cs s0
theorem spec_snoc (cs : List Int) (c : Int) : spec (cs ++ [c]) = stepK (spec cs) c := by unfold spec; rw [List.foldl_append]; rfl
def isInt : D → Bool
  | .int _ => true
  | _ => false
abbrev SInt (Γ : Glob) : Prop := ∀ d : D, d ≠ .gone → Γ "is_integer" [d] = .ok (.bl (isInt d)) [d]
theorem t_int {Γ : Glob} (d : D) (h : d ≠ .gone) : runDef Γ 1 bIsInt [d] = .ok (.bl (isInt d)) [d] := by
  cases d <;> first | rfl | exact absurd rfl h
theorem eq_last (l : Option Int) (c : Int) : cmpop .eq (.int c) (lastD l) = some (decide (l = some c)) := by
  cases l with
  | none => rfl
  | some x =>
    show cmpop .eq (.int c) (.int x) = _
    rw [Hc.dEq]
    by_cases h : x = c <;> simp [h, eq_comm]
theorem fz_last (l : Option Int) : (lastD l).fz = lastD l := by cases l <;> rfl
theorem own_last (l : Option Int) : (lastD l).noOwn = true := by cases l <;> rfl
abbrev SCols (Γ : Glob) : Prop := ∀ w : Int, 1 ≤ w → w ≤ 8 → Γ "check_columns" [.int w] = .ok .non [.int w]
theorem t_cols {Γ : Glob} (hi : SInt Γ) (w : Int) (h : 1 ≤ w) (h2 : w ≤ 8) : runDef Γ 1 bCols [.int w] = .ok .non [.int w] := by
  have e1 : Γ "is_integer" [.int w] = .ok (.bl true) [.int w] := hi _ (fun z => by cases z)
  obtain ⟨d, ps, e, rfl, rfl⟩ := Rc.wp_ex (r := runDef Γ 1 bCols [.int w]) (Q := fun d ps => d = .non ∧ ps = [.int w]) (by
    refine run_wp2 (env := [some (.int w)]) (ks := [true]) rfl rfl ?_
    unfold bCols
    refine step ?_
    simp! [e1, h, h2])
  exact e
abbrev SClicks (Γ : Glob) : Prop := ∀ (w : Int) (cs : List Int), (∀ c ∈ cs, 0 ≤ c ∧ c < w) → ∃ a b, Γ "check_clicks" [.int w, cl cs] = .ok .non [a, b]
theorem t_clicks {Γ : Glob} (hi : SInt Γ) (w : Int) (cs : List Int) (h : ∀ c ∈ cs, 0 ≤ c ∧ c < w) : ∃ a b, runDef Γ 4 bClicks [.int w, cl cs] = .ok .non [a, b] := by
  obtain ⟨d, ps, e, rfl, a, b, rfl⟩ := Rc.wp_ex (r := runDef Γ 4 bClicks [.int w, cl cs]) (Q := fun d ps => d = .non ∧ ∃ a b, ps = [a, b]) (by
    refine run_wp2 (env := [some (.int w), some (cl cs), none, none]) (ks := [true, true]) rfl rfl ?_
    unfold bClicks
    walk_at "s"
    walk_at "s"
    refine loop (σ := Option D × Option D) (fun s => [some (.int w), some (cl cs), s.1, s.2]) (fun _ _ => True) (none, none) rfl (fun _ => rfl) trivial ?_ ?_
    · rintro k d ⟨s1, s2⟩ hk _
      obtain ⟨x, hx, rfl⟩ := Hc.enum_get hk
      rw [List.getElem?_map] at hx
      obtain ⟨c, hc, rfl⟩ := Option.map_eq_some_iff.mp hx
      obtain ⟨c0, c1⟩ := h c (List.mem_of_getElem? hc)
      have e1 : Γ "is_integer" [.int c] = .ok (.bl true) [.int c] := hi _ (fun z => by cases z)
      refine ⟨_, rfl, ?_⟩
      dsimp only
      simp! []
      refine step ?_
      simp! [e1, c0, c1]
      exact ⟨(_, _), rfl⟩
    · rintro ⟨s1, s2⟩ _
      simp! []
      exact ⟨_, _, rfl⟩)
  exact ⟨a, b, e⟩
abbrev SEffBy (Γ : Glob) : Prop := ∀ cs : List Int, cs.length ≤ 1000000 → ∃ a, Γ "effect_by_clicks" [cl cs] = .ok (.tup [kl true (spec cs).ks, .int (spec cs).base]) [a]
def encE (cs : List Int) (s : ESt × Option D) : Slots := [some (cl cs), some (kl true s.1.ks), some (.int s.1.base), some (lastD s.1.last), s.2, none, none, none]
theorem neg_comp {Γ : Glob} {ks : List (Int × Int)} {a0 a2 a3 a4 : Option D} {el : CE} {Q : D → Slots → Prop} (hz : ks.length ≤ 1000000) (hel : ∀ (x y : Int), (ev Γ el).e [a0, some (kl true ks), a2, a3, a4, some (.int x), some (.int y), none] = .ok (.tup [.int x, .int (-y)]) [a0, some (kl true ks), a2, a3, a4, some (.int x), some (.int y), none])
    (h : Q (kl true (ks.map fun k => (k.1, -k.2))) [a0, some (kl true ks), a2, a3, a4, none, none, none]) : ((ev Γ (.comp [5, 6] (.tup [5, 6]) (.nm 1) .nop el)).e [a0, some (kl true ks), a2, a3, a4, none, none, none]).wp Q noX := by
  simp! [own_kd]
  refine cloop (σ := Unit) (fun _ => [a0, some (kl true ks), a2, a3, a4, none, none, none]) (fun k acc _ => acc = ((ks.take k).map fun k => (k.1, -k.2)).map kd) () rfl (fun _ => stays_one rfl (solid_kd ks)) (by rw [List.length_map]; exact Nat.le_trans hz (by decide)) rfl ?_ ?_
  · intro k d acc _ hk ha
    rw [List.getElem?_map] at hk
    obtain ⟨q, hq, rfl⟩ := Option.map_eq_some_iff.mp hk
    simp! [hel]
    refine ⟨(), ?_⟩
    rw [ha, List.take_succ, hq]
    simp
  · intro acc _ ha
    rw [ha]
    simp! []
    rw [List.length_map, List.take_length] at *
    exact h
theorem drop_comp {Γ : Glob} {ks : List (Int × Int)} {a0 a2 a3 a5 a6 : Option D} {c : Int} {Q : D → Slots → Prop} (hz : ks.length ≤ 1000000)
    (h : Q (kl true (ks.filter fun k => k.1 != c)) [a0, some (kl true ks), a2, a3, some (.int c), a5, a6, none]) : ((ev Γ (.comp [7] (.nm 7) (.nm 1) (.cmp .ne (.sub (.nm 7) (.lit (.int 0))) (.nm 4)) (.nm 7))).e [a0, some (kl true ks), a2, a3, some (.int c), a5, a6, none]).wp Q noX := by
  simp! [own_kd]
  refine cloop (σ := Unit) (fun _ => [a0, some (kl true ks), a2, a3, some (.int c), a5, a6, none]) (fun k acc _ => acc = ((ks.take k).filter fun k => k.1 != c).map kd) () rfl (fun _ => stays_one rfl (solid_kd ks)) (by rw [List.length_map]; exact Nat.le_trans hz (by decide)) rfl ?_ ?_
  · intro k d acc _ hk ha
    rw [List.getElem?_map] at hk
    obtain ⟨q, hq, rfl⟩ := Option.map_eq_some_iff.mp hk
    simp! []
    by_cases hc : q.1 = c
    · simp! [hc, ne_eq, not_true]
      refine ⟨(), ?_⟩
      rw [ha, List.take_succ, hq]
      simp [hc]
    · simp! [hc, ne_eq, not_false_eq_true]
      refine ⟨(), ?_⟩
      rw [ha, List.take_succ, hq]
      simp [hc]
  · intro acc _ ha
    rw [ha]
    simp! []
    rw [List.length_map, List.take_length] at *
    exact h
theorem t_effBy {Γ : Glob} (cs : List Int) (hz : cs.length ≤ 1000000) : ∃ a, runDef Γ 8 bEffBy [cl cs] = .ok (.tup [kl true (spec cs).ks, .int (spec cs).base]) [a] := by
  obtain ⟨d, ps, e, rfl, a, rfl⟩ := Rc.wp_ex (r := runDef Γ 8 bEffBy [cl cs]) (Q := fun d ps => d = .tup [kl true (spec cs).ks, .int (spec cs).base] ∧ ∃ a, ps = [a]) (by
    refine run_wp2 (env := [some (cl cs), none, none, none, none, none, none, none]) (ks := [true]) rfl rfl ?_
    unfold bEffBy
    walk_at "s"
    walk_at "s"
    walk_at "s"
    refine loop (σ := ESt × Option D) (encE cs) (fun k s => s.1 = spec (cs.take k)) (s0, none) rfl (fun _ => rfl) rfl ?_ ?_
    · rintro k d ⟨s, l⟩ hk rfl
      rw [List.getElem?_map] at hk
      obtain ⟨c, hc, rfl⟩ := Option.map_eq_some_iff.mp hk
      refine ⟨_, rfl, ?_⟩
      have hl : (spec (cs.take k)).ks.length ≤ 1000000 := Nat.le_trans (spec_len _) (by rw [List.length_take]; omega)
      have hn : spec (cs.take (k + 1)) = stepK (spec (cs.take k)) c := by rw [List.take_succ, hc]; exact spec_snoc _ c
      unfold encE
      dsimp only
      simp! []
      refine step ?_
      simp! [eq_last]
      generalize hs : spec (cs.take k) = s at hl hn ⊢
      obtain ⟨ks, b, last⟩ := s
      dsimp only at hl ⊢
      refine R.wp_ite (fun h => ?_) (fun h => ?_)
      · have h : last = some c := by simpa using h
        refine set_wp (neg_comp hl (fun x y => rfl) ?_)
        simp! []
        walk_at "s"
        walk_at "s"
        refine ⟨(stepK ⟨ks, b, last⟩ c, some (.int c)), ?_, hn.symm⟩
        rw [stepK, if_pos h]; rfl
      · have h : ¬ last = some c := by simpa using h
        refine set_wp (bin_wp (fun _ _ _ => rfl) ?_)
        refine wp_eval (a := .lst true [kd (c, 1)]) (e := [some (cl cs), some (kl true ks), some (.int b), some (lastD last), some (.int c), none, none, none]) rfl ?_
        refine drop_comp hl ?_
        have hf : (ks.filter fun k => k.1 != c).length ≤ ks.length := List.length_filter_le _ _
        simp! []
        refine ⟨by omega, ?_⟩
        walk_at "s"
        refine ⟨(stepK ⟨ks, b, last⟩ c, some (.int c)), ?_, hn.symm⟩
        rw [stepK, if_neg h]; rfl
    · rintro ⟨s, l⟩ rfl
      rw [List.length_map, List.take_length]
      unfold encE
      simp! []
      walk_at "s"
      exact ⟨_, rfl⟩)
  exact ⟨a, e⟩
abbrev SEffOf (Γ : Glob) : Prop := ∀ (w : Int) (cs : List Int), 1 ≤ w → w ≤ 8 → (∀ c ∈ cs, 0 ≤ c ∧ c < w) → cs.length ≤ 1000000 → ∃ a b, Γ "effect_of" [.int w, cl cs] = .ok (.tup [kl true (spec cs).ks, .int (spec cs).base]) [a, b]
theorem t_effOf {Γ : Glob} (h1 : SCols Γ) (h2 : SClicks Γ) (h3 : SEffBy Γ) (w : Int) (cs : List Int) (hw : 1 ≤ w) (hw2 : w ≤ 8) (h : ∀ c ∈ cs, 0 ≤ c ∧ c < w) (hz : cs.length ≤ 1000000) : ∃ a b, runDef Γ 2 bEffOf [.int w, cl cs] = .ok (.tup [kl true (spec cs).ks, .int (spec cs).base]) [a, b] := by
  obtain ⟨a, b, e2⟩ := h2 w cs h
  obtain ⟨a3, e3⟩ := h3 cs hz
  have e1 := h1 w hw hw2
  obtain ⟨d, ps, e, rfl, a, b, rfl⟩ := Rc.wp_ex (r := runDef Γ 2 bEffOf [.int w, cl cs]) (Q := fun d ps => d = .tup [kl true (spec cs).ks, .int (spec cs).base] ∧ ∃ a b, ps = [a, b]) (by
    refine run_wp2 (env := [some (.int w), some (cl cs)]) (ks := [true, true]) rfl rfl ?_
    unfold bEffOf
    refine step ?_
    simp! [e1]
    refine step ?_
    simp! [e2]
    refine step ?_
    simp! [e3]
    exact ⟨_, _, rfl⟩)
  exact ⟨a, b, e⟩
abbrev SOut (Γ : Glob) : Prop := ∀ cs : List Int, cs.length ≤ 1000000 → ∃ a, Γ "_law_outcome" [cl cs] = .ok (.tup [kl true (spec cs).ks, .int (spec cs).base]) [a]
theorem zsub (y : Int) : (0 : Int) - y = -y := by omega
theorem t_out {Γ : Glob} (cs : List Int) (hz : cs.length ≤ 1000000) : ∃ a, runDef Γ 8 bOutF [cl cs] = .ok (.tup [kl true (spec cs).ks, .int (spec cs).base]) [a] := by
  obtain ⟨d, ps, e, rfl, a, rfl⟩ := Rc.wp_ex (r := runDef Γ 8 bOutF [cl cs]) (Q := fun d ps => d = .tup [kl true (spec cs).ks, .int (spec cs).base] ∧ ∃ a, ps = [a]) (by
    refine run_wp2 (env := [some (cl cs), none, none, none, none, none, none, none]) (ks := [true]) rfl rfl ?_
    unfold bOutF
    walk_at "s"
    walk_at "s"
    walk_at "s"
    walk_at "s"
    refine loop (σ := ESt × Option D) (encE cs) (fun k s => s.1 = spec (cs.take k)) (s0, none) rfl (fun _ => rfl) rfl ?_ ?_
    · rintro k d ⟨s, l⟩ hk rfl
      rw [List.getElem?_map] at hk
      obtain ⟨c, hc, rfl⟩ := Option.map_eq_some_iff.mp hk
      refine ⟨_, rfl, ?_⟩
      have hl : (spec (cs.take k)).ks.length ≤ 1000000 := Nat.le_trans (spec_len _) (by rw [List.length_take]; omega)
      have hn : spec (cs.take (k + 1)) = stepK (spec (cs.take k)) c := by rw [List.take_succ, hc]; exact spec_snoc _ c
      unfold encE
      dsimp only
      simp! []
      refine step ?_
      simp! [eq_last]
      generalize hs : spec (cs.take k) = s at hl hn ⊢
      obtain ⟨ks, b, last⟩ := s
      dsimp only at hl ⊢
      refine R.wp_ite (fun h => ?_) (fun h => ?_)
      · have h : last = some c := by simpa using h
        refine set_wp (neg_comp hl (fun x y => by simp! [zsub]) ?_)
        simp! []
        walk_at "s"
        simp! [zsub]
        walk_at "s"
        refine ⟨(stepK ⟨ks, b, last⟩ c, some (.int c)), ?_, hn.symm⟩
        rw [stepK, if_pos h]; rfl
      · have h : ¬ last = some c := by simpa using h
        refine set_wp (bin_wp (fun _ _ _ => rfl) ?_)
        refine wp_eval (a := .lst true [kd (c, 1)]) (e := [some (cl cs), some (kl true ks), some (.int b), some (lastD last), some (.int c), none, none, none]) rfl ?_
        refine drop_comp hl ?_
        have hf : (ks.filter fun k => k.1 != c).length ≤ ks.length := List.length_filter_le _ _
        simp! []
        refine ⟨by omega, ?_⟩
        walk_at "s"
        refine ⟨(stepK ⟨ks, b, last⟩ c, some (.int c)), ?_, hn.symm⟩
        rw [stepK, if_neg h]; rfl
    · rintro ⟨s, l⟩ rfl
      rw [List.length_map, List.take_length]
      unfold encE
      simp! []
      walk_at "s"
      exact ⟨_, rfl⟩)
  exact ⟨a, e⟩
end Hp

set_option Elab.async false
set_option linter.all false
set_option maxRecDepth 100000
set_option maxHeartbeats 1000000
set_option exponentiation.threshold 2000
namespace Hp
open Hc PySem PySem.Spec PyProof.Rows L2
local macro_rules
  | `(tactic| simp! [$xs,*]) => `(tactic| simp -implicitDefEqProofs -dsimp only [↓Hc.w_bind, ↓Hc.w_ok, Hc.w_no, Hc.w_guard, Hc.w_go, Hc.w_nil, Hc.wc_ok, Hc.af_nx, Hc.af_ret, Hc.af_brk, Hc.af_ct, Hc.onS_some, Hc.altS_some, Hc.altS_none, Hc.exec, ev, evL, evA, mkE, cCall_eq, cCallk_eq, seqA, argE, Hc.cNm_eq, Hc.cMv_eq, Hc.fetch_nil, Hc.fetch_cons, goOf_some, lent, giveBack, backOk, noIo, cOrT, cNotT, cAndT, cOr, cNot, cAnd, Hc.view_eq, Hc.peek_nm, Hc.peek_lit, Hc.peek_gc, Hc.peek_sub, Hc.peek_neg, Hc.peek_len, Hc.peek_add, Hc.peek_bsub, Hc.peek_call, Hc.peek_lst, Hc.peek_nop, Hc.peek_tup, Hc.peek_sli, Hc.peek_comp, Hc.peek_mul, Hc.peek_mod, Hc.peek_fdv, Hc.peek_pow, Hc.peek_callk, Hc.peek_ifgt, Hc.peek_iflt, Hc.peek_ifne, Hc.peek_ifle, Hc.peek_ifge, Hc.peek_ifis, Hc.peek_ifisn, Hc.peek_ifinn, Hc.peek_ifnin, Hc.peek_ifnm, Hc.peek_ifand, Hc.peek_ifor, Hc.peek_ifnot, Hc.peek_ifsub, Hc.peek_ifcall, Hc.peek_ifisi, Hc.peek_ifeq, Hc.peek_isi, Hc.peek_cmp, Hc.peek_mu, Hc.peek_mv, Hc.peek_sum, Hc.peek_repr, Hc.peek_int, Hc.peek_str, Hc.peek_all, Hc.peek_max2, Hc.peek_min2, cChain, cCmp, cNeg, cBin, two, Hc.opd_eq, Hc.lift_eq, Hc.truth_bl, Hc.truth_int, D.fz, Hc.shal_int, Hc.shal_bl, Hc.shal_str, Hc.shal_non, Hc.shal_lst, Hc.shal_tup, flat, cIsi, isTy, cIf, cTup, cLst, seqE, Hc.cSub_eq, Hc.pick_lst, Hc.pick_tup, Hc.atI_0, Hc.atI_1, Hc.atI_2, Hc.atI_3, Hc.negD, Hc.addD, Hc.subD, cBl1, cBl, Bl.looks, Hc.dAdd, Hc.dSub, Hc.dLt, Hc.dLe, Hc.dGt, Hc.dGe, Hc.dEq, Hc.dNe, Hc.dEqB, Hc.dNeB, Hc.dEqS, Hc.dNeS, Hc.dLenL, Hc.dLenT, Hc.dIntI, Hc.dIntB, Hc.dMin, Hc.dMax, D.noOwn, noOwns, D.noFz, noFzs, Hc.own_ints, Hc.fz_ints, Hc.noFzs_ints, Hc.R.bind_ok, at_zero, at_succ, List.set_cons_zero, List.set_cons_succ, Option.map_some, Option.bind_some, Option.bind_none, sz, Nat.reduceAdd, Nat.reduceLeDiff, Nat.reduceLT, Int.reduceLE, Int.reduceLT, Int.reduceToNat, Hc.turnQ_nx, Hc.turnQ_ct, Hc.turnQ_brk, Hc.turnQ_ret, Hc.retQ_ret, Hc.retQ_nx, Hc.outs_nil, Hc.outs_t, Hc.outs_f, Option.getD_some, Option.getD_none, cIt, cRng1, cRng2, its, CE.isNm, guards, Hc.items_lst, Hc.items_tup, cMu, cMuEnd, Hc.isL_lst, List.map_cons, List.map_nil, List.getD_cons_zero, List.getD_cons_succ, Hc.getK_nil, Hc.getK_cons, Hc.putK_nil, Hc.putK_cons, Hc.put1_lst, Hc.put1_tup, Hc.set1_lst, Hc.dPop0, Hc.dRev, List.nil_append, List.cons_append, Hc.ixN_1_0, Hc.ixN_2_0, Hc.ixN_2_1, Hc.ixN_3_0, Hc.ixN_3_1, Hc.ixN_3_2, Hc.ixN_4_0, Hc.ixN_4_1, Hc.ixN_4_2, Hc.ixN_4_3, calms, CE.calm, pathOf, cSetSub, cSetEnd, cEnu, cZip, Hc.lstq_lst, Hc.addL_if, Hc.dEqN, Hc.zipOp_lst, Hc.zipOp_tup, Hc.all_lst, Hc.bools_map, Hc.sum_lst, Hc.ints_map, Hc.dIs_non, Hc.dIsn_non, Hc.dIs_int, Hc.dIsn_int, Hc.dIs_bl, Hc.dIsn_bl, Hc.dIs_str, Hc.dIsn_str, Hc.dIs_tup, Hc.dIsn_tup, Hc.dIs_lst, Hc.dIsn_lst, Hc.ite_ok, Hc.iteI, cComp, cSli, eNop, Hc.cutOp_lst, Hc.peek_vm, Hc.peek_vi, Hc.peek_rev, Hc.peek_lrng1, Hc.peek_lrng2, Hc.peek_dcomp, Hc.peek_ddisp, Hc.peek_dnew, Hc.peek_dget, Hc.peek_not, Hc.peek_and, Hc.peek_or, Hc.peek_chain, Hc.peek_shl, Hc.peek_shr, Hc.peek_band, Hc.peek_bor, Hc.peek_sorted, Hc.peek_list, Hc.peek_tuple, Hc.peek_divmod, Hc.peek_abs, Hc.peek_bool, Hc.pickA_lst, Hc.pickA_tup, Hc.walk_lst, Hc.walk_tup, Hc.revOp_lst, Hc.dSorted, Hc.dListL, Hc.dListT, Hc.dTupL, Hc.dTupT, Hc.dDivmod, Hc.dAbs, Hc.dBoolI, Hc.dBoolB, Hc.dStrS, Hc.dRemove, Hc.dShr, Hc.dShl, cVm0, cVm1, cVi, isL0, cRev, cLr1, cLr2, cDcomp, cDdisp, seqP, turnK, beq_self_eq_true, Bool.true_beq, Bool.false_beq, Hc.muop_ext, Hc.muop_app, Hc.onS_if, List.length_map, List.length_append, turnE, Hc.w_mute, bindTg, setAll, wipeE, Hc.again, Option.isSome_some, Bool.not_true, Bool.not_false, Bool.and_true, Bool.true_and, Bool.and_false, Bool.false_and, Bool.or_true, Bool.true_or, Bool.or_false, Bool.false_or, if_true, if_false, ite_true, ite_false, Bool.false_eq_true, true_and, and_true, decide_true, decide_false, reduceCtorEq, Nat.add_zero, Nat.zero_add, List.all_cons, List.all_nil, List.any_cons, List.any_nil, fzs, List.length_cons, List.length_nil, Option.some.injEq, exists_eq_left', $xs,*])
  | `(tactic| walk_at "s") => `(tactic| (refine step ?_; simp! []))
abbrev bagD (a b c : Int) : D := .lst true [.int a, .int b, .int c]
theorem bits_le (x : Int) (k : Nat) (h0 : 0 ≤ x) (h : x < 2 ^ k) : Builtin.Int.intBits x ≤ k := by
  unfold Builtin.Int.intBits
  split
  · omega
  · rename_i hx
    have hx : x ≠ 0 := by simpa using hx
    have h2 : x.natAbs < 2 ^ k := by
      have e : (x.natAbs : Int) = x := Int.natAbs_of_nonneg h0
      have : ((x.natAbs : Nat) : Int) < ((2 ^ k : Nat) : Int) := by rw [e]; push_cast; exact h
      exact_mod_cast this
    exact (Nat.log2_lt (by omega)).mpr h2
theorem log_le (x : Int) (k : Nat) (h0 : 0 < x) (h : x < 2 ^ k) : x.natAbs.log2 < k := by
  have h2 : x.natAbs < 2 ^ k := by
    have e : (x.natAbs : Int) = x := Int.natAbs_of_nonneg (by omega)
    have : ((x.natAbs : Nat) : Int) < ((2 ^ k : Nat) : Int) := by rw [e]; push_cast; exact h
    exact_mod_cast this
  exact (Nat.log2_lt (by omega)).mpr h2
theorem pow_ok {x y : Int} (h : 0 ≤ y ∧ (Builtin.Int.intBits x : Int) * y ≤ 2 ^ 27) : binop .pow (.int x) (.int y) = some (.int (x ^ y.toNat)) := by
  show (if _ then _ else _) = _
  rw [if_pos h]
theorem fdv_ok {x y : Int} (h : 0 < y ∧ y.natAbs.log2 < 9000) : binop .fdv (.int x) (.int y) = some (.int (x / y)) := by
  show (if _ then _ else _) = _
  rw [if_pos h]
theorem pow_b {x : Int} {y : Nat} (h0 : 0 ≤ x) (h : x < 2 ^ 1000) (hy : y ≤ 60) : binop .pow (.int x) (.int (y : Int)) = some (.int (x ^ y)) := by
  rw [pow_ok ⟨by omega, ?_⟩]
  · rfl
  · have hb := bits_le x 1000 h0 h
    have e : (2 : Int) ^ 27 = 134217728 := by decide +kernel
    rw [e]
    have h1 : ((Builtin.Int.intBits x : Nat) : Int) ≤ 1000 := Int.ofNat_le.mpr hb
    have h2 : ((y : Nat) : Int) ≤ 60 := Int.ofNat_le.mpr hy
    calc ((Builtin.Int.intBits x : Nat) : Int) * (y : Int) ≤ 1000 * 60 := Int.mul_le_mul h1 h2 (by omega) (by decide)
      _ ≤ 134217728 := by decide
theorem pow2 {x : Int} (h0 : 0 ≤ x) (h : x < 2 ^ 1000) : binop .pow (.int x) (.int 2) = some (.int (x ^ 2)) := pow_b (y := 2) h0 h (by decide)
theorem pow3 {x : Int} (h0 : 0 ≤ x) (h : x < 2 ^ 1000) : binop .pow (.int x) (.int 3) = some (.int (x ^ 3)) := pow_b (y := 3) h0 h (by decide)
theorem pow4 {x : Int} (h0 : 0 ≤ x) (h : x < 2 ^ 1000) : binop .pow (.int x) (.int 4) = some (.int (x ^ 4)) := pow_b (y := 4) h0 h (by decide)
theorem pow5 {x : Int} (h0 : 0 ≤ x) (h : x < 2 ^ 1000) : binop .pow (.int x) (.int 5) = some (.int (x ^ 5)) := pow_b (y := 5) h0 h (by decide)
theorem fdv_b {x y : Int} (h0 : 0 < y) (h : y < 2 ^ 1000) : binop .fdv (.int x) (.int y) = some (.int (x / y)) := fdv_ok ⟨h0, Nat.lt_trans (log_le y 1000 h0 h) (by decide)⟩
theorem abs_lt {x : Int} {k : Nat} (h1 : -(2 ^ k : Int) < x) (h2 : x < (2 ^ k : Int)) : x.natAbs < 2 ^ k := by
  have : ((x.natAbs : Nat) : Int) < ((2 ^ k : Nat) : Int) := by
    rw [show (((2 ^ k : Nat) : Int)) = (2 : Int) ^ k by push_cast; rfl]
    omega
  exact_mod_cast this
theorem mul_b {i j : Int} (h1 : 0 ≤ i) (h2 : i < 2 ^ 1000) (h3 : 0 ≤ j) (h4 : j < 2 ^ 1000) : binop .mul (.int i) (.int j) = some (.int (i * j)) := by
  have p : (0 : Int) < 2 ^ 1000 := by decide +kernel
  exact dMulB (abs_lt (Int.lt_of_lt_of_le (by omega) h1) h2) (abs_lt (Int.lt_of_lt_of_le (by omega) h3) h4)
theorem small {x b : Int} (h : x < b) (hb : b ≤ 2 ^ 1000) : x < 2 ^ 1000 := Int.lt_of_lt_of_le h hb
def mixed (b c : Int) : Int := (((b + 49979687 * (c + 1)) ^ 3 % (10 ^ 38 + 133) + 15485863 * (c + 1)) ^ 5 % (10 ^ 36 + 67)) / 524287
theorem p38 : binop .pow (.int 10) (.int 38) = some (.int (10 ^ 38)) := pow_b (y := 38) (by decide) (by decide +kernel) (by decide)
theorem p36 : binop .pow (.int 10) (.int 36) = some (.int (10 ^ 36)) := pow_b (y := 36) (by decide) (by decide +kernel) (by decide)
theorem p37 : binop .pow (.int 10) (.int 37) = some (.int (10 ^ 37)) := pow_b (y := 37) (by decide) (by decide +kernel) (by decide)
theorem p18 : binop .pow (.int 10) (.int 18) = some (.int (10 ^ 18)) := pow_b (y := 18) (by decide) (by decide +kernel) (by decide)
theorem p30 : binop .pow (.int 10) (.int 30) = some (.int (10 ^ 30)) := pow_b (y := 30) (by decide) (by decide +kernel) (by decide)
structure Bag (m : Int) (x : D) : Prop where
  ex : ∃ a b c : Int, x = bagD a b c ∧ 0 ≤ b ∧ b < 10 ^ 38 ∧ 0 ≤ c ∧ c ≤ m
theorem Bag.own {m : Int} {x : D} (h : Bag m x) : x.noFz = true := by
  obtain ⟨a, b, c, rfl, _⟩ := h.ex
  rfl
theorem Bag.mono {m n : Int} {x : D} (h : Bag m x) (k : m ≤ n) : Bag n x := by
  obtain ⟨a, b, c, h1, h2, h3, h4, h5⟩ := h.ex
  exact ⟨a, b, c, h1, h2, h3, h4, by clear h3; omega⟩
abbrev Dr (Γ : Glob) : Prop := ∀ {m n : Int} {x : D}, Bag m x → m < 1000000 → 0 < n → n < 2 ^ 1000 → (Γ "_law_draw" [x, .int n]).wp (fun d ps => ∃ r y, d = .int r ∧ ps = [y, .int n] ∧ 0 ≤ r ∧ r < n ∧ Bag (m + 1) y) noXc
theorem t_drawF {Γ : Glob} {m n : Int} {x : D} (h : Bag m x) (hm : m < 1000000) (hn : 0 < n) (hn2 : n < 2 ^ 1000) : (runDef Γ 4 bDrawF [x, .int n]).wp (fun d ps => ∃ r y, d = .int r ∧ ps = [y, .int n] ∧ 0 ≤ r ∧ r < n ∧ Bag (m + 1) y) noXc := by
  obtain ⟨a, b, c, rfl, h1, h2, h3, h4⟩ := h.ex
  refine run_wp2 (env := [some (bagD a b c), some (.int n), none, none]) (ks := [true, true]) rfl rfl ?_
  unfold bDrawF
  refine step ?_
  simp! []
  refine R.wp_ite (fun ha => ?_) (fun ha => ?_)
  · have ha : 0 < a := by simpa using ha
    refine step ?_
    simp! [dMod (i := a) hn]
    refine step ?_
    simp! [fdv_b (x := a) hn hn2]
    walk_at "s"
    exact ⟨_, _, rfl, rfl, Int.emod_nonneg _ (by clear hn2; omega), Int.emod_lt_of_pos _ hn, ⟨a / n, b, c, rfl, h1, h2, h3, by clear hn2; omega⟩⟩
  · simp! []
    refine step ?_
    simp! []
    have c0 : 0 ≤ c + 1 := by clear hn2 h2; omega
    have c1 : c + 1 < 2 ^ 1000 := small (b := 2000000) (by clear hn2 h2; omega) (by decide +kernel)
    have q0 : 0 ≤ b + 49979687 * (c + 1) := by clear hn2 h2; omega
    have q1 : b + 49979687 * (c + 1) < 2 ^ 1000 := by
      refine small (b := 10 ^ 38 + 49979687 * 2000000) (Int.add_lt_add_of_lt_of_le h2 (by clear hn2 h2; omega)) (by decide +kernel)
    have m1 := dMod (i := (b + 49979687 * (c + 1)) ^ 3) (j := 10 ^ 38 + 133) (by decide +kernel)
    refine step ?_
    simp! [mul_b (i := 49979687) (j := c + 1) (by decide) (by decide +kernel) c0 c1, pow3 q0 q1, p38, m1]
    generalize hz : (b + 49979687 * (c + 1)) ^ 3 % (10 ^ 38 + 133) = z
    have z0 : 0 ≤ z := by rw [← hz]; exact Int.emod_nonneg _ (by decide +kernel)
    have z1 : z < 10 ^ 38 + 133 := by rw [← hz]; exact Int.emod_lt_of_pos _ (by decide +kernel)
    clear hz
    have r0 : 0 ≤ z + 15485863 * (c + 1) := by clear hn2 h2 z1; omega
    have r1 : z + 15485863 * (c + 1) < 2 ^ 1000 := by
      refine small (b := 10 ^ 38 + 133 + 15485863 * 2000000) (Int.add_lt_add_of_lt_of_le z1 (by clear hn2 h2 z1; omega)) (by decide +kernel)
    have m2 := dMod (i := (z + 15485863 * (c + 1)) ^ 5) (j := 10 ^ 36 + 67) (by decide +kernel)
    refine step ?_
    simp! [mul_b (i := 15485863) (j := c + 1) (by decide) (by decide +kernel) c0 c1, pow5 r0 r1, p36, m2]
    generalize (z + 15485863 * (c + 1)) ^ 5 % (10 ^ 36 + 67) = y
    refine step ?_
    simp! [fdv_b (x := y) (y := 524287) (by decide) (by decide +kernel), dMod (i := y / 524287) hn]
    exact ⟨_, _, rfl, rfl, Int.emod_nonneg _ (by clear hn2; omega), Int.emod_lt_of_pos _ hn, ⟨a, b, c + 1, rfl, h1, h2, by clear h2 hn2; omega, by clear h2 hn2; omega⟩⟩
abbrev SBag (Γ : Glob) : Prop := ∀ n : Int, ∃ x p, Γ "_law_bag" [.int n] = .ok x [p] ∧ Bag 0 x
theorem t_bagF {Γ : Glob} (n : Int) : ∃ x p, runDef Γ 1 bBagF [.int n] = .ok x [p] ∧ Bag 0 x := by
  obtain ⟨d, ps, e, ⟨p, rfl⟩, hb⟩ := Rc.wp_ex (r := runDef Γ 1 bBagF [.int n]) (Q := fun d ps => (∃ p, ps = [p]) ∧ Bag 0 d) (by
    refine run_wp2 (env := [some (.int n)]) (ks := [true]) rfl rfl ?_
    unfold bBagF
    have m1 := dMod (i := n) (j := 10 ^ 37 + 43) (by decide +kernel)
    refine step ?_
    simp! [p18, p37, m1]
    exact ⟨⟨_, rfl⟩, ⟨_, _, 0, rfl, Int.emod_nonneg _ (by decide +kernel), Int.lt_trans (Int.emod_lt_of_pos _ (by decide +kernel)) (by decide +kernel), by decide, by decide⟩⟩)
  exact ⟨d, p, e, hb⟩
theorem sm {x : Int} (h : x < 1000000000) : x < 2 ^ 1000 := small h (by decide +kernel)
abbrev SSteps (Γ : Glob) : Prop := ∀ {m w most : Int} {x : D}, Bag m x → m < 900000 → 1 ≤ w → w ≤ 8 → 1 ≤ most → most ≤ 200 → (Γ "_law_steps" [x, .int w, .int most]).wp (fun d ps => ∃ (cs : List Int) (y : D), d = .lst true (cs.map .int) ∧ ps = [y, .int w, .int most] ∧ (∀ c ∈ cs, 0 ≤ c ∧ c < w) ∧ (cs.length : Int) ≤ most ∧ Bag (m + 500) y) noXc
theorem t_stepsF {Γ : Glob} (hd : Dr Γ) {m w most : Int} {x : D} (hx : Bag m x) (hm : m < 900000) (h1 : 1 ≤ w) (h2 : w ≤ 8) (h3 : 1 ≤ most) (h4 : most ≤ 200) :
    (runDef Γ 9 bStepsF [x, .int w, .int most]).wp (fun d ps => ∃ (cs : List Int) (y : D), d = .lst true (cs.map .int) ∧ ps = [y, .int w, .int most] ∧ (∀ c ∈ cs, 0 ≤ c ∧ c < w) ∧ (cs.length : Int) ≤ most ∧ Bag (m + 500) y) noXc := by
  refine run_wp2 (env := [some x, some (.int w), some (.int most), none, none, none, none, none, none]) (ks := [true, true, true]) rfl rfl ?_
  unfold bStepsF
  walk_at "s"
  refine Rc.then (hd hx (by omega) (by decide) (by decide +kernel)) ?_
  rintro _ _ ⟨r0, x1, rfl, rfl, r00, r01, hx1⟩
  simp! []
  walk_at "s"
  refine Rc.then (hd hx1 (by omega) (by omega) (sm (by omega))) ?_
  rintro _ _ ⟨r1, x2, rfl, rfl, r10, r11, hx2⟩
  simp! []
  walk_at "s"
  obtain ⟨sp, e5, m5⟩ := atI_mem (xs := [D.int w, .int (if w < 2 then w else 2), .int w, .int 1]) r00 (by simpa using r01)
  have : ∃ p : Int, sp = .int p ∧ 1 ≤ p ∧ p ≤ 8 := by
    simp only [List.mem_cons, List.not_mem_nil, or_false] at m5
    rcases m5 with rfl | rfl | rfl | rfl
    · exact ⟨_, rfl, h1, h2⟩
    · exact ⟨_, rfl, by split <;> omega, by split <;> omega⟩
    · exact ⟨_, rfl, h1, h2⟩
    · exact ⟨_, rfl, by omega, by omega⟩
  obtain ⟨p, rfl, p1, p2⟩ := this
  simp! [e5]
  walk_at "s"
  walk_at "s"
  refine Rc.then (hd hx2 (by omega) (by omega) (sm (by omega))) ?_
  rintro _ _ ⟨n, x3, rfl, rfl, n0, n1, hx3⟩
  simp! []
  refine ⟨⟨by omega, by omega⟩, ?_⟩
  refine loop (σ := D × List Int × Option D × Option D) (fun s => [some s.1, some (.int w), some (.int most), some (.int r0), some (.int r1), some (.int p), some (.lst true (s.2.1.map .int)), s.2.2.1, s.2.2.2])
    (fun k s => Bag (m + 3 + 2 * k) s.1 ∧ (∀ c ∈ s.2.1, 0 ≤ c ∧ c < w) ∧ s.2.1.length ≤ 3 * k) (x3, [], none, none) rfl (fun _ => rfl) ⟨(by have e : m + 3 + 2 * ((0 : Nat) : Int) = m + 1 + 1 + 1 := (by omega); rw [e]; exact hx3), (fun _ h => nomatch h), Nat.le_refl _⟩ ?_ ?_
  · rintro k d ⟨y, cs, t, c⟩ hk ⟨hy, hc, hl⟩
    obtain ⟨rfl, hkn⟩ := upto_get hk
    refine ⟨_, rfl, ?_⟩
    dsimp only
    simp! []
    walk_at "s"
    refine Rc.then (hd hy (by omega) (by omega) (sm (by omega))) ?_
    rintro _ _ ⟨s, y1, rfl, rfl, s0, s1, hy1⟩
    simp! [dMulS (i := 0 + (k : Int)) (j := if decide (r0 = 3) = true then 1 else 0) (by omega) (by split <;> omega), dMod (show 0 < w by omega)]
    walk_at "s"
    refine Rc.then (hd hy1 (by omega) (by decide) (by decide +kernel)) ?_
    rintro _ _ ⟨q, y2, rfl, rfl, q0, q1, hy2⟩
    obtain ⟨u, eq, u0, u1⟩ := atI_ints [0, 1, 2] (lo := 0) (hi := 2) (xs := [D.int 0, .int 1, .int 2]) rfl q0 q1 (by decide)
    simp! [eq]
    have hb : (0 : Int) ≤ (if decide (r0 = 2) = true then 1 else 0) ∧ (if decide (r0 = 2) = true then 1 else 0) ≤ (1 : Int) := by split <;> omega
    generalize (if decide (r0 = 2) = true then (1 : Int) else 0) = v at hb ⊢
    simp! [dMulS (i := u) (j := v) (by omega) (by omega)]
    have hp : 0 ≤ u * v ∧ u * v ≤ 2 := by
      rcases (show v = 0 ∨ v = 1 by omega) with rfl | rfl <;> omega
    generalize (r1 + s + (0 + (k : Int)) * if decide (r0 = 3) = true then 1 else 0) = z
    simp! [dRep1 (o := true) (x := D.int (z % w)) (k := 1 + u * v) rfl (by omega) (by omega), rep_ints]
    dsimp only at hc hl hy
    refine ⟨by rw [List.length_replicate]; omega, (y2, cs ++ List.replicate (1 + u * v).toNat (z % w), _, _), by rw [List.map_append], ?_, ?_, ?_⟩
    · have e : m + 3 + 2 * ((k + 1 : Nat) : Int) = m + 3 + 2 * (k : Int) + 1 + 1 := by omega
      rw [e]; exact hy2
    · intro c hcm
      rcases List.mem_append.mp hcm with h | h
      · exact hc c h
      · obtain ⟨_, rfl⟩ := List.mem_replicate.mp h
        exact ⟨Int.emod_nonneg _ (by omega), Int.emod_lt_of_pos _ (by omega)⟩
    · show (cs ++ List.replicate (1 + u * v).toNat (z % w)).length ≤ _
      rw [List.length_append, List.length_replicate]
      omega
  · rintro ⟨y, cs, t, c⟩ ⟨hy, hc, hl⟩
    simp! []
    walk_at "s"
    dsimp only at hc hl hy
    rw [upto_len] at hy
    refine ⟨cs.take most.toNat, y, by rw [cut_to _ (by omega), List.map_take], rfl, fun c h => hc c (List.mem_of_mem_take h), ?_, hy.mono (by omega)⟩
    rw [List.length_take]
    omega
end Hp

set_option Elab.async false
set_option linter.all false
set_option maxRecDepth 100000
set_option maxHeartbeats 1000000
namespace Hp
open Hc PySem PySem.Spec PyProof.Rows L2
def runS (cs : List Int) (s : ESt) : ESt := cs.foldl stepK s
theorem runS_snoc (cs : List Int) (c : Int) (s : ESt) : runS (cs ++ [c]) s = stepK (runS cs s) c := by unfold runS; rw [List.foldl_append]; rfl
theorem runS_app (as bs : List Int) (s : ESt) : runS (as ++ bs) s = runS bs (runS as s) := by unfold runS; rw [List.foldl_append]
theorem runS_last : ∀ (cs : List Int) (s : ESt), (runS cs s).last = if cs = [] then s.last else cs.getLast? := by
  intro cs s
  rcases List.eq_nil_or_concat cs with rfl | ⟨l, c, rfl⟩
  · simp [runS]
  · rw [List.concat_eq_append, runS_snoc]
    simp only [List.append_eq_nil_iff, List.cons_ne_nil, and_false, if_false]
    unfold stepK
    split <;> simp
def colsK (ks : List (Int × Int)) : List Int := ks.map (·.1)
def sgn (e : Int) (ks : List (Int × Int)) : List (Int × Int) := ks.map fun k => (k.1, k.2 * e)
def others (cs : List Int) (ks : List (Int × Int)) : List (Int × Int) := ks.filter fun k => !cs.contains k.1
theorem neg_sgn (ks : List (Int × Int)) : (ks.map fun k => (k.1, -k.2)) = sgn (-1) ks := by
  unfold sgn
  apply List.map_congr_left
  intro k _
  simp
theorem sgn_sgn (a b : Int) (ks : List (Int × Int)) : sgn a (sgn b ks) = sgn (b * a) ks := by
  unfold sgn
  rw [List.map_map]
  apply List.map_congr_left
  intro k _
  simp [Int.mul_assoc]
theorem sgn_one (ks : List (Int × Int)) : sgn 1 ks = ks := by
  unfold sgn
  simp
theorem sgn_app (e : Int) (a b : List (Int × Int)) : sgn e (a ++ b) = sgn e a ++ sgn e b := by unfold sgn; rw [List.map_append]
theorem cols_sgn (e : Int) (ks : List (Int × Int)) : colsK (sgn e ks) = colsK ks := by
  unfold colsK sgn
  rw [List.map_map]
  rfl
theorem others_sgn (cs : List Int) (e : Int) (ks : List (Int × Int)) : others cs (sgn e ks) = sgn e (others cs ks) := by
  unfold others sgn
  rw [List.filter_map]
  rfl
theorem others_app (cs : List Int) (a b : List (Int × Int)) : others cs (a ++ b) = others cs a ++ others cs b := by unfold others; rw [List.filter_append]
theorem others_self (ks : List (Int × Int)) : others (colsK ks) ks = [] := by
  unfold others colsK
  rw [List.filter_eq_nil_iff]
  intro k hk
  have : (ks.map (·.1)).contains k.1 = true := List.contains_iff_mem.mpr (List.mem_map_of_mem hk)
  rw [this]
  simp
theorem others_others (cs : List Int) (ks : List (Int × Int)) : others cs (others cs ks) = others cs ks := by
  unfold others
  rw [List.filter_filter]
  simp
theorem drop_others (c : Int) (cs : List Int) (ks : List (Int × Int)) : (others cs ks).filter (fun k => k.1 != c) = others (c :: cs) ks := by
  unfold others
  rw [List.filter_filter]
  apply List.filter_congr
  intro k _
  by_cases h : k.1 = c <;> simp [h]
theorem others_drop (c : Int) (rs ks : List (Int × Int)) : others (c :: colsK (rs.filter fun k => k.1 != c)) ks = others (c :: colsK rs) ks := by
  unfold others
  apply List.filter_congr
  intro k _
  by_cases h : k.1 = c
  · simp [h]
  · congr 1
    rw [Bool.eq_iff_iff]
    simp only [List.contains_iff_mem, List.mem_cons, h, false_or, colsK, List.mem_map, List.mem_filter]
    constructor
    · rintro ⟨q, ⟨h1, _⟩, h2⟩; exact ⟨q, h1, h2⟩
    · rintro ⟨q, h1, h2⟩; exact ⟨q, ⟨h1, by simp [h2, h]⟩, h2⟩
theorem runS_from (ks : List (Int × Int)) (b : Int) (l : Option Int) (cs : List Int) : runS cs ⟨ks, b, l⟩ = ⟨(runS cs ⟨[], 1, l⟩).ks ++ sgn (runS cs ⟨[], 1, l⟩).base (others (colsK (runS cs ⟨[], 1, l⟩).ks) ks), b * (runS cs ⟨[], 1, l⟩).base, (runS cs ⟨[], 1, l⟩).last⟩ := by
  generalize hn : cs.length = n
  induction n generalizing cs with
  | zero =>
    have : cs = [] := List.length_eq_zero_iff.mp hn
    subst this
    simp [runS, sgn, others, colsK]
    exact (List.filter_eq_self.mpr fun _ _ => rfl).symm
  | succ n ih =>
    rcases List.eq_nil_or_concat cs with rfl | ⟨as, c, rfl⟩
    · simp at hn
    · rw [List.concat_eq_append] at hn ⊢
      have ha : as.length = n := by simpa using hn
      rw [runS_snoc, runS_snoc, ih as ha]
      generalize runS as ⟨[], 1, l⟩ = r
      unfold stepK
      dsimp only
      by_cases h : r.last = some c
      · rw [if_pos h, if_pos h]
        simp only [neg_sgn, sgn_app, sgn_sgn, cols_sgn, ESt.mk.injEq, and_true]
        exact ⟨by rw [show r.base * -1 = -r.base by omega], by rw [Int.mul_neg]⟩
      · rw [if_neg h, if_neg h]
        simp only [List.filter_append, ESt.mk.injEq, and_true, List.cons_append, List.cons.injEq, true_and]
        have e1 : (sgn r.base (others (colsK r.ks) ks)).filter (fun k => k.1 != c) = sgn r.base (others (c :: colsK r.ks) ks) := by
          rw [← drop_others]
          unfold sgn
          rw [List.filter_map]
          rfl
        rw [e1]
        show _ ++ _ = _ ++ sgn r.base (others (c :: colsK (r.ks.filter fun k => k.1 != c)) ks)
        rw [others_drop]
theorem base_sq (cs : List Int) : ∀ (s : ESt), s.base * s.base = 1 → (runS cs s).base * (runS cs s).base = 1 := by
  induction cs with
  | nil => intro s h; exact h
  | cons c cs ih =>
    intro s h
    refine ih (stepK s c) ?_
    unfold stepK
    split
    · show -s.base * -s.base = 1
      rw [Int.neg_mul_neg]; exact h
    · exact h
theorem round_ks (cs : List Int) (l : Int) : (runS cs s0).ks = (runS cs ⟨[], 1, some l⟩).ks ++ others (colsK (runS cs ⟨[], 1, some l⟩).ks) (runS cs s0).ks := by
  cases cs with
  | nil => rfl
  | cons c rest =>
    by_cases h : l = c
    · subst h
      have e1 : runS (l :: rest) s0 = runS rest ⟨[(l, 1)], 1, some l⟩ := rfl
      have e2 : runS (l :: rest) ⟨[], 1, some l⟩ = runS rest ⟨[], -1, some l⟩ := by
        show runS rest (stepK ⟨[], 1, some l⟩ l) = _
        unfold stepK
        rw [if_pos rfl]
        rfl
      rw [e1, e2, runS_from [(l, 1)] 1 (some l) rest, runS_from [] (-1) (some l) rest]
      generalize runS rest ⟨[], 1, some l⟩ = q
      have e3 : sgn q.base (others (colsK q.ks) []) = [] := rfl
      dsimp only
      rw [e3, List.append_nil, others_app, others_self, List.nil_append, others_sgn, others_others]
    · have e1 : runS (c :: rest) s0 = runS rest ⟨[(c, 1)], 1, some c⟩ := rfl
      have e2 : runS (c :: rest) ⟨[], 1, some l⟩ = runS rest ⟨[(c, 1)], 1, some c⟩ := by
        show runS rest (stepK ⟨[], 1, some l⟩ c) = _
        unfold stepK
        rw [if_neg (by simpa using h)]
        rfl
      rw [e1, e2, others_self, List.append_nil]
def many (cs : List Int) (n : Nat) : List Int := (List.replicate n cs).flatten
theorem many_succ (cs : List Int) (n : Nat) : many cs (n + 1) = many cs n ++ cs := by
  unfold many
  rw [List.replicate_succ', List.flatten_append]
  simp
theorem many_zero (cs : List Int) : many cs 0 = [] := rfl
theorem many_len (cs : List Int) : ∀ n, (many cs n).length = n * cs.length
  | 0 => by simp [many]
  | n + 1 => by rw [many_succ, List.length_append, many_len cs n, Nat.succ_mul]
theorem many_nil : ∀ n, many [] n = []
  | 0 => rfl
  | n + 1 => by rw [many_succ, many_nil n]; rfl
theorem many_one (cs : List Int) : many cs 1 = cs := by rw [many_succ]; rfl
theorem many_two (cs : List Int) : many cs 2 = cs ++ cs := by rw [many_succ, many_one]
theorem many_mem (cs : List Int) {n : Nat} {c : Int} (h : c ∈ many cs n) : c ∈ cs := by
  unfold many at h
  obtain ⟨l, h1, h2⟩ := List.mem_flatten.mp h
  rw [(List.mem_replicate.mp h1).2] at h2
  exact h2
theorem rounds (cs : List Int) (n : Nat) : runS (many cs (n + 3)) s0 = runS (many cs (n + 1)) s0 := by
  by_cases hc : cs = []
  · subst hc; rw [many_nil, many_nil]
  obtain ⟨l, hl⟩ : ∃ l, cs.getLast? = some l := ⟨_, List.getLast?_eq_some_getLast hc⟩
  have last1 : ∀ s, (runS cs s).last = some l := fun s => by rw [runS_last, if_neg hc, hl]
  -- the state behind each round
  have st : ∀ s : ESt, s.last = some l → runS cs s = ⟨(runS cs ⟨[], 1, some l⟩).ks ++ sgn (runS cs ⟨[], 1, some l⟩).base (others (colsK (runS cs ⟨[], 1, some l⟩).ks) s.ks), s.base * (runS cs ⟨[], 1, some l⟩).base, some l⟩ := by
    rintro ⟨ks, b, x⟩ h
    have h : x = some l := h
    subst h
    rw [runS_from, last1]
  have sq := base_sq cs ⟨[], 1, some l⟩ rfl
  generalize hr : runS cs ⟨[], 1, some l⟩ = r at st sq
  have two : ∀ s : ESt, s.last = some l → s.ks = r.ks ++ others (colsK r.ks) s.ks → runS cs (runS cs s) = s := by
    intro s h1 h2
    rw [st s h1, st _ rfl]
    dsimp only
    rw [others_app, others_self, List.nil_append, others_sgn, others_others, sgn_sgn, sq, sgn_one, ← h2, Int.mul_assoc, sq, Int.mul_one, ← h1]
  have inv : ∀ n, (runS (many cs (n + 1)) s0).last = some l ∧ (runS (many cs (n + 1)) s0).ks = r.ks ++ others (colsK r.ks) (runS (many cs (n + 1)) s0).ks := by
    intro n
    induction n with
    | zero =>
      rw [many_one]
      refine ⟨last1 _, ?_⟩
      rw [← hr]
      exact round_ks cs l
    | succ n ih =>
      rw [many_succ, runS_app]
      refine ⟨last1 _, ?_⟩
      rw [st _ ih.1]
      dsimp only
      rw [others_app, others_self, List.nil_append, others_sgn, others_others]
  rw [many_succ, many_succ, runS_app, runS_app]
  exact two _ (inv n).1 (inv n).2
theorem spec_run (cs : List Int) : spec cs = runS cs s0 := rfl
theorem rounds_mod (cs : List Int) : ∀ n : Nat, 1 ≤ n → spec (many cs n) = spec (if n % 2 = 1 then cs else cs ++ cs)
  | 1, _ => by rw [many_one]; rfl
  | 2, _ => by rw [many_two]; rfl
  | n + 3, _ => by
    have h := rounds_mod cs (n + 1) (by omega)
    rw [show spec (many cs (n + 3)) = spec (many cs (n + 1)) from rounds cs n, h, show (n + 3) % 2 = (n + 1) % 2 by omega]
end Hp

set_option Elab.async false
set_option linter.all false
set_option maxRecDepth 100000
set_option maxHeartbeats 1000000
set_option exponentiation.threshold 2000
namespace Hp
open Hc PySem PySem.Spec PyProof.Rows L2
local macro_rules
  | `(tactic| simp! [$xs,*]) => `(tactic| simp -implicitDefEqProofs -dsimp only [↓Hc.w_bind, ↓Hc.w_ok, Hc.w_no, Hc.w_guard, Hc.w_go, Hc.w_nil, Hc.wc_ok, Hc.af_nx, Hc.af_ret, Hc.af_brk, Hc.af_ct, Hc.onS_some, Hc.altS_some, Hc.altS_none, Hc.exec, ev, evL, evA, mkE, cCall_eq, cCallk_eq, seqA, argE, Hc.cNm_eq, Hc.cMv_eq, Hc.fetch_nil, Hc.fetch_cons, goOf_some, lent, giveBack, backOk, noIo, cOrT, cNotT, cAndT, cOr, cNot, cAnd, Hc.view_eq, Hc.peek_nm, Hc.peek_lit, Hc.peek_gc, Hc.peek_sub, Hc.peek_neg, Hc.peek_len, Hc.peek_add, Hc.peek_bsub, Hc.peek_call, Hc.peek_lst, Hc.peek_nop, Hc.peek_tup, Hc.peek_sli, Hc.peek_comp, Hc.peek_mul, Hc.peek_mod, Hc.peek_fdv, Hc.peek_pow, Hc.peek_callk, Hc.peek_ifgt, Hc.peek_iflt, Hc.peek_ifne, Hc.peek_ifle, Hc.peek_ifge, Hc.peek_ifis, Hc.peek_ifisn, Hc.peek_ifinn, Hc.peek_ifnin, Hc.peek_ifnm, Hc.peek_ifand, Hc.peek_ifor, Hc.peek_ifnot, Hc.peek_ifsub, Hc.peek_ifcall, Hc.peek_ifisi, Hc.peek_ifeq, Hc.peek_isi, Hc.peek_cmp, Hc.peek_mu, Hc.peek_mv, Hc.peek_sum, Hc.peek_repr, Hc.peek_int, Hc.peek_str, Hc.peek_all, Hc.peek_max2, Hc.peek_min2, cChain, cCmp, cNeg, cBin, two, Hc.opd_eq, Hc.lift_eq, Hc.truth_bl, Hc.truth_int, D.fz, Hc.shal_int, Hc.shal_bl, Hc.shal_str, Hc.shal_non, Hc.shal_lst, Hc.shal_tup, flat, cIsi, isTy, cIf, cTup, cLst, seqE, Hc.cSub_eq, Hc.pick_lst, Hc.pick_tup, Hc.atI_0, Hc.atI_1, Hc.atI_2, Hc.atI_3, Hc.negD, Hc.addD, Hc.subD, cBl1, cBl, Bl.looks, Hc.dAdd, Hc.dSub, Hc.dLt, Hc.dLe, Hc.dGt, Hc.dGe, Hc.dEq, Hc.dNe, Hc.dEqB, Hc.dNeB, Hc.dEqS, Hc.dNeS, Hc.dLenL, Hc.dLenT, Hc.dIntI, Hc.dIntB, Hc.dMin, Hc.dMax, D.noOwn, noOwns, D.noFz, noFzs, Hc.own_ints, Hc.fz_ints, Hc.noFzs_ints, Hc.R.bind_ok, at_zero, at_succ, List.set_cons_zero, List.set_cons_succ, Option.map_some, Option.bind_some, Option.bind_none, sz, Nat.reduceAdd, Nat.reduceLeDiff, Nat.reduceLT, Int.reduceLE, Int.reduceLT, Int.reduceToNat, Hc.turnQ_nx, Hc.turnQ_ct, Hc.turnQ_brk, Hc.turnQ_ret, Hc.retQ_ret, Hc.retQ_nx, Hc.outs_nil, Hc.outs_t, Hc.outs_f, Option.getD_some, Option.getD_none, cIt, cRng1, cRng2, its, CE.isNm, guards, Hc.items_lst, Hc.items_tup, cMu, cMuEnd, Hc.isL_lst, List.map_cons, List.map_nil, List.getD_cons_zero, List.getD_cons_succ, Hc.getK_nil, Hc.getK_cons, Hc.putK_nil, Hc.putK_cons, Hc.put1_lst, Hc.put1_tup, Hc.set1_lst, Hc.dPop0, Hc.dRev, List.nil_append, List.cons_append, Hc.ixN_1_0, Hc.ixN_2_0, Hc.ixN_2_1, Hc.ixN_3_0, Hc.ixN_3_1, Hc.ixN_3_2, Hc.ixN_4_0, Hc.ixN_4_1, Hc.ixN_4_2, Hc.ixN_4_3, calms, CE.calm, pathOf, cSetSub, cSetEnd, cEnu, cZip, Hc.lstq_lst, Hc.addL_if, Hc.dEqN, Hc.zipOp_lst, Hc.zipOp_tup, Hc.all_lst, Hc.bools_map, Hc.sum_lst, Hc.ints_map, Hc.dIs_non, Hc.dIsn_non, Hc.dIs_int, Hc.dIsn_int, Hc.dIs_bl, Hc.dIsn_bl, Hc.dIs_str, Hc.dIsn_str, Hc.dIs_tup, Hc.dIsn_tup, Hc.dIs_lst, Hc.dIsn_lst, Hc.ite_ok, Hc.iteI, cComp, cSli, eNop, Hc.cutOp_lst, Hc.peek_vm, Hc.peek_vi, Hc.peek_rev, Hc.peek_lrng1, Hc.peek_lrng2, Hc.peek_dcomp, Hc.peek_ddisp, Hc.peek_dnew, Hc.peek_dget, Hc.peek_not, Hc.peek_and, Hc.peek_or, Hc.peek_chain, Hc.peek_shl, Hc.peek_shr, Hc.peek_band, Hc.peek_bor, Hc.peek_sorted, Hc.peek_list, Hc.peek_tuple, Hc.peek_divmod, Hc.peek_abs, Hc.peek_bool, Hc.pickA_lst, Hc.pickA_tup, Hc.walk_lst, Hc.walk_tup, Hc.revOp_lst, Hc.dSorted, Hc.dListL, Hc.dListT, Hc.dTupL, Hc.dTupT, Hc.dDivmod, Hc.dAbs, Hc.dBoolI, Hc.dBoolB, Hc.dStrS, Hc.dRemove, Hc.dShr, Hc.dShl, cVm0, cVm1, cVi, isL0, cRev, cLr1, cLr2, cDcomp, cDdisp, seqP, turnK, beq_self_eq_true, Bool.true_beq, Bool.false_beq, Hc.muop_ext, Hc.muop_app, Hc.onS_if, List.length_map, List.length_append, turnE, Hc.w_mute, bindTg, setAll, wipeE, Hc.again, Option.isSome_some, Bool.not_true, Bool.not_false, Bool.and_true, Bool.true_and, Bool.and_false, Bool.false_and, Bool.or_true, Bool.true_or, Bool.or_false, Bool.false_or, if_true, if_false, ite_true, ite_false, Bool.false_eq_true, true_and, and_true, decide_true, decide_false, reduceCtorEq, Nat.add_zero, Nat.zero_add, List.all_cons, List.all_nil, List.any_cons, List.any_nil, fzs, List.length_cons, List.length_nil, Option.some.injEq, exists_eq_left', $xs,*])
  | `(tactic| walk_at "s") => `(tactic| (refine step ?_; simp! []))
def bCheckRounds : List CS := [
  .ifS (.orE (.notE (.call "is_integer" [(.nm 0)])) (.notE (.chain .le .le (.lit (.int 0)) (.nm 0) (.gc "MOST_ROUNDS" (.int 1000000000000000000000000000000))))) [.never] []]
def bEffByRounds : List CS := [
  .ifS (.orE (.cmp .eq (.nm 1) (.lit (.int 0))) (.cmp .eq (.nm 0) (.lst []))) [.ret (.tup [(.lst []), (.lit (.int 1))])] [],
  .ret (.call "effect_by_clicks" [(.ife (.cmp .eq (.bin .mod (.nm 1) (.lit (.int 2))) (.lit (.int 1))) (.nm 0) (.bin .add (.nm 0) (.nm 0)))])]
def bEffAfter : List CS := [
  .expr (.call "check_columns" [(.nm 0)]),
  .expr (.call "check_clicks" [(.nm 0), (.nm 1)]),
  .expr (.call "check_rounds" [(.nm 2)]),
  .ret (.call "effect_by_rounds" [(.nm 1), (.nm 2)])]
def bManyF : List CS := [
  .set 2 (.lst []),
  .forS (.nm 3) (.rng1 (.nm 1)) [.set 2 (.bin .add (.nm 2) (.nm 0))],
  .ret (.mv 2)]
abbrev big30 : Int := 1000000000000000000000000000000
abbrev SCheckR (Γ : Glob) : Prop := ∀ r : Int, 0 ≤ r → r ≤ big30 → Γ "check_rounds" [.int r] = .ok .non [.int r]
theorem t_checkR {Γ : Glob} (hi : SInt Γ) (r : Int) (h : 0 ≤ r) (h2 : r ≤ big30) : runDef Γ 1 bCheckRounds [.int r] = .ok .non [.int r] := by
  have e1 : Γ "is_integer" [.int r] = .ok (.bl true) [.int r] := hi _ (fun z => by cases z)
  obtain ⟨d, ps, e, rfl, rfl⟩ := Rc.wp_ex (r := runDef Γ 1 bCheckRounds [.int r]) (Q := fun d ps => d = .non ∧ ps = [.int r]) (by
    refine run_wp2 (env := [some (.int r)]) (ks := [true]) rfl rfl ?_
    unfold bCheckRounds
    refine step ?_
    simp! [e1, h, h2])
  exact e
def roundsC (cs : List Int) (r : Int) : List Int := if r = 0 then [] else if r % 2 = 1 then cs else cs ++ cs
theorem roundsC_many (cs : List Int) (n : Nat) : spec (roundsC cs n) = spec (many cs n) := by
  unfold roundsC
  by_cases h : n = 0
  · subst h; rfl
  · rw [if_neg (by omega), rounds_mod cs n (by omega)]
    by_cases h2 : n % 2 = 1
    · rw [if_pos (by omega), if_pos h2]
    · rw [if_neg (by omega), if_neg h2]
abbrev effD (cs : List Int) : D := .tup [kl true (spec cs).ks, .int (spec cs).base]
abbrev SEffByR (Γ : Glob) : Prop := ∀ (cs : List Int) (r : Int), cs.length ≤ 400000 → ∃ a, Γ "effect_by_rounds" [cl cs, .int r] = .ok (effD (roundsC cs r)) [a, .int r]
theorem eq_nilL (o p : Bool) (cs : List Int) : cmpop .eq (.lst o (cs.map .int)) (.lst p []) = some (decide (cs = [])) := by
  show (if flat 60 (D.lst o (cs.map .int)) = true ∧ flat 60 (D.lst p []) = true then some (deq (D.lst o (cs.map .int)) (D.lst p [])) else none) = _
  rw [if_pos ⟨by simp [flat], rfl⟩]
  cases cs <;> simp [deq, D.toP, toPs, PyData.eqv, PyData.eqvAll]
theorem t_effByR {Γ : Glob} (h : SEffBy Γ) (cs : List Int) (r : Int) (hz : cs.length ≤ 400000) : ∃ a, runDef Γ 2 bEffByRounds [cl cs, .int r] = .ok (effD (roundsC cs r)) [a, .int r] := by
  obtain ⟨d, ps, e, rfl, a, rfl⟩ := Rc.wp_ex (r := runDef Γ 2 bEffByRounds [cl cs, .int r]) (Q := fun d ps => d = effD (roundsC cs r) ∧ ∃ a, ps = [a, .int r]) (by
    refine run_wp2 (env := [some (cl cs), some (.int r)]) (ks := [true, true]) rfl rfl ?_
    unfold bEffByRounds
    refine step ?_
    simp! [eq_nilL]
    by_cases h0 : r = 0
    · subst h0
      simp! []
      refine step ?_
      simp! []
      exact ⟨rfl, _, rfl⟩
    · by_cases hc : cs = []
      · subst hc
        simp! [h0]
        refine step ?_
        simp! []
        have : roundsC [] r = [] := by unfold roundsC; split <;> (try rfl); split <;> rfl
        rw [this]
        exact ⟨rfl, _, rfl⟩
      · simp! [h0, hc]
        refine step ?_
        simp! [dMod (i := r) (j := 2) (by decide)]
        by_cases h2 : r % 2 = 1
        · obtain ⟨a, e⟩ := h cs (by omega)
          simp! [h2, e]
          have : roundsC cs r = cs := by unfold roundsC; rw [if_neg h0, if_pos h2]
          rw [this]
          exact ⟨rfl, _, rfl⟩
        · obtain ⟨a, e⟩ := h (cs ++ cs) (by rw [List.length_append]; omega)
          have e : Γ "effect_by_clicks" [.lst false (cs.map .int ++ cs.map .int)] = .ok (.tup [kl true (spec (cs ++ cs)).ks, .int (spec (cs ++ cs)).base]) [a] := by rw [← List.map_append]; exact e
          simp! [h2]
          refine ⟨by omega, ?_⟩
          rw [← List.map_append, fz_ints, List.map_append]
          simp! [e]
          have : roundsC cs r = cs ++ cs := by unfold roundsC; rw [if_neg h0, if_neg h2]
          rw [this]
          exact ⟨rfl, _, rfl⟩)
  exact ⟨a, e⟩
abbrev SEffAfter (Γ : Glob) : Prop := ∀ (w : Int) (cs : List Int) (r : Int), 1 ≤ w → w ≤ 8 → (∀ c ∈ cs, 0 ≤ c ∧ c < w) → cs.length ≤ 400000 → 0 ≤ r → r ≤ big30 → ∃ a b c, Γ "effect_after_rounds" [.int w, cl cs, .int r] = .ok (effD (roundsC cs r)) [a, b, c]
theorem t_effAfter {Γ : Glob} (h1 : SCols Γ) (h2 : SClicks Γ) (h3 : SCheckR Γ) (h4 : SEffByR Γ) (w : Int) (cs : List Int) (r : Int) (hw : 1 ≤ w) (hw2 : w ≤ 8) (h : ∀ c ∈ cs, 0 ≤ c ∧ c < w) (hz : cs.length ≤ 400000) (r0 : 0 ≤ r) (r1 : r ≤ big30) :
    ∃ a b c, runDef Γ 3 bEffAfter [.int w, cl cs, .int r] = .ok (effD (roundsC cs r)) [a, b, c] := by
  obtain ⟨a, b, e2⟩ := h2 w cs h
  obtain ⟨a3, e4⟩ := h4 cs r hz
  have e1 := h1 w hw hw2
  have e3 := h3 r r0 r1
  obtain ⟨d, ps, e, rfl, a, b, c, rfl⟩ := Rc.wp_ex (r := runDef Γ 3 bEffAfter [.int w, cl cs, .int r]) (Q := fun d ps => d = effD (roundsC cs r) ∧ ∃ a b c, ps = [a, b, c]) (by
    refine run_wp2 (env := [some (.int w), some (cl cs), some (.int r)]) (ks := [true, true, true]) rfl rfl ?_
    unfold bEffAfter
    refine step ?_
    simp! [e1]
    refine step ?_
    simp! [e2]
    refine step ?_
    simp! [e3]
    refine step ?_
    simp! [e4]
    exact ⟨_, _, _, rfl⟩)
  exact ⟨a, b, c, e⟩
abbrev SMany (Γ : Glob) : Prop := ∀ (o : Bool) (cs : List Int) (n : Nat) (t : Int), t = n → n * cs.length ≤ 1000000 → n ≤ 1000000 → (Γ "_law_many" [.lst o (cs.map .int), .int t]).wp (fun d ps => d = .lst true ((many cs n).map .int) ∧ ∃ a b, ps = [a, b]) noXc
theorem t_many {Γ : Glob} (o : Bool) (cs : List Int) (n : Nat) (t : Int) (ht : t = n) (hz : n * cs.length ≤ 1000000) (hn : n ≤ 1000000) : (runDef Γ 4 bManyF [.lst o (cs.map .int), .int t]).wp (fun d ps => d = .lst true ((many cs n).map .int) ∧ ∃ a b, ps = [a, b]) noXc := by
  refine run_wp2 (env := [some (.lst o (cs.map .int)), some (.int t), none, none]) (ks := [true, true]) rfl rfl ?_
  unfold bManyF
  walk_at "s"
  walk_at "s"
  refine ⟨⟨by omega, by omega⟩, ?_⟩
  refine loop (σ := List Int × Option D) (fun s => [some (.lst o (cs.map .int)), some (.int t), some (.lst true (s.1.map .int)), s.2]) (fun k s => s.1 = many cs k) ([], none) rfl (fun _ => rfl) rfl ?_ ?_
  · rintro k d ⟨s, u⟩ hk rfl
    obtain ⟨rfl, hkn⟩ := upto_get hk
    refine ⟨_, rfl, ?_⟩
    dsimp only
    refine step ?_
    have hl : k * cs.length + cs.length ≤ n * cs.length := by rw [← Nat.succ_mul]; exact Nat.mul_le_mul_right _ (by omega)
    simp! [many_len]
    refine ⟨by omega, (many cs (k + 1), some (.int (0 + (k : Int)))), ?_⟩
    rw [many_succ, List.map_append]
    exact ⟨rfl, rfl⟩
  · rintro ⟨s, u⟩ rfl
    rw [upto_len]
    have e : t.toNat = n := by omega
    rw [e]
    simp! []
    walk_at "s"
    exact ⟨_, _, rfl⟩
end Hp

set_option Elab.async false
set_option linter.all false
set_option maxRecDepth 100000
set_option maxHeartbeats 1000000
namespace Hp
open Hc PySem PySem.Spec PyProof.Rows L2
def Cols (cs : List Int) : Prop := ∀ c ∈ cs, 0 ≤ c ∧ c < 8
theorem col_cases {c : Int} (h : 0 ≤ c ∧ c < 8) : c = 0 ∨ c = 1 ∨ c = 2 ∨ c = 3 ∨ c = 4 ∨ c = 5 ∨ c = 6 ∨ c = 7 := by omega
theorem col_short {c : Int} (h : 0 ≤ c ∧ c < 8) : PyData.intsShort 13 (.int c) = true ∧ PyData.showable (.int c) = true := by
  rcases col_cases h with rfl | rfl | rfl | rfl | rfl | rfl | rfl | rfl <;> exact ⟨by decide +kernel, by decide +kernel⟩
theorem col_weight {c : Int} (h : 0 ≤ c ∧ c < 8) : PyData.weight (.int c) ≤ 3 := by
  rcases col_cases h with rfl | rfl | rfl | rfl | rfl | rfl | rfl | rfl <;> decide +kernel
theorem cols_all : ∀ {cs : List Int}, Cols cs → PyData.intsShortAll 13 (toPs (cs.map .int)) = true ∧ PyData.showableAll (toPs (cs.map .int)) = true ∧ PyData.weightAll (toPs (cs.map .int)) ≤ 4 * cs.length
  | [], _ => ⟨rfl, rfl, Nat.zero_le _⟩
  | c :: cs, h => by
    obtain ⟨h1, h2, h3⟩ := cols_all (cs := cs) fun x hx => h x (List.mem_cons_of_mem _ hx)
    obtain ⟨k1, k2⟩ := col_short (h c List.mem_cons_self)
    refine ⟨?_, ?_, ?_⟩
    · show PyData.intsShortAll 13 (.int c :: toPs (cs.map .int)) = true
      simp only [PyData.intsShortAll, k1, h1, Bool.and_self]
    · show PyData.showableAll (.int c :: toPs (cs.map .int)) = true
      simp only [PyData.showableAll, k2, h2, Bool.and_self]
    · show PyData.weightAll (.int c :: toPs (cs.map .int)) ≤ _
      have k3 := col_weight (h c List.mem_cons_self)
      simp only [PyData.weightAll, List.length_cons]
      omega
theorem t_repr (o : Bool) (cs : List Int) (h : Cols cs) (hz : cs.length ≤ 1000) : bltop .repr [.lst o (cs.map .int)] = some (.str (D.lst o (cs.map .int)).toP.shown) := by
  obtain ⟨h1, h2, h3⟩ := cols_all h
  have fl : flat 60 (.lst o (cs.map .int)) = true := by
    simp [flat]
  obtain ⟨c1, c2⟩ := flat_can _ _ fl
  have hw : (D.lst o (cs.map .int)).toP.weight ≤ 2 ^ 20 := by
    show PyData.weight (.list (toPs (cs.map .int))) ≤ _
    simp only [PyData.weight]
    omega
  have lay : (D.lst o (cs.map .int)).toP.layable0 = true := by
    unfold PyData.layable0
    rw [c1]
    simp only [Bool.true_and, Bool.and_eq_true, decide_eq_true_eq]
    exact ⟨by omega, hw⟩
  have len := shown_le13 lay (by show PyData.intsShort 13 (.list (toPs (cs.map .int))) = true; simp only [PyData.intsShort, h1])
  have sh : (D.lst o (cs.map .int)).toP.showable = true := by
    show PyData.showable (.list (toPs (cs.map .int))) = true
    simp only [PyData.showable, h2]
  show (if _ then _ else _) = _
  rw [if_pos ⟨fl, sh, Nat.le_trans len (by decide)⟩]
def shownC (cs : List Int) : Str := (D.lst true (cs.map .int)).toP.shown
theorem repr_cols (o : Bool) (cs : List Int) (h : Cols cs) (hz : cs.length ≤ 1000) : bltop .repr [.lst o (cs.map .int)] = some (.str (shownC cs)) := t_repr o cs h hz
end Hp

set_option Elab.async false
set_option linter.all false
set_option maxRecDepth 100000
set_option maxHeartbeats 1000000
namespace Hp
open Hc PySem PySem.Spec PyProof.Rows L2
local macro_rules
  | `(tactic| simp! [$xs,*]) => `(tactic| simp -implicitDefEqProofs -dsimp only [↓Hc.w_bind, ↓Hc.w_ok, Hc.w_no, Hc.w_guard, Hc.w_go, Hc.w_nil, Hc.wc_ok, Hc.af_nx, Hc.af_ret, Hc.af_brk, Hc.af_ct, Hc.onS_some, Hc.altS_some, Hc.altS_none, Hc.exec, ev, evL, evA, mkE, cCall_eq, cCallk_eq, seqA, argE, Hc.cNm_eq, Hc.cMv_eq, Hc.fetch_nil, Hc.fetch_cons, goOf_some, lent, giveBack, backOk, noIo, cOrT, cNotT, cAndT, cOr, cNot, cAnd, Hc.view_eq, Hc.peek_nm, Hc.peek_lit, Hc.peek_gc, Hc.peek_sub, Hc.peek_neg, Hc.peek_len, Hc.peek_add, Hc.peek_bsub, Hc.peek_call, Hc.peek_lst, Hc.peek_nop, Hc.peek_tup, Hc.peek_sli, Hc.peek_comp, Hc.peek_mul, Hc.peek_mod, Hc.peek_fdv, Hc.peek_pow, Hc.peek_callk, Hc.peek_ifgt, Hc.peek_iflt, Hc.peek_ifne, Hc.peek_ifle, Hc.peek_ifge, Hc.peek_ifis, Hc.peek_ifisn, Hc.peek_ifinn, Hc.peek_ifnin, Hc.peek_ifnm, Hc.peek_ifand, Hc.peek_ifor, Hc.peek_ifnot, Hc.peek_ifsub, Hc.peek_ifcall, Hc.peek_ifisi, Hc.peek_ifeq, Hc.peek_isi, Hc.peek_cmp, Hc.peek_mu, Hc.peek_mv, Hc.peek_sum, Hc.peek_repr, Hc.peek_int, Hc.peek_str, Hc.peek_all, Hc.peek_max2, Hc.peek_min2, cChain, cCmp, cNeg, cBin, two, Hc.opd_eq, Hc.lift_eq, Hc.truth_bl, Hc.truth_int, D.fz, Hc.shal_int, Hc.shal_bl, Hc.shal_str, Hc.shal_non, Hc.shal_lst, Hc.shal_tup, flat, cIsi, isTy, cIf, cTup, cLst, seqE, Hc.cSub_eq, Hc.pick_lst, Hc.pick_tup, Hc.atI_0, Hc.atI_1, Hc.atI_2, Hc.atI_3, Hc.negD, Hc.addD, Hc.subD, cBl1, cBl, Bl.looks, Hc.dAdd, Hc.dSub, Hc.dLt, Hc.dLe, Hc.dGt, Hc.dGe, Hc.dEq, Hc.dNe, Hc.dEqB, Hc.dNeB, Hc.dEqS, Hc.dNeS, Hc.dLenL, Hc.dLenT, Hc.dIntI, Hc.dIntB, Hc.dMin, Hc.dMax, D.noOwn, noOwns, D.noFz, noFzs, Hc.own_ints, Hc.fz_ints, Hc.noFzs_ints, Hc.R.bind_ok, at_zero, at_succ, List.set_cons_zero, List.set_cons_succ, Option.map_some, Option.bind_some, Option.bind_none, sz, Nat.reduceAdd, Nat.reduceLeDiff, Nat.reduceLT, Int.reduceLE, Int.reduceLT, Int.reduceToNat, Hc.turnQ_nx, Hc.turnQ_ct, Hc.turnQ_brk, Hc.turnQ_ret, Hc.retQ_ret, Hc.retQ_nx, Hc.outs_nil, Hc.outs_t, Hc.outs_f, Option.getD_some, Option.getD_none, cIt, cRng1, cRng2, its, CE.isNm, guards, Hc.items_lst, Hc.items_tup, cMu, cMuEnd, Hc.isL_lst, List.map_cons, List.map_nil, List.getD_cons_zero, List.getD_cons_succ, Hc.getK_nil, Hc.getK_cons, Hc.putK_nil, Hc.putK_cons, Hc.put1_lst, Hc.put1_tup, Hc.set1_lst, Hc.dPop0, Hc.dRev, List.nil_append, List.cons_append, Hc.ixN_1_0, Hc.ixN_2_0, Hc.ixN_2_1, Hc.ixN_3_0, Hc.ixN_3_1, Hc.ixN_3_2, Hc.ixN_4_0, Hc.ixN_4_1, Hc.ixN_4_2, Hc.ixN_4_3, calms, CE.calm, pathOf, cSetSub, cSetEnd, cEnu, cZip, Hc.lstq_lst, Hc.addL_if, Hc.dEqN, Hc.zipOp_lst, Hc.zipOp_tup, Hc.all_lst, Hc.bools_map, Hc.sum_lst, Hc.ints_map, Hc.dIs_non, Hc.dIsn_non, Hc.dIs_int, Hc.dIsn_int, Hc.dIs_bl, Hc.dIsn_bl, Hc.dIs_str, Hc.dIsn_str, Hc.dIs_tup, Hc.dIsn_tup, Hc.dIs_lst, Hc.dIsn_lst, Hc.ite_ok, Hc.iteI, cComp, cSli, eNop, Hc.cutOp_lst, Hc.peek_vm, Hc.peek_vi, Hc.peek_rev, Hc.peek_lrng1, Hc.peek_lrng2, Hc.peek_dcomp, Hc.peek_ddisp, Hc.peek_dnew, Hc.peek_dget, Hc.peek_not, Hc.peek_and, Hc.peek_or, Hc.peek_chain, Hc.peek_shl, Hc.peek_shr, Hc.peek_band, Hc.peek_bor, Hc.peek_sorted, Hc.peek_list, Hc.peek_tuple, Hc.peek_divmod, Hc.peek_abs, Hc.peek_bool, Hc.pickA_lst, Hc.pickA_tup, Hc.walk_lst, Hc.walk_tup, Hc.revOp_lst, Hc.dSorted, Hc.dListL, Hc.dListT, Hc.dTupL, Hc.dTupT, Hc.dDivmod, Hc.dAbs, Hc.dBoolI, Hc.dBoolB, Hc.dStrS, Hc.dRemove, Hc.dShr, Hc.dShl, cVm0, cVm1, cVi, isL0, cRev, cLr1, cLr2, cDcomp, cDdisp, seqP, turnK, Hc.isL_lst, beq_self_eq_true, Bool.true_beq, Bool.false_beq, Hc.muop_ext, Hc.muop_app, Hc.onS_if, List.length_map, List.length_append, turnE, Hc.w_mute, bindTg, setAll, wipeE, Hc.again, Option.isSome_some, Bool.not_true, Bool.not_false, Bool.and_true, Bool.true_and, Bool.and_false, Bool.false_and, Bool.or_true, Bool.true_or, Bool.or_false, Bool.false_or, if_true, if_false, ite_true, ite_false, Bool.false_eq_true, true_and, and_true, decide_true, decide_false, reduceCtorEq, Nat.add_zero, Nat.zero_add, List.all_cons, List.all_nil, List.any_cons, List.any_nil, fzs, List.length_cons, List.length_nil, Option.some.injEq, exists_eq_left', $xs,*])
  | `(tactic| walk_at "s") => `(tactic| (refine step ?_; simp! []))
def bSign : List CS := [
  .ret (.andE (.call "is_integer" [(.nm 0)]) (.cmp .inn (.nm 0) (.tup [(.gc "ASCENDING" (.int 1)), (.gc "DESCENDING" (.int (-1)))])))]
def bKey : List CS := [
  .ifS (.orE (.notE (.isi (.nm 1) [.tuple])) (.cmp .ne (.blt .len [(.nm 1)]) (.lit (.int 2)))) [.ret (.lit (.bl false))] [],
  .ret (.andE (.call "is_integer" [(.sub (.nm 1) (.lit (.int 0)))]) (.andE (.chain .le .lt (.lit (.int 0)) (.sub (.nm 1) (.lit (.int 0))) (.nm 0)) (.call "is_sign" [(.sub (.nm 1) (.lit (.int 1)))])))]
def bIsEff : List CS := [
  .expr (.call "check_columns" [(.nm 0)]),
  .ifS (.orE (.notE (.isi (.nm 1) [.tuple])) (.orE (.cmp .ne (.blt .len [(.nm 1)]) (.lit (.int 2))) (.notE (.isi (.sub (.nm 1) (.lit (.int 0))) [.list])))) [.ret (.lit (.bl false))] [],
  .unp (.tup [2, 3]) (.nm 1),
  .ifS (.notE (.blt .all [(.comp [4] (.nm 4) (.nm 2) .nop (.call "is_key" [(.nm 0), (.nm 4)]))])) [.ret (.lit (.bl false))] [],
  .ret (.andE (.call "is_sign" [(.nm 3)]) (.cmp .eq (.blt .len [(.dcomp [5, 6] (.tup [5, 6]) (.nm 2) .nop (.nm 5) (.lit (.bl true)))]) (.blt .len [(.nm 2)])))]
def bCheckEff : List CS := [
  .ifS (.notE (.call "is_effect" [(.nm 0), (.nm 1)])) [.never] []]
def bComb : List CS := [
  .expr (.call "check_effect" [(.nm 0), (.nm 1)]),
  .expr (.call "check_effect" [(.nm 0), (.nm 2)]),
  .set 3 (.dcomp [6, 7] (.tup [6, 7]) (.sub (.nm 2) (.lit (.int 0))) .nop (.nm 6) (.lit (.bl true))),
  .set 4 (.sub (.nm 2) (.lit (.int 1))),
  .set 5 (.comp [6, 7] (.tup [6, 7]) (.sub (.nm 1) (.lit (.int 0))) (.cmp .nin (.nm 6) (.nm 3)) (.tup [(.nm 6), (.bin .mul (.nm 7) (.nm 4))])),
  .ret (.tup [(.bin .add (.sub (.nm 2) (.lit (.int 0))) (.nm 5)), (.bin .mul (.sub (.nm 1) (.lit (.int 1))) (.nm 4))])]
def Sgn (s : Int) : Prop := s = 1 ∨ s = -1
abbrev eD (o : Bool) (ks : List (Int × Int)) (b : Int) : D := .tup [kl o ks, .int b]
structure Eff (w : Int) (ks : List (Int × Int)) (b : Int) : Prop where
  key : ∀ k ∈ ks, 0 ≤ k.1 ∧ k.1 < w ∧ Sgn k.2
  nd : (ks.map Prod.fst).Nodup
  base : Sgn b
abbrev SSign (Γ : Glob) : Prop := ∀ s : Int, Sgn s → Γ "is_sign" [.int s] = .ok (.bl true) [.int s]
theorem rc_eq {r : Rc} {d : D} {ps : List D} (h : r.wp (fun x y => x = d ∧ y = ps) noXc) : r = .ok d ps := by
  obtain ⟨x, y, e, rfl, rfl⟩ := Rc.wp_ex h
  exact e
theorem in_sign {s : Int} (h : Sgn s) : cmpop .inn (.int s) (.tup [.int 1, .int (-1)]) = some true := by
  rcases h with rfl | rfl <;> rfl
theorem t_sign {Γ : Glob} (hi : SInt Γ) (s : Int) (h : Sgn s) : runDef Γ 1 bSign [.int s] = .ok (.bl true) [.int s] := by
  have e1 : Γ "is_integer" [.int s] = .ok (.bl true) [.int s] := hi _ (fun z => by cases z)
  refine rc_eq (run_wp2 (env := [some (.int s)]) (ks := [true]) rfl rfl ?_)
  unfold bSign
  refine step ?_
  simp! [e1, in_sign h]
abbrev SKey (Γ : Glob) : Prop := ∀ (w : Int) (k : Int × Int), 0 ≤ k.1 → k.1 < w → Sgn k.2 → Γ "is_key" [.int w, kd k] = .ok (.bl true) [.int w, kd k]
theorem t_key {Γ : Glob} (hi : SInt Γ) (hs : SSign Γ) (w : Int) (k : Int × Int) (h0 : 0 ≤ k.1) (h1 : k.1 < w) (h2 : Sgn k.2) : runDef Γ 2 bKey [.int w, kd k] = .ok (.bl true) [.int w, kd k] := by
  have e1 : Γ "is_integer" [.int k.1] = .ok (.bl true) [.int k.1] := hi _ (fun z => by cases z)
  have e2 := hs _ h2
  refine rc_eq (run_wp2 (env := [some (.int w), some (kd k)]) (ks := [true, true]) rfl rfl ?_)
  unfold bKey
  walk_at "s"
  refine step ?_
  simp! [e1, e2, h0, h1]
theorem flat_kd (n : Nat) (k : Int × Int) : flat (n + 1) (kd k) = true := by simp [flat]
theorem kd_cols (ks : List (Int × Int)) : (ks.map kd).map (fun d => match d with | .tup [c, _] => c | _ => D.non) = (ks.map Prod.fst).map D.int := by
  rw [List.map_map, List.map_map]
  rfl
def colsD (ks : List (Int × Int)) : List D × List D := mergeD [] [] (ks.map fun k => (D.int k.1, D.bl true))
theorem colsD_in (ks : List (Int × Int)) (c : Int) : (keyAt (colsD ks).1 (.int c)).isSome = ks.any fun k => k.1 == c := by
  rw [keyAt_some, colsD, mergeD_any _ _ _ _ (fun p hp => ?_) (fun x hx => by cases hx)]
  · simp only [List.any_nil, Bool.false_or, List.any_map]
    rfl
  · obtain ⟨k, _, rfl⟩ := List.mem_map.mp hp
    rfl
theorem colsD_len (ks : List (Int × Int)) (h : (ks.map Prod.fst).Nodup) : (colsD ks).1.length = ks.length := by
  have e : (ks.map fun k => (D.int k.1, D.bl true)).map Prod.fst = (ks.map Prod.fst).map D.int := by rw [List.map_map, List.map_map]; rfl
  rw [colsD, mergeD_nodup _ _ _ (fun p hp => ?_) (fun x hx => by cases hx)]
  · simp
  · rw [e, List.nil_append]
    exact List.Pairwise.map _ (fun a b hab z => hab (by cases z; rfl)) h
  · obtain ⟨k, _, rfl⟩ := List.mem_map.mp hp
    rfl
abbrev SIsEff (Γ : Glob) : Prop := ∀ (w : Int) (ks : List (Int × Int)) (b : Int), 1 ≤ w → w ≤ 8 → Eff w ks b → ks.length ≤ 1000000 → Γ "is_effect" [.int w, eD false ks b] = .ok (.bl true) [.int w, eD false ks b]
theorem t_isEff {Γ : Glob} (hc : SCols Γ) (hk : SKey Γ) (hs : SSign Γ) (w : Int) (ks : List (Int × Int)) (b : Int) (h1 : 1 ≤ w) (h2 : w ≤ 8) (he : Eff w ks b) (hz : ks.length ≤ 1000000) : runDef Γ 7 bIsEff [.int w, eD false ks b] = .ok (.bl true) [.int w, eD false ks b] := by
  have e1 := hc w h1 h2
  have e2 := hs b he.base
  refine rc_eq (run_wp2 (env := [some (.int w), some (eD false ks b), none, none, none, none, none]) (ks := [true, true]) rfl rfl ?_)
  unfold bIsEff
  refine step ?_
  simp! [e1]
  walk_at "s"
  walk_at "s"
  refine step ?_
  simp! [own_kd]
  refine cloop (σ := Unit) (xs := ks.map kd) (fun _ => [some (.int w), some (eD false ks b), some (kl false ks), some (.int b), none, none, none]) (fun k acc _ => acc = List.replicate k (.bl true)) () rfl (fun _ => rfl) (by rw [List.length_map]; exact Nat.le_trans hz (by decide)) rfl ?_ ?_
  · rintro k d acc _ hk' rfl
    rw [List.getElem?_map] at hk'
    obtain ⟨q, hq, rfl⟩ := Option.map_eq_some_iff.mp hk'
    obtain ⟨k0, k1, k2⟩ := he.key q (List.mem_of_getElem? hq)
    have e3 := hk w q k0 k1 k2
    simp! [e3]
    exact ⟨(), List.replicate_succ'.symm⟩
  · rintro acc _ rfl
    have e4 : List.replicate (ks.map kd).length (D.bl true) = (List.replicate (ks.map kd).length true).map D.bl := by rw [List.map_replicate]
    rw [e4]
    simp! []
    have e5 : ((List.replicate ks.length true).all id) = true := by simp
    simp! [e5]
    refine step ?_
    simp! [e2, own_kd]
    refine dcompL_wp (fun d => match d with | .tup [c, _] => c | _ => .non) (fun _ => .bl true) rfl ?_ (by rw [List.length_map]; exact Nat.le_trans hz (by decide)) ?_
    · rintro d hd
      obtain ⟨q, _, rfl⟩ := List.mem_map.mp hd
      exact ⟨⟨_, rfl, rfl⟩, rfl⟩
    · have e6 : (ks.map kd).map (fun d => ((match d with | .tup [c, _] => c | _ => D.non), D.bl true)) = ks.map fun k => (D.int k.1, D.bl true) := by rw [List.map_map]; rfl
      simp! [e6]
      have e7 := colsD_len ks he.nd
      unfold colsD at e7
      simp! [e7, dLenD]
abbrev SCheckEff (Γ : Glob) : Prop := ∀ (w : Int) (ks : List (Int × Int)) (b : Int), 1 ≤ w → w ≤ 8 → Eff w ks b → ks.length ≤ 1000000 → Γ "check_effect" [.int w, eD false ks b] = .ok .non [.int w, eD false ks b]
theorem t_checkEff {Γ : Glob} (h : SIsEff Γ) (w : Int) (ks : List (Int × Int)) (b : Int) (h1 : 1 ≤ w) (h2 : w ≤ 8) (he : Eff w ks b) (hz : ks.length ≤ 1000000) : runDef Γ 2 bCheckEff [.int w, eD false ks b] = .ok .non [.int w, eD false ks b] := by
  have e1 := h w ks b h1 h2 he hz
  refine rc_eq (run_wp2 (env := [some (.int w), some (eD false ks b)]) (ks := [true, true]) rfl rfl ?_)
  unfold bCheckEff
  refine step ?_
  simp! [e1, fz_kd]
def combK (k1 k2 : List (Int × Int)) (b2 : Int) : List (Int × Int) := k2 ++ (k1.filter fun k => !(k2.any fun j => j.1 == k.1)).map fun k => (k.1, k.2 * b2)
abbrev SComb (Γ : Glob) : Prop := ∀ (w : Int) (k1 : List (Int × Int)) (b1 : Int) (k2 : List (Int × Int)) (b2 : Int), 1 ≤ w → w ≤ 8 → Eff w k1 b1 → Eff w k2 b2 → k1.length ≤ 1000000 → k2.length ≤ 1000000 →
  Γ "combine_effects" [.int w, eD false k1 b1, eD false k2 b2] = .ok (eD true (combK k1 k2 b2) (b1 * b2)) [.int w, eD false k1 b1, eD false k2 b2]
theorem sgn_mul {s t : Int} (h : Sgn s) (k : Sgn t) : binop .mul (.int s) (.int t) = some (.int (s * t)) := dMulS (by rcases h with rfl | rfl <;> decide) (by rcases k with rfl | rfl <;> decide)
theorem t_comb {Γ : Glob} (hc : SCheckEff Γ) (w : Int) (k1 : List (Int × Int)) (b1 : Int) (k2 : List (Int × Int)) (b2 : Int) (h1 : 1 ≤ w) (h2 : w ≤ 8) (he1 : Eff w k1 b1) (he2 : Eff w k2 b2) (hz1 : k1.length ≤ 1000000) (hz2 : k2.length ≤ 1000000) :
    runDef Γ 8 bComb [.int w, eD false k1 b1, eD false k2 b2] = .ok (eD true (combK k1 k2 b2) (b1 * b2)) [.int w, eD false k1 b1, eD false k2 b2] := by
  have e1 := hc w k1 b1 h1 h2 he1 hz1
  have e2 := hc w k2 b2 h1 h2 he2 hz2
  refine rc_eq (run_wp2 (env := [some (.int w), some (eD false k1 b1), some (eD false k2 b2), none, none, none, none, none]) (ks := [true, true, true]) rfl rfl ?_)
  unfold bComb
  refine step ?_
  simp! [e1, fz_kd]
  refine step ?_
  simp! [e2, fz_kd]
  refine step ?_
  simp! [own_kd]
  refine dcompL_wp (fun d => match d with | .tup [c, _] => c | _ => .non) (fun _ => .bl true) rfl ?_ (by rw [List.length_map]; exact Nat.le_trans hz2 (by decide)) ?_
  · rintro d hd
    obtain ⟨q, _, rfl⟩ := List.mem_map.mp hd
    exact ⟨⟨_, rfl, rfl⟩, rfl⟩
  · have e6 : (k2.map kd).map (fun d => ((match d with | .tup [c, _] => c | _ => D.non), D.bl true)) = k2.map fun k => (D.int k.1, D.bl true) := by rw [List.map_map]; rfl
    rw [e6]
    have ec : mergeD [] [] (k2.map fun k => (D.int k.1, D.bl true)) = colsD k2 := rfl
    rw [ec]
    simp! []
    walk_at "s"
    refine step ?_
    simp! [own_kd]
    refine cloop (σ := Unit) (xs := k1.map kd) (fun _ => [some (.int w), some (eD false k1 b1), some (eD false k2 b2), some (.dic true false (colsD k2).1 (colsD k2).2), some (.int b2), none, none, none]) (fun k acc _ => acc = ((((k1.take k).filter fun k => !(k2.any fun j => j.1 == k.1)).map fun k => (k.1, k.2 * b2)).map kd)) () rfl (fun _ => rfl) (by rw [List.length_map]; exact Nat.le_trans hz1 (by decide)) rfl ?_ ?_
    · rintro k d acc _ hk' rfl
      rw [List.getElem?_map] at hk'
      obtain ⟨q, hq, rfl⟩ := Option.map_eq_some_iff.mp hk'
      obtain ⟨k0, kk1, kk2⟩ := he1.key q (List.mem_of_getElem? hq)
      have e3 := colsD_in k2 q.1
      have e4 := sgn_mul kk2 he2.base
      have et : k1.take (k + 1) = k1.take k ++ [q] := by rw [List.take_succ, hq]; rfl
      simp! [dNinD, keyOk, kOk, e3, e4]
      cases hh : k2.any fun j => j.1 == q.1 with
      | true =>
        simp! []
        rw [et, List.filter_append, List.map_append, List.map_append]
        simp [hh]
      | false =>
        simp! []
        rw [et, List.filter_append, List.map_append, List.map_append]
        simp [hh]
    · rintro acc _ rfl
      have ek : k1.take (k1.map kd).length = k1 := by rw [List.length_map, List.take_length]
      rw [ek]
      simp! []
      refine step ?_
      simp! [own_kd, sgn_mul he1.base he2.base]
      have hl : ((k1.filter fun k => !(k2.any fun j => j.1 == k.1)).map fun k => (k.1, k.2 * b2)).length ≤ 1000000 := by
        rw [List.length_map]
        exact Nat.le_trans (List.length_filter_le _ _) hz1
      rw [List.length_map] at hl
      refine ⟨by omega, ?_⟩
      unfold combK eD kl
      rw [List.map_append]
end Hp

set_option Elab.async false
set_option linter.all false
set_option maxRecDepth 100000
set_option maxHeartbeats 1000000
namespace Hp
open Hc PySem PySem.Spec PyProof.Rows L2
theorem Sgn.neg {s : Int} (h : Sgn s) : Sgn (-s) := by
  rcases h with rfl | rfl
  · exact Or.inr rfl
  · exact Or.inl rfl
theorem Sgn.mul {s t : Int} (h : Sgn s) (k : Sgn t) : Sgn (s * t) := by
  rcases h with rfl | rfl <;> rcases k with rfl | rfl <;> first | exact Or.inl rfl | exact Or.inr rfl
theorem Sgn.one : Sgn 1 := Or.inl rfl
theorem Sgn.m1 : Sgn (-1) := Or.inr rfl
theorem s0_ok (w : Int) : Eff w s0.ks s0.base := ⟨fun k h => (by cases h), List.nodup_nil, Sgn.one⟩
theorem step_ok {w : Int} {s : ESt} {c : Int} (h : Eff w s.ks s.base) (h0 : 0 ≤ c) (h1 : c < w) : Eff w (stepK s c).ks (stepK s c).base := by
  unfold stepK
  split
  · refine ⟨fun k hk => ?_, ?_, h.base.neg⟩
    · obtain ⟨j, hj, rfl⟩ := List.mem_map.mp hk
      obtain ⟨a, b, d⟩ := h.key j hj
      exact ⟨a, b, d.neg⟩
    · rw [List.map_map]
      exact h.nd
  · refine ⟨fun k hk => ?_, ?_, h.base⟩
    · rcases List.mem_cons.mp hk with rfl | hk
      · exact ⟨h0, h1, Sgn.one⟩
      · exact h.key k (List.mem_filter.mp hk).1
    · rw [List.map_cons, List.nodup_cons]
      refine ⟨fun hm => ?_, ?_⟩
      · obtain ⟨j, hj, e⟩ := List.mem_map.mp hm
        have := (List.mem_filter.mp hj).2
        simp [e] at this
      · exact h.nd.sublist (List.Sublist.map _ (List.filter_sublist))
theorem fold_ok {w : Int} : ∀ (cs : List Int) (s : ESt), Eff w s.ks s.base → (∀ c ∈ cs, 0 ≤ c ∧ c < w) → Eff w (cs.foldl stepK s).ks (cs.foldl stepK s).base
  | [], s, h, _ => h
  | c :: cs, s, h, hc => fold_ok cs _ (step_ok h (hc c List.mem_cons_self).1 (hc c List.mem_cons_self).2) fun x hx => hc x (List.mem_cons_of_mem _ hx)
theorem spec_ok {w : Int} {cs : List Int} (h : ∀ c ∈ cs, 0 ≤ c ∧ c < w) : Eff w (spec cs).ks (spec cs).base := fold_ok cs s0 (s0_ok w) h
theorem step_last (s : ESt) (c : Int) : (stepK s c).last = some c := by
  unfold stepK
  split <;> rfl
theorem fold_last : ∀ (cs : List Int) (s : ESt), (cs.foldl stepK s).last = (cs.getLast?).or s.last
  | [], s => by simp
  | c :: cs, s => by
    rw [List.foldl_cons, fold_last cs, step_last]
    cases cs with
    | nil => simp
    | cons d ds =>
      rw [List.getLast?_cons_cons]
      cases q : (d :: ds).getLast? with
      | none => simp at q
      | some x => rfl
theorem spec_last (cs : List Int) : (spec cs).last = cs.getLast? := by
  unfold spec
  rw [fold_last]
  simp [s0]
def negK (ks : List (Int × Int)) : List (Int × Int) := ks.map fun k => (k.1, -k.2)
theorem negK_negK (ks : List (Int × Int)) : negK (negK ks) = ks := by
  unfold negK
  rw [List.map_map]
  have : ((fun k : Int × Int => (k.1, -k.2)) ∘ fun k : Int × Int => (k.1, -k.2)) = id := by
    funext k
    simp
  rw [this, List.map_id]
theorem combK_nil (k1 : List (Int × Int)) (b : Int) : combK k1 [] b = k1.map fun k => (k.1, k.2 * b) := by
  unfold combK
  simp only [List.any_nil, Bool.not_false, List.nil_append]
  rw [List.filter_eq_self.mpr fun _ _ => rfl]
theorem combK_nil1 (k1 : List (Int × Int)) : combK k1 [] 1 = k1 := by
  rw [combK_nil]
  have : (fun k : Int × Int => (k.1, k.2 * 1)) = id := by funext k; simp
  rw [this, List.map_id]
theorem combK_neg1 (k1 : List (Int × Int)) : combK k1 [] (-1) = negK k1 := by
  rw [combK_nil]
  unfold negK
  have : (fun k : Int × Int => (k.1, k.2 * -1)) = fun k => (k.1, -k.2) := by funext k; simp
  rw [this]
theorem combK_nil0 (k2 : List (Int × Int)) (b : Int) : combK [] k2 b = k2 := by
  unfold combK
  simp
theorem stepK_rev {s : ESt} {c : Int} (h : s.last = some c) : stepK s c = ⟨negK s.ks, -s.base, some c⟩ := if_pos h
theorem stepK_new {s : ESt} {c : Int} (h : ¬ s.last = some c) : stepK s c = ⟨(c, 1) :: s.ks.filter fun k => k.1 != c, s.base, some c⟩ := if_neg h
theorem fold_comb (s : ESt) : ∀ (cs : List Int), (∀ c, cs.head? = some c → s.last ≠ some c) →
    (cs.foldl stepK s).ks = combK s.ks (spec cs).ks (spec cs).base ∧ (cs.foldl stepK s).base = s.base * (spec cs).base := by
  intro cs
  induction h : cs.length generalizing cs with
  | zero =>
    intro _
    have e : cs = [] := List.length_eq_zero_iff.mp h
    subst e
    exact ⟨(combK_nil1 s.ks).symm, by simp [spec, s0]⟩
  | succ n ih =>
    intro hh
    rcases List.eq_nil_or_concat cs with rfl | ⟨ds, c, rfl⟩
    · cases h
    · rw [List.concat_eq_append] at h hh ⊢
      have hd : ∀ d, ds.head? = some d → s.last ≠ some d := fun d hd => hh d (by cases ds with
        | nil => cases hd
        | cons x xs => simpa using hd)
      obtain ⟨h1, h2⟩ := ih ds (by simpa using h) hd
      rw [List.foldl_append, spec_snoc]
      show (stepK (ds.foldl stepK s) c).ks = combK s.ks (stepK (spec ds) c).ks (stepK (spec ds) c).base ∧ (stepK (ds.foldl stepK s) c).base = s.base * (stepK (spec ds) c).base
      have hl : (ds.foldl stepK s).last = some c ↔ (spec ds).last = some c := by
        rw [fold_last, spec_last]
        cases hg : ds.getLast? with
        | some x => simp
        | none =>
          have e : ds = [] := List.getLast?_eq_none_iff.mp hg
          subst e
          simp only [Option.none_or, reduceCtorEq, iff_false]
          exact hh c rfl
      by_cases hc : (spec ds).last = some c
      · rw [stepK_rev hc, stepK_rev (hl.mpr hc)]
        dsimp only
        rw [h1, h2]
        refine ⟨?_, by rw [Int.mul_neg]⟩
        unfold combK negK
        rw [List.map_append, List.map_map]
        congr 1
        have e : (fun k : Int × Int => !((List.map (fun k => (k.1, -k.2)) (spec ds).ks).any fun j => j.1 == k.1)) = fun k => !((spec ds).ks.any fun j => j.1 == k.1) := by
          funext k
          rw [List.any_map]
          rfl
        rw [e]
        congr 1
        funext k
        simp [Int.mul_neg]
      · rw [stepK_new hc, stepK_new fun z => hc (hl.mp z)]
        dsimp only
        rw [h1, h2]
        refine ⟨?_, rfl⟩
        unfold combK
        rw [List.filter_append, List.cons_append, List.filter_map, List.filter_filter]
        congr 2
        congr 1
        refine List.filter_congr fun k _ => ?_
        simp only [Function.comp, List.any_cons, List.any_filter, bne, Bool.not_or]
        by_cases hk : k.1 = c
        · simp [hk]
        · have hk' : (c == k.1) = false := by simpa using fun z => hk z.symm
          have hk2 : (k.1 == c) = false := by simpa using hk
          simp only [hk', hk2, Bool.not_false, Bool.true_and, Bool.and_true]
          have ej : ∀ j : Int × Int, (!(j.1 == c) && (j.1 == k.1)) = (j.1 == k.1) := by
            intro j
            by_cases e : j.1 = k.1
            · simp [e, hk]
            · simp [e]
          first
            | (congr 1; congr 1; funext j; exact ej j)
            | (congr 1; congr 1; funext j; exact (ej j).symm)
def flipN (n : Nat) : Int := 1 - 2 * ((n : Int) % 2)
theorem flipN_sgn (n : Nat) : Sgn (flipN n) := by
  unfold flipN Sgn
  omega
theorem fold_flips {c : Int} : ∀ (n : Nat) (s : ESt), s.last = some c → (List.replicate n c).foldl stepK s = ⟨s.ks.map fun k => (k.1, k.2 * flipN n), s.base * flipN n, some c⟩
  | 0, s, h => by
    have e : (fun k : Int × Int => (k.1, k.2 * flipN 0)) = id := by funext k; simp [flipN]
    cases s
    simp only [List.replicate_zero, List.foldl_nil, e, List.map_id] at h ⊢
    simp [flipN, h]
  | n + 1, s, h => by
    rw [List.replicate_succ, List.foldl_cons, stepK_rev h, fold_flips n _ rfl]
    have ef : flipN (n + 1) = -flipN n := by unfold flipN; omega
    rw [ef]
    dsimp only
    unfold negK
    rw [List.map_map]
    have e : ((fun k : Int × Int => (k.1, k.2 * flipN n)) ∘ fun (k : Int × Int) => (k.1, -k.2)) = fun (k : Int × Int) => (k.1, k.2 * -flipN n) := by
      funext k
      simp [Int.neg_mul, Int.mul_neg]
    rw [e]
    simp [Int.neg_mul, Int.mul_neg]
theorem spec_join (a b : List Int) (n : Nat) (hn : n ≤ b.length) (hr : ∀ i, i < n → b[i]? = a.getLast?) (hstop : ∀ c, (b.drop n).head? = some c → a.getLast? ≠ some c) (ha : a = [] → n = 0) :
    (spec (a ++ b)).ks = combK (combK (spec a).ks [] (flipN n)) (spec (b.drop n)).ks (spec (b.drop n)).base ∧ (spec (a ++ b)).base = (spec a).base * flipN n * (spec (b.drop n)).base := by
  have eb : spec (a ++ b) = (b.drop n).foldl stepK ((b.take n).foldl stepK (spec a)) := by
    unfold spec
    rw [← List.foldl_append, List.take_append_drop, List.foldl_append]
  have key : (b.take n).foldl stepK (spec a) = ⟨combK (spec a).ks [] (flipN n), (spec a).base * flipN n, a.getLast?⟩ := by
    rw [combK_nil]
    cases hl : a.getLast? with
    | none =>
      have e := ha (List.getLast?_eq_none_iff.mp hl)
      subst e
      have e2 : (fun k : Int × Int => (k.1, k.2 * flipN 0)) = id := by funext k; simp [flipN]
      have e3 := spec_last a
      rw [hl] at e3
      rw [e2, List.map_id]
      cases h : spec a
      rw [h] at e3
      dsimp only at e3
      subst e3
      simp [flipN]
    | some c =>
      have er : b.take n = List.replicate n c := by
        apply List.ext_getElem?
        intro i
        rw [List.getElem?_take, List.getElem?_replicate]
        by_cases hi : i < n
        · rw [if_pos hi, if_pos hi, hr i hi, hl]
        · rw [if_neg hi, if_neg hi]
      rw [er, fold_flips n (spec a) (by rw [spec_last, hl])]
  rw [eb, key]
  have h := fold_comb ⟨combK (spec a).ks [] (flipN n), (spec a).base * flipN n, a.getLast?⟩ (b.drop n) hstop
  exact h
theorem Eff.comb {w : Int} {k1 k2 : List (Int × Int)} {b1 b2 : Int} (h1 : Eff w k1 b1) (h2 : Eff w k2 b2) : Eff w (combK k1 k2 b2) (b1 * b2) := by
  unfold combK
  refine ⟨fun k hk => ?_, ?_, h1.base.mul h2.base⟩
  · rcases List.mem_append.mp hk with hk | hk
    · exact h2.key k hk
    · obtain ⟨j, hj, rfl⟩ := List.mem_map.mp hk
      obtain ⟨x, y, z⟩ := h1.key j (List.mem_filter.mp hj).1
      exact ⟨x, y, z.mul h2.base⟩
  · rw [List.map_append, List.map_map]
    refine List.nodup_append.mpr ⟨h2.nd, ?_, fun x hx y hy e => ?_⟩
    · exact h1.nd.sublist (List.Sublist.map _ List.filter_sublist)
    · subst e
      obtain ⟨j, hj, rfl⟩ := List.mem_map.mp hy
      obtain ⟨j2, hj2, e2⟩ := List.mem_map.mp hx
      have := (List.mem_filter.mp hj).2
      rw [Bool.not_eq_true', List.any_eq_false] at this
      exact this j2 hj2 (by simpa using e2)
theorem combK_len (k1 k2 : List (Int × Int)) (b : Int) : (combK k1 k2 b).length ≤ k1.length + k2.length := by
  unfold combK
  rw [List.length_append, List.length_map]
  have := List.length_filter_le (fun k : Int × Int => !(k2.any fun j => j.1 == k.1)) k1
  omega
theorem cut_from (xs : List D) {n : Int} (h : 0 ≤ n) : Hc.cutD xs (some n) none = xs.drop n.toNat := by
  unfold Hc.cutD HT.sIx
  have : ¬ n < 0 := by omega
  simp only [this, if_false]
  rcases Nat.le_total xs.length n.toNat with q | q
  · rw [Nat.min_eq_right q, List.drop_of_length_le (Nat.le_refl _), List.drop_of_length_le q]
    simp
  · rw [Nat.min_eq_left q, List.take_of_length_le (by simp)]
theorem cut_last (xs : List D) : Hc.cutD xs (some (-1)) none = xs.drop (xs.length - 1) := by
  unfold Hc.cutD HT.sIx
  simp only [show (-1 : Int) < 0 by decide, if_true]
  have e : (-1 + (xs.length : Int)).toNat = xs.length - 1 := by omega
  rw [e, List.take_of_length_le (by simp)]
theorem atI_last {α : Type} (xs : List α) : atI xs (-1) = xs.getLast? := by
  unfold atI ixN
  rw [if_neg (by decide), List.getLast?_eq_getElem?]
  by_cases h : xs = []
  · subst h; rfl
  · have hl : 0 < xs.length := List.length_pos_iff.mpr h
    rw [if_pos (by omega)]
    have e : (-1 + (xs.length : Int)).toNat = xs.length - 1 := by omega
    simp [e]
theorem ne_nilL (o p : Bool) (cs : List Int) : cmpop .ne (.lst o (cs.map .int)) (.lst p []) = some (!decide (cs = [])) := by
  show (if flat 60 (D.lst o (cs.map .int)) = true ∧ flat 60 (D.lst p []) = true then some (!deq (D.lst o (cs.map .int)) (D.lst p [])) else none) = _
  rw [if_pos ⟨by simp [flat], rfl⟩]
  cases cs <;> simp [deq, D.toP, toPs, PyData.eqv, PyData.eqvAll]
theorem flat_eD (n : Nat) (o : Bool) (ks : List (Int × Int)) (b : Int) : flat (n + 3) (eD o ks b) = true := by simp [flat]
theorem toP_eD (o p : Bool) (ks : List (Int × Int)) (b : Int) : (eD o ks b).toP = (eD p ks b).toP := rfl
theorem ne_eD (o p : Bool) (ks : List (Int × Int)) (b : Int) : cmpop .ne (eD o ks b) (eD p ks b) = some false := (eqT (flat_eD 57 o ks b) (flat_eD 57 p ks b) rfl).2
theorem eq_eD (o p : Bool) (ks : List (Int × Int)) (b : Int) : cmpop .eq (eD o ks b) (eD p ks b) = some true := (eqT (flat_eD 57 o ks b) (flat_eD 57 p ks b) rfl).1
end Hp

set_option Elab.async false
set_option linter.all false
set_option maxRecDepth 100000
set_option maxHeartbeats 1000000
set_option exponentiation.threshold 2000
namespace Hp
open Hc PySem PySem.Spec PyProof.Rows L2
local macro_rules
  | `(tactic| simp! [$xs,*]) => `(tactic| simp -implicitDefEqProofs -dsimp only [↓Hc.w_bind, ↓Hc.w_ok, ↓Hc.w_lnd, Hc.w_no, Hc.w_guard, Hc.w_go, Hc.w_nil, Hc.wc_ok, Hc.af_nx, Hc.af_ret, Hc.af_brk, Hc.af_ct, Hc.onS_some, Hc.altS_some, Hc.altS_none, Hc.exec, ev, evL, evA, mkE, cCall_eq, cCallk_eq, seqA, argE, Hc.cNm_eq, Hc.cMv_eq, cFz, Hc.peek_fzE, Hc.peek_lnd, cLnd, Hc.lb_cons, Hc.lb_nil, Hc.keepS_none, Hc.keepS_no, Hc.keepS_so, Hc.fetch_nil, Hc.fetch_cons, goOf_some, lent, giveBack, backOk, Hc.noIo_cons, Hc.noIo_nil, CE.isIo, cOrT, cNotT, cAndT, cOr, cNot, cAnd, Hc.view_eq, Hc.peek_nm, Hc.peek_lit, Hc.peek_gc, Hc.peek_sub, Hc.peek_neg, Hc.peek_len, Hc.peek_add, Hc.peek_bsub, Hc.peek_call, Hc.peek_lst, Hc.peek_nop, Hc.peek_tup, Hc.peek_sli, Hc.peek_comp, Hc.peek_mul, Hc.peek_mod, Hc.peek_fdv, Hc.peek_pow, Hc.peek_callk, Hc.peek_ifgt, Hc.peek_iflt, Hc.peek_ifne, Hc.peek_ifle, Hc.peek_ifge, Hc.peek_ifis, Hc.peek_ifisn, Hc.peek_ifinn, Hc.peek_ifnin, Hc.peek_ifnm, Hc.peek_ifand, Hc.peek_ifor, Hc.peek_ifnot, Hc.peek_ifsub, Hc.peek_ifcall, Hc.peek_ifisi, Hc.peek_ifeq, Hc.peek_isi, Hc.peek_cmp, Hc.peek_mu, Hc.peek_mv, Hc.peek_sum, Hc.peek_repr, Hc.peek_int, Hc.peek_str, Hc.peek_all, Hc.peek_max2, Hc.peek_min2, cChain, cCmp, cNeg, cBin, two, Hc.opd_eq, Hc.lift_eq, Hc.truth_bl, Hc.truth_int, D.fz, Hc.shal_int, Hc.shal_bl, Hc.shal_str, Hc.shal_non, Hc.shal_lst, Hc.shal_tup, flat, cIsi, isTy, cIf, cTup, cLst, seqE, Hc.cSub_eq, Hc.pick_lst, Hc.pick_tup, Hc.atI_0, Hc.atI_1, Hc.atI_2, Hc.atI_3, Hc.negD, Hc.addD, Hc.subD, cBl1, cBl, Bl.looks, Hc.dAdd, Hc.dSub, Hc.dLt, Hc.dLe, Hc.dGt, Hc.dGe, Hc.dEq, Hc.dNe, Hc.dEqB, Hc.dNeB, Hc.dEqS, Hc.dNeS, Hc.dLenL, Hc.dLenT, Hc.dIntI, Hc.dIntB, Hc.dMin, Hc.dMax, D.noOwn, noOwns, D.noFz, noFzs, Hc.own_ints, Hc.fz_ints, Hc.noFzs_ints, Hc.R.bind_ok, at_zero, at_succ, List.set_cons_zero, List.set_cons_succ, Option.map_some, Option.bind_some, Option.bind_none, sz, Nat.reduceAdd, Nat.reduceLeDiff, Nat.reduceLT, Int.reduceLE, Int.reduceLT, Int.reduceToNat, Hc.turnQ_nx, Hc.turnQ_ct, Hc.turnQ_brk, Hc.turnQ_ret, Hc.retQ_ret, Hc.retQ_nx, Hc.outs_nil, Hc.outs_t, Hc.outs_f, Option.getD_some, Option.getD_none, cIt, cRng1, cRng2, cRngd, its, CE.isNm, guards, Hc.items_lst, Hc.items_tup, cMu, cMuEnd, Hc.isL_lst, List.map_cons, List.map_nil, List.getD_cons_zero, List.getD_cons_succ, Hc.getK_nil, Hc.getK_cons, Hc.putK_nil, Hc.putK_cons, Hc.put1_lst, Hc.put1_tup, Hc.set1_lst, Hc.dPop0, Hc.dRev, List.nil_append, List.cons_append, Hc.ixN_1_0, Hc.ixN_2_0, Hc.ixN_2_1, Hc.ixN_3_0, Hc.ixN_3_1, Hc.ixN_3_2, Hc.ixN_4_0, Hc.ixN_4_1, Hc.ixN_4_2, Hc.ixN_4_3, calms, CE.calm, pathOf, cSetSub, hidS, cSetEnd, cEnu, cZip, Hc.lstq_lst, Hc.addL_if, Hc.dEqN, Hc.zipOp_lst, Hc.zipOp_tup, Hc.all_lst, Hc.bools_map, Hc.sum_lst, Hc.ints_map, Hc.dIs_non, Hc.dIsn_non, Hc.dIs_int, Hc.dIsn_int, Hc.dIs_bl, Hc.dIsn_bl, Hc.dIs_str, Hc.dIsn_str, Hc.dIs_tup, Hc.dIsn_tup, Hc.dIs_lst, Hc.dIsn_lst, Hc.ite_ok, Hc.iteI, cComp, cSli, eNop, Hc.cutOp_lst, Hc.peek_vm, Hc.peek_vi, Hc.peek_rev, Hc.peek_lrng1, Hc.peek_lrng2, Hc.peek_dcomp, Hc.peek_ddisp, Hc.peek_dnew, Hc.peek_dget, Hc.peek_not, Hc.peek_and, Hc.peek_or, Hc.peek_chain, Hc.peek_shl, Hc.peek_shr, Hc.peek_band, Hc.peek_bor, Hc.peek_sorted, Hc.peek_list, Hc.peek_tuple, Hc.peek_divmod, Hc.peek_abs, Hc.peek_bool, Hc.pickA_lst, Hc.pickA_tup, Hc.walk_lst, Hc.walk_tup, Hc.revOp_lst, Hc.dSorted, Hc.dListL, Hc.dListT, Hc.dTupL, Hc.dTupT, Hc.dDivmod, Hc.dAbs, Hc.dBoolI, Hc.dBoolB, Hc.dStrS, Hc.dRemove, Hc.dShr, Hc.dShl, cVm0, cVm1, cVi, isL0, cRev, cLr1, cLr2, cDcomp, cDdisp, seqP, turnK, Hc.isL_lst, Hc.gb_noIo, Hc.bo_noIo, beq_self_eq_true, Bool.true_beq, Bool.false_beq, Hc.muop_ext, Hc.muop_app, Hc.onS_if, List.length_map, List.length_append, turnE, Hc.w_mute, bindTg, setAll, wipeE, Hc.again, Option.isSome_some, Bool.not_true, Bool.not_false, Bool.and_true, Bool.true_and, Bool.and_false, Bool.false_and, Bool.or_true, Bool.true_or, Bool.or_false, Bool.false_or, if_true, if_false, ite_true, ite_false, Bool.false_eq_true, true_and, and_true, decide_true, decide_false, reduceCtorEq, Nat.add_zero, Nat.zero_add, List.all_cons, List.all_nil, List.any_cons, List.any_nil, fzs, List.length_cons, List.length_nil, Option.some.injEq, exists_eq_left', $xs,*])
  | `(tactic| walk_at "s") => `(tactic| (refine step ?_; simp! []))
abbrev CLt := Int → Nat → Nat → Bool
structure Weak (lt : CLt) : Prop where
  irr : ∀ c i, lt c i i = false
  tr : ∀ c i j k, lt c i j = true → lt c j k = true → lt c i k = true
  ng : ∀ c i j k, lt c i j = false → lt c j k = false → lt c i k = false
theorem Weak.asy {lt : CLt} (h : Weak lt) {c : Int} {i j : Nat} (e : lt c i j = true) : lt c j i = false := by
  cases q : lt c j i with
  | false => rfl
  | true => have := h.tr c i j i e q; rw [h.irr] at this; cases this
def bef (lt : CLt) : List (Int × Int) → Int → Nat → Nat → Bool
  | [], b, i, j => if b = 1 then decide (i < j) else decide (j < i)
  | (c, s) :: ks, b, i, j => if lt c i j = true then decide (s = 1) else if lt c j i = true then decide (s ≠ 1) else bef lt ks b i j
theorem bef_irr {lt : CLt} (h : Weak lt) (b : Int) (i : Nat) : ∀ ks, bef lt ks b i i = false
  | [] => by simp [bef]
  | (c, s) :: ks => by simp [bef, h.irr, bef_irr h b i ks]
theorem bef_asy {lt : CLt} (h : Weak lt) (b : Int) {i j : Nat} : ∀ ks, bef lt ks b i j = true → bef lt ks b j i = false
  | [] => by
    unfold bef
    split <;> simp <;> omega
  | (c, s) :: ks => by
    intro e
    unfold bef at e ⊢
    by_cases h1 : lt c i j = true
    · rw [if_pos h1] at e
      rw [if_neg (by simp [h.asy h1]), if_pos h1]
      simpa using e
    · rw [if_neg h1] at e
      by_cases h2 : lt c j i = true
      · rw [if_pos h2] at e ⊢
        simpa using e
      · rw [if_neg h2] at e ⊢
        rw [if_neg h1]
        exact bef_asy h b ks e
theorem bef_tot {lt : CLt} (h : Weak lt) (b : Int) {i j : Nat} (hn : i ≠ j) : ∀ ks, bef lt ks b i j = true ∨ bef lt ks b j i = true
  | [] => by
    unfold bef
    split <;> simp <;> omega
  | (c, s) :: ks => by
    unfold bef
    have := bef_tot h b hn ks
    have a1 := @Weak.asy lt h c i j
    by_cases h1 : lt c i j = true <;> by_cases h2 : lt c j i = true <;> by_cases hs : s = 1 <;> simp_all
theorem bef_tr {lt : CLt} (h : Weak lt) (b : Int) {i j k : Nat} : ∀ ks, bef lt ks b i j = true → bef lt ks b j k = true → bef lt ks b i k = true
  | [] => by
    unfold bef
    split <;> simp <;> omega
  | (c, s) :: ks => by
    intro e1 e2
    have ih := bef_tr h b (i := i) (j := j) (k := k) ks
    unfold bef at e1 e2 ⊢
    have a1 := @Weak.asy lt h c i j
    have a2 := @Weak.asy lt h c j k
    have a3 := @Weak.asy lt h c i k
    have t1 := h.tr c i j k
    have t2 := h.tr c k j i
    have n1 := h.ng c i j k
    have n2 := h.ng c k j i
    have n3 := h.ng c j i k
    have n4 := h.ng c j k i
    have n5 := h.ng c i k j
    have n6 := h.ng c k i j
    by_cases h1 : lt c i j = true <;> by_cases h2 : lt c j i = true <;> by_cases h3 : lt c j k = true <;> by_cases h4 : lt c k j = true <;> by_cases h5 : lt c i k = true <;> by_cases h6 : lt c k i = true <;> by_cases hs : s = 1 <;> simp_all
def ordE (lt : CLt) (ks : List (Int × Int)) (b : Int) (n : Nat) : List Nat := (List.range n).mergeSort fun i j => !bef lt ks b j i
theorem ordE_perm (lt : CLt) (ks : List (Int × Int)) (b : Int) (n : Nat) : (ordE lt ks b n).Perm (List.range n) := List.mergeSort_perm _ _
theorem ordE_len (lt : CLt) (ks : List (Int × Int)) (b : Int) (n : Nat) : (ordE lt ks b n).length = n := by rw [(ordE_perm lt ks b n).length_eq, List.length_range]
theorem ordE_nodup (lt : CLt) (ks : List (Int × Int)) (b : Int) (n : Nat) : (ordE lt ks b n).Nodup := (ordE_perm lt ks b n).nodup_iff.mpr List.nodup_range
theorem ordE_mem {lt : CLt} {ks : List (Int × Int)} {b : Int} {n i : Nat} : i ∈ ordE lt ks b n ↔ i < n := by rw [(ordE_perm lt ks b n).mem_iff, List.mem_range]
theorem ordE_pw {lt : CLt} (h : Weak lt) (ks : List (Int × Int)) (b : Int) (n : Nat) : (ordE lt ks b n).Pairwise fun i j => bef lt ks b i j = true := by
  have h1 : (ordE lt ks b n).Pairwise fun i j => (!bef lt ks b j i) = true := by
    refine List.pairwise_mergeSort (fun i j k e1 e2 => ?_) (fun i j => ?_) _
    · have e1 : bef lt ks b j i = false := by simpa using e1
      have e2 : bef lt ks b k j = false := by simpa using e2
      show (!bef lt ks b k i) = true
      cases q : bef lt ks b k i with
      | false => rfl
      | true =>
        exfalso
        by_cases hjk : j = k
        · subst hjk; rw [e1] at q; cases q
        · have e3 : bef lt ks b j k = true := (bef_tot h b hjk ks).resolve_right (by rw [e2]; exact Bool.false_ne_true)
          have := bef_tr h b ks e3 q
          rw [e1] at this; cases this
    · cases q : bef lt ks b j i with
      | false => rfl
      | true => rw [bef_asy h b ks q]; rfl
  have h2 := ordE_nodup lt ks b n
  have h3 := h1.and h2
  refine h3.imp ?_
  rintro i j ⟨e, hn⟩
  have e : bef lt ks b j i = false := by simpa using e
  exact (bef_tot h b hn ks).resolve_right (by rw [e]; exact Bool.false_ne_true)
theorem ordE_uniq {lt : CLt} (h : Weak lt) {ks : List (Int × Int)} {b : Int} {n : Nat} {l : List Nat} (hp : l.Perm (List.range n)) (hs : l.Pairwise fun i j => bef lt ks b i j = true) : l = ordE lt ks b n :=
  List.Perm.eq_of_pairwise (le := fun i j => bef lt ks b i j = true) (fun i j _ _ e1 e2 => by rw [bef_asy h b ks e1] at e2; cases e2) hs (ordE_pw h ks b n) (hp.trans (ordE_perm lt ks b n).symm)
theorem ordE_nil {lt : CLt} (h : Weak lt) (n : Nat) : ordE lt [] 1 n = List.range n :=
  (ordE_uniq h (List.Perm.refl _) (List.pairwise_lt_range.imp fun e => by simpa [bef] using e)).symm
theorem bef_filter {lt : CLt} {c : Int} {b : Int} {i j : Nat} (h1 : lt c i j = false) (h2 : lt c j i = false) : ∀ ks, bef lt (ks.filter fun k => k.1 != c) b i j = bef lt ks b i j
  | [] => rfl
  | (d, s) :: ks => by
    have ih := bef_filter (b := b) h1 h2 ks
    by_cases e : d = c
    · subst e
      have : ((d, s) :: ks).filter (fun k => k.1 != d) = ks.filter fun k => k.1 != d := by simp
      rw [this, ih]
      simp [bef, h1, h2]
    · have : ((d, s) :: ks).filter (fun k => k.1 != c) = (d, s) :: ks.filter fun k => k.1 != c := by simp [e]
      rw [this]
      simp [bef, ih]
theorem map_getD_range (l : List Nat) : (List.range l.length).map (fun p => l.getD p 0) = l := by
  apply List.ext_getElem
  · simp
  · intro i h1 h2
    simp at h1 h2 ⊢
    simp [h2]
theorem ord_click {lt : CLt} (h : Weak lt) {ks : List (Int × Int)} {b c : Int} {n : Nat} {ps : List Nat} (hp : ps.Perm (List.range n))
    (hs : ps.Pairwise fun p q => lt c ((ordE lt ks b n).getD p 0) ((ordE lt ks b n).getD q 0) = true ∨ (lt c ((ordE lt ks b n).getD q 0) ((ordE lt ks b n).getD p 0) = false ∧ p < q)) :
    ps.map (fun p => (ordE lt ks b n).getD p 0) = ordE lt ((c, 1) :: ks.filter fun k => k.1 != c) b n := by
  have hl := ordE_len lt ks b n
  refine ordE_uniq h ?_ ?_
  · have e1 := hp.map fun p => (ordE lt ks b n).getD p 0
    have e2 := map_getD_range (ordE lt ks b n)
    rw [hl] at e2
    rw [e2] at e1
    exact e1.trans (ordE_perm lt ks b n)
  · rw [List.pairwise_map]
    refine hs.imp_of_mem ?_
    intro p q hpm hqm e
    have p1 : p < n := List.mem_range.mp (hp.mem_iff.mp hpm)
    have q1 : q < n := List.mem_range.mp (hp.mem_iff.mp hqm)
    unfold bef
    rcases e with e | ⟨e, hpq⟩
    · rw [if_pos e]; rfl
    · by_cases e2 : lt c ((ordE lt ks b n).getD p 0) ((ordE lt ks b n).getD q 0) = true
      · rw [if_pos e2]; rfl
      · rw [if_neg e2, if_neg (by rw [e]; exact Bool.false_ne_true), bef_filter (by simpa using e2) e]
        have pw := List.pairwise_iff_getElem.mp (ordE_pw h ks b n) p q (by omega) (by omega) hpq
        simpa [show p < (ordE lt ks b n).length by omega, show q < (ordE lt ks b n).length by omega] using pw
theorem bef_neg {lt : CLt} (h : Weak lt) {b : Int} (hb : b = 1 ∨ b = -1) {i j : Nat} (hn : i ≠ j) : ∀ ks : List (Int × Int), (∀ k ∈ ks, k.2 = 1 ∨ k.2 = -1) → bef lt (ks.map fun k => (k.1, -k.2)) (-b) i j = bef lt ks b j i
  | [], _ => by rcases hb with rfl | rfl <;> simp [bef]
  | (c, s) :: ks, hk => by
    have ih := bef_neg h hb hn ks fun k hk' => hk k (List.mem_cons_of_mem _ hk')
    have hs := hk (c, s) List.mem_cons_self
    have a1 := @Weak.asy lt h c i j
    simp only [List.map_cons, bef]
    by_cases h1 : lt c i j = true <;> by_cases h2 : lt c j i = true <;> rcases hs with hs | hs <;> simp_all
theorem ord_rev {lt : CLt} (h : Weak lt) {ks : List (Int × Int)} {b : Int} (n : Nat) (hb : b = 1 ∨ b = -1) (hk : ∀ k ∈ ks, k.2 = 1 ∨ k.2 = -1) : (ordE lt ks b n).reverse = ordE lt (ks.map fun k => (k.1, -k.2)) (-b) n := by
  refine ordE_uniq h ((List.reverse_perm _).trans (ordE_perm lt ks b n)) ?_
  rw [List.pairwise_reverse]
  have h3 := (ordE_pw h ks b n).and (ordE_nodup lt ks b n)
  refine h3.imp ?_
  rintro i j ⟨e, hn⟩
  rw [bef_neg h hb (Ne.symm hn) ks hk]
  exact e
theorem bef_congr {lt lt2 : CLt} {b : Int} {i j : Nat} : ∀ (ks : List (Int × Int)), (∀ k ∈ ks, lt k.1 i j = lt2 k.1 i j ∧ lt k.1 j i = lt2 k.1 j i) → bef lt ks b i j = bef lt2 ks b i j
  | [], _ => rfl
  | (c, s) :: ks, hk => by
    obtain ⟨e1, e2⟩ := hk (c, s) List.mem_cons_self
    dsimp only at e1 e2
    simp only [bef, e1, e2, bef_congr ks fun k h => hk k (List.mem_cons_of_mem _ h)]
theorem ordE_congr {lt lt2 : CLt} (h : Weak lt) (h2 : Weak lt2) {ks : List (Int × Int)} {b : Int} {n : Nat} (hk : ∀ k ∈ ks, ∀ i j, i < n → j < n → lt k.1 i j = lt2 k.1 i j) : ordE lt ks b n = ordE lt2 ks b n := by
  refine ordE_uniq h2 (ordE_perm lt ks b n) ?_
  refine (ordE_pw h ks b n).imp_of_mem ?_
  intro i j hi hj e
  have hi := ordE_mem.mp hi
  have hj := ordE_mem.mp hj
  rw [← bef_congr ks fun k hk' => ⟨hk k hk' i j hi hj, hk k hk' j i hj hi⟩]
  exact e

end Hp

set_option Elab.async false
set_option linter.all false
set_option maxRecDepth 100000
set_option maxHeartbeats 1000000
set_option exponentiation.threshold 2000
namespace Hp
open Hc PySem PySem.Spec PyProof.Rows L2
local macro_rules
  | `(tactic| simp! [$xs,*]) => `(tactic| simp -implicitDefEqProofs -dsimp only [↓Hc.w_bind, ↓Hc.w_ok, ↓Hc.w_lnd, Hc.w_no, Hc.w_guard, Hc.w_go, Hc.w_nil, Hc.wc_ok, Hc.af_nx, Hc.af_ret, Hc.af_brk, Hc.af_ct, Hc.onS_some, Hc.altS_some, Hc.altS_none, Hc.exec, ev, evL, evA, mkE, cCall_eq, cCallk_eq, seqA, argE, Hc.cNm_eq, Hc.cMv_eq, cFz, Hc.peek_fzE, Hc.peek_lnd, cLnd, Hc.lb_cons, Hc.lb_nil, Hc.keepS_none, Hc.keepS_no, Hc.keepS_so, Hc.fetch_nil, Hc.fetch_cons, goOf_some, lent, giveBack, backOk, Hc.noIo_cons, Hc.noIo_nil, CE.isIo, cOrT, cNotT, cAndT, cOr, cNot, cAnd, Hc.view_eq, Hc.peek_nm, Hc.peek_lit, Hc.peek_gc, Hc.peek_sub, Hc.peek_neg, Hc.peek_len, Hc.peek_add, Hc.peek_bsub, Hc.peek_call, Hc.peek_lst, Hc.peek_nop, Hc.peek_tup, Hc.peek_sli, Hc.peek_comp, Hc.peek_mul, Hc.peek_mod, Hc.peek_fdv, Hc.peek_pow, Hc.peek_callk, Hc.peek_ifgt, Hc.peek_iflt, Hc.peek_ifne, Hc.peek_ifle, Hc.peek_ifge, Hc.peek_ifis, Hc.peek_ifisn, Hc.peek_ifinn, Hc.peek_ifnin, Hc.peek_ifnm, Hc.peek_ifand, Hc.peek_ifor, Hc.peek_ifnot, Hc.peek_ifsub, Hc.peek_ifcall, Hc.peek_ifisi, Hc.peek_ifeq, Hc.peek_isi, Hc.peek_cmp, Hc.peek_mu, Hc.peek_mv, Hc.peek_sum, Hc.peek_repr, Hc.peek_int, Hc.peek_str, Hc.peek_all, Hc.peek_max2, Hc.peek_min2, cChain, cCmp, cNeg, cBin, two, Hc.opd_eq, Hc.lift_eq, Hc.truth_bl, Hc.truth_int, D.fz, Hc.shal_int, Hc.shal_bl, Hc.shal_str, Hc.shal_non, Hc.shal_lst, Hc.shal_tup, flat, cIsi, isTy, cIf, cTup, cLst, seqE, Hc.cSub_eq, Hc.pick_lst, Hc.pick_tup, Hc.atI_0, Hc.atI_1, Hc.atI_2, Hc.atI_3, Hc.negD, Hc.addD, Hc.subD, cBl1, cBl, Bl.looks, Hc.dAdd, Hc.dSub, Hc.dLt, Hc.dLe, Hc.dGt, Hc.dGe, Hc.dEq, Hc.dNe, Hc.dEqB, Hc.dNeB, Hc.dEqS, Hc.dNeS, Hc.dLenL, Hc.dLenT, Hc.dIntI, Hc.dIntB, Hc.dMin, Hc.dMax, D.noOwn, noOwns, D.noFz, noFzs, Hc.own_ints, Hc.fz_ints, Hc.noFzs_ints, Hc.R.bind_ok, at_zero, at_succ, List.set_cons_zero, List.set_cons_succ, Option.map_some, Option.bind_some, Option.bind_none, sz, Nat.reduceAdd, Nat.reduceLeDiff, Nat.reduceLT, Int.reduceLE, Int.reduceLT, Int.reduceToNat, Hc.turnQ_nx, Hc.turnQ_ct, Hc.turnQ_brk, Hc.turnQ_ret, Hc.retQ_ret, Hc.retQ_nx, Hc.outs_nil, Hc.outs_t, Hc.outs_f, Option.getD_some, Option.getD_none, cIt, cRng1, cRng2, cRngd, its, CE.isNm, guards, Hc.items_lst, Hc.items_tup, cMu, cMuEnd, Hc.isL_lst, List.map_cons, List.map_nil, List.getD_cons_zero, List.getD_cons_succ, Hc.getK_nil, Hc.getK_cons, Hc.putK_nil, Hc.putK_cons, Hc.put1_lst, Hc.put1_tup, Hc.set1_lst, Hc.dPop0, Hc.dRev, List.nil_append, List.cons_append, Hc.ixN_1_0, Hc.ixN_2_0, Hc.ixN_2_1, Hc.ixN_3_0, Hc.ixN_3_1, Hc.ixN_3_2, Hc.ixN_4_0, Hc.ixN_4_1, Hc.ixN_4_2, Hc.ixN_4_3, calms, CE.calm, pathOf, cSetSub, hidS, cSetEnd, cEnu, cZip, Hc.lstq_lst, Hc.addL_if, Hc.dEqN, Hc.zipOp_lst, Hc.zipOp_tup, Hc.all_lst, Hc.bools_map, Hc.sum_lst, Hc.ints_map, Hc.dIs_non, Hc.dIsn_non, Hc.dIs_int, Hc.dIsn_int, Hc.dIs_bl, Hc.dIsn_bl, Hc.dIs_str, Hc.dIsn_str, Hc.dIs_tup, Hc.dIsn_tup, Hc.dIs_lst, Hc.dIsn_lst, Hc.ite_ok, Hc.iteI, cComp, cSli, eNop, Hc.cutOp_lst, Hc.peek_vm, Hc.peek_vi, Hc.peek_rev, Hc.peek_lrng1, Hc.peek_lrng2, Hc.peek_dcomp, Hc.peek_ddisp, Hc.peek_dnew, Hc.peek_dget, Hc.peek_not, Hc.peek_and, Hc.peek_or, Hc.peek_chain, Hc.peek_shl, Hc.peek_shr, Hc.peek_band, Hc.peek_bor, Hc.peek_sorted, Hc.peek_list, Hc.peek_tuple, Hc.peek_divmod, Hc.peek_abs, Hc.peek_bool, Hc.pickA_lst, Hc.pickA_tup, Hc.walk_lst, Hc.walk_tup, Hc.revOp_lst, Hc.dSorted, Hc.dListL, Hc.dListT, Hc.dTupL, Hc.dTupT, Hc.dDivmod, Hc.dAbs, Hc.dBoolI, Hc.dBoolB, Hc.dStrS, Hc.dRemove, Hc.dShr, Hc.dShl, cVm0, cVm1, cVi, isL0, cRev, cLr1, cLr2, cDcomp, cDdisp, seqP, turnK, Hc.isL_lst, Hc.gb_noIo, Hc.bo_noIo, beq_self_eq_true, Bool.true_beq, Bool.false_beq, Hc.muop_ext, Hc.muop_app, Hc.onS_if, List.length_map, List.length_append, turnE, Hc.w_mute, bindTg, setAll, wipeE, Hc.again, Option.isSome_some, Bool.not_true, Bool.not_false, Bool.and_true, Bool.true_and, Bool.and_false, Bool.false_and, Bool.or_true, Bool.true_or, Bool.or_false, Bool.false_or, if_true, if_false, ite_true, ite_false, Bool.false_eq_true, true_and, and_true, decide_true, decide_false, reduceCtorEq, Nat.add_zero, Nat.zero_add, List.all_cons, List.all_nil, List.any_cons, List.any_nil, fzs, List.length_cons, List.length_nil, Option.some.injEq, exists_eq_left', $xs,*])
  | `(tactic| walk_at "s") => `(tactic| (refine step ?_; simp! []))
def bIsKind : List CS := [
  .ret (.andE (.isi (.nm 0) [.str]) (.cmp .inn (.nm 0) (.tup [(.gc "NUMBER" (.str "number")), (.gc "TEXT" (.str "text")), (.gc "CASELESS" (.str "caseless"))])))]
def bIsCh : List CS := [
  .ret (.andE (.chain .le .le (.lit (.str " ")) (.nm 0) (.lit (.str "~"))) (.andE (.cmp .ne (.nm 0) (.lit (.str "|"))) (.notE (.chain .lt .lt (.lit (.str "$")) (.nm 0) (.lit (.str "&"))))))]
def bIsCell : List CS := [
  .ifS (.cmp .is_ (.nm 1) (.lit .non)) [.ret (.lit (.bl true))] [],
  .ifS (.cmp .eq (.nm 0) (.gc "NUMBER" (.str "number"))) [.ret (.call "is_integer" [(.nm 1)])] [],
  .ifS (.orE (.notE (.isi (.nm 1) [.str])) (.notE (.chain .le .le (.lit (.int 1)) (.blt .len [(.nm 1)]) (.gc "MAX_CHARACTERS" (.int 20))))) [.ret (.lit (.bl false))] [],
  .ret (.blt .all [(.comp [2] (.nm 2) (.nm 1) .nop (.call "is_cell_character" [(.nm 2)]))])]
def bIsRow : List CS := [
  .ifS (.orE (.notE (.isi (.nm 1) [.list])) (.cmp .ne (.blt .len [(.nm 1)]) (.blt .len [(.nm 0)]))) [.ret (.lit (.bl false))] [],
  .ret (.blt .all [(.comp [2, 3] (.tup [2, 3]) (.zip (.nm 0) (.nm 1)) .nop (.call "is_cell" [(.nm 2), (.nm 3)]))])]
def bIsTable : List CS := [
  .ifS (.orE (.notE (.isi (.nm 0) [.tuple])) (.cmp .ne (.blt .len [(.nm 0)]) (.lit (.int 2)))) [.ret (.lit (.bl false))] [],
  .unp (.tup [1, 2]) (.nm 0),
  .ifS (.orE (.notE (.isi (.nm 1) [.list])) (.orE (.notE (.chain .le .le (.lit (.int 1)) (.blt .len [(.nm 1)]) (.gc "MAX_COLUMNS" (.int 8)))) (.notE (.blt .all [(.comp [4] (.nm 4) (.nm 1) .nop (.call "is_kind" [(.nm 4)]))])))) [.ret (.lit (.bl false))] [],
  .ifS (.orE (.notE (.isi (.nm 2) [.list])) (.notE (.chain .le .le (.lit (.int 1)) (.blt .len [(.nm 2)]) (.gc "MAX_ROWS" (.int 60))))) [.ret (.lit (.bl false))] [],
  .ret (.blt .all [(.comp [3] (.nm 3) (.nm 2) .nop (.call "is_row" [(.nm 1), (.nm 3)]))])]
def bCheckTable : List CS := [
  .ifS (.notE (.call "is_table" [(.nm 0)])) [.never] []]
def bSortKey : List CS := [
  .ifS (.cmp .is_ (.nm 1) (.lit .non)) [.ret (.tup [(.lit (.int 0)), (.lit (.int 0))])] [],
  .ret (.tup [(.lit (.int 1)), (.ife (.cmp .eq (.nm 0) (.gc "CASELESS" (.str "caseless"))) (.vm .lower (.nm 1) []) (.nm 1))])]
def bColKeys : List CS := [
  .unp (.tup [2, 3]) (.nm 0),
  .ret (.comp [4] (.nm 4) (.nm 3) .nop (.call "sort_key" [(.sub (.nm 2) (.nm 1)), (.sub (.nm 4) (.nm 1))]))]
def bRanksIn : List CS := [
  .set 1 (.dnew true),
  .forS (.nm 2) (.blt .sorted [(.nm 0)]) [.ifS (.cmp .nin (.nm 2) (.nm 1)) [.dset 1 (.nm 2) (.blt .len [(.nm 1)])] []],
  .ret (.comp [2] (.nm 2) (.nm 0) .nop (.dget (.nm 1) (.nm 2)))]
def bRanksOf : List CS := [
  .ret (.comp [1] (.nm 1) (.rng1 (.blt .len [(.sub (.nm 0) (.lit (.int 0)))])) .nop (.call "ranks_in" [(.call "column_keys" [(.nm 0), (.nm 1)])]))]
def bOrderBy : List CS := [
  .unp (.tup [2, 3]) (.nm 1),
  .set 4 (.fzE (.comp [5] (.nm 5) (.rng1 (.blt .len [(.sub (.nm 0) (.lit (.int 0)))])) .nop (.tup [(.comp [8, 9] (.tup [8, 9]) (.nm 2) .nop (.bin .mul (.nm 9) (.sub (.sub (.nm 0) (.nm 8)) (.nm 5)))), (.bin .mul (.nm 3) (.nm 5))]))),
  .ret (.comp [6, 7] (.tup [6, 7]) (.blt .sorted [(.nm 4)]) .nop (.bin .mul (.nm 3) (.nm 7)))]
def bApply : List CS := [
  .expr (.call "check_table" [(.nm 0)]),
  .expr (.call "check_effect" [(.blt .len [(.sub (.nm 0) (.lit (.int 0)))]), (.nm 1)]),
  .ret (.call "order_by" [(.call "ranks_of" [(.nm 0)]), (.nm 1)])]
def nice : Nat → D → Bool
  | _, .non => true
  | _, .bl _ => true
  | _, .int _ => true
  | _, .str s => PyData.strOk s && decide (s.length ≤ sz)
  | n + 1, .tup xs => xs.all (nice n) && decide (xs.length ≤ sz)
  | n + 1, .lst false xs => xs.all (nice n) && decide (xs.length ≤ sz)
  | _, .dic false _ ks vs => ks.isEmpty && vs.isEmpty
  | _, _ => false
theorem nice_fz : ∀ (n : Nat) (d : D), nice n d = true → d.fz = d ∧ d.noOwn = true
  | _, .non, _ => ⟨rfl, rfl⟩
  | _, .bl _, _ => ⟨rfl, rfl⟩
  | _, .int _, _ => ⟨rfl, rfl⟩
  | _, .str _, _ => ⟨rfl, rfl⟩
  | 0, .tup xs, h => by simp [nice] at h
  | 0, .lst true xs, h => by simp [nice] at h
  | 0, .lst false xs, h => by simp [nice] at h
  | n + 1, .lst true xs, h => by simp [nice] at h
  | _, .gone, h => by simp [nice] at h
  | _, .dic true _ _ _, h => by simp [nice] at h
  | _, .dic false _ _ _, h => ⟨rfl, rfl⟩
  | _, .obj _ _ _ _, h => by simp [nice] at h
  | n + 1, .tup xs, h => by
    simp only [nice, Bool.and_eq_true, List.all_eq_true] at h
    have : ∀ (l : List D), (∀ x ∈ l, nice n x = true) → fzs l = l ∧ noOwns l = true := by
      intro l
      induction l with
      | nil => intro _; exact ⟨rfl, rfl⟩
      | cons x l ih =>
        intro hl
        obtain ⟨h1, h2⟩ := nice_fz n x (hl x List.mem_cons_self)
        obtain ⟨h3, h4⟩ := ih fun y hy => hl y (List.mem_cons_of_mem _ hy)
        exact ⟨by show x.fz :: fzs l = _; rw [h1, h3], by show (x.noOwn && noOwns l) = true; rw [h2, h4]; rfl⟩
    obtain ⟨h1, h2⟩ := this xs h.1
    exact ⟨by show D.tup (fzs xs) = _; rw [h1], h2⟩
  | n + 1, .lst false xs, h => ⟨rfl, rfl⟩
theorem nice_own {n : Nat} : ∀ {l : List D}, l.all (nice n) = true → noOwns l = true
  | [], _ => rfl
  | x :: l, h => by
    simp only [List.all_cons, Bool.and_eq_true] at h
    show (x.noOwn && noOwns l) = true
    rw [(nice_fz n x h.1).2, nice_own h.2]; rfl
theorem nice_gone {n : Nat} {d : D} (h : nice n d = true) : d ≠ .gone := by
  rintro rfl
  simp [nice] at h
theorem isInt_rec {d : D} : isInt d = true ↔ ∃ i, d = .int i := by
  cases d <;> simp [isInt]
def kindS : List Str := ["number", "text", "caseless"]
def kindB : D → Bool
  | .str s => kindS.contains s
  | _ => false
abbrev SKind (Γ : Glob) : Prop := ∀ (n : Nat) (d : D), nice n d = true → Γ "is_kind" [d] = .ok (.bl (kindB d)) [d]
theorem in_kinds {s : Str} (h : PyData.strOk s = true) : cmpop .inn (.str s) (.tup [.str "number", .str "text", .str "caseless"]) = some (kindB (.str s)) := by
  show (if flat 0 (.str s) = true ∧ [D.str "number", .str "text", .str "caseless"].all (flat 0) = true then some ([D.str "number", .str "text", .str "caseless"].any fun z => deq z (.str s)) else none) = _
  rw [if_pos ⟨h, by decide +kernel⟩]
  simp only [List.any_cons, List.any_nil, deq_str, kindB, kindS, List.contains_cons, List.contains_nil, Bool.or_false]
  congr 1
  by_cases h1 : ("number" : Str) = s <;> by_cases h2 : ("text" : Str) = s <;> by_cases h3 : ("caseless" : Str) = s <;> simp [h1, h2, h3, eq_comm (a := s)]
theorem t_kind {Γ : Glob} (n : Nat) (d : D) (h : nice n d = true) : runDef Γ 1 bIsKind [d] = .ok (.bl (kindB d)) [d] := by
  refine rc_eq (run_wp2 (env := [some d]) (ks := [true]) rfl rfl ?_)
  unfold bIsKind
  cases d
  case str s =>
    have hs : PyData.strOk s = true := by simp [nice] at h; exact h.1
    refine step ?_
    simp! [in_kinds hs]
  case gone => simp [nice] at h
  all_goals
    refine step ?_
    simp! [kindB]
def chB (c : Nat) : Bool := decide (32 ≤ c) && decide (c ≤ 126) && decide (c ≠ 124) && decide (c ≠ 37)
theorem lt1 (a b : Nat) : (([a] : List Nat) < [b]) ↔ a < b := by
  rw [List.cons_lt_cons_iff]
  simp
abbrev chD (c : Nat) : D := .str ⟨#[c]⟩
abbrev SCh (Γ : Glob) : Prop := ∀ c : Nat, c < 1114112 → Γ "is_cell_character" [chD c] = .ok (.bl (chB c)) [chD c]
theorem ch_eq (s : Str) (b c : Nat) (h : s = ⟨#[b]⟩) : cmpop .le (.str s) (chD c) = some (decide (b ≤ c)) ∧ cmpop .le (chD c) (.str s) = some (decide (c ≤ b)) ∧ cmpop .lt (.str s) (chD c) = some (decide (b < c)) ∧ cmpop .lt (chD c) (.str s) = some (decide (c < b)) ∧ cmpop .ne (chD c) (.str s) = some (decide (c ≠ b)) := by
  subst h
  refine ⟨?_, ?_, ?_, ?_, ?_⟩
  · rw [dLeS]; simp only [lt1, ← decide_not, Nat.not_lt]
  · rw [dLeS]; simp only [lt1, ← decide_not, Nat.not_lt]
  · rw [dLtS]; simp only [lt1]
  · rw [dLtS]; simp only [lt1]
  · rw [dNeS]; congr 1; by_cases q : c = b <;> simp [q]
theorem t_ch {Γ : Glob} (c : Nat) (h : c < 1114112) : runDef Γ 1 bIsCh [chD c] = .ok (.bl (chB c)) [chD c] := by
  have hf : PyData.strOk ⟨#[c]⟩ = true := by simp [PyData.strOk]; exact h
  obtain ⟨a1, _, _, _, _⟩ := ch_eq " " 32 c (by decide +kernel)
  obtain ⟨_, a2, _, _, _⟩ := ch_eq "~" 126 c (by decide +kernel)
  obtain ⟨_, _, _, _, a3⟩ := ch_eq "|" 124 c (by decide +kernel)
  obtain ⟨_, _, a4, _, _⟩ := ch_eq "$" 36 c (by decide +kernel)
  obtain ⟨_, _, _, a5, _⟩ := ch_eq "&" 38 c (by decide +kernel)
  refine rc_eq (run_wp2 (env := [some (chD c)]) (ks := [true]) rfl rfl ?_)
  unfold bIsCh
  refine step ?_
  simp! [a1, a2, a3, a4, a5, hf]
  by_cases h1 : 32 ≤ c <;> by_cases h2 : c ≤ 126 <;> by_cases h3 : c = 124 <;> by_cases h4 : 36 < c <;> by_cases h5 : c < 38 <;> simp [h1, h2, h3, h4, h5, R.wp, R.bind, retQ, chB, outs, Hc.af_ret] <;> omega
def cellB (k : Str) : D → Bool
  | .non => true
  | d => if k = "number" then isInt d else match d with
    | .str s => decide (1 ≤ (s.length : Int) ∧ (s.length : Int) ≤ 20) && s.cps.toList.all chB
    | _ => false
abbrev SCell (Γ : Glob) : Prop := ∀ (k : Str) (n : Nat) (d : D), nice n d = true → Γ "is_cell" [.str k, d] = .ok (.bl (cellB k d)) [.str k, d]
theorem t_cell {Γ : Glob} (hi : SInt Γ) (hc : SCh Γ) (k : Str) (n : Nat) (d : D) (h : nice n d = true) : runDef Γ 3 bIsCell [.str k, d] = .ok (.bl (cellB k d)) [.str k, d] := by
  obtain ⟨z1, z2⟩ := nice_fz n d h
  have hg := nice_gone h
  have e1 := hi d hg
  refine rc_eq (run_wp2 (env := [some (.str k), some d, none]) (ks := [true, true]) rfl rfl ?_)
  unfold bIsCell
  have isN : ∀ e : D, e ≠ .non → e ≠ .gone → cmpop .is_ e .non = some false := by
    intro e h1 h2
    cases e <;> first | rfl | exact absurd rfl h1 | exact absurd rfl h2
  by_cases hn : d = .non
  · subst hn
    walk_at "s"
    walk_at "s"
    rfl
  · have e2 := isN d hn hg
    refine step ?_
    simp! [e2]
    refine step ?_
    simp! []
    by_cases hk : k = "number"
    · subst hk
      simp! []
      refine step ?_
      simp! [e1, z1]
      congr 1
      cases d <;> first | rfl | exact absurd rfl hn | simp [cellB]
    · simp! [hk]
      have cB : ∀ b : Bool, (∀ s, d ≠ .str s) → cellB k d = false := by
        intro _ hs
        cases d <;> first | exact absurd rfl hn | exact absurd rfl (hs _) | simp [cellB, hk]
      by_cases hs : ∃ s, d = .str s
      · obtain ⟨s, rfl⟩ := hs
        have hs : PyData.strOk s = true ∧ s.length ≤ sz := by simpa [nice] using h
        refine step ?_
        have el : bltop .len [.str s] = some (.int (s.length : Int)) := by
          show (if s.length ≤ sz then _ else _) = _
          rw [if_pos hs.2]
        have q1 : cellB k (.str s) = (decide (1 ≤ (s.length : Int) ∧ (s.length : Int) ≤ 20) && s.cps.toList.all chB) := by simp [cellB, hk]
        have last : ((Hc.execs Γ [.ret (.blt .all [(.comp [2] (.nm 2) (.nm 1) .nop (.call "is_cell_character" [(.nm 2)]))])] [some (.str k), some (.str s), none])).wp (retQ (fun x y => x = .bl (s.cps.toList.all chB) ∧ y = [.str k, .str s]) [true, true]) fun x _ => noXc x := by
          refine step ?_
          simp! [Hc.walk_str]
          refine comp_m (s.cps.toList) (fun c => .str ⟨#[c]⟩) D.bl chB rfl (by have := hs.2; rw [Array.length_toList]; exact this) ?_ ?_
          · intro c hc'
            have hlt : c < 1114112 := by
              have := hs.1
              unfold PyData.strOk at this
              rw [← Array.all_toList] at this
              simpa using List.all_eq_true.mp this c hc'
            have e3 := hc c hlt
            simp! [e3]
          · simp! [List.all_map]
            rfl
        simp! [el]
        by_cases hl : 1 ≤ (s.length : Int) ∧ (s.length : Int) ≤ 20
        · obtain ⟨l1, l2⟩ := hl
          simp! [l1, l2]
          have q2 : cellB k (.str s) = s.cps.toList.all chB := by rw [q1, decide_eq_true ⟨l1, l2⟩, Bool.true_and]
          rw [q2]
          exact last
        · rw [q1]
          have l3 : decide (1 ≤ (s.length : Int) ∧ (s.length : Int) ≤ 20) = false := by simpa using hl
          rw [l3]
          by_cases l1 : 1 ≤ (s.length : Int)
          · have l2 : ¬ (s.length : Int) ≤ 20 := fun z => hl ⟨l1, z⟩
            simp! [l1, l2]
            walk_at "s"
          · simp! [l1]
            walk_at "s"
      · have c0 := cB true fun s z => hs ⟨s, z⟩
        refine step ?_
        rw [c0]
        cases d <;> first | exact absurd rfl hn | exact absurd rfl hg | exact absurd ⟨_, rfl⟩ hs | skip
        all_goals
          simp! []
          refine step ?_
          simp! []
def rowB (ks : List Str) : D → Bool
  | .lst _ xs => decide (xs.length = ks.length) && (ks.zip xs).all fun p => cellB p.1 p.2
  | _ => false
abbrev ksD (ks : List Str) : D := .lst false (ks.map .str)
theorem own_strs (xs : List Str) : noOwns (xs.map D.str) = true := noOwns_map _ (fun _ => rfl) xs
theorem fz_strs (xs : List Str) : fzs (xs.map D.str) = xs.map D.str := fzs_map _ (fun _ => rfl) xs
abbrev SRow (Γ : Glob) : Prop := ∀ (ks : List Str) (n : Nat) (d : D), nice n d = true → ks.length ≤ sz → Γ "is_row" [ksD ks, d] = .ok (.bl (rowB ks d)) [ksD ks, d]
theorem t_row {Γ : Glob} (hc : SCell Γ) (ks : List Str) (n : Nat) (d : D) (h : nice n d = true) (hz : ks.length ≤ sz) : runDef Γ 4 bIsRow [ksD ks, d] = .ok (.bl (rowB ks d)) [ksD ks, d] := by
  have hg := nice_gone h
  refine rc_eq (run_wp2 (env := [some (ksD ks), some d, none, none]) (ks := [true, true]) rfl rfl ?_)
  unfold bIsRow
  by_cases hl : ∃ xs, d = .lst false xs
  · obtain ⟨xs, rfl⟩ := hl
    cases n with
    | zero => simp [nice] at h
    | succ n =>
      have h : xs.all (nice n) = true ∧ xs.length ≤ sz := by simpa [nice] using h
      have ow := nice_own h.1
      refine step ?_
      simp! []
      by_cases hq : xs.length = ks.length
      · simp! [hq, ne_eq, not_true]
        refine step ?_
        have hx : xs = xs.map id := by simp
        have ez : zipD (ks.map D.str) xs = (ks.zip xs).map fun p => .tup [.str p.1, p.2] := by
          conv => lhs; rw [hx]
          rw [Hc.zip_map]
          rfl
        simp! [own_strs, ow, ez]
        refine comp_m (ks.zip xs) (fun p => .tup [.str p.1, p.2]) D.bl (fun p => cellB p.1 p.2) rfl (by rw [List.length_zip]; omega) ?_ ?_
        · rintro ⟨k, x⟩ hp
          have px := List.all_eq_true.mp h.1 x (List.of_mem_zip hp).2
          obtain ⟨f1, f2⟩ := nice_fz n x px
          have e3 := hc k n x px
          simp! [e3, f1]
        · simp! [List.all_map]
          simp [rowB, hq]
      · have hq' : ¬ ((xs.length : Nat) : Int) = ((ks.length : Nat) : Int) := by omega
        simp! [hq', ne_eq, not_false_eq_true]
        refine step ?_
        simp! []
        simp [rowB, hq]
  · have r0 : rowB ks d = false := by
      cases d <;> first | rfl | skip
      rename_i o xs
      cases o
      · exact absurd ⟨_, rfl⟩ hl
      · cases n <;> simp [nice] at h
    rw [r0]
    refine step ?_
    cases d <;> first | exact absurd rfl hg | skip
    case lst o xs =>
      cases o
      · exact absurd ⟨_, rfl⟩ hl
      · cases n <;> simp [nice] at h
    all_goals
      simp! []
      refine step ?_
      simp! []

def strsD (xs : List D) : List Str := xs.filterMap fun d => match d with
  | .str s => some s
  | _ => none
def tableB : D → Bool
  | .tup [.lst _ kinds, .lst _ rows] => decide (1 ≤ (kinds.length : Int) ∧ (kinds.length : Int) ≤ 8) && kinds.all kindB && decide (1 ≤ (rows.length : Int) ∧ (rows.length : Int) ≤ 60) && rows.all (rowB (strsD kinds))
  | _ => false
theorem strs_of : ∀ {xs : List D}, xs.all kindB = true → xs = (strsD xs).map .str
  | [], _ => rfl
  | x :: xs, h => by
    simp only [List.all_cons, Bool.and_eq_true] at h
    cases x <;> first | (simp [kindB] at h; done) | skip
    rename_i s
    show _ :: xs = D.str s :: (strsD xs).map D.str
    rw [← strs_of h.2]
abbrev STable (Γ : Glob) : Prop := ∀ (n : Nat) (d : D), nice n d = true → Γ "is_table" [d] = .ok (.bl (tableB d)) [d]
theorem nice_items {n : Nat} {o : Bool} {xs : List D} (h : nice n (.lst o xs) = true) : o = false ∧ ∃ m, n = m + 1 ∧ xs.all (nice m) = true ∧ xs.length ≤ sz := by
  cases n with
  | zero => cases o <;> simp [nice] at h
  | succ n => cases o with
    | true => simp [nice] at h
    | false => exact ⟨rfl, n, rfl, by simpa [nice] using h⟩
theorem t_table {Γ : Glob} (hk : SKind Γ) (hr : SRow Γ) (n : Nat) (d : D) (h : nice n d = true) : runDef Γ 5 bIsTable [d] = .ok (.bl (tableB d)) [d] := by
  have hg := nice_gone h
  refine rc_eq (run_wp2 (env := [some d, none, none, none, none]) (ks := [true]) rfl rfl ?_)
  unfold bIsTable
  by_cases ht : ∃ a b, d = .tup [a, b]
  · obtain ⟨a, b, rfl⟩ := ht
    cases n with
    | zero => simp [nice] at h
    | succ n =>
      have hab : nice n a = true ∧ nice n b = true := by
        simp only [nice, List.all_cons, List.all_nil, Bool.and_true, Bool.and_eq_true] at h
        exact h.1
      obtain ⟨ha, hb⟩ := hab
      have fa := nice_fz n a ha
      have fb := nice_fz n b hb
      have ga := nice_gone ha
      have gb := nice_gone hb
      walk_at "s"
      refine step ?_
      simp! [fa.1, fb.1]
      refine step ?_
      by_cases hl : ∃ xs, a = .lst false xs
      · obtain ⟨xs, rfl⟩ := hl
        obtain ⟨_, m, rfl, hx, hxz⟩ := nice_items ha
        have ow := nice_own hx
        have bad : (decide (1 ≤ (xs.length : Int) ∧ (xs.length : Int) ≤ 8) && xs.all kindB) = false → tableB (.tup [.lst false xs, b]) = false := by
          intro z
          cases b <;> first | rfl | skip
          simp only [tableB, z, Bool.false_and]
        simp! []
        by_cases l1 : 1 ≤ (xs.length : Int)
        · by_cases l2 : (xs.length : Int) ≤ 8
          · simp! [l1, l2, ow]
            refine comp_m' xs id .bl kindB (by simp) rfl hxz ?_ ?_
            · intro y hy
              have py := List.all_eq_true.mp hx y hy
              have e3 := hk m y py
              simp! [e3, (nice_fz m y py).1, id]
            · simp! [List.all_map]
              have eid : (id ∘ kindB) = kindB := rfl
              rw [eid]
              cases hks : xs.all kindB with
              | false =>
                simp! []
                walk_at "s"
                exact (congrArg D.bl (bad (by rw [hks, Bool.and_false]))).symm
              | true =>
                simp! []
                refine step ?_
                have exs := strs_of hks
                by_cases hl : ∃ ys, b = .lst false ys
                · obtain ⟨ys, rfl⟩ := hl
                  obtain ⟨_, m2, e2, hy, hyz⟩ := nice_items hb
                  cases e2
                  have ow2 := nice_own hy
                  have val : tableB (.tup [.lst false xs, .lst false ys]) = (decide (1 ≤ (ys.length : Int) ∧ (ys.length : Int) ≤ 60) && ys.all (rowB (strsD xs))) := by
                    have z : decide (1 ≤ (xs.length : Int) ∧ (xs.length : Int) ≤ 8) = true := by simp [l1, l2]
                    simp only [tableB, z, hks, Bool.true_and]
                  rw [val]
                  simp! []
                  by_cases r1 : 1 ≤ (ys.length : Int)
                  · by_cases r2 : (ys.length : Int) ≤ 60
                    · simp! [r1, r2]
                      refine step ?_
                      simp! [ow2]
                      refine comp_m' ys id .bl (rowB (strsD xs)) (by simp) rfl hyz ?_ ?_
                      · intro y hy'
                        have py := List.all_eq_true.mp hy y hy'
                        have e3 := hr (strsD xs) m y py (by have := congrArg List.length exs; simp at this; omega)
                        have ek : ksD (strsD xs) = .lst false xs := by show D.lst false _ = _; rw [← exs]
                        rw [ek] at e3
                        simp! [e3, (nice_fz m y py).1, id]
                      · simp! [List.all_map]
                        simp [r1, r2]
                    · simp! [r1, r2]
                      walk_at "s"
                      try simp [r2]
                  · simp! [r1]
                    walk_at "s"
                    try simp [r1]
                · have val : tableB (.tup [.lst false xs, b]) = false := by
                    cases b <;> first | rfl | skip
                    rename_i o ys
                    cases o
                    · exact absurd ⟨_, rfl⟩ hl
                    · simp [nice] at hb
                  rw [val]
                  cases b <;> first | exact absurd rfl gb | skip
                  case lst o ys =>
                    cases o
                    · exact absurd ⟨_, rfl⟩ hl
                    · simp [nice] at hb
                  all_goals
                    simp! []
                    refine step ?_
                    simp! []
          · rw [bad (by simp [l2])]
            simp! [l1, l2]
            walk_at "s"
        · rw [bad (by simp [l1])]
          simp! [l1]
          walk_at "s"
      · have val : tableB (.tup [a, b]) = false := by
          cases a <;> first | rfl | skip
          rename_i o ys
          cases o
          · exact absurd ⟨_, rfl⟩ hl
          · cases n <;> simp [nice] at ha
        rw [val]
        cases a <;> first | exact absurd rfl ga | skip
        case lst o ys =>
          cases o
          · exact absurd ⟨_, rfl⟩ hl
          · cases n <;> simp [nice] at ha
        all_goals
          simp! []
          refine step ?_
          simp! []
  · have val : tableB d = false := by
      cases d <;> first | rfl | skip
      rename_i xs
      rcases xs with _ | ⟨a, _ | ⟨b, _ | ⟨c, xs⟩⟩⟩
      · rfl
      · cases a <;> rfl
      · exact absurd ⟨_, _, rfl⟩ ht
      · cases a <;> first | rfl | (cases b <;> rfl)
    rw [val]
    refine step ?_
    by_cases hl : ∃ xs, d = .tup xs
    · obtain ⟨xs, rfl⟩ := hl
      have hn : ¬ ((xs.length : Nat) : Int) = 2 := by
        intro z
        have z : xs.length = 2 := by omega
        rcases xs with _ | ⟨a, _ | ⟨b, _ | ⟨c, xs⟩⟩⟩ <;> simp at z
        exact ht ⟨_, _, rfl⟩
      simp! [hn, ne_eq, not_false_eq_true]
      walk_at "s"
    · cases d <;> first | exact absurd rfl hg | exact absurd ⟨_, rfl⟩ hl | skip
      all_goals
        simp! []
        refine step ?_
        simp! []
abbrev SCheckTable (Γ : Glob) : Prop := ∀ (n : Nat) (d : D), nice n d = true → tableB d = true → Γ "check_table" [d] = .ok .non [d]
theorem t_checkTable {Γ : Glob} (ht : STable Γ) (n : Nat) (d : D) (h : nice n d = true) (hv : tableB d = true) : runDef Γ 1 bCheckTable [d] = .ok .non [d] := by
  have e1 := ht n d h
  rw [hv] at e1
  refine rc_eq (run_wp2 (env := [some d]) (ks := [true]) rfl rfl ?_)
  unfold bCheckTable
  refine step ?_
  simp! [e1, (nice_fz n d h).1]

end Hp

set_option Elab.async false
set_option linter.all false
set_option maxRecDepth 100000
set_option maxHeartbeats 1000000
set_option exponentiation.threshold 2000
namespace Hp
open Hc PySem PySem.Spec PyProof.Rows L2
local macro_rules
  | `(tactic| simp! [$xs,*]) => `(tactic| simp -implicitDefEqProofs -dsimp only [↓Hc.w_bind, ↓Hc.w_ok, ↓Hc.w_lnd, Hc.w_no, Hc.w_guard, Hc.w_go, Hc.w_nil, Hc.wc_ok, Hc.af_nx, Hc.af_ret, Hc.af_brk, Hc.af_ct, Hc.onS_some, Hc.altS_some, Hc.altS_none, Hc.exec, ev, evL, evA, mkE, cCall_eq, cCallk_eq, seqA, argE, Hc.cNm_eq, Hc.cMv_eq, cFz, Hc.peek_fzE, Hc.peek_lnd, cLnd, Hc.lb_cons, Hc.lb_nil, Hc.keepS_none, Hc.keepS_no, Hc.keepS_so, Hc.fetch_nil, Hc.fetch_cons, goOf_some, lent, giveBack, backOk, Hc.noIo_cons, Hc.noIo_nil, CE.isIo, cOrT, cNotT, cAndT, cOr, cNot, cAnd, Hc.view_eq, Hc.peek_nm, Hc.peek_lit, Hc.peek_gc, Hc.peek_sub, Hc.peek_neg, Hc.peek_len, Hc.peek_add, Hc.peek_bsub, Hc.peek_call, Hc.peek_lst, Hc.peek_nop, Hc.peek_tup, Hc.peek_sli, Hc.peek_comp, Hc.peek_mul, Hc.peek_mod, Hc.peek_fdv, Hc.peek_pow, Hc.peek_callk, Hc.peek_ifgt, Hc.peek_iflt, Hc.peek_ifne, Hc.peek_ifle, Hc.peek_ifge, Hc.peek_ifis, Hc.peek_ifisn, Hc.peek_ifinn, Hc.peek_ifnin, Hc.peek_ifnm, Hc.peek_ifand, Hc.peek_ifor, Hc.peek_ifnot, Hc.peek_ifsub, Hc.peek_ifcall, Hc.peek_ifisi, Hc.peek_ifeq, Hc.peek_isi, Hc.peek_cmp, Hc.peek_mu, Hc.peek_mv, Hc.peek_sum, Hc.peek_repr, Hc.peek_int, Hc.peek_str, Hc.peek_all, Hc.peek_max2, Hc.peek_min2, cChain, cCmp, cNeg, cBin, two, Hc.opd_eq, Hc.lift_eq, Hc.truth_bl, Hc.truth_int, D.fz, Hc.shal_int, Hc.shal_bl, Hc.shal_str, Hc.shal_non, Hc.shal_lst, Hc.shal_tup, flat, cIsi, isTy, cIf, cTup, cLst, seqE, Hc.cSub_eq, Hc.pick_lst, Hc.pick_tup, Hc.atI_0, Hc.atI_1, Hc.atI_2, Hc.atI_3, Hc.negD, Hc.addD, Hc.subD, cBl1, cBl, Bl.looks, Hc.dAdd, Hc.dSub, Hc.dLt, Hc.dLe, Hc.dGt, Hc.dGe, Hc.dEq, Hc.dNe, Hc.dEqB, Hc.dNeB, Hc.dEqS, Hc.dNeS, Hc.dLenL, Hc.dLenT, Hc.dIntI, Hc.dIntB, Hc.dMin, Hc.dMax, D.noOwn, noOwns, D.noFz, noFzs, Hc.own_ints, Hc.fz_ints, Hc.noFzs_ints, Hc.R.bind_ok, at_zero, at_succ, List.set_cons_zero, List.set_cons_succ, Option.map_some, Option.bind_some, Option.bind_none, sz, Nat.reduceAdd, Nat.reduceLeDiff, Nat.reduceLT, Int.reduceLE, Int.reduceLT, Int.reduceToNat, Hc.turnQ_nx, Hc.turnQ_ct, Hc.turnQ_brk, Hc.turnQ_ret, Hc.retQ_ret, Hc.retQ_nx, Hc.outs_nil, Hc.outs_t, Hc.outs_f, Option.getD_some, Option.getD_none, cIt, cRng1, cRng2, cRngd, its, CE.isNm, guards, Hc.items_lst, Hc.items_tup, cMu, cMuEnd, Hc.isL_lst, List.map_cons, List.map_nil, List.getD_cons_zero, List.getD_cons_succ, Hc.getK_nil, Hc.getK_cons, Hc.putK_nil, Hc.putK_cons, Hc.put1_lst, Hc.put1_tup, Hc.set1_lst, Hc.dPop0, Hc.dRev, List.nil_append, List.cons_append, Hc.ixN_1_0, Hc.ixN_2_0, Hc.ixN_2_1, Hc.ixN_3_0, Hc.ixN_3_1, Hc.ixN_3_2, Hc.ixN_4_0, Hc.ixN_4_1, Hc.ixN_4_2, Hc.ixN_4_3, calms, CE.calm, pathOf, cSetSub, hidS, cSetEnd, cEnu, cZip, Hc.lstq_lst, Hc.addL_if, Hc.dEqN, Hc.zipOp_lst, Hc.zipOp_tup, Hc.all_lst, Hc.bools_map, Hc.sum_lst, Hc.ints_map, Hc.dIs_non, Hc.dIsn_non, Hc.dIs_int, Hc.dIsn_int, Hc.dIs_bl, Hc.dIsn_bl, Hc.dIs_str, Hc.dIsn_str, Hc.dIs_tup, Hc.dIsn_tup, Hc.dIs_lst, Hc.dIsn_lst, Hc.ite_ok, Hc.iteI, cComp, cSli, eNop, Hc.cutOp_lst, Hc.peek_vm, Hc.peek_vi, Hc.peek_rev, Hc.peek_lrng1, Hc.peek_lrng2, Hc.peek_dcomp, Hc.peek_ddisp, Hc.peek_dnew, Hc.peek_dget, Hc.peek_not, Hc.peek_and, Hc.peek_or, Hc.peek_chain, Hc.peek_shl, Hc.peek_shr, Hc.peek_band, Hc.peek_bor, Hc.peek_sorted, Hc.peek_list, Hc.peek_tuple, Hc.peek_divmod, Hc.peek_abs, Hc.peek_bool, Hc.pickA_lst, Hc.pickA_tup, Hc.walk_lst, Hc.walk_tup, Hc.revOp_lst, Hc.dSorted, Hc.dListL, Hc.dListT, Hc.dTupL, Hc.dTupT, Hc.dDivmod, Hc.dAbs, Hc.dBoolI, Hc.dBoolB, Hc.dStrS, Hc.dRemove, Hc.dShr, Hc.dShl, cVm0, cVm1, cVi, isL0, cRev, cLr1, cLr2, cDcomp, cDdisp, seqP, turnK, Hc.isL_lst, Hc.gb_noIo, Hc.bo_noIo, beq_self_eq_true, Bool.true_beq, Bool.false_beq, Hc.muop_ext, Hc.muop_app, Hc.onS_if, List.length_map, List.length_append, turnE, Hc.w_mute, bindTg, setAll, wipeE, Hc.again, Option.isSome_some, Bool.not_true, Bool.not_false, Bool.and_true, Bool.true_and, Bool.and_false, Bool.false_and, Bool.or_true, Bool.true_or, Bool.or_false, Bool.false_or, if_true, if_false, ite_true, ite_false, Bool.false_eq_true, true_and, and_true, decide_true, decide_false, reduceCtorEq, Nat.add_zero, Nat.zero_add, List.all_cons, List.all_nil, List.any_cons, List.any_nil, fzs, List.length_cons, List.length_nil, Option.some.injEq, exists_eq_left', $xs,*])
  | `(tactic| walk_at "s") => `(tactic| (refine step ?_; simp! []))
inductive Ky where
  | no
  | num (i : Int)
  | txt (s : Str)
  deriving DecidableEq
def kyD : Ky → D
  | .no => .tup [.int 0, .int 0]
  | .num i => .tup [.int 1, .int i]
  | .txt s => .tup [.int 1, .str s]
def ltK (a b : Ky) : Bool := ltD (kyD a) (kyD b)
theorem kyD_inj {a b : Ky} (h : kyD a = kyD b) : a = b := by
  cases a <;> cases b <;> simp [kyD] at h <;> first | rfl | (subst h; rfl)
theorem toks_str_inj {a b : Str} (h : a.cps.toList = b.cps.toList) : a = b := PySem.W.str_of_cps h
theorem ltK_irr (a : Ky) : ltK a a = false := ltD_irr _
theorem ltK_tr {a b c : Ky} (h : ltK a b = true) (k : ltK b c = true) : ltK a c = true := ltD_tr h k
theorem ltK_ng {a b c : Ky} (h : ltK a b = false) (k : ltK b c = false) : ltK a c = false := ltD_ng h k
theorem ltK_asy {a b : Ky} (h : ltK a b = true) : ltK b a = false := ltD_asy h
theorem ltK_tot {a b : Ky} (h : ltK a b = false) (k : ltK b a = false) : a = b := by
  have e := ltD_toks h k
  cases a <;> cases b <;> simp [kyD, D.toP, toPs, PySem.W.keyToks, PySem.W.keyToksAll] at e <;> first | rfl | (subst e; rfl) | (rw [toks_str_inj (congrArg Array.toList e)]) | skip
theorem ltK_num (i j : Int) : ltK (.num i) (.num j) = decide (i < j) := by
  unfold ltK kyD
  rw [ltD_tup, ltL_int, if_pos rfl, ltL_int, ltL_nil]
  by_cases h : i = j <;> simp [h]
theorem ltK_no_num (i : Int) : ltK .no (.num i) = true := by
  unfold ltK kyD
  rw [ltD_tup, ltL_int]
  simp
theorem ltK_no_txt (i : Str) : ltK .no (.txt i) = true := by
  unfold ltK kyD
  rw [ltD_tup, ltL_int]
  simp
theorem ltK_txt (i j : Str) : ltK (.txt i) (.txt j) = decide (i.cps.toList < j.cps.toList) := by
  unfold ltK kyD
  rw [ltD_tup, ltL_int, if_pos rfl, ltL_str, ltL_nil]
  by_cases h : i = j
  · subst h
    simp [List.lt_irrefl]
  · simp [h]
inductive Cel where
  | no
  | num (i : Int)
  | txt (s : Str)
  deriving DecidableEq
inductive Kin where
  | n
  | t
  | c
  deriving DecidableEq
def celD : Cel → D
  | .no => .non
  | .num i => .int i
  | .txt s => .str s
def kinS : Kin → Str
  | .n => "number"
  | .t => "text"
  | .c => "caseless"
structure Tab where
  ks : List Kin
  rs : List (List Cel)
def rowD (o : Bool) (r : List Cel) : D := .lst o (r.map celD)
def kindsD (o : Bool) (ks : List Kin) : D := .lst o (ks.map fun k => .str (kinS k))
def rowsD (o : Bool) (rs : List (List Cel)) : D := .lst o (rs.map (rowD o))
def tabD (o : Bool) (t : Tab) : D := .tup [kindsD o t.ks, rowsD o t.rs]
def keyOf : Kin → Cel → Ky
  | _, .no => .no
  | _, .num i => .num i
  | .c, .txt s => .txt (Txt.lower s)
  | _, .txt s => .txt s
def celOk : Kin → Cel → Prop
  | _, .no => True
  | .n, .num i => -(10 ^ 30) ≤ i ∧ i ≤ 10 ^ 30
  | .n, .txt _ => False
  | _, .num _ => False
  | _, .txt s => 1 ≤ s.length ∧ s.length ≤ 20 ∧ ∀ c ∈ s.cps.toList, chB c = true
structure TabOk (t : Tab) : Prop where
  k1 : 1 ≤ t.ks.length
  k2 : t.ks.length ≤ 8
  r1 : 1 ≤ t.rs.length
  r2 : t.rs.length ≤ 60
  row : ∀ r ∈ t.rs, r.length = t.ks.length ∧ ∀ p ∈ t.ks.zip r, celOk p.1 p.2
theorem chB_lt {c : Nat} (h : chB c = true) : c < 128 := by
  simp [chB] at h
  omega
theorem celOk_str {k : Kin} {s : Str} (h : celOk k (.txt s)) : PyData.strOk s = true ∧ s.length ≤ 20 ∧ 1 ≤ s.length ∧ (∀ c ∈ s.cps.toList, chB c = true) ∧ (k = .t ∨ k = .c) := by
  cases k with
  | n => exact h.elim
  | t =>
    refine ⟨?_, h.2.1, h.1, h.2.2, .inl rfl⟩
    unfold PyData.strOk
    rw [← Array.all_toList, List.all_eq_true]
    intro c hc
    have := chB_lt (h.2.2 c hc)
    simp; omega
  | c =>
    refine ⟨?_, h.2.1, h.1, h.2.2, .inr rfl⟩
    unfold PyData.strOk
    rw [← Array.all_toList, List.all_eq_true]
    intro c hc
    have := chB_lt (h.2.2 c hc)
    simp; omega
theorem nice_cel {k : Kin} {c : Cel} (n : Nat) (h : celOk k c) : nice n (celD c) = true := by
  cases c with
  | no => simp [celD, nice]
  | num i => simp [celD, nice]
  | txt s =>
    obtain ⟨h1, h2, _⟩ := celOk_str h
    simp only [celD, nice, h1, Bool.true_and, decide_eq_true_eq]
    exact Nat.le_trans h2 (by decide)
theorem zip_mem_of_row {ks : List Kin} {r : List Cel} (hl : r.length = ks.length) {c : Cel} (h : c ∈ r) : ∃ k, (k, c) ∈ ks.zip r := by
  obtain ⟨i, hi, e⟩ := List.mem_iff_getElem.mp h
  have hi2 : i < ks.length := by omega
  refine ⟨ks[i], ?_⟩
  rw [List.mem_iff_getElem]
  exact ⟨i, by rw [List.length_zip]; omega, by rw [List.getElem_zip, e]⟩
theorem nice_row {t : Tab} (ht : TabOk t) {r : List Cel} (h : r ∈ t.rs) : nice 1 (rowD false r) = true := by
  obtain ⟨h1, h2⟩ := ht.row r h
  simp only [rowD, nice, Bool.and_eq_true, decide_eq_true_eq, List.all_eq_true]
  refine ⟨fun d hd => ?_, ?_⟩
  · obtain ⟨c, hc, rfl⟩ := List.mem_map.mp hd
    obtain ⟨k, hk⟩ := zip_mem_of_row h1 hc
    exact nice_cel 0 (h2 _ hk)
  · rw [List.length_map, h1]
    exact Nat.le_trans ht.k2 (by decide)
theorem kinS_ok (k : Kin) : PyData.strOk (kinS k) = true ∧ (kinS k).length ≤ 20 := by
  cases k <;> decide +kernel
theorem nice_tab {t : Tab} (ht : TabOk t) : nice 3 (tabD false t) = true := by
  have a : nice 2 (kindsD false t.ks) = true := by
    simp only [kindsD, nice, Bool.and_eq_true, decide_eq_true_eq, List.all_eq_true]
    refine ⟨fun d hd => ?_, ?_⟩
    · obtain ⟨k, _, rfl⟩ := List.mem_map.mp hd
      simp only [nice, (kinS_ok k).1, Bool.true_and, decide_eq_true_eq]
      exact Nat.le_trans (kinS_ok k).2 (by decide)
    · rw [List.length_map]; exact Nat.le_trans ht.k2 (by decide)
  have b : nice 2 (rowsD false t.rs) = true := by
    simp only [rowsD, nice, Bool.and_eq_true, decide_eq_true_eq, List.all_eq_true]
    refine ⟨fun d hd => ?_, ?_⟩
    · obtain ⟨r, hr, rfl⟩ := List.mem_map.mp hd
      exact nice_row ht hr
    · rw [List.length_map]; exact Nat.le_trans ht.r2 (by decide)
  simp only [tabD, nice, List.all_cons, List.all_nil, a, b, Bool.and_true, Bool.true_and, decide_eq_true_eq]
  show 2 ≤ sz
  decide
theorem kindB_kin (k : Kin) : kindB (.str (kinS k)) = true := by
  cases k <;> decide +kernel
theorem strsD_kinds (ks : List Kin) : strsD (ks.map fun k => D.str (kinS k)) = ks.map kinS := by
  induction ks with
  | nil => rfl
  | cons k ks ih => show kinS k :: strsD (ks.map fun k => D.str (kinS k)) = _; rw [ih]; rfl
theorem cellB_ok {k : Kin} {c : Cel} (h : celOk k c) : cellB (kinS k) (celD c) = true := by
  cases c with
  | no => rfl
  | num i =>
    cases k with
    | n => rfl
    | t => exact h.elim
    | c => exact h.elim
  | txt s =>
    obtain ⟨h1, h2, h3, h4, h5⟩ := celOk_str h
    have hk : kinS k ≠ "number" := by rcases h5 with rfl | rfl <;> decide +kernel
    simp only [celD, cellB, if_neg hk, Bool.and_eq_true, decide_eq_true_eq, List.all_eq_true]
    exact ⟨⟨by omega, by omega⟩, h4⟩
theorem rowB_ok {t : Tab} (ht : TabOk t) {o : Bool} {r : List Cel} (h : r ∈ t.rs) : rowB (t.ks.map kinS) (rowD o r) = true := by
  obtain ⟨h1, h2⟩ := ht.row r h
  simp only [rowD, rowB, List.length_map, h1, decide_true, Bool.true_and, List.all_eq_true]
  intro p hp
  rw [List.zip_map] at hp
  obtain ⟨q, hq, rfl⟩ := List.mem_map.mp hp
  exact cellB_ok (h2 q hq)
theorem tableB_ok {t : Tab} (ht : TabOk t) : tableB (tabD false t) = true := by
  have k1 := ht.k1
  have k2 := ht.k2
  have r1 := ht.r1
  have r2 := ht.r2
  simp only [tabD, kindsD, rowsD, tableB, strsD_kinds, List.length_map, Bool.and_eq_true, decide_eq_true_eq, List.all_eq_true]
  refine ⟨⟨⟨⟨by omega, by omega⟩, ?_⟩, by omega, by omega⟩, ?_⟩
  · intro d hd
    obtain ⟨k, _, rfl⟩ := List.mem_map.mp hd
    exact kindB_kin k
  · intro d hd
    obtain ⟨r, hr, rfl⟩ := List.mem_map.mp hd
    exact rowB_ok ht hr
abbrev SCheckTab (Γ : Glob) : Prop := ∀ t, TabOk t → Γ "check_table" [tabD false t] = .ok .non [tabD false t]
theorem check_tab {Γ : Glob} (h : SCheckTable Γ) : SCheckTab Γ := fun t ht => h 3 _ (nice_tab ht) (tableB_ok ht)
abbrev SSortKey (Γ : Glob) : Prop := ∀ (k : Kin) (c : Cel), celOk k c → Γ "sort_key" [.str (kinS k), celD c] = .ok (kyD (keyOf k c)) [.str (kinS k), celD c]
theorem t_sortKey {Γ : Glob} (k : Kin) (c : Cel) (h : celOk k c) : runDef Γ 2 bSortKey [.str (kinS k), celD c] = .ok (kyD (keyOf k c)) [.str (kinS k), celD c] := by
  refine rc_eq (run_wp2 (env := [some (.str (kinS k)), some (celD c)]) (ks := [true, true]) rfl rfl ?_)
  unfold bSortKey
  cases c with
  | no =>
    unfold celD
    walk_at "s"
    walk_at "s"
    simp [keyOf, kyD]
  | num i =>
    unfold celD
    walk_at "s"
    refine step ?_
    have e1 : ("caseless" : Str) ≠ "number" := by decide +kernel
    cases k with
    | n =>
      have e2 : kinS .n ≠ "caseless" := by decide +kernel
      simp! [e2]
      simp [keyOf, kyD]
    | t => exact h.elim
    | c => exact h.elim
  | txt s =>
    obtain ⟨h1, h2, h3, h4, h5⟩ := celOk_str h
    unfold celD
    walk_at "s"
    refine step ?_
    rcases h5 with rfl | rfl
    · have e2 : kinS .t ≠ "caseless" := by decide +kernel
      simp! [e2]
      simp [keyOf, kyD]
    · have e2 : kinS .c = "caseless" := rfl
      have e3 : vmop .lower (.str s) [] = some (.str (Txt.lower s)) := by
        rw [dLower, if_pos (by omega)]
      simp! [e2, e3]
      simp [keyOf, kyD]

def colK (t : Tab) (c : Nat) : List Ky := t.rs.map fun r => keyOf (t.ks.getD c .n) (r.getD c .no)
abbrev kysD (o : Bool) (xs : List Ky) : D := .lst o (xs.map kyD)
theorem own_ky (xs : List Ky) : noOwns (xs.map kyD) = true := noOwns_map _ (fun k => by cases k <;> rfl) xs
theorem fz_ky (xs : List Ky) : fzs (xs.map kyD) = xs.map kyD := fzs_map _ (fun k => by cases k <;> rfl) xs
theorem own_cel (xs : List Cel) : noOwns (xs.map celD) = true := noOwns_map _ (fun k => by cases k <;> rfl) xs
theorem fz_cel (xs : List Cel) : fzs (xs.map celD) = xs.map celD := fzs_map _ (fun k => by cases k <;> rfl) xs
theorem own_rows (xs : List (List Cel)) : noOwns (xs.map (rowD false)) = true := noOwns_map _ (fun k => rfl) xs
theorem fz_rows (xs : List (List Cel)) : fzs (xs.map (rowD false)) = xs.map (rowD false) := fzs_map _ (fun k => rfl) xs
theorem own_kinds (xs : List Kin) : noOwns (xs.map fun k => D.str (kinS k)) = true := noOwns_map _ (fun k => rfl) xs
theorem fz_kinds (xs : List Kin) : fzs (xs.map fun k => D.str (kinS k)) = xs.map fun k => D.str (kinS k) := fzs_map _ (fun k => rfl) xs
theorem atI_nat {α : Type} (xs : List α) (i : Nat) (h : i < xs.length) : atI xs (i : Int) = some xs[i] := by
  unfold atI ixN
  rw [if_pos (by omega), if_pos (by omega)]
  simp [h]
theorem atI_natD {α β : Type} (f : α → β) (xs : List α) (i : Nat) (h : i < xs.length) (d : α) : atI (xs.map f) (i : Int) = some (f (xs.getD i d)) := by
  rw [atI_mapF, atI_nat xs i h]
  simp [h]
abbrev SColKeys (Γ : Glob) : Prop := ∀ (t : Tab) (c : Nat), TabOk t → c < t.ks.length → ∃ ps, Γ "column_keys" [tabD false t, .int (c : Int)] = .ok (kysD true (colK t c)) ps
theorem cell_own (c : Cel) : (celD c).noOwn = true := by cases c <;> rfl
theorem cell_fz (c : Cel) : (celD c).fz = celD c := by cases c <;> rfl
theorem ky_own (c : Ky) : (kyD c).noOwn = true := by cases c <;> rfl
theorem ky_fz (c : Ky) : (kyD c).fz = kyD c := by cases c <;> rfl
theorem t_colKeys {Γ : Glob} (hs : SSortKey Γ) (t : Tab) (c : Nat) (ht : TabOk t) (hc : c < t.ks.length) : ∃ ps, runDef Γ 5 bColKeys [tabD false t, .int (c : Int)] = .ok (kysD true (colK t c)) ps := by
  refine rc_d ?_
  · refine run_wp2 (env := [some (tabD false t), some (.int (c : Int)), none, none, none]) (ks := [true, true]) rfl rfl ?_
    unfold bColKeys tabD kindsD rowsD
    refine step ?_
    simp! [own_kinds, own_rows, fz_kinds, fz_rows]
    refine step ?_
    simp! [own_rows]
    refine comp_m t.rs (rowD false) kyD (fun r => keyOf (t.ks.getD c .n) (r.getD c .no)) rfl (Nat.le_trans ht.r2 (by decide)) ?_ ?_
    · intro r hr
      obtain ⟨r1, r2⟩ := ht.row r hr
      have a1 := atI_natD (fun k => D.str (kinS k)) t.ks c hc .n
      have a2 := atI_natD celD r c (by omega) .no
      have hok : celOk (t.ks.getD c .n) (r.getD c .no) := by
        refine r2 (_, _) ?_
        rw [List.mem_iff_getElem]
        refine ⟨c, by rw [List.length_zip]; omega, ?_⟩
        rw [List.getElem_zip]
        simp [hc, show c < r.length by omega]
      have e1 := hs _ _ hok
      unfold rowD
      simp! [a1, a2, cell_own, cell_fz, e1]
    · simp! []
      simp [colK]
def leK (a b : Ky) : Bool := !ltK b a
theorem leK_pw (l : List Ky) : (l.mergeSort leK).Pairwise fun a b => ltK b a = false := by
  have := List.pairwise_mergeSort (le := leK) (fun a b c h1 h2 => by
    unfold leK at *
    have h1 : ltK b a = false := by simpa using h1
    have h2 : ltK c b = false := by simpa using h2
    simp [ltK_ng h2 h1]) (fun a b => by
    unfold leK
    cases h : ltK b a with
    | false => rfl
    | true => rw [ltK_asy h]; rfl) l
  exact this.imp fun h => by simpa [leK] using h
def ddK (l : List Ky) : List Ky := l.foldl (fun acc k => if acc.contains k then acc else acc ++ [k]) []
theorem ddK_snoc (l : List Ky) (k : Ky) : ddK (l ++ [k]) = if (ddK l).contains k then ddK l else ddK l ++ [k] := by unfold ddK; rw [List.foldl_append]; rfl
theorem snoc_ind {α : Type} {P : List α → Prop} (h0 : P []) (hs : ∀ l a, P l → P (l ++ [a])) (l : List α) : P l := by
  have : ∀ n (l : List α), l.length = n → P l := by
    intro n
    induction n with
    | zero => intro l h; rw [List.length_eq_zero_iff.mp h]; exact h0
    | succ n ih =>
      intro l h
      rcases List.eq_nil_or_concat l with rfl | ⟨m, a, rfl⟩
      · cases h
      · rw [List.concat_eq_append] at h ⊢
        exact hs m a (ih m (by simpa using h))
  exact this _ l rfl
theorem ddK_mem (l : List Ky) (k : Ky) : k ∈ ddK l ↔ k ∈ l := by
  induction l using snoc_ind with
  | h0 => simp [ddK]
  | hs l a ih =>
    rw [ddK_snoc]
    split
    · rename_i h
      have h : a ∈ ddK l := by simpa using h
      rw [ih, List.mem_append, List.mem_singleton]
      constructor
      · exact fun z => .inl z
      · rintro (z | rfl)
        · exact z
        · exact ih.mp h
    · rw [List.mem_append, List.mem_append, ih]
theorem ddK_pw (l : List Ky) (h : l.Pairwise fun a b => ltK b a = false) : (ddK l).Pairwise fun a b => ltK a b = true := by
  induction l using snoc_ind with
  | h0 => exact List.Pairwise.nil
  | hs l a ih =>
    obtain ⟨h1, _, h3⟩ := List.pairwise_append.mp h
    rw [ddK_snoc]
    split
    · exact ih h1
    · rename_i hc
      have hc : a ∉ ddK l := by simpa using hc
      refine List.pairwise_append.mpr ⟨ih h1, List.pairwise_singleton _ _, ?_⟩
      intro x hx y hy
      rw [List.mem_singleton.mp hy]
      have hx' := (ddK_mem l x).mp hx
      cases q : ltK x a with
      | true => rfl
      | false =>
        have := ltK_tot q (h3 x hx' a (by simp))
        subst this
        exact absurd hx hc
theorem ddK_len (l : List Ky) : (ddK l).length ≤ l.length := by
  induction l using snoc_ind with
  | h0 => simp [ddK]
  | hs l a ih =>
    rw [ddK_snoc]
    split
    · simp; omega
    · simp; omega
def dsK (l : List Ky) : List Ky := ddK (l.mergeSort leK)
def rkOf (l : List Ky) (k : Ky) : Nat := (dsK l).idxOf k
theorem dsK_mem (l : List Ky) (k : Ky) : k ∈ dsK l ↔ k ∈ l := by
  unfold dsK
  rw [ddK_mem]
  exact (List.mergeSort_perm l leK).mem_iff
theorem dsK_pw (l : List Ky) : (dsK l).Pairwise fun a b => ltK a b = true := ddK_pw _ (leK_pw l)
theorem dsK_len (l : List Ky) : (dsK l).length ≤ l.length := by
  have := ddK_len (l.mergeSort leK)
  rwa [List.length_mergeSort] at this
theorem rkOf_lt {l : List Ky} {k : Ky} (h : k ∈ l) : rkOf l k < l.length := by
  have := List.idxOf_lt_length_of_mem ((dsK_mem l k).mpr h)
  have h2 := dsK_len l
  unfold rkOf
  omega
theorem rkOf_mono {l : List Ky} {a b : Ky} (ha : a ∈ l) (hb : b ∈ l) : rkOf l a < rkOf l b ↔ ltK a b = true := by
  have pw := dsK_pw l
  have ia := List.idxOf_lt_length_of_mem ((dsK_mem l a).mpr ha)
  have ib := List.idxOf_lt_length_of_mem ((dsK_mem l b).mpr hb)
  have ga : (dsK l)[(dsK l).idxOf a] = a := List.getElem_idxOf ia
  have gb : (dsK l)[(dsK l).idxOf b] = b := List.getElem_idxOf ib
  have P := List.pairwise_iff_getElem.mp pw
  unfold rkOf
  constructor
  · intro h
    have := P _ _ ia ib h
    rwa [ga, gb] at this
  · intro h
    rcases Nat.lt_trichotomy ((dsK l).idxOf a) ((dsK l).idxOf b) with q | q | q
    · exact q
    · exfalso
      have e : a = b := by rw [← ga, ← gb]; simp only [q]
      subst e
      rw [ltK_irr] at h; cases h
    · exfalso
      have := P _ _ ib ia q
      rw [ga, gb] at this
      rw [ltK_asy h] at this; cases this

theorem kyD_solid (k : Ky) : (kyD k).solid = true := by cases k <;> rfl
theorem same_ky (a b : Ky) : D.same (kyD a) (kyD b) = (a == b) := by
  by_cases h : a = b
  · subst h
    rw [same_self (kyD_solid a)]
    simp
  · have : D.same (kyD a) (kyD b) = false := by
      cases q : D.same (kyD a) (kyD b) with
      | false => rfl
      | true => exact absurd (kyD_inj (same_eq q)) h
    rw [this]
    simp [h]
theorem findIdx_mem {k : Ky} : ∀ {l : List Ky}, k ∈ l → l.findIdx? (fun z => z == k) = some (l.idxOf k)
  | x :: l, h => by
    rw [List.findIdx?_cons, List.idxOf_cons]
    by_cases e : x = k
    · simp [e]
    · have h : k ∈ l := (List.mem_cons.mp h).resolve_left fun z => e z.symm
      simp [show (x == k) = false by simpa using e, findIdx_mem h]
theorem keyAt_ky (l : List Ky) (k : Ky) : keyAt (l.map kyD) (kyD k) = l.findIdx? fun z => z == k := by
  unfold keyAt
  rw [List.findIdx?_map]
  congr 1
  funext z
  exact same_ky z k
theorem keyAt_mem {l : List Ky} {k : Ky} (h : k ∈ l) : keyAt (l.map kyD) (kyD k) = some (l.idxOf k) := by rw [keyAt_ky, findIdx_mem h]
theorem keyAt_not {l : List Ky} {k : Ky} (h : k ∉ l) : keyAt (l.map kyD) (kyD k) = none := by
  rw [keyAt_ky, List.findIdx?_eq_none_iff]
  intro x hx
  simp
  rintro rfl
  exact h hx
theorem keyOk_ky (k : Ky) : keyOk true (kyD k) = true := by cases k <;> rfl
def kyOk (k : Ky) : Prop := match k with
  | .txt s => PyData.strOk s = true
  | _ => True
def KOne (ys : List Ky) : Prop := (∀ k ∈ ys, kyOk k) ∧ ((∀ k ∈ ys, ∀ s, k ≠ .txt s) ∨ (∀ k ∈ ys, ∀ i, k ≠ .num i))
theorem flat_ky {k : Ky} (h : kyOk k) : flat 60 (kyD k) = true := by
  cases k with
  | no => simp [kyD, flat]
  | num i => simp [kyD, flat]
  | txt s =>
    have h : PyData.strOk s = true := h
    simp [kyD, flat, h]
theorem sortOk_ky {ys : List Ky} (h : KOne ys) : sortOk (ys.map kyD) = true := by
  unfold sortOk
  have hf : (ys.map kyD).all (flat 60) = true := by
    rw [List.all_eq_true]
    intro d hd
    obtain ⟨k, hk, rfl⟩ := List.mem_map.mp hd
    exact flat_ky (h.1 k hk)
  rw [hf, Bool.true_and, Bool.or_eq_true]
  rcases h.2 with h2 | h2
  · left
    rw [Bool.and_eq_true]
    refine ⟨?_, ?_⟩
    · apply alike_self_of
      intro a ha b hb
      cases a <;> cases b <;> first | exact absurd rfl (h2 _ ha _) | exact absurd rfl (h2 _ hb _) | simp [kyD, D.toP, toPs, PySem.W.alike, PySem.W.alikeAll]
    · rw [Bool.or_eq_true]
      left
      rw [List.all_eq_true]
      intro d hd
      obtain ⟨k, hk, rfl⟩ := List.mem_map.mp hd
      cases k <;> rfl
  · right
    unfold allTwo
    rw [List.all_eq_true]
    intro x hx
    obtain ⟨a, ha, rfl⟩ := List.mem_map.mp hx
    rw [List.all_eq_true]
    intro y hy
    obtain ⟨b, hb, rfl⟩ := List.mem_map.mp hy
    cases a <;> cases b <;> first | exact absurd rfl (h2 _ ha _) | exact absurd rfl (h2 _ hb _) | rfl
theorem sortD_ky (ys : List Ky) : sortD (ys.map kyD) = (ys.mergeSort leK).map kyD := sortD_mapL kyD leK ys fun a _ b _ => rfl
abbrev natsD (o : Bool) (l : List Nat) : D := .lst o (l.map fun (i : Nat) => .int (i : Int))
theorem own_nats (xs : List Nat) : noOwns (xs.map fun (i : Nat) => D.int (i : Int)) = true := noOwns_map _ (fun _ => rfl) xs
theorem fz_nats (xs : List Nat) : fzs (xs.map fun (i : Nat) => D.int (i : Int)) = xs.map fun (i : Nat) => D.int (i : Int) := fzs_map _ (fun _ => rfl) xs
abbrev SRanksIn (Γ : Glob) : Prop := ∀ ys : List Ky, KOne ys → ys.length ≤ 100000 → ∃ ps, Γ "ranks_in" [kysD false ys] = .ok (natsD true (ys.map (rkOf ys))) ps
theorem t_ranksIn {Γ : Glob} (ys : List Ky) (h : KOne ys) (hz : ys.length ≤ 100000) : ∃ ps, runDef Γ 3 bRanksIn [kysD false ys] = .ok (natsD true (ys.map (rkOf ys))) ps := by
  refine rc_d ?_
  · refine run_wp2 (env := [some (kysD false ys), none, none]) (ks := [true]) rfl rfl ?_
    unfold bRanksIn
    walk_at "s"
    refine step ?_
    have h1 : ys.length ≤ 16777216 := by omega
    simp! [own_ky, sortOk_ky h, h1, sortD_ky, fz_ky]
    refine loop_p (ys.mergeSort leK) kyD (fun s : List Ky × Option D => [some (kysD false ys), some (.dic true true (s.1.map kyD) ((List.range s.1.length).map fun (i : Nat) => .int (i : Int))), s.2]) (fun pre s => s.1 = ddK pre) ([], none) rfl (by intro _; rfl) rfl ?_ ?_
    · rintro pre k post ⟨acc, l⟩ hsp rfl
      refine ⟨_, rfl, ?_⟩
      dsimp only
      simp! []
      refine step ?_
      have hl : (ddK pre).length < 16777216 := by
        have l1 := ddK_len pre
        have l2 := congrArg List.length hsp
        simp [List.length_mergeSort] at l2
        omega
      have hsn := ddK_snoc pre k
      by_cases hm : k ∈ ddK pre
      · have e1 := keyAt_mem hm
        simp! [dNinD, keyOk_ky, e1, Option.isSome_some]
        refine ⟨(ddK (pre ++ [k]), some (kyD k)), ?_, rfl⟩
        rw [hsn, if_pos (by simpa using hm)]
      · have e1 := keyAt_not hm
        simp! [dNinD, keyOk_ky, e1, Option.isSome_none]
        refine step ?_
        simp! [dLenD, ky_fz, dputOp, keyOk_ky, hl, putD, e1]
        refine ⟨(ddK (pre ++ [k]), some (kyD k)), ?_, rfl⟩
        rw [hsn, if_neg (by simpa using hm)]
        simp [List.range_succ]
    · rintro ⟨acc, l⟩ rfl
      simp! []
      refine step ?_
      simp! [own_ky]
      refine comp_m ys kyD (fun (i : Nat) => .int (i : Int)) (rkOf ys) rfl (Nat.le_trans hz (by decide)) ?_ ?_
      · intro k hk
        have hm : k ∈ ddK (ys.mergeSort leK) := (dsK_mem ys k).mpr hk
        have e1 := keyAt_mem hm
        have hlt := List.idxOf_lt_length_of_mem hm
        have e2 : ((List.range (ddK (ys.mergeSort leK)).length).map fun (i : Nat) => D.int (i : Int))[(ddK (ys.mergeSort leK)).idxOf k]? = some (.int ((ddK (ys.mergeSort leK)).idxOf k : Nat)) := by
          simp [hlt]
        simp! [cDget, two, ky_fz, dgetOp, keyOk_ky, lookD, e1, e2]
        rfl
      · simp! []
theorem chr_lower {s : Str} (h : ∀ c ∈ s.cps.toList, chB c = true) : PyData.strOk (Txt.lower s) = true := by
  rw [lower_ascii fun c hc => chB_lt (h c hc)]
  unfold PyData.strOk
  rw [← Array.all_toList, List.all_eq_true]
  intro c hc
  rw [Array.toList_map] at hc
  obtain ⟨b, hb, rfl⟩ := List.mem_map.mp hc
  have := chB_lt (h b hb)
  unfold lo1
  split <;> simp <;> omega
theorem keyOf_ok {k : Kin} {c : Cel} (h : celOk k c) : kyOk (keyOf k c) := by
  cases c with
  | no => cases k <;> trivial
  | num i => cases k <;> trivial
  | txt s =>
    obtain ⟨h1, h2, h3, h4, h5⟩ := celOk_str h
    rcases h5 with rfl | rfl
    · exact h1
    · exact chr_lower h4
theorem cell_ok {t : Tab} (ht : TabOk t) {r : List Cel} (hr : r ∈ t.rs) {c : Nat} (hc : c < t.ks.length) : celOk (t.ks.getD c .n) (r.getD c .no) := by
  obtain ⟨r1, r2⟩ := ht.row r hr
  refine r2 (_, _) ?_
  rw [List.mem_iff_getElem]
  refine ⟨c, by rw [List.length_zip]; omega, ?_⟩
  rw [List.getElem_zip]
  simp [hc, show c < r.length by omega]
theorem colK_one {t : Tab} (ht : TabOk t) {c : Nat} (hc : c < t.ks.length) : KOne (colK t c) := by
  refine ⟨fun k hk => ?_, ?_⟩
  · obtain ⟨r, hr, rfl⟩ := List.mem_map.mp hk
    exact keyOf_ok (cell_ok ht hr hc)
  · cases hkd : t.ks.getD c .n with
    | n =>
      left
      intro k hk s
      obtain ⟨r, hr, rfl⟩ := List.mem_map.mp hk
      have := cell_ok ht hr hc
      rw [hkd] at this ⊢
      cases q : r.getD c .no <;> rw [q] at this <;> first | exact this.elim | (simp [keyOf])
    | t =>
      right
      intro k hk s
      obtain ⟨r, hr, rfl⟩ := List.mem_map.mp hk
      have := cell_ok ht hr hc
      rw [hkd] at this ⊢
      cases q : r.getD c .no <;> rw [q] at this <;> first | exact this.elim | (simp [keyOf])
    | c =>
      right
      intro k hk s
      obtain ⟨r, hr, rfl⟩ := List.mem_map.mp hk
      have := cell_ok ht hr hc
      rw [hkd] at this ⊢
      cases q : r.getD c .no <;> rw [q] at this <;> first | exact this.elim | (simp [keyOf])
def ranksL (t : Tab) : List (List Nat) := (List.range t.ks.length).map fun c => (colK t c).map (rkOf (colK t c))
abbrev ranksD (o : Bool) (R : List (List Nat)) : D := .lst o (R.map (natsD o))
abbrev SRanksOf (Γ : Glob) : Prop := ∀ t, TabOk t → ∃ ps, Γ "ranks_of" [tabD false t] = .ok (ranksD true (ranksL t)) ps
theorem t_ranksOf {Γ : Glob} (h1 : SColKeys Γ) (h2 : SRanksIn Γ) (t : Tab) (ht : TabOk t) : ∃ ps, runDef Γ 2 bRanksOf [tabD false t] = .ok (ranksD true (ranksL t)) ps := by
  refine rc_d ?_
  · generalize hy : tabD false t = y
    refine run_wp2 (env := [some y, none]) (ks := [true]) rfl rfl ?_
    unfold bRanksOf
    refine step ?_
    subst hy
    have et : tabD false t = .tup [kindsD false t.ks, rowsD false t.rs] := rfl
    have ek : bltop .len [kindsD false t.ks] = some (.int (t.ks.length : Int)) := by unfold kindsD; rw [dLenL, List.length_map]
    have k2 := ht.k2
    have hr : inR (t.ks.length : Int) := ⟨by omega, by omega⟩
    rw [et]
    simp! [ek, hr]
    rw [upto0, Int.toNat_natCast]
    refine comp_m (List.range t.ks.length) (fun (i : Nat) => .int (i : Int)) (natsD true) (fun c => (colK t c).map (rkOf (colK t c))) rfl (by rw [List.length_range]; exact Nat.le_trans k2 (by decide)) ?_ ?_
    · intro c hc
      have hc := List.mem_range.mp hc
      obtain ⟨p1, e1⟩ := h1 t c ht hc
      have hz : (colK t c).length ≤ 100000 := by unfold colK; rw [List.length_map]; have := ht.r2; omega
      obtain ⟨p2, e2⟩ := h2 _ (colK_one ht hc) hz
      have ef : (D.tup [kindsD false t.ks, rowsD false t.rs]).fz = tabD false t := by unfold kindsD rowsD tabD; simp only [D.fz, fzs]; rfl
      have e1 : Γ "column_keys" [.tup [kindsD false t.ks, rowsD false t.rs], .int (c : Int)] = _ := e1
      have f1 : (kindsD false t.ks).fz = kindsD false t.ks := rfl
      have f2 : (rowsD false t.rs).fz = rowsD false t.rs := rfl
      simp! [f1, f2, e1, fz_ky, e2]
    · simp! []
      simp [ranksL]

end Hp

set_option Elab.async false
set_option linter.all false
set_option maxRecDepth 100000
set_option maxHeartbeats 0
namespace K02
open Hc PySem PySem.Spec PyProof.Rows L2
def top (i : Nat) : Stmt := PySem.Challenge.pw_headerclicks_k02_cells_compared.main.body.getD i (.Pass ⟨0, 0, 0, 0⟩)
def b_is_integer : List CS := [
  .ret (.andE (.isi (.nm 0) [.int]) (.notE (.isi (.nm 0) [.bool])))]
def d_is_integer : DefR := ⟨"is_integer", ["value"], ["value"], top 8, b_is_integer⟩
def b_is_kind : List CS := [
  .ret (.andE (.isi (.nm 0) [.str]) (.cmp .inn (.nm 0) (.tup [(.gc "NUMBER" (.str "number")), (.gc "TEXT" (.str "text")), (.gc "CASELESS" (.str "caseless"))])))]
def d_is_kind : DefR := ⟨"is_kind", ["value"], ["value"], top 9, b_is_kind⟩
def b_is_cell_character : List CS := [
  .ret (.andE (.chain .le .le (.lit (.str " ")) (.nm 0) (.lit (.str "~"))) (.andE (.cmp .ne (.nm 0) (.lit (.str "|"))) (.notE (.chain .lt .lt (.lit (.str "$")) (.nm 0) (.lit (.str "&"))))))]
def d_is_cell_character : DefR := ⟨"is_cell_character", ["character"], ["character"], top 10, b_is_cell_character⟩
def b_is_cell : List CS := [
  .ifS (.cmp .is_ (.nm 1) (.lit .non)) [.ret (.lit (.bl true))] [],
  .ifS (.cmp .eq (.nm 0) (.gc "NUMBER" (.str "number"))) [.ret (.call "is_integer" [(.nm 1)])] [],
  .ifS (.orE (.notE (.isi (.nm 1) [.str])) (.notE (.chain .le .le (.lit (.int 1)) (.blt .len [(.nm 1)]) (.gc "MAX_CHARACTERS" (.int 20))))) [.ret (.lit (.bl false))] [],
  .ret (.blt .all [(.comp [2] (.nm 2) (.nm 1) .nop (.call "is_cell_character" [(.nm 2)]))])]
def d_is_cell : DefR := ⟨"is_cell", ["kind", "value"], ["kind", "value", "character"], top 11, b_is_cell⟩
def b_sort_key : List CS := [
  .ifS (.cmp .is_ (.nm 1) (.lit .non)) [.ret (.tup [(.lit (.int 0)), (.lit (.int 0))])] [],
  .ret (.tup [(.lit (.int 1)), (.ife (.cmp .eq (.nm 0) (.gc "CASELESS" (.str "caseless"))) (.vm .lower (.nm 1) []) (.nm 1))])]
def d_sort_key : DefR := ⟨"sort_key", ["kind", "cell"], ["kind", "cell"], top 12, b_sort_key⟩
def b_compare_cells : List CS := [
  .ifS (.orE (.notE (.call "is_kind" [(.nm 0)])) (.orE (.notE (.call "is_cell" [(.nm 0), (.nm 1)])) (.notE (.call "is_cell" [(.nm 0), (.nm 2)])))) [.never] [],
  .par 3 4 (.call "sort_key" [(.nm 0), (.nm 1)]) (.call "sort_key" [(.nm 0), (.nm 2)]),
  .ret (.bin .sub (.blt .int [(.cmp .gt (.nm 3) (.nm 4))]) (.blt .int [(.cmp .lt (.nm 3) (.nm 4))]))]
def d_compare_cells : DefR := ⟨"compare_cells", ["kind", "first", "second"], ["kind", "first", "second", "one", "other"], top 13, b_compare_cells⟩
def b_law_source : List CS := [
  .ret (.lst [(.blt .max2 [(.lit (.int 0)), (.bin .sub (.nm 0) (.bin .pow (.lit (.int 10)) (.lit (.int 18))))]), (.bin .add (.bin .mul (.bin .mod (.nm 0) (.bin .add (.bin .pow (.lit (.int 10)) (.lit (.int 38))) (.lit (.int 133)))) (.lit (.int 53))) (.nm 1)), (.lit (.int 0))])]
def d_law_source : DefR := ⟨"_law_source", ["_law_cell", "_law_k"], ["_law_cell", "_law_k"], top 15, b_law_source⟩
def b_law_draw : List CS := [
  .ifS (.cmp .gt (.sub (.nm 0) (.lit (.int 0))) (.lit (.int 0))) [.set 2 (.bin .mod (.sub (.nm 0) (.lit (.int 0))) (.nm 1)), .setsub (.nm 0) (.lit (.int 0)) (.bin .fdv (.sub (.nm 0) (.lit (.int 0))) (.nm 1)), .ret (.mv 2)] [],
  .setsub (.nm 0) (.lit (.int 2)) (.bin .add (.sub (.nm 0) (.lit (.int 2))) (.lit (.int 1))),
  .set 3 (.bin .mod (.bin .pow (.bin .add (.sub (.nm 0) (.lit (.int 1))) (.bin .mul (.lit (.int 700022)) (.sub (.nm 0) (.lit (.int 2))))) (.lit (.int 3))) (.bin .add (.bin .pow (.lit (.int 10)) (.lit (.int 37))) (.lit (.int 43)))),
  .set 3 (.bin .mod (.bin .pow (.bin .add (.nm 3) (.bin .mul (.lit (.int 31)) (.sub (.nm 0) (.lit (.int 2))))) (.lit (.int 3))) (.bin .add (.bin .pow (.lit (.int 10)) (.lit (.int 36))) (.lit (.int 67)))),
  .ret (.bin .mod (.bin .fdv (.nm 3) (.lit (.int 65537))) (.nm 1))]
def d_law_draw : DefR := ⟨"_law_draw", ["_law_source_here", "_law_count"], ["_law_source_here", "_law_count", "_law_digit", "_law_mixed"], top 16, b_law_draw⟩
def b_law_word : List CS := [
  .set 1 (.bin .add (.lit (.str " !#$&'()*+,-./09:;<=>?@ABYZ[]^_`abyz{}~")) (.lit (.str "\""))),
  .set 2 (.lst [(.lit (.str "a")), (.lit (.str "A")), (.lit (.str "b")), (.lit (.str "B")), (.lit (.str "ab")), (.lit (.str "aB")), (.lit (.str "Ab")), (.lit (.str "Z")), (.lit (.str "[")), (.lit (.str "_")), (.lit (.str " ")), (.lit (.str "~")), (.lit (.str "0")), (.lit (.str "10")), (.lit (.str "9")), (.lit (.str "-1"))]),
  .set 3 (.sub (.lst [(.lit (.int 1)), (.lit (.int 2)), (.lit (.int 20))]) (.call "_law_draw" [(.io 0), (.lit (.int 3))])),
  .set 4 (.vm .join (.lit (.str "")) [(.comp [5] (.nm 5) (.rng1 (.nm 3)) .nop (.sub (.nm 1) (.call "_law_draw" [(.io 0), (.blt .len [(.nm 1)])])))]),
  .ret (.sub (.lst [(.sub (.nm 2) (.call "_law_draw" [(.io 0), (.lit (.int 16))])), (.nm 4)]) (.bin .fdv (.call "_law_draw" [(.io 0), (.lit (.int 4))]) (.lit (.int 3))))]
def d_law_word : DefR := ⟨"_law_word", ["_law_source_here"], ["_law_source_here", "_law_signs", "_law_short", "_law_size", "_law_word_here", "_law_k"], top 17, b_law_word⟩
def b_law_number : List CS := [
  .set 1 (.sub (.lst [(.lit (.int 3)), (.lit (.int 12)), (.bin .pow (.lit (.int 10)) (.lit (.int 31)))]) (.call "_law_draw" [(.io 0), (.lit (.int 3))])),
  .ret (.bin .mul (.call "_law_draw" [(.io 0), (.nm 1)]) (.sub (.lst [(.lit (.int 1)), (.neg (.lit (.int 1)))]) (.call "_law_draw" [(.io 0), (.lit (.int 2))])))]
def d_law_number : DefR := ⟨"_law_number", ["_law_source_here"], ["_law_source_here", "_law_wide"], top 18, b_law_number⟩
def b_law_cells : List CS := [
  .set 3 (.lst []),
  .forS (.nm 4) (.rng1 (.sub (.lst [(.lit (.int 1)), (.lit (.int 2)), (.lit (.int 4)), (.lit (.int 9))]) (.call "_law_draw" [(.io 0), (.lit (.int 4))]))) [.expr (.mu .append (.nm 3) [(.ife (.cmp .eq (.nm 1) (.lit (.str "number"))) (.call "_law_number" [(.io 0)]) (.call "_law_word" [(.io 0)]))])],
  .set 3 (.bin .add (.nm 3) (.bin .mul (.lst [(.lit .non)]) (.call "_law_draw" [(.io 0), (.lit (.int 2))]))),
  .ret (.comp [4] (.nm 4) (.rng1 (.nm 2)) .nop (.sub (.nm 3) (.call "_law_draw" [(.io 0), (.blt .len [(.nm 3)])])))]
def d_law_cells : DefR := ⟨"_law_cells", ["_law_source_here", "_law_kind", "_law_size"], ["_law_source_here", "_law_kind", "_law_size", "_law_pool", "_law_k"], top 19, b_law_cells⟩
def b_law_compared : List CS := [
  .ifS (.orE (.cmp .is_ (.nm 1) (.lit .non)) (.cmp .is_ (.nm 2) (.lit .non))) [.ret (.bin .sub (.blt .int [(.cmp .is_ (.nm 2) (.lit .non))]) (.blt .int [(.cmp .is_ (.nm 1) (.lit .non))]))] [],
  .ifS (.cmp .eq (.nm 0) (.lit (.str "caseless"))) [.par 1 2 (.vm .lower (.nm 1) []) (.vm .lower (.nm 2) [])] [],
  .ret (.bin .sub (.blt .int [(.cmp .gt (.nm 1) (.nm 2))]) (.blt .int [(.cmp .lt (.nm 1) (.nm 2))]))]
def d_law_compared : DefR := ⟨"_law_compared", ["_law_kind", "_law_one", "_law_other"], ["_law_kind", "_law_one", "_law_other"], top 21, b_law_compared⟩
def b_law_holds : List CS := [
  .set 2 (.sub (.lst [(.lit (.str "number")), (.lit (.str "text")), (.lit (.str "caseless"))]) (.call "_law_draw" [(.io 0), (.lit (.int 3))])),
  .set 3 (.call "_law_cells" [(.io 0), (.nm 2), (.ife (.nm 1) (.lit (.int 3)) (.bin .add (.lit (.int 2)) (.call "_law_draw" [(.io 0), (.lit (.int 11))])))]),
  .set 4 (.dnew true),
  .forS (.tup [5, 6]) (.enu (.nm 3)) [.forS (.tup [7, 8]) (.enu (.nm 3)) [.dset 4 (.tup [(.nm 5), (.nm 7)]) (.call "compare_cells" [(.nm 2), (.nm 6), (.nm 8)]), .ifS (.cmp .ne (.blt .repr [(.dget (.nm 4) (.tup [(.nm 5), (.nm 7)]))]) (.blt .repr [(.call "_law_compared" [(.nm 2), (.nm 6), (.nm 8)])])) [.ret (.lit (.bl false))] []]],
  .set 9 (.lrng1 (.blt .len [(.nm 3)])),
  .forS (.nm 5) (.nm 9) [.forS (.nm 7) (.nm 9) [.ifS (.cmp .ne (.dget (.nm 4) (.tup [(.nm 5), (.nm 7)])) (.bin .sub (.lit (.int 0)) (.dget (.nm 4) (.tup [(.nm 7), (.nm 5)])))) [.ret (.lit (.bl false))] [], .ifS (.cmp .ne (.comp [11] (.nm 11) (.nm 9) (.andE (.cmp .le (.dget (.nm 4) (.tup [(.nm 5), (.nm 7)])) (.lit (.int 0))) (.andE (.cmp .le (.dget (.nm 4) (.tup [(.nm 7), (.nm 11)])) (.lit (.int 0))) (.cmp .gt (.dget (.nm 4) (.tup [(.nm 5), (.nm 11)])) (.lit (.int 0))))) (.lit (.int 1))) (.lst [])) [.ret (.lit (.bl false))] []]],
  .ifS (.cmp .ne (.comp [10] (.nm 10) (.lst [(.lit (.str "a")), (.lit (.str "Z")), (.lit (.str "^"))]) .nop (.call "compare_cells" [(.lit (.str "caseless")), (.lit (.str "_")), (.nm 10)])) (.lst [(.neg (.lit (.int 1))), (.neg (.lit (.int 1))), (.lit (.int 1))])) [.ret (.lit (.bl false))] [],
  .ret (.andE (.cmp .eq (.call "compare_cells" [(.lit (.str "caseless")), (.lit (.str "aZ")), (.lit (.str "Az"))]) (.lit (.int 0))) (.cmp .eq (.call "compare_cells" [(.lit (.str "text")), (.lit (.str "Z")), (.lit (.str "a"))]) (.neg (.lit (.int 1)))))]
def d_law_holds : DefR := ⟨"_law_holds", ["_law_source_here", "_law_is_small"], ["_law_source_here", "_law_is_small", "_law_kind", "_law_cells_here", "_law_some", "_law_k", "_law_one", "_law_j", "_law_other", "_law_count", "_law_letter", "_law_i"], top 22, b_law_holds⟩
def b_law : List CS := [
  .forS (.tup [1, 2]) (.enu (.sli (.bin .add (.nm 0) (.lst [(.lit (.int 0))])) .nop (.blt .max2 [(.lit (.int 1)), (.blt .min2 [(.blt .len [(.nm 0)]), (.lit (.int 12))])]))) [.ifS (.notE (.call "_law_holds" [(.ow (.call "_law_source" [(.nm 2), (.nm 1)])), (.cmp .eq (.nm 0) (.lst []))])) [.ret (.lit (.bl false))] []],
  .ret (.lit (.bl true))]
def d_law : DefR := ⟨"law", ["_law_script"], ["_law_script", "_law_k", "_law_cell"], top 23, b_law⟩
def gi : List (Str × D) := [("CASELESS", .str "caseless"), ("MAX_CHARACTERS", .int 20), ("NUMBER", .str "number"), ("TEXT", .str "text")]
def fr : List Str := ["all", "bool", "enumerate", "int", "isinstance", "len", "list", "max", "min", "range", "repr", "str"]
def kb : List (Str × List Str × List Nat) := []
def p_0 : List DefR := []
def p_1 : List DefR := d_is_integer :: p_0
def p_2 : List DefR := d_is_kind :: p_1
def p_3 : List DefR := d_is_cell_character :: p_2
def p_4 : List DefR := d_is_cell :: p_3
def p_5 : List DefR := d_sort_key :: p_4
def p_6 : List DefR := d_compare_cells :: p_5
def p_7 : List DefR := d_law_source :: p_6
def p_8 : List DefR := d_law_draw :: p_7
def p_9 : List DefR := d_law_word :: p_8
def p_10 : List DefR := d_law_number :: p_9
def p_11 : List DefR := d_law_cells :: p_10
def p_12 : List DefR := d_law_compared :: p_11
def p_13 : List DefR := d_law_holds :: p_12
def p_14 : List DefR := d_law :: p_13
abbrev prog : List DefR := p_14
theorem chk : chkP gi fr kb prog = true := by decide +kernel
def fn : List He.DefD := [⟨("is_integer", none), "is_integer", "is_integer", defArgs (top 8), defBody (top 8), defScope (top 8), [], []⟩, ⟨("is_kind", none), "is_kind", "is_kind", defArgs (top 9), defBody (top 9), defScope (top 9), [], []⟩, ⟨("is_cell_character", none), "is_cell_character", "is_cell_character", defArgs (top 10), defBody (top 10), defScope (top 10), [], []⟩, ⟨("is_cell", none), "is_cell", "is_cell", defArgs (top 11), defBody (top 11), defScope (top 11), [], []⟩, ⟨("sort_key", none), "sort_key", "sort_key", defArgs (top 12), defBody (top 12), defScope (top 12), [], []⟩, ⟨("compare_cells", none), "compare_cells", "compare_cells", defArgs (top 13), defBody (top 13), defScope (top 13), [], []⟩, ⟨("_law_source", none), "_law_source", "_law_source", defArgs (top 15), defBody (top 15), defScope (top 15), [], []⟩, ⟨("_law_draw", none), "_law_draw", "_law_draw", defArgs (top 16), defBody (top 16), defScope (top 16), [], []⟩, ⟨("_law_word", none), "_law_word", "_law_word", defArgs (top 17), defBody (top 17), defScope (top 17), [], []⟩, ⟨("_law_number", none), "_law_number", "_law_number", defArgs (top 18), defBody (top 18), defScope (top 18), [], []⟩, ⟨("_law_cells", none), "_law_cells", "_law_cells", defArgs (top 19), defBody (top 19), defScope (top 19), [], []⟩, ⟨("_law_compared", none), "_law_compared", "_law_compared", defArgs (top 21), defBody (top 21), defScope (top 21), [], []⟩, ⟨("_law_holds", none), "_law_holds", "_law_holds", defArgs (top 22), defBody (top 22), defScope (top 22), [], []⟩, ⟨("law", none), "law", "law", defArgs (top 23), defBody (top 23), defScope (top 23), [], []⟩]
def fa : List He.Fa := ([.glo "is_integer", .glo "is_kind", .glo "is_cell_character", .glo "is_cell", .glo "sort_key", .glo "compare_cells", .glo "_law_source", .glo "_law_draw", .glo "_law_word", .glo "_law_number", .glo "_law_cells", .glo "_law_compared", .glo "_law_holds", .glo "law", .free "all", .free "bool", .free "enumerate", .free "int", .free "isinstance", .free "len", .free "list", .free "max", .free "min", .free "range"] : List He.Fa) ++ ([.free "repr", .free "str", .str "CASELESS" "caseless", .int "MAX_CHARACTERS" 20, .str "NUMBER" "number", .str "TEXT" "text"] : List He.Fa)
section
variable {K : PySem.W.Frag} {h : Heap} {mg : Str → Option Value}
theorem at_is_integer (X : K.In h) (G : h.Ns mainGlobals mg) (c : He.SaysD fa fn K) : AtHand kb K mg d_is_integer := by
  obtain ⟨fd, F⟩ := c.def_ 0 rfl
  have F : FunD K "is_integer" "is_integer" (defArgs (top 8)) (defBody (top 8)) (defScope (top 8)) [] [] (He.ga K "is_integer") fd := F
  exact ⟨fd, F, He.glo_ok X G (c.fact 0 (f := .glo "is_integer") rfl), F.bindsN fun _ _ _ _ _ _ us hl => match us, hl with | [_], _ => rfl, fun ks perm hk => by
      unfold kb at hk
      cases hk⟩
theorem at_is_kind (X : K.In h) (G : h.Ns mainGlobals mg) (c : He.SaysD fa fn K) : AtHand kb K mg d_is_kind := by
  obtain ⟨fd, F⟩ := c.def_ 1 rfl
  have F : FunD K "is_kind" "is_kind" (defArgs (top 9)) (defBody (top 9)) (defScope (top 9)) [] [] (He.ga K "is_kind") fd := F
  exact ⟨fd, F, He.glo_ok X G (c.fact 1 (f := .glo "is_kind") rfl), F.bindsN fun _ _ _ _ _ _ us hl => match us, hl with | [_], _ => rfl, fun ks perm hk => by
      unfold kb at hk
      cases hk⟩
theorem at_is_cell_character (X : K.In h) (G : h.Ns mainGlobals mg) (c : He.SaysD fa fn K) : AtHand kb K mg d_is_cell_character := by
  obtain ⟨fd, F⟩ := c.def_ 2 rfl
  have F : FunD K "is_cell_character" "is_cell_character" (defArgs (top 10)) (defBody (top 10)) (defScope (top 10)) [] [] (He.ga K "is_cell_character") fd := F
  exact ⟨fd, F, He.glo_ok X G (c.fact 2 (f := .glo "is_cell_character") rfl), F.bindsN fun _ _ _ _ _ _ us hl => match us, hl with | [_], _ => rfl, fun ks perm hk => by
      unfold kb at hk
      cases hk⟩
theorem at_is_cell (X : K.In h) (G : h.Ns mainGlobals mg) (c : He.SaysD fa fn K) : AtHand kb K mg d_is_cell := by
  obtain ⟨fd, F⟩ := c.def_ 3 rfl
  have F : FunD K "is_cell" "is_cell" (defArgs (top 11)) (defBody (top 11)) (defScope (top 11)) [] [] (He.ga K "is_cell") fd := F
  exact ⟨fd, F, He.glo_ok X G (c.fact 3 (f := .glo "is_cell") rfl), F.bindsN fun _ _ _ _ _ _ us hl => match us, hl with | [_, _], _ => rfl, fun ks perm hk => by
      unfold kb at hk
      cases hk⟩
theorem at_sort_key (X : K.In h) (G : h.Ns mainGlobals mg) (c : He.SaysD fa fn K) : AtHand kb K mg d_sort_key := by
  obtain ⟨fd, F⟩ := c.def_ 4 rfl
  have F : FunD K "sort_key" "sort_key" (defArgs (top 12)) (defBody (top 12)) (defScope (top 12)) [] [] (He.ga K "sort_key") fd := F
  exact ⟨fd, F, He.glo_ok X G (c.fact 4 (f := .glo "sort_key") rfl), F.bindsN fun _ _ _ _ _ _ us hl => match us, hl with | [_, _], _ => rfl, fun ks perm hk => by
      unfold kb at hk
      cases hk⟩
theorem at_compare_cells (X : K.In h) (G : h.Ns mainGlobals mg) (c : He.SaysD fa fn K) : AtHand kb K mg d_compare_cells := by
  obtain ⟨fd, F⟩ := c.def_ 5 rfl
  have F : FunD K "compare_cells" "compare_cells" (defArgs (top 13)) (defBody (top 13)) (defScope (top 13)) [] [] (He.ga K "compare_cells") fd := F
  exact ⟨fd, F, He.glo_ok X G (c.fact 5 (f := .glo "compare_cells") rfl), F.bindsN fun _ _ _ _ _ _ us hl => match us, hl with | [_, _, _], _ => rfl, fun ks perm hk => by
      unfold kb at hk
      cases hk⟩
theorem at_law_source (X : K.In h) (G : h.Ns mainGlobals mg) (c : He.SaysD fa fn K) : AtHand kb K mg d_law_source := by
  obtain ⟨fd, F⟩ := c.def_ 6 rfl
  have F : FunD K "_law_source" "_law_source" (defArgs (top 15)) (defBody (top 15)) (defScope (top 15)) [] [] (He.ga K "_law_source") fd := F
  exact ⟨fd, F, He.glo_ok X G (c.fact 6 (f := .glo "_law_source") rfl), F.bindsN fun _ _ _ _ _ _ us hl => match us, hl with | [_, _], _ => rfl, fun ks perm hk => by
      unfold kb at hk
      cases hk⟩
theorem at_law_draw (X : K.In h) (G : h.Ns mainGlobals mg) (c : He.SaysD fa fn K) : AtHand kb K mg d_law_draw := by
  obtain ⟨fd, F⟩ := c.def_ 7 rfl
  have F : FunD K "_law_draw" "_law_draw" (defArgs (top 16)) (defBody (top 16)) (defScope (top 16)) [] [] (He.ga K "_law_draw") fd := F
  exact ⟨fd, F, He.glo_ok X G (c.fact 7 (f := .glo "_law_draw") rfl), F.bindsN fun _ _ _ _ _ _ us hl => match us, hl with | [_, _], _ => rfl, fun ks perm hk => by
      unfold kb at hk
      cases hk⟩
theorem at_law_word (X : K.In h) (G : h.Ns mainGlobals mg) (c : He.SaysD fa fn K) : AtHand kb K mg d_law_word := by
  obtain ⟨fd, F⟩ := c.def_ 8 rfl
  have F : FunD K "_law_word" "_law_word" (defArgs (top 17)) (defBody (top 17)) (defScope (top 17)) [] [] (He.ga K "_law_word") fd := F
  exact ⟨fd, F, He.glo_ok X G (c.fact 8 (f := .glo "_law_word") rfl), F.bindsN fun _ _ _ _ _ _ us hl => match us, hl with | [_], _ => rfl, fun ks perm hk => by
      unfold kb at hk
      cases hk⟩
theorem at_law_number (X : K.In h) (G : h.Ns mainGlobals mg) (c : He.SaysD fa fn K) : AtHand kb K mg d_law_number := by
  obtain ⟨fd, F⟩ := c.def_ 9 rfl
  have F : FunD K "_law_number" "_law_number" (defArgs (top 18)) (defBody (top 18)) (defScope (top 18)) [] [] (He.ga K "_law_number") fd := F
  exact ⟨fd, F, He.glo_ok X G (c.fact 9 (f := .glo "_law_number") rfl), F.bindsN fun _ _ _ _ _ _ us hl => match us, hl with | [_], _ => rfl, fun ks perm hk => by
      unfold kb at hk
      cases hk⟩
theorem at_law_cells (X : K.In h) (G : h.Ns mainGlobals mg) (c : He.SaysD fa fn K) : AtHand kb K mg d_law_cells := by
  obtain ⟨fd, F⟩ := c.def_ 10 rfl
  have F : FunD K "_law_cells" "_law_cells" (defArgs (top 19)) (defBody (top 19)) (defScope (top 19)) [] [] (He.ga K "_law_cells") fd := F
  exact ⟨fd, F, He.glo_ok X G (c.fact 10 (f := .glo "_law_cells") rfl), F.bindsN fun _ _ _ _ _ _ us hl => match us, hl with | [_, _, _], _ => rfl, fun ks perm hk => by
      unfold kb at hk
      cases hk⟩
theorem at_law_compared (X : K.In h) (G : h.Ns mainGlobals mg) (c : He.SaysD fa fn K) : AtHand kb K mg d_law_compared := by
  obtain ⟨fd, F⟩ := c.def_ 11 rfl
  have F : FunD K "_law_compared" "_law_compared" (defArgs (top 21)) (defBody (top 21)) (defScope (top 21)) [] [] (He.ga K "_law_compared") fd := F
  exact ⟨fd, F, He.glo_ok X G (c.fact 11 (f := .glo "_law_compared") rfl), F.bindsN fun _ _ _ _ _ _ us hl => match us, hl with | [_, _, _], _ => rfl, fun ks perm hk => by
      unfold kb at hk
      cases hk⟩
theorem at_law_holds (X : K.In h) (G : h.Ns mainGlobals mg) (c : He.SaysD fa fn K) : AtHand kb K mg d_law_holds := by
  obtain ⟨fd, F⟩ := c.def_ 12 rfl
  have F : FunD K "_law_holds" "_law_holds" (defArgs (top 22)) (defBody (top 22)) (defScope (top 22)) [] [] (He.ga K "_law_holds") fd := F
  exact ⟨fd, F, He.glo_ok X G (c.fact 12 (f := .glo "_law_holds") rfl), F.bindsN fun _ _ _ _ _ _ us hl => match us, hl with | [_, _], _ => rfl, fun ks perm hk => by
      unfold kb at hk
      cases hk⟩
theorem at_law (X : K.In h) (G : h.Ns mainGlobals mg) (c : He.SaysD fa fn K) : AtHand kb K mg d_law := by
  obtain ⟨fd, F⟩ := c.def_ 13 rfl
  have F : FunD K "law" "law" (defArgs (top 23)) (defBody (top 23)) (defScope (top 23)) [] [] (He.ga K "law") fd := F
  exact ⟨fd, F, He.glo_ok X G (c.fact 13 (f := .glo "law") rfl), F.bindsN fun _ _ _ _ _ _ us hl => match us, hl with | [_], _ => rfl, fun ks perm hk => by
      unfold kb at hk
      cases hk⟩
theorem atAll (X : K.In h) (G : h.Ns mainGlobals mg) (c : He.SaysD fa fn K) : ∀ d ∈ p_13, AtHand kb K mg d := by
  intro d hd
  rcases List.mem_cons.mp hd with e | hd
  · subst e; exact at_law_holds X G c
  rcases List.mem_cons.mp hd with e | hd
  · subst e; exact at_law_compared X G c
  rcases List.mem_cons.mp hd with e | hd
  · subst e; exact at_law_cells X G c
  rcases List.mem_cons.mp hd with e | hd
  · subst e; exact at_law_number X G c
  rcases List.mem_cons.mp hd with e | hd
  · subst e; exact at_law_word X G c
  rcases List.mem_cons.mp hd with e | hd
  · subst e; exact at_law_draw X G c
  rcases List.mem_cons.mp hd with e | hd
  · subst e; exact at_law_source X G c
  rcases List.mem_cons.mp hd with e | hd
  · subst e; exact at_compare_cells X G c
  rcases List.mem_cons.mp hd with e | hd
  · subst e; exact at_sort_key X G c
  rcases List.mem_cons.mp hd with e | hd
  · subst e; exact at_is_cell X G c
  rcases List.mem_cons.mp hd with e | hd
  · subst e; exact at_is_cell_character X G c
  rcases List.mem_cons.mp hd with e | hd
  · subst e; exact at_is_kind X G c
  rcases List.mem_cons.mp hd with e | hd
  · subst e; exact at_is_integer X G c
  cases hd
theorem gis (X : K.In h) (G : h.Ns mainGlobals mg) (c : He.SaysD fa fn K) : ∀ x d, (x, d) ∈ gi → GiOk mg x d := by
  intro x i hi
  unfold gi at hi
  rcases List.mem_cons.mp hi with e | hi
  · cases e; obtain ⟨t, ht⟩ := He.str_ok X G (c.fact 26 (f := .str "CASELESS" "caseless") rfl); exact .str ht
  rcases List.mem_cons.mp hi with e | hi
  · cases e; obtain ⟨t, ht⟩ := He.int_ok X G (c.fact 27 (f := .int "MAX_CHARACTERS" 20) rfl); exact .int ht
  rcases List.mem_cons.mp hi with e | hi
  · cases e; obtain ⟨t, ht⟩ := He.str_ok X G (c.fact 28 (f := .str "NUMBER" "number") rfl); exact .str ht
  rcases List.mem_cons.mp hi with e | hi
  · cases e; obtain ⟨t, ht⟩ := He.str_ok X G (c.fact 29 (f := .str "TEXT" "text") rfl); exact .str ht
  cases hi
theorem frs (X : K.In h) (G : h.Ns mainGlobals mg) (c : He.SaysD fa fn K) : ∀ x ∈ fr, mg x = none := by
  intro x hi
  unfold fr at hi
  rcases List.mem_cons.mp hi with e | hi
  · subst e; exact He.free_ok X G (c.fact 14 (f := .free "all") rfl)
  rcases List.mem_cons.mp hi with e | hi
  · subst e; exact He.free_ok X G (c.fact 15 (f := .free "bool") rfl)
  rcases List.mem_cons.mp hi with e | hi
  · subst e; exact He.free_ok X G (c.fact 16 (f := .free "enumerate") rfl)
  rcases List.mem_cons.mp hi with e | hi
  · subst e; exact He.free_ok X G (c.fact 17 (f := .free "int") rfl)
  rcases List.mem_cons.mp hi with e | hi
  · subst e; exact He.free_ok X G (c.fact 18 (f := .free "isinstance") rfl)
  rcases List.mem_cons.mp hi with e | hi
  · subst e; exact He.free_ok X G (c.fact 19 (f := .free "len") rfl)
  rcases List.mem_cons.mp hi with e | hi
  · subst e; exact He.free_ok X G (c.fact 20 (f := .free "list") rfl)
  rcases List.mem_cons.mp hi with e | hi
  · subst e; exact He.free_ok X G (c.fact 21 (f := .free "max") rfl)
  rcases List.mem_cons.mp hi with e | hi
  · subst e; exact He.free_ok X G (c.fact 22 (f := .free "min") rfl)
  rcases List.mem_cons.mp hi with e | hi
  · subst e; exact He.free_ok X G (c.fact 23 (f := .free "range") rfl)
  rcases List.mem_cons.mp hi with e | hi
  · subst e; exact He.free_ok X G (c.fact 24 (f := .free "repr") rfl)
  rcases List.mem_cons.mp hi with e | hi
  · subst e; exact He.free_ok X G (c.fact 25 (f := .free "str") rfl)
  cases hi
end
abbrev RR : PySem.W.OpenRow := PySem.W.OpenLaw.row PySem.Challenge.rw_headerclicks_k02_cells_compared
abbrev hk : PySem.W.Hook := He.hookD 4 fa fn
def ob (s : PySem.W.SharedT) : He.AlD := He.obsDG 4 fa fn (HandSHeadRun.getT s)
theorem ob_eq (s : PySem.W.SharedT) : ob s = hk.obs s.abs := He.obsDG_eq (HandSHeadRun.getT_eq s)
def loose : List Str := ["__name__", "HeaderClicksError", "InvalidCellError", "NUMBER", "TEXT", "CASELESS", "MAX_CHARACTERS", "is_integer", "is_kind", "is_cell_character", "is_cell", "sort_key", "compare_cells", "_law_source", "_law_draw", "_law_word", "_law_number", "_law_cells", "_law_table", "_law_compared", "_law_holds"]
theorem run (w : World) : HandSHeadRun.RunEq RR (PySem.W.view RR.prog [23]) hk ob 4000 loose w := by
  intro os
  kernel_rfl
noncomputable abbrev sem (ns : List Int) : Rc := globOf prog "law" [.lst false (ns.map .int)]
end K02

set_option Elab.async false
set_option linter.all false
set_option maxRecDepth 100000
set_option maxHeartbeats 1000000
set_option exponentiation.threshold 2000
namespace K02
open Hc Hp PySem PySem.Spec PyProof.Rows L2
local macro_rules
  | `(tactic| simp! [$xs,*]) => `(tactic| simp -implicitDefEqProofs -dsimp only [↓Hc.w_bind, ↓Hc.w_ok, ↓Hc.w_lnd, Hc.w_no, Hc.w_guard, Hc.w_go, Hc.w_nil, Hc.wc_ok, Hc.af_nx, Hc.af_ret, Hc.af_brk, Hc.af_ct, Hc.onS_some, Hc.altS_some, Hc.altS_none, Hc.exec, ev, evL, evA, mkE, cCall_eq, cCallk_eq, seqA, argE, Hc.cNm_eq, Hc.cMv_eq, cFz, Hc.peek_fzE, Hc.peek_lnd, cLnd, Hc.lb_cons, Hc.lb_nil, Hc.keepS_none, Hc.keepS_no, Hc.keepS_so, Hc.fetch_nil, Hc.fetch_cons, goOf_some, lent, giveBack, backOk, Hc.noIo_cons, Hc.noIo_nil, CE.isIo, cOrT, cNotT, cAndT, cOr, cNot, cAnd, Hc.view_eq, Hc.peek_nm, Hc.peek_lit, Hc.peek_gc, Hc.peek_sub, Hc.peek_neg, Hc.peek_len, Hc.peek_add, Hc.peek_bsub, Hc.peek_call, Hc.peek_lst, Hc.peek_nop, Hc.peek_tup, Hc.peek_sli, Hc.peek_comp, Hc.peek_mul, Hc.peek_mod, Hc.peek_fdv, Hc.peek_pow, Hc.peek_callk, Hc.peek_ifgt, Hc.peek_iflt, Hc.peek_ifne, Hc.peek_ifle, Hc.peek_ifge, Hc.peek_ifis, Hc.peek_ifisn, Hc.peek_ifinn, Hc.peek_ifnin, Hc.peek_ifnm, Hc.peek_ifand, Hc.peek_ifor, Hc.peek_ifnot, Hc.peek_ifsub, Hc.peek_ifcall, Hc.peek_ifisi, Hc.peek_ifeq, Hc.peek_isi, Hc.peek_cmp, Hc.peek_mu, Hc.peek_mv, Hc.peek_sum, Hc.peek_repr, Hc.peek_int, Hc.peek_str, Hc.peek_all, Hc.peek_max2, Hc.peek_min2, cChain, cCmp, cNeg, cBin, two, Hc.opd_eq, Hc.lift_eq, Hc.truth_bl, Hc.truth_int, D.fz, Hc.shal_int, Hc.shal_bl, Hc.shal_str, Hc.shal_non, Hc.shal_lst, Hc.shal_tup, flat, cIsi, isTy, cIf, cTup, cLst, seqE, Hc.cSub_eq, Hc.pick_lst, Hc.pick_tup, Hc.atI_0, Hc.atI_1, Hc.atI_2, Hc.atI_3, Hc.negD, Hc.addD, Hc.subD, cBl1, cBl, Bl.looks, Hc.dAdd, Hc.dSub, Hc.dLt, Hc.dLe, Hc.dGt, Hc.dGe, Hc.dEq, Hc.dNe, Hc.dEqB, Hc.dNeB, Hc.dEqS, Hc.dNeS, Hc.dLenL, Hc.dLenT, Hc.dIntI, Hc.dIntB, Hc.dMin, Hc.dMax, D.noOwn, noOwns, D.noFz, noFzs, Hc.own_ints, Hc.fz_ints, Hc.noFzs_ints, Hc.R.bind_ok, at_zero, at_succ, List.set_cons_zero, List.set_cons_succ, Option.map_some, Option.bind_some, Option.bind_none, sz, Nat.reduceAdd, Nat.reduceLeDiff, Nat.reduceLT, Int.reduceLE, Int.reduceLT, Int.reduceToNat, Hc.turnQ_nx, Hc.turnQ_ct, Hc.turnQ_brk, Hc.turnQ_ret, Hc.retQ_ret, Hc.retQ_nx, Hc.outs_nil, Hc.outs_t, Hc.outs_f, Option.getD_some, Option.getD_none, cIt, cRng1, cRng2, cRngd, its, CE.isNm, guards, Hc.items_lst, Hc.items_tup, cMu, cMuEnd, Hc.isL_lst, List.map_cons, List.map_nil, List.getD_cons_zero, List.getD_cons_succ, Hc.getK_nil, Hc.getK_cons, Hc.putK_nil, Hc.putK_cons, Hc.put1_lst, Hc.put1_tup, Hc.set1_lst, Hc.dPop0, Hc.dRev, List.nil_append, List.cons_append, Hc.ixN_1_0, Hc.ixN_2_0, Hc.ixN_2_1, Hc.ixN_3_0, Hc.ixN_3_1, Hc.ixN_3_2, Hc.ixN_4_0, Hc.ixN_4_1, Hc.ixN_4_2, Hc.ixN_4_3, calms, CE.calm, pathOf, cSetSub, hidS, cSetEnd, cEnu, cZip, Hc.lstq_lst, Hc.addL_if, Hc.dEqN, Hc.zipOp_lst, Hc.zipOp_tup, Hc.all_lst, Hc.bools_map, Hc.sum_lst, Hc.ints_map, Hc.dIs_non, Hc.dIsn_non, Hc.dIs_int, Hc.dIsn_int, Hc.dIs_bl, Hc.dIsn_bl, Hc.dIs_str, Hc.dIsn_str, Hc.dIs_tup, Hc.dIsn_tup, Hc.dIs_lst, Hc.dIsn_lst, Hc.ite_ok, Hc.iteI, cComp, cSli, eNop, Hc.cutOp_lst, Hc.peek_vm, Hc.peek_vi, Hc.peek_rev, Hc.peek_lrng1, Hc.peek_lrng2, Hc.peek_dcomp, Hc.peek_ddisp, Hc.peek_dnew, Hc.peek_dget, Hc.peek_not, Hc.peek_and, Hc.peek_or, Hc.peek_chain, Hc.peek_shl, Hc.peek_shr, Hc.peek_band, Hc.peek_bor, Hc.peek_sorted, Hc.peek_list, Hc.peek_tuple, Hc.peek_divmod, Hc.peek_abs, Hc.peek_bool, Hc.pickA_lst, Hc.pickA_tup, Hc.walk_lst, Hc.walk_tup, Hc.revOp_lst, Hc.dSorted, Hc.dListL, Hc.dListT, Hc.dTupL, Hc.dTupT, Hc.dDivmod, Hc.dAbs, Hc.dBoolI, Hc.dBoolB, Hc.dStrS, Hc.dRemove, Hc.dShr, Hc.dShl, cVm0, cVm1, cVi, isL0, cRev, cLr1, cLr2, cDcomp, cDdisp, seqP, turnK, Hc.isL_lst, Hc.gb_noIo, Hc.bo_noIo, beq_self_eq_true, Bool.true_beq, Bool.false_beq, Hc.muop_ext, Hc.muop_app, Hc.onS_if, List.length_map, List.length_append, turnE, Hc.w_mute, bindTg, setAll, wipeE, Hc.again, Option.isSome_some, Bool.not_true, Bool.not_false, Bool.and_true, Bool.true_and, Bool.and_false, Bool.false_and, Bool.or_true, Bool.true_or, Bool.or_false, Bool.false_or, if_true, if_false, ite_true, ite_false, Bool.false_eq_true, true_and, and_true, decide_true, decide_false, reduceCtorEq, Nat.add_zero, Nat.zero_add, List.all_cons, List.all_nil, List.any_cons, List.any_nil, fzs, List.length_cons, List.length_nil, Option.some.injEq, exists_eq_left', $xs,*])
  | `(tactic| walk_at "s") => `(tactic| (refine step ?_; simp! []))
structure BagT (m : Int) (x : D) : Prop where
  ex : ∃ a b c : Int, x = bagD a b c ∧ 0 ≤ b ∧ b < 10 ^ 42 ∧ 0 ≤ c ∧ c ≤ m
theorem BagT.own {m : Int} {x : D} (h : BagT m x) : x.noFz = true := by
  obtain ⟨a, b, c, rfl, _⟩ := h.ex
  rfl
theorem BagT.mono {m n : Int} {x : D} (h : BagT m x) (k : m ≤ n) : BagT n x := by
  obtain ⟨a, b, c, h1, h2, h3, h4, h5⟩ := h.ex
  exact ⟨a, b, c, h1, h2, h3, h4, by clear h3; omega⟩
abbrev DrT (Γ : Glob) : Prop := ∀ {m n : Int} {x : D}, BagT m x → m < 1000000 → 0 < n → n < 2 ^ 1000 → (Γ "_law_draw" [x, .int n]).wp (fun d ps => ∃ r y, d = .int r ∧ ps = [y, .int n] ∧ 0 ≤ r ∧ r < n ∧ BagT (m + 1) y) noXc
theorem t_drawT {Γ : Glob} {m n : Int} {x : D} (h : BagT m x) (hm : m < 1000000) (hn : 0 < n) (hn2 : n < 2 ^ 1000) : (runDef Γ 4 b_law_draw [x, .int n]).wp (fun d ps => ∃ r y, d = .int r ∧ ps = [y, .int n] ∧ 0 ≤ r ∧ r < n ∧ BagT (m + 1) y) noXc := by
  obtain ⟨a, b, c, rfl, h1, h2, h3, h4⟩ := h.ex
  refine run_wp2 (env := [some (bagD a b c), some (.int n), none, none]) (ks := [true, true]) rfl rfl ?_
  unfold b_law_draw
  refine step ?_
  simp! []
  refine R.wp_ite (fun ha => ?_) (fun ha => ?_)
  · have ha : 0 < a := by simpa using ha
    refine step ?_
    simp! [dMod (i := a) hn]
    refine step ?_
    simp! [fdv_b (x := a) hn hn2]
    walk_at "s"
    exact ⟨_, _, rfl, rfl, Int.emod_nonneg _ (by clear hn2; omega), Int.emod_lt_of_pos _ hn, ⟨a / n, b, c, rfl, h1, h2, h3, by clear hn2; omega⟩⟩
  · simp! []
    refine step ?_
    simp! []
    have c0 : 0 ≤ c + 1 := by clear hn2 h2; omega
    have c1 : c + 1 < 2 ^ 1000 := small (b := 2000000) (by clear hn2 h2; omega) (by decide +kernel)
    have q0 : 0 ≤ b + 700022 * (c + 1) := by clear hn2 h2; omega
    have q1 : b + 700022 * (c + 1) < 2 ^ 1000 := by
      refine small (b := 10 ^ 42 + 700022 * 2000000) (Int.add_lt_add_of_lt_of_le h2 (by clear hn2 h2; omega)) (by decide +kernel)
    have m1 := dMod (i := (b + 700022 * (c + 1)) ^ 3) (j := 10 ^ 37 + 43) (by decide +kernel)
    refine step ?_
    simp! [mul_b (i := 700022) (j := c + 1) (by decide) (by decide +kernel) c0 c1, pow3 q0 q1, p37, m1]
    generalize hz : (b + 700022 * (c + 1)) ^ 3 % (10 ^ 37 + 43) = z
    have z0 : 0 ≤ z := by rw [← hz]; exact Int.emod_nonneg _ (by decide +kernel)
    have z1 : z < 10 ^ 37 + 43 := by rw [← hz]; exact Int.emod_lt_of_pos _ (by decide +kernel)
    clear hz
    have r0 : 0 ≤ z + 31 * (c + 1) := by clear hn2 h2 z1; omega
    have r1 : z + 31 * (c + 1) < 2 ^ 1000 := by
      refine small (b := 10 ^ 37 + 43 + 31 * 2000000) (Int.add_lt_add_of_lt_of_le z1 (by clear hn2 h2 z1; omega)) (by decide +kernel)
    have m2 := dMod (i := (z + 31 * (c + 1)) ^ 3) (j := 10 ^ 36 + 67) (by decide +kernel)
    refine step ?_
    simp! [mul_b (i := 31) (j := c + 1) (by decide) (by decide +kernel) c0 c1, pow3 r0 r1, p36, m2]
    generalize (z + 31 * (c + 1)) ^ 3 % (10 ^ 36 + 67) = y
    refine step ?_
    simp! [fdv_b (x := y) (y := 65537) (by decide) (by decide +kernel), dMod (i := y / 65537) hn]
    exact ⟨_, _, rfl, rfl, Int.emod_nonneg _ (by clear hn2; omega), Int.emod_lt_of_pos _ hn, ⟨a, b, c + 1, rfl, h1, h2, by clear h2 hn2; omega, by clear h2 hn2; omega⟩⟩
abbrev SSrcT (Γ : Glob) : Prop := ∀ (n k : Int), 0 ≤ k → k ≤ 1000 → ∃ x ps, Γ "_law_source" [.int n, .int k] = .ok x ps ∧ BagT 0 x
theorem t_srcT {Γ : Glob} (n k : Int) (h0 : 0 ≤ k) (h1 : k ≤ 1000) : ∃ x ps, runDef Γ 2 b_law_source [.int n, .int k] = .ok x ps ∧ BagT 0 x := by
  obtain ⟨d, ps, e, hb⟩ := Rc.wp_ex (r := runDef Γ 2 b_law_source [.int n, .int k]) (Q := fun d _ => BagT 0 d) (by
    refine run_wp2 (env := [some (.int n), some (.int k)]) (ks := [true, true]) rfl rfl ?_
    unfold b_law_source
    have q0 : 0 ≤ n % (10 ^ 38 + 133) := Int.emod_nonneg _ (by decide +kernel)
    have q1 : n % (10 ^ 38 + 133) < 10 ^ 38 + 133 := Int.emod_lt_of_pos _ (by decide +kernel)
    have q2 : n % (10 ^ 38 + 133) < 2 ^ 1000 := small q1 (by decide +kernel)
    have m1 := dMod (i := n) (j := 10 ^ 38 + 133) (by decide +kernel)
    refine step ?_
    simp! [p18, p38, m1, mul_b (j := 53) q0 q2 (by decide) (by decide +kernel)]
    generalize n % (10 ^ 38 + 133) = c at *
    refine ⟨_, c * 53 + k, 0, rfl, ?_, ?_, by decide, by decide⟩
    · clear q1 q2; omega
    · have : c * 53 + k < (10 ^ 38 + 133) * 53 + 1001 := by
        have l := Int.mul_lt_mul_of_pos_right q1 (show (0 : Int) < 53 by decide)
        exact Int.add_lt_add l (by clear q1 q2 l; omega)
      exact Int.lt_of_lt_of_le this (by decide +kernel))
  exact ⟨d, ps, e, hb⟩
def ck : Kin → Cel → Prop
  | _, .no => True
  | .n, .num _ => True
  | .n, .txt _ => False
  | _, .num _ => False
  | _, .txt s => 1 ≤ s.length ∧ s.length ≤ 20 ∧ ∀ c ∈ s.cps.toList, chB c = true
theorem ck_txt {k : Kin} {s : Str} (h : ck k (.txt s)) : celOk k (.txt s) := by
  cases k <;> exact h
theorem ck_num {k : Kin} {i : Int} (h : ck k (.num i)) : k = .n := by
  cases k with
  | n => rfl
  | t => exact h.elim
  | c => exact h.elim
theorem nice_ck {k : Kin} {c : Cel} (n : Nat) (h : ck k c) : nice n (celD c) = true := by
  cases c with
  | no => simp [celD, nice]
  | num i => simp [celD, nice]
  | txt s => exact nice_cel n (ck_txt h)
theorem cellB_ck {k : Kin} {c : Cel} (h : ck k c) : cellB (kinS k) (celD c) = true := by
  cases c with
  | no => rfl
  | num i =>
    have := ck_num h
    subst this
    rfl
  | txt s => exact cellB_ok (ck_txt h)
theorem nice_kin (k : Kin) (n : Nat) : nice n (.str (kinS k)) = true := by
  simp only [nice, (kinS_ok k).1, Bool.true_and, decide_eq_true_eq]
  exact Nat.le_trans (kinS_ok k).2 (by decide)
abbrev SSortKeyT (Γ : Glob) : Prop := ∀ (k : Kin) (c : Cel), ck k c → Γ "sort_key" [.str (kinS k), celD c] = .ok (kyD (Hp.keyOf k c)) [.str (kinS k), celD c]
theorem t_sortKeyT {Γ : Glob} (k : Kin) (c : Cel) (h : ck k c) : runDef Γ 2 b_sort_key [.str (kinS k), celD c] = .ok (kyD (Hp.keyOf k c)) [.str (kinS k), celD c] := by
  refine rc_eq (run_wp2 (env := [some (.str (kinS k)), some (celD c)]) (ks := [true, true]) rfl rfl ?_)
  unfold b_sort_key
  cases c with
  | no =>
    unfold celD
    walk_at "s"
    walk_at "s"
    simp [Hp.keyOf, kyD]
  | num i =>
    unfold celD
    walk_at "s"
    refine step ?_
    have := ck_num h
    subst this
    have e2 : kinS .n ≠ "caseless" := by decide +kernel
    simp! [e2]
    simp [Hp.keyOf, kyD]
  | txt s =>
    obtain ⟨h1, h2, h3, h4, h5⟩ := celOk_str (ck_txt h)
    unfold celD
    walk_at "s"
    refine step ?_
    rcases h5 with rfl | rfl
    · have e2 : kinS .t ≠ "caseless" := by decide +kernel
      simp! [e2]
      simp [Hp.keyOf, kyD]
    · have e2 : kinS .c = "caseless" := rfl
      have e3 : vmop .lower (.str s) [] = some (.str (Txt.lower s)) := by
        rw [dLower, if_pos (by omega)]
      simp! [e2, e3]
      simp [Hp.keyOf, kyD]
theorem kyOk_ck {k : Kin} {c : Cel} (h : ck k c) : kyOk (Hp.keyOf k c) := by
  cases c with
  | no => cases k <;> trivial
  | num i => cases k <;> trivial
  | txt s => exact keyOf_ok (ck_txt h)
def cv (x y : Ky) : Int := (if ltK y x = true then 1 else 0) - (if ltK x y = true then 1 else 0)
abbrev cmpV (k : Kin) (a b : Cel) : Int := cv (Hp.keyOf k a) (Hp.keyOf k b)
def alikeK (x y : Ky) : Prop := match x, y with
  | .num _, .txt _ => False
  | .txt _, .num _ => False
  | _, _ => True
theorem alike_ck {k : Kin} {a b : Cel} (ha : ck k a) (hb : ck k b) : alikeK (Hp.keyOf k a) (Hp.keyOf k b) := by
  cases a with
  | no => cases k <;> cases b <;> trivial
  | num i =>
    have := ck_num ha
    subst this
    cases b with
    | no => trivial
    | num j => trivial
    | txt s => exact hb.elim
  | txt s =>
    cases b with
    | no => cases k <;> trivial
    | num j =>
      have := ck_num hb
      subst this
      exact ha.elim
    | txt s => cases k <;> trivial
theorem lt_ky {x y : Ky} (hx : kyOk x) (hy : kyOk y) (h : alikeK x y) : cmpop .lt (kyD x) (kyD y) = some (ltK x y) := by
  have f1 := flat_ky hx
  have f2 := flat_ky hy
  have go : ∀ (_ : PySem.W.alike (kyD x).toP (kyD y).toP = true), cmpop .lt (kyD x) (kyD y) = some (ltK x y) := fun e => by
    have e2 : cmpOk (kyD x) (kyD y) = true := by
      unfold cmpOk
      rw [f1, f2, e]
      cases x <;> rfl
    have e3 : cmpop .lt (kyD x) (kyD y) = if cmpOk (kyD x) (kyD y) = true then some (ltD (kyD x) (kyD y)) else fstLt (kyD x) (kyD y) := by
      cases x <;> cases y <;> rfl
    rw [e3, if_pos e2]
    rfl
  have no : ∀ (_ : PySem.W.alike (kyD x).toP (kyD y).toP = false) (b : Bool), fstLt (kyD x) (kyD y) = some b → ltK x y = b → cmpop .lt (kyD x) (kyD y) = some (ltK x y) := fun e b h1 h2 => by
    have e2 : ¬ cmpOk (kyD x) (kyD y) = true := by
      unfold cmpOk
      rw [f1, f2, e]
      simp
    have e3 : cmpop .lt (kyD x) (kyD y) = if cmpOk (kyD x) (kyD y) = true then some (ltD (kyD x) (kyD y)) else fstLt (kyD x) (kyD y) := by
      cases x <;> cases y <;> rfl
    rw [e3, if_neg e2, h1, h2]
  cases x with
  | no =>
    cases y with
    | no => exact go (by simp [kyD, D.toP, toPs, PySem.W.alike, PySem.W.alikeAll])
    | num j => exact go (by simp [kyD, D.toP, toPs, PySem.W.alike, PySem.W.alikeAll])
    | txt s =>
      refine no (by simp [kyD, D.toP, toPs, PySem.W.alike, PySem.W.alikeAll]) true ?_ (ltK_no_txt s)
      have f1 : flat 60 (.tup [.int 0, .int 0]) = true := f1
      have f2 : flat 60 (.tup [.int 1, .str s]) = true := f2
      simp [kyD, fstLt, f1, f2]
  | num i =>
    cases y with
    | no => exact go (by simp [kyD, D.toP, toPs, PySem.W.alike, PySem.W.alikeAll])
    | num j => exact go (by simp [kyD, D.toP, toPs, PySem.W.alike, PySem.W.alikeAll])
    | txt s => exact h.elim
  | txt s =>
    cases y with
    | no =>
      refine no (by simp [kyD, D.toP, toPs, PySem.W.alike, PySem.W.alikeAll]) false ?_ (ltK_asy (ltK_no_txt s))
      have f1 : flat 60 (.tup [.int 1, .str s]) = true := f1
      have f2 : flat 60 (.tup [.int 0, .int 0]) = true := f2
      simp [kyD, fstLt, f1, f2]
    | num j => exact h.elim
    | txt u => exact go (by simp [kyD, D.toP, toPs, PySem.W.alike, PySem.W.alikeAll])
theorem alikeK_symm {x y : Ky} (h : alikeK x y) : alikeK y x := by
  cases x <;> cases y <;> first | exact h | trivial
theorem gt_ky {x y : Ky} (hx : kyOk x) (hy : kyOk y) (h : alikeK x y) : cmpop .gt (kyD x) (kyD y) = some (ltK y x) := by
  have f1 := flat_ky hx
  have f2 := flat_ky hy
  have e3 : cmpop .gt (kyD x) (kyD y) = if cmpOk (kyD x) (kyD y) = true then some (ltD (kyD y) (kyD x)) else fstLt (kyD y) (kyD x) := by
    cases x <;> cases y <;> rfl
  have go : ∀ (_ : PySem.W.alike (kyD x).toP (kyD y).toP = true), cmpop .gt (kyD x) (kyD y) = some (ltK y x) := fun e => by
    have e2 : cmpOk (kyD x) (kyD y) = true := by
      unfold cmpOk
      rw [f1, f2, e]
      cases x <;> rfl
    rw [e3, if_pos e2]
    rfl
  have no : ∀ (_ : PySem.W.alike (kyD x).toP (kyD y).toP = false) (b : Bool), fstLt (kyD y) (kyD x) = some b → ltK y x = b → cmpop .gt (kyD x) (kyD y) = some (ltK y x) := fun e b h1 h2 => by
    have e2 : ¬ cmpOk (kyD x) (kyD y) = true := by
      unfold cmpOk
      rw [f1, f2, e]
      simp
    rw [e3, if_neg e2, h1, h2]
  cases x with
  | no =>
    cases y with
    | no => exact go (by simp [kyD, D.toP, toPs, PySem.W.alike, PySem.W.alikeAll])
    | num j => exact go (by simp [kyD, D.toP, toPs, PySem.W.alike, PySem.W.alikeAll])
    | txt s =>
      refine no (by simp [kyD, D.toP, toPs, PySem.W.alike, PySem.W.alikeAll]) false ?_ (ltK_asy (ltK_no_txt s))
      have f1 : flat 60 (.tup [.int 0, .int 0]) = true := f1
      have f2 : flat 60 (.tup [.int 1, .str s]) = true := f2
      simp [kyD, fstLt, f1, f2]
  | num i =>
    cases y with
    | no => exact go (by simp [kyD, D.toP, toPs, PySem.W.alike, PySem.W.alikeAll])
    | num j => exact go (by simp [kyD, D.toP, toPs, PySem.W.alike, PySem.W.alikeAll])
    | txt s => exact h.elim
  | txt s =>
    cases y with
    | no =>
      refine no (by simp [kyD, D.toP, toPs, PySem.W.alike, PySem.W.alikeAll]) true ?_ (ltK_no_txt s)
      have f1 : flat 60 (.tup [.int 1, .str s]) = true := f1
      have f2 : flat 60 (.tup [.int 0, .int 0]) = true := f2
      simp [kyD, fstLt, f1, f2]
    | num j => exact h.elim
    | txt u => exact go (by simp [kyD, D.toP, toPs, PySem.W.alike, PySem.W.alikeAll])
abbrev SCmp (Γ : Glob) : Prop := ∀ (k : Kin) (a b : Cel), ck k a → ck k b → Γ "compare_cells" [.str (kinS k), celD a, celD b] = .ok (.int (cmpV k a b)) [.str (kinS k), celD a, celD b]
theorem t_cmp {Γ : Glob} (hk : SKind Γ) (hc : SCell Γ) (hs : SSortKeyT Γ) (k : Kin) (a b : Cel) (ha : ck k a) (hb : ck k b) : runDef Γ 5 b_compare_cells [.str (kinS k), celD a, celD b] = .ok (.int (cmpV k a b)) [.str (kinS k), celD a, celD b] := by
  refine rc_eq (run_wp2 (env := [some (.str (kinS k)), some (celD a), some (celD b), none, none]) (ks := [true, true, true]) rfl rfl ?_)
  unfold b_compare_cells
  have e1 := hk 1 _ (nice_kin k 1)
  rw [kindB_kin] at e1
  have e2 := hc (kinS k) 1 _ (nice_ck 1 ha)
  rw [cellB_ck ha] at e2
  have e3 := hc (kinS k) 1 _ (nice_ck 1 hb)
  rw [cellB_ck hb] at e3
  have e4 := hs k a ha
  have e5 := hs k b hb
  refine step ?_
  simp! [e1, e2, e3, cell_own, cell_fz]
  refine step ?_
  simp! [e4, e5, ky_own, ky_fz, cell_own, cell_fz]
  refine step ?_
  simp! [lt_ky (kyOk_ck ha) (kyOk_ck hb) (alike_ck ha hb), gt_ky (kyOk_ck ha) (kyOk_ck hb) (alike_ck ha hb), ky_own, ky_fz]
  rfl
abbrev SCompared (Γ : Glob) : Prop := ∀ (k : Kin) (a b : Cel), ck k a → ck k b → ∃ ps, Γ "_law_compared" [.str (kinS k), celD a, celD b] = .ok (.int (cmpV k a b)) ps
theorem kin_c (k : Kin) : cmpop .eq (.str (kinS k)) (.str "caseless") = some (decide (k = .c)) := by
  rw [dEqS]
  congr 1
  cases k <;> decide +kernel
theorem dLow {s : Str} (h : s.length ≤ 20) : vmop .lower (.str s) [] = some (.str (Txt.lower s)) := by
  rw [dLower, if_pos (by omega)]
theorem cv_txt (s u : Str) : cv (.txt s) (.txt u) = (if decide (u.cps.toList < s.cps.toList) = true then 1 else 0) - (if decide (s.cps.toList < u.cps.toList) = true then 1 else 0) := by
  unfold cv
  rw [ltK_txt, ltK_txt]
theorem t_compared {Γ : Glob} (k : Kin) (a b : Cel) (ha : ck k a) (hb : ck k b) : ∃ ps, runDef Γ 3 b_law_compared [.str (kinS k), celD a, celD b] = .ok (.int (cmpV k a b)) ps := by
  refine rc_d ?_
  · refine run_wp2 (env := [some (.str (kinS k)), some (celD a), some (celD b)]) (ks := [true, false, false]) rfl rfl ?_
    unfold b_law_compared
    cases a with
    | no =>
      have e : Hp.keyOf k .no = .no := by cases k <;> rfl
      cases b with
      | no =>
        unfold celD
        walk_at "s"
        walk_at "s"
        simp [cmpV, cv, e, ltK_irr]
      | num j =>
        have := ck_num hb
        subst this
        unfold celD
        walk_at "s"
        walk_at "s"
        simp [cmpV, cv, e, Hp.keyOf, ltK_no_num, ltK_asy (ltK_no_num j)]
      | txt s =>
        have e2 : ∃ u, Hp.keyOf k (.txt s) = .txt u := by cases k <;> exact ⟨_, rfl⟩
        obtain ⟨u, e2⟩ := e2
        unfold celD
        walk_at "s"
        walk_at "s"
        simp [cmpV, cv, e, e2, ltK_no_txt, ltK_asy (ltK_no_txt u)]
    | num i =>
      have := ck_num ha
      subst this
      cases b with
      | no =>
        unfold celD
        walk_at "s"
        walk_at "s"
        simp [cmpV, cv, Hp.keyOf, ltK_no_num, ltK_asy (ltK_no_num i)]
      | num j =>
        unfold celD
        walk_at "s"
        have e2 : kinS .n ≠ "caseless" := by decide +kernel
        refine step ?_
        simp! [e2]
        refine step ?_
        simp! []
        simp [cmpV, cv, Hp.keyOf, ltK_num]
      | txt s => exact hb.elim
    | txt s =>
      cases b with
      | no =>
        have e : Hp.keyOf k .no = .no := by cases k <;> rfl
        have e2 : ∃ u, Hp.keyOf k (.txt s) = .txt u := by cases k <;> exact ⟨_, rfl⟩
        obtain ⟨u, e2⟩ := e2
        unfold celD
        walk_at "s"
        walk_at "s"
        simp [cmpV, cv, e, e2, ltK_no_txt, ltK_asy (ltK_no_txt u)]
      | num j =>
        have := ck_num hb
        subst this
        exact ha.elim
      | txt u =>
        obtain ⟨_, a2, _⟩ := celOk_str (ck_txt ha)
        obtain ⟨_, b2, _⟩ := celOk_str (ck_txt hb)
        unfold celD
        walk_at "s"
        refine step ?_
        by_cases hk : k = .c
        · subst hk
          have e2 : kinS .c = "caseless" := rfl
          have e3 := dLow a2
          have e4 := dLow b2
          simp! [e2]
          refine step ?_
          simp! [e3, e4]
          refine step ?_
          simp! [dGtS, dLtS]
          congr 1
          exact (cv_txt _ _).symm
        · have ek : ∀ s, Hp.keyOf k (.txt s) = .txt s := by
            intro s
            cases k with
            | n => exact ha.elim
            | t => rfl
            | c => exact absurd rfl hk
          have e2 : kinS k ≠ "caseless" := by
            cases k with
            | n => exact ha.elim
            | t => decide +kernel
            | c => exact absurd rfl hk
          simp! [e2]
          refine step ?_
          simp! [dGtS, dLtS]
          congr 1
          show _ = cv (Hp.keyOf k (.txt s)) (Hp.keyOf k (.txt u))
          rw [ek, ek, cv_txt]
def wordOk (s : Str) : Prop := 1 ≤ s.length ∧ s.length ≤ 20 ∧ ∀ c ∈ s.cps.toList, chB c = true
instance : DecidablePred wordOk := fun s => by unfold wordOk; exact inferInstance
abbrev shortW : List Str := ["a", "A", "b", "B", "ab", "aB", "Ab", "Z", "[", "_", " ", "~", "0", "10", "9", "-1"]
abbrev shortD : List D := [.str "a", .str "A", .str "b", .str "B", .str "ab", .str "aB", .str "Ab", .str "Z", .str "[", .str "_", .str " ", .str "~", .str "0", .str "10", .str "9", .str "-1"]
theorem short_ok : ∀ s ∈ shortW, wordOk s := by decide +kernel
theorem short_at (r : Int) (h0 : 0 ≤ r) (h1 : r < 16) : ∃ s, atI shortD r = some (.str s) ∧ wordOk s := by
  obtain ⟨w, rfl⟩ := Int.eq_ofNat_of_zero_le h0
  have hw : w < shortW.length := by
    show w < 16
    omega
  refine ⟨shortW.getD w "", atI_natD D.str shortW w hw "", short_ok _ ?_⟩
  rw [List.getD_eq_getElem?_getD, List.getElem?_eq_getElem hw]
  exact List.getElem_mem hw
theorem strs_ch : ∀ cs : List Nat, strsOf (cs.map chD) = some (cs.map fun c => (⟨#[c]⟩ : Str))
  | [] => rfl
  | c :: cs => by
    show (strsOf (cs.map chD)).map _ = _
    rw [strs_ch cs]
    rfl
theorem join_ch {o : Bool} {cs : List Nat} (h : cs.length ≤ 20) : vmop .join (.str "") [.lst o (cs.map chD)] = some (.str ⟨cs.toArray⟩) := by
  rw [dJoin, strs_ch]
  have e : (((cs.map fun c => (⟨#[c]⟩ : Str)).map (·.length)).sum + (cs.map fun c => (⟨#[c]⟩ : Str)).length * ("" : Str).length) ≤ 16777216 := by
    have e1 : ∀ l : List Nat, ((l.map fun c => (⟨#[c]⟩ : Str)).map (·.length)).sum = l.length := by
      intro l
      induction l with
      | nil => rfl
      | cons c l ih =>
        simp only [List.map_cons, List.sum_cons, ih, List.length_cons]
        show 1 + l.length = _
        omega
    have e2 : ("" : Str).length = 0 := by decide +kernel
    rw [e1, e2]
    omega
  show (if _ then _ else _) = _
  rw [if_pos e]
  congr 2
  have e3 := PyProof.Rows.join_nil_signs ⟨cs.toArray⟩
  have e4 : PyProof.Rows.signs ⟨cs.toArray⟩ = cs.map fun c => (⟨#[c]⟩ : Str) := by
    unfold PyProof.Rows.signs
    simp
  rw [e4] at e3
  exact (PySem.StrLaws.glued_eq_join _ _).trans e3
abbrev SWordT (Γ : Glob) : Prop := ∀ {m : Int} {x : D}, BagT m x → m < 900000 → (Γ "_law_word" [x]).wp (fun d ps => ∃ s y, d = .str s ∧ ps = [y] ∧ wordOk s ∧ BagT (m + 30) y) noXc
theorem t_wordT {Γ : Glob} (hd : DrT Γ) {m : Int} {x : D} (hx : BagT m x) (hm : m < 900000) : (runDef Γ 6 b_law_word [x]).wp (fun d ps => ∃ s y, d = .str s ∧ ps = [y] ∧ wordOk s ∧ BagT (m + 30) y) noXc := by
  refine run_wp2 (env := [some x, none, none, none, none, none]) (ks := [true]) rfl rfl ?_
  unfold b_law_word
  obtain ⟨sg, esg, l1, l2, hs⟩ : ∃ sg : Str, binop .add (.str " !#$&'()*+,-./09:;<=>?@ABYZ[]^_`abyz{}~") (.str "\"") = some (.str sg) ∧ 1 ≤ sg.length ∧ sg.length ≤ 60 ∧ ∀ c ∈ sg.cps.toList, chB c = true := ⟨_, rfl, by decide +kernel, by decide +kernel, by decide +kernel⟩
  have el : bltop .len [.str sg] = some (.int (sg.length : Int)) := by
    show (if sg.length ≤ sz then _ else _) = _
    rw [if_pos (Nat.le_trans l2 (by decide))]
  refine step ?_
  simp! [esg]
  refine step ?_
  simp! []
  have sat := short_at
  refine step ?_
  simp! []
  refine Rc.then (hd hx (by omega) (by decide) (by decide +kernel)) ?_
  rintro _ _ ⟨r, x1, rfl, rfl, r0, r1, hx1⟩
  obtain ⟨q, eq, q1, q2⟩ : ∃ q : Int, atI [D.int 1, .int 2, .int 20] r = some (.int q) ∧ 1 ≤ q ∧ q ≤ 20 := by
    have : r = 0 ∨ r = 1 ∨ r = 2 := by omega
    rcases this with rfl | rfl | rfl <;> exact ⟨_, rfl, by decide, by decide⟩
  simp! [eq]
  clear eq
  have hin : inR q := ⟨by omega, by omega⟩
  refine step ?_
  simp! [hin]
  rw [upto0]
  refine comp_p (List.range q.toNat) (fun (i : Nat) => .int (i : Int)) (fun y : D => [some y, some (.str sg), some (.lst true shortD), some (.int q), none, none]) (fun pre acc s => BagT (m + 1 + pre.length) s ∧ ∃ cs : List Nat, acc = cs.map chD ∧ cs.length = pre.length ∧ ∀ c ∈ cs, chB c = true) x1 rfl (by intro _; rfl) (by rw [List.length_range]; exact Nat.le_trans (show q.toNat ≤ 20 by omega) (by decide)) ⟨hx1.mono (by simp <;> omega), [], rfl, rfl, fun c h => nomatch h⟩ ?_ ?_
  · rintro pre y post acc s hsp ⟨hs', cs, rfl, hl, hcs⟩
    have hpl : pre.length < 20 := by
      have := congrArg List.length hsp
      simp at this
      omega
    simp! [el]
    refine Rc.then (hd hs' (by omega) (by omega) (sm (by omega))) ?_
    rintro _ _ ⟨v, x3, rfl, rfl, v0, v1, hx3⟩
    obtain ⟨w, rfl⟩ := Int.eq_ofNat_of_zero_le v0
    have hw : w < sg.cps.toList.length := by
      rw [Array.length_toList]
      show w < sg.length
      omega
    have a1 : pickA (.str sg) (.int (w : Int)) = some (chD (sg.cps.toList[w])) := by
      rw [pickA_str, if_pos (Nat.le_trans l2 (by decide)), atI_nat _ w hw]
      rfl
    simp! [a1]
    refine ⟨x3, rfl, hx3.mono (by simp <;> omega), cs ++ [sg.cps.toList[w]], by simp, by simp [hl], ?_⟩
    intro c hc
    rcases List.mem_append.mp hc with hc | hc
    · exact hcs c hc
    · rw [List.mem_singleton.mp hc]
      exact hs _ (List.getElem_mem hw)
  · rintro acc s ⟨hs', cs, rfl, hl, hcs⟩
    have hl : cs.length = q.toNat := by rw [hl, List.length_range]
    have hw : wordOk ⟨cs.toArray⟩ := by
      refine ⟨?_, ?_, ?_⟩
      · show 1 ≤ cs.toArray.size
        simp; omega
      · show cs.toArray.size ≤ 20
        simp; omega
      · simpa using hcs
    have ej : ∀ o : Bool, vmop .join (.str "") [.lst o (cs.map chD)] = some (.str ⟨cs.toArray⟩) := fun o => join_ch (by omega)
    generalize (⟨cs.toArray⟩ : Str) = wd at ej hw
    simp! [ej]
    have hs2 : BagT (m + 21) s := hs'.mono (by rw [List.length_range]; omega)
    refine step ?_
    simp! []
    refine Rc.then (hd hs2 (by omega) (by decide) (by decide +kernel)) ?_
    rintro _ _ ⟨a, x4, rfl, rfl, a0, a1, hx4⟩
    obtain ⟨u, eu, hu⟩ := sat a a0 a1
    simp! [eu]
    refine Rc.then (hd hx4 (by omega) (by decide) (by decide +kernel)) ?_
    rintro _ _ ⟨b, x5, rfl, rfl, b0, b1, hx5⟩
    have e3 := fdv_b (x := b) (y := 3) (by decide) (by decide +kernel)
    have : b / 3 = 0 ∨ b / 3 = 1 := by omega
    rcases this with e4 | e4
    · rw [e4] at e3
      simp! [e3]
      exact ⟨u, x5, rfl, rfl, hu, hx5.mono (by omega)⟩
    · rw [e4] at e3
      simp! [e3]
      exact ⟨wd, x5, rfl, rfl, hw, hx5.mono (by omega)⟩
theorem p31 : binop .pow (.int 10) (.int 31) = some (.int (10 ^ 31)) := pow_b (y := 31) (by decide) (by decide +kernel) (by decide)
abbrev SNumT (Γ : Glob) : Prop := ∀ {m : Int} {x : D}, BagT m x → m < 900000 → (Γ "_law_number" [x]).wp (fun d ps => ∃ i y, d = .int i ∧ ps = [y] ∧ BagT (m + 30) y) noXc
theorem t_numT {Γ : Glob} (hd : DrT Γ) {m : Int} {x : D} (hx : BagT m x) (hm : m < 900000) : (runDef Γ 2 b_law_number [x]).wp (fun d ps => ∃ i y, d = .int i ∧ ps = [y] ∧ BagT (m + 30) y) noXc := by
  refine run_wp2 (env := [some x, none]) (ks := [true]) rfl rfl ?_
  unfold b_law_number
  refine step ?_
  simp! [p31]
  refine Rc.then (hd hx (by omega) (by decide) (by decide +kernel)) ?_
  rintro _ _ ⟨r, x1, rfl, rfl, r0, r1, hx1⟩
  obtain ⟨q, eq, q1, q2⟩ : ∃ q : Int, atI [D.int 3, .int 12, .int (10 ^ 31)] r = some (.int q) ∧ 0 < q ∧ q < 2 ^ 1000 := by
    have : r = 0 ∨ r = 1 ∨ r = 2 := by omega
    rcases this with rfl | rfl | rfl <;> exact ⟨_, rfl, by decide +kernel, by decide +kernel⟩
  simp! [eq]
  clear eq
  refine step ?_
  simp! []
  refine Rc.then (hd hx1 (by omega) q1 q2) ?_
  rintro _ _ ⟨v, x2, rfl, rfl, v0, v1, hx2⟩
  simp! []
  refine Rc.then (hd hx2 (by omega) (by decide) (by decide +kernel)) ?_
  rintro _ _ ⟨s, x3, rfl, rfl, s0, s1, hx3⟩
  have hv : v.natAbs < 2 ^ 1000 := abs_lt (Int.lt_of_lt_of_le (show -(2 ^ 1000 : Int) < 0 by decide +kernel) v0) (Int.lt_trans v1 q2)
  have : s = 0 ∨ s = 1 := by clear hv v1 q2; omega
  rcases this with rfl | rfl
  · have e1 := dMulB (i := v) (j := 1) hv (by decide +kernel)
    simp! [e1]
    exact ⟨_, x3, rfl, rfl, hx3.mono (by clear hv v1 q2; omega)⟩
  · have e1 := dMulB (i := v) (j := -1) hv (by decide +kernel)
    simp! [e1]
    exact ⟨_, x3, rfl, rfl, hx3.mono (by clear hv v1 q2; omega)⟩
abbrev clsD (o : Bool) (l : List Cel) : D := .lst o (l.map celD)
theorem numS (k : Kin) : (kinS k = "number") = (k = .n) := by
  cases k <;> simp <;> decide +kernel
abbrev SCellsT (Γ : Glob) : Prop := ∀ {m : Int} {x : D} (k : Kin) (size : Int), BagT m x → m < 800000 → 1 ≤ size → size ≤ 100 → (Γ "_law_cells" [x, .str (kinS k), .int size]).wp (fun d ps => ∃ (cs : List Cel) (y : D), d = clsD true cs ∧ ps = [y, .str (kinS k), .int size] ∧ (cs.length : Int) = size ∧ (∀ c ∈ cs, ck k c) ∧ BagT (m + 500) y) noXc
theorem t_cellsT {Γ : Glob} (hd : DrT Γ) (hw : SWordT Γ) (hn : SNumT Γ) {m : Int} {x : D} (k : Kin) (size : Int) (hx : BagT m x) (hm : m < 800000) (h1 : 1 ≤ size) (h2 : size ≤ 100) :
    (runDef Γ 5 b_law_cells [x, .str (kinS k), .int size]).wp (fun d ps => ∃ (cs : List Cel) (y : D), d = clsD true cs ∧ ps = [y, .str (kinS k), .int size] ∧ (cs.length : Int) = size ∧ (∀ c ∈ cs, ck k c) ∧ BagT (m + 500) y) noXc := by
  refine run_wp2 (env := [some x, some (.str (kinS k)), some (.int size), none, none]) (ks := [true, true, true]) rfl rfl ?_
  unfold b_law_cells
  refine step ?_
  simp! []
  refine step ?_
  simp! []
  refine Rc.then (hd hx (by omega) (by decide) (by decide +kernel)) ?_
  rintro _ _ ⟨r, x1, rfl, rfl, r0, r1, hx1⟩
  obtain ⟨q, eq, q1, q2⟩ : ∃ q : Int, atI [D.int 1, .int 2, .int 4, .int 9] r = some (.int q) ∧ 1 ≤ q ∧ q ≤ 9 := by
    have : r = 0 ∨ r = 1 ∨ r = 2 ∨ r = 3 := by omega
    rcases this with rfl | rfl | rfl | rfl <;> exact ⟨_, rfl, by decide, by decide⟩
  have hin : inR q := ⟨by omega, by omega⟩
  simp! [eq, hin]
  clear eq
  rw [upto0]
  refine loop_p (List.range q.toNat) (fun (i : Nat) => .int (i : Int)) (fun s : D × List Cel × Option D => [some s.1, some (.str (kinS k)), some (.int size), some (clsD true s.2.1), s.2.2]) (fun pre s => BagT (m + 1 + 30 * pre.length) s.1 ∧ s.2.1.length = pre.length ∧ ∀ c ∈ s.2.1, ck k c) (x1, [], none) rfl (fun _ => rfl) ⟨hx1.mono (by simp <;> omega), rfl, fun c h => nomatch h⟩ ?_ ?_
  · rintro pre y post ⟨s, cs, o⟩ hsp ⟨hs, hl, hcs⟩
    have hpl : pre.length < 9 := by
      have := congrArg List.length hsp
      simp at this
      omega
    dsimp only at hs hl hcs
    refine ⟨_, rfl, ?_⟩
    dsimp only
    by_cases hk : k = .n
    · have e1 : (kinS k = "number") = True := eq_true (by rw [numS]; exact hk)
      have hz : cs.length < 16777216 := by omega
      refine step ?_
      simp! [e1]
      refine Rc.then (hn hs (by omega)) ?_
      rintro _ _ ⟨i, y1, rfl, rfl, hy1⟩
      simp! [hz]
      refine ⟨(y1, cs ++ [.num i], some (.int (y : Int))), by simp [celD], hy1.mono (by simp <;> omega), by simp [hl], ?_⟩
      intro c hc
      rcases List.mem_append.mp hc with hc | hc
      · exact hcs c hc
      · rw [List.mem_singleton.mp hc]
        subst hk
        trivial
    · have e1 : kinS k ≠ "number" := fun z => hk (by rw [numS] at z; exact z)
      refine step ?_
      simp! [e1]
      have hz : cs.length < 16777216 := by omega
      refine Rc.then (hw hs (by omega)) ?_
      rintro _ _ ⟨u, y1, rfl, rfl, hu, hy1⟩
      simp! [hz]
      refine ⟨(y1, cs ++ [.txt u], some (.int (y : Int))), by simp [celD], hy1.mono (by simp <;> omega), by simp [hl], ?_⟩
      intro c hc
      rcases List.mem_append.mp hc with hc | hc
      · exact hcs c hc
      · rw [List.mem_singleton.mp hc]
        cases k with
        | n => exact absurd rfl hk
        | t => exact hu
        | c => exact hu
  · rintro ⟨s, cs, o⟩ ⟨hs, hl, hcs⟩
    dsimp only at hs hl hcs
    rw [List.length_range] at hl hs
    have hs : BagT (m + 300) s := hs.mono (by omega)
    simp! []
    refine step ?_
    simp! []
    refine Rc.then (hd hs (by omega) (by decide) (by decide +kernel)) ?_
    rintro _ _ ⟨g, x2, rfl, rfl, g0, g1, hx2⟩
    have er := dRep1 (o := true) (x := .non) (k := g) rfl (by omega) (by omega)
    simp! [er]
    have eP : cs.map celD ++ List.replicate g.toNat D.non = (cs ++ List.replicate g.toNat Cel.no).map celD := by
      rw [List.map_append, List.map_replicate]
      rfl
    rw [eP]
    have hP : ∀ c ∈ cs ++ List.replicate g.toNat Cel.no, ck k c := by
      intro c hc
      rcases List.mem_append.mp hc with hc | hc
      · exact hcs c hc
      · rw [(List.mem_replicate.mp hc).2]
        cases k <;> trivial
    have l1 : 1 ≤ (cs ++ List.replicate g.toNat Cel.no).length := by simp <;> omega
    have l2 : (cs ++ List.replicate g.toNat Cel.no).length ≤ 10 := by simp <;> omega
    generalize cs ++ List.replicate g.toNat Cel.no = P at hP l1 l2 ⊢
    clear eP er
    have hin : inR size := ⟨by omega, by omega⟩
    have hn : size.toNat ≤ 100 := by omega
    refine ⟨own_cel cs, by simp <;> omega, ?_⟩
    refine step ?_
    simp! [hin]
    rw [upto0]
    refine comp_p (List.range size.toNat) (fun (i : Nat) => .int (i : Int)) (fun y : D => [some y, some (.str (kinS k)), some (.int size), some (clsD true P), none]) (fun pre acc s => BagT (m + 301 + pre.length) s ∧ ∃ cs : List Cel, acc = cs.map celD ∧ cs.length = pre.length ∧ ∀ c ∈ cs, ck k c) x2 (by first | rfl | skip) (by intro _; rfl) (by rw [List.length_range]; exact Nat.le_trans hn (by decide)) ⟨hx2.mono (by simp <;> omega), [], rfl, rfl, fun c h => nomatch h⟩ ?_ ?_
    · rintro pre y post acc s' hsp ⟨hs', cs, rfl, hl, hcs⟩
      have hpl : pre.length < 100 := by
        have := congrArg List.length hsp
        simp at this
        omega
      simp! []
      refine Rc.then (hd hs' (by omega) (by omega) (sm (by omega))) ?_
      rintro _ _ ⟨v, x3, rfl, rfl, v0, v1, hx3⟩
      obtain ⟨w, rfl⟩ := Int.eq_ofNat_of_zero_le v0
      have a1 := atI_natD celD P w (by omega) .no
      simp! [a1, cell_own]
      refine ⟨x3, rfl, hx3.mono (by simp <;> omega), cs ++ [P.getD w .no], by simp, by simp [hl], ?_⟩
      intro c hc
      rcases List.mem_append.mp hc with hc | hc
      · exact hcs c hc
      · rw [List.mem_singleton.mp hc]
        refine hP _ ?_
        have hw : w < P.length := by omega
        simp [hw]
    · rintro acc s' ⟨hs', cs, rfl, hl, hcs⟩
      simp! []
      refine ⟨cs, s', rfl, rfl, ?_, hcs, ?_⟩
      · rw [hl, List.length_range]; omega
      · exact hs'.mono (by rw [List.length_range]; omega)
abbrev pD (p : Nat × Nat) : D := .tup [.int (p.1 : Int), .int (p.2 : Int)]
theorem same_p (p q : Nat × Nat) : D.same (pD p) (pD q) = decide (p = q) := by
  obtain ⟨a, b⟩ := p
  obtain ⟨c, d⟩ := q
  show ((a : Int) == (c : Int) && ((b : Int) == (d : Int) && true)) = _
  by_cases h1 : a = c <;> by_cases h2 : b = d <;> simp [h1, h2] <;> omega
theorem find_p {k : Nat × Nat} : ∀ {l : List (Nat × Nat)}, k ∈ l → l.findIdx? (fun z => decide (z = k)) = some (l.idxOf k)
  | x :: l, h => by
    rw [List.findIdx?_cons, List.idxOf_cons]
    by_cases e : x = k
    · simp [e]
    · have h : k ∈ l := (List.mem_cons.mp h).resolve_left fun z => e z.symm
      simp [e, show (x == k) = false by simpa using e, find_p h]
theorem keyAt_p (l : List (Nat × Nat)) (k : Nat × Nat) : keyAt (l.map pD) (pD k) = l.findIdx? fun z => decide (z = k) := by
  unfold keyAt
  rw [List.findIdx?_map]
  congr 1
  funext z
  exact same_p z k
abbrev dicT (o : Bool) (f : Nat × Nat → Int) (ps : List (Nat × Nat)) : D := .dic o true (ps.map pD) (ps.map fun p => .int (f p))
theorem dic_put {f : Nat × Nat → Int} {ps : List (Nat × Nat)} {q : Nat × Nat} (h : q ∉ ps) (hl : ps.length < 1000) : dputOp (dicT true f ps) (pD q) (.int (f q)) = some (dicT true f (ps ++ [q])) := by
  have e : keyAt (ps.map pD) (pD q) = none := by
    rw [keyAt_p, List.findIdx?_eq_none_iff]
    intro x hx
    simp
    rintro rfl
    exact h hx
  have e2 : keyOk true (pD q) = true := rfl
  have e3 : (ps.map pD).length < sz := by
    rw [List.length_map]
    exact Nat.lt_trans hl (by decide)
  show (if _ then _ else _) = _
  rw [if_pos ⟨e2, e3⟩]
  unfold putD
  rw [e]
  simp
theorem dic_get {o : Bool} {f : Nat × Nat → Int} {ps : List (Nat × Nat)} {q : Nat × Nat} (h : q ∈ ps) : dgetOp (dicT o f ps) (pD q) = some (.int (f q)) := by
  have e : keyAt (ps.map pD) (pD q) = some (ps.idxOf q) := by rw [keyAt_p, find_p h]
  have e2 : keyOk true (pD q) = true := rfl
  have hl := List.idxOf_lt_length_of_mem h
  have e3 : lookD (ps.map pD) (ps.map fun p => .int (f p)) (pD q) = some (.int (f q)) := by
    unfold lookD
    rw [e]
    show (ps.map fun p => D.int (f p))[ps.idxOf q]? = _
    rw [List.getElem?_map, List.getElem?_eq_getElem hl, List.getElem_idxOf]
    rfl
  show (if keyOk true (pD q) = true then (lookD (ps.map pD) (ps.map fun p => .int (f p)) (pD q)).bind (fun r => if r.noOwn = true then some r else none) else none) = _
  rw [if_pos e2, e3]
  rfl
theorem cv_anti (x y : Ky) : cv x y = 0 - cv y x := by
  unfold cv
  split <;> split <;> rfl
theorem cv_three (x y : Ky) : cv x y = -1 ∨ cv x y = 0 ∨ cv x y = 1 := by
  unfold cv
  split <;> split <;> simp
theorem cv_le {x y : Ky} (h : cv x y ≤ 0) : ltK y x = false := by
  cases e : ltK y x with
  | false => rfl
  | true =>
    unfold cv at h
    rw [e, ltK_asy e] at h
    exact absurd h (by decide)
theorem cv_le' {x y : Ky} (h : ltK y x = false) : cv x y ≤ 0 := by
  unfold cv
  by_cases q : ltK x y = true <;> simp [q, h]
theorem cv_tr {x y z : Ky} (h : cv x y ≤ 0) (k : cv y z ≤ 0) : ¬ 0 < cv x z := by
  have := cv_le' (ltK_ng (cv_le k) (cv_le h))
  omega
theorem repr_cv (x y : Ky) : ∃ r, bltop .repr [.int (cv x y)] = some (.str r) := by
  have e0 : ∀ v : Int, bltop .repr [.int v] = if flat 60 (.int v) = true ∧ (D.int v).toP.showable = true ∧ (D.int v).toP.shown.length ≤ sz then some (.str (D.int v).toP.shown) else none := fun _ => rfl
  rw [e0]
  rcases cv_three x y with e | e | e <;> rw [e, if_pos (by decide +kernel)] <;> exact ⟨_, rfl⟩
theorem ne_int (a b : Int) : cmpop .ne (.int a) (.int b) = some (decide (a ≠ b)) := by
  show (if flat 60 (.int a) = true ∧ flat 60 (.int b) = true then some (!deq (.int a) (.int b)) else none) = _
  rw [if_pos ⟨by simp [flat], by simp [flat]⟩]
  congr 1
  by_cases h : a = b <;> simp [deq, D.toP, PyData.eqv, h]
def kinT (r : Int) : Kin := if r = 0 then .n else if r = 1 then .t else .c
theorem kinT_at (r : Int) (h0 : 0 ≤ r) (h1 : r < 3) : atI [D.str "number", .str "text", .str "caseless"] r = some (.str (kinS (kinT r))) := by
  have : r = 0 ∨ r = 1 ∨ r = 2 := by omega
  rcases this with rfl | rfl | rfl <;> rfl
theorem cmp_eg {Γ : Glob} (hc : SCmp Γ) (k : Kin) (a b : Str) (ha : wordOk a) (hb : wordOk b) (hk : k ≠ .n) (v : Int) (hv : cmpV k (.txt a) (.txt b) = v) : Γ "compare_cells" [.str (kinS k), .str a, .str b] = .ok (.int v) [.str (kinS k), .str a, .str b] := by
  have h1 : ck k (.txt a) := by
    cases k with
    | n => exact absurd rfl hk
    | t => exact ha
    | c => exact ha
  have h2 : ck k (.txt b) := by
    cases k with
    | n => exact absurd rfl hk
    | t => exact hb
    | c => exact hb
  rw [← hv]
  exact hc k _ _ h1 h2
theorem enum_l : ∀ (n : Nat) (l : List D), (Hc.enumD n l).length = l.length
  | _, [] => rfl
  | n, a :: l => by simp [Hc.enumD, enum_l (n + 1) l]
theorem rest_02 {Γ : Glob} (hc : SCmp Γ) (hm : SCompared Γ) (y : D) (sm : Bool) (k : Kin) (cs : List Cel) (hcs : ∀ c ∈ cs, ck k c) (hl : cs.length ≤ 12) :
    (Hc.execs Γ (b_law_holds.drop 2) [some y, some (.bl sm), some (.str (kinS k)), some (clsD true cs), none, none, none, none, none, none, none, none]).wp (retQ (fun d _ => d = .bl true) [true, true]) fun x _ => noXc x := by
  show (Hc.execs Γ [_, _, _, _, _, _] _).wp _ _
  have cel : ∀ i, i < cs.length → ck k (cs.getD i .no) := fun i hi => hcs _ (by
    rw [List.getD_eq_getElem?_getD, List.getElem?_eq_getElem hi]
    exact List.getElem_mem hi)
  obtain ⟨f, ef⟩ : ∃ f : Nat × Nat → Int, f = fun p => cmpV k (cs.getD p.1 .no) (cs.getD p.2 .no) := ⟨_, rfl⟩
  have ef : ∀ i j, f (i, j) = cmpV k (cs.getD i .no) (cs.getD j .no) := fun i j => by rw [ef]
  have fzv : ∀ ps : List (Nat × Nat), fzs (ps.map fun p => D.int (f p)) = ps.map fun p => .int (f p) := fun ps => fzs_map _ (fun _ => rfl) ps
  refine step ?_
  simp! []
  have sol : solids (cs.map celD) = true := solids_map _ (fun c => by cases c <;> rfl) cs
  refine step ?_
  simp! [own_cel]
  refine ⟨rfl, ?_⟩
  refine loop (σ := List (Nat × Nat) × Option D × Option D × Option D × Option D) (fun s => [some y, some (.bl sm), some (.str (kinS k)), some (clsD true cs), some (dicT true f s.1), s.2.1, s.2.2.1, s.2.2.2.1, s.2.2.2.2, none, none, none]) (fun i s => (∀ a b, (a, b) ∈ s.1 ↔ a < i ∧ b < cs.length) ∧ s.1.length ≤ 12 * i) ([], none, none, none, none) rfl (fun _ => stays_one rfl sol) ⟨fun a b => by simp, by simp⟩ ?_ ?_
  · rintro i d ⟨ps, s5, s6, s7, s8⟩ hi ⟨hps, hpl⟩
    obtain ⟨x, hx, rfl⟩ := Hc.enum_get hi
    have hil : i < cs.length := by
      have := (List.getElem?_eq_some_iff.mp hx).1
      rwa [List.length_map] at this
    rw [List.getElem?_map] at hx
    obtain ⟨c, hcx, rfl⟩ := Option.map_eq_some_iff.mp hx
    have ec : c = cs.getD i .no := by rw [List.getD_eq_getElem?_getD, hcx]; rfl
    subst ec
    dsimp only at hps hpl
    rw [Nat.zero_add]
    refine ⟨_, rfl, ?_⟩
    dsimp only
    refine step ?_
    simp! [own_cel]
    refine ⟨rfl, ?_⟩
    refine loop (σ := List (Nat × Nat) × Option D × Option D) (fun s => [some y, some (.bl sm), some (.str (kinS k)), some (clsD true cs), some (dicT true f s.1), some (.int (i : Int)), some (celD (cs.getD i .no)), s.2.1, s.2.2, none, none, none]) (fun j s => (∀ a b, (a, b) ∈ s.1 ↔ (a < i ∧ b < cs.length) ∨ (a = i ∧ b < j)) ∧ s.1.length ≤ 12 * i + j) (ps, s7, s8) rfl (fun _ => stays_one rfl sol) ⟨fun a b => by rw [hps]; simp, by simpa using hpl⟩ ?_ ?_
    · rintro j d ⟨qs, t7, t8⟩ hj ⟨hqs, hql⟩
      obtain ⟨x, hx, rfl⟩ := Hc.enum_get hj
      have hjl : j < cs.length := by
        have := (List.getElem?_eq_some_iff.mp hx).1
        rwa [List.length_map] at this
      rw [List.getElem?_map] at hx
      obtain ⟨c, hcx, rfl⟩ := Option.map_eq_some_iff.mp hx
      have ec : c = cs.getD j .no := by rw [List.getD_eq_getElem?_getD, hcx]; rfl
      subst ec
      dsimp only at hqs hql
      rw [Nat.zero_add]
      refine ⟨_, rfl, ?_⟩
      dsimp only
      have e1 := hc k _ _ (cel i hil) (cel j hjl)
      obtain ⟨pm, e2⟩ := hm k _ _ (cel i hil) (cel j hjl)
      have hn : (i, j) ∉ qs := by
        rw [hqs]
        omega
      have e3 := dic_put (f := f) hn (by omega)
      have e4 : dgetOp (dicT true f (qs ++ [(i, j)])) (.tup [.int (i : Int), .int (j : Int)]) = some (.int (cmpV k (cs.getD i .no) (cs.getD j .no))) := by
        rw [← ef]
        exact dic_get (q := (i, j)) (by simp)
      rw [ef] at e3
      obtain ⟨r, er⟩ := repr_cv (Hp.keyOf k (cs.getD i .no)) (Hp.keyOf k (cs.getD j .no))
      refine step ?_
      simp! [e1, e3, cell_own, cell_fz]
      refine step ?_
      simp! [cDget, two, e4, er, e2, cell_own, cell_fz]
      refine ⟨(qs ++ [(i, j)], some (.int (j : Int)), some (celD (cs.getD j .no))), rfl, ?_, by simp; omega⟩
      intro a b
      rw [List.mem_append, hqs]
      simp
      omega
    · rintro ⟨qs, t7, t8⟩ ⟨hqs, hql⟩
      dsimp only at hqs hql
      rw [enum_l, List.length_map] at hqs hql
      simp! []
      refine ⟨(qs, some (.int (i : Int)), some (celD (cs.getD i .no)), t7, t8), rfl, ?_, ?_⟩
      · intro a b
        rw [hqs]
        omega
      · dsimp only
        omega
  · rintro ⟨ps, s5, s6, s7, s8⟩ ⟨hps, hpl⟩
    dsimp only at hps
    rw [enum_l, List.length_map] at hps
    clear hpl
    have get : ∀ a b, a < cs.length → b < cs.length → dgetOp (dicT true f ps) (.tup [.int (a : Int), .int (b : Int)]) = some (.int (f (a, b))) := fun a b h1 h2 => dic_get (q := (a, b)) ((hps a b).mpr ⟨h1, h2⟩)
    simp! []
    refine step ?_
    simp! []
    refine ⟨⟨by omega, by omega⟩, ?_⟩
    rw [upto0, Int.toNat_natCast]
    have sol9 : solids ((List.range cs.length).map fun (i : Nat) => D.int (i : Int)) = true := solids_map _ (fun _ => rfl) _
    have own9 : noOwns ((List.range cs.length).map fun (i : Nat) => D.int (i : Int)) = true := noOwns_map _ (fun _ => rfl) _
    refine step ?_
    simp! [own9]
    refine ⟨rfl, ?_⟩
    refine loop_p (List.range cs.length) (fun (i : Nat) => .int (i : Int)) (fun s : Option D × Option D => [some y, some (.bl sm), some (.str (kinS k)), some (clsD true cs), some (dicT true f ps), s.1, s6, s.2, s8, some (.lst true ((List.range cs.length).map fun (i : Nat) => D.int (i : Int))), none, none]) (fun _ _ => True) (s5, s7) rfl (fun _ => stays_one rfl sol9) trivial ?_ ?_
    · rintro pre i post ⟨t5, t7⟩ hsp _
      have hi : i < cs.length := List.mem_range.mp (by rw [hsp]; simp)
      refine ⟨_, rfl, ?_⟩
      dsimp only
      refine step ?_
      simp! [own9]
      refine ⟨rfl, ?_⟩
      refine loop_p (List.range cs.length) (fun (i : Nat) => .int (i : Int)) (fun s : Option D => [some y, some (.bl sm), some (.str (kinS k)), some (clsD true cs), some (dicT true f ps), some (.int (i : Int)), s6, s, s8, some (.lst true ((List.range cs.length).map fun (i : Nat) => D.int (i : Int))), none, none]) (fun _ _ => True) t7 rfl (fun _ => stays_one rfl sol9) trivial ?_ ?_
      · rintro pre2 j post2 t7 hsp2 _
        have hj : j < cs.length := List.mem_range.mp (by rw [hsp2]; simp)
        refine ⟨_, rfl, ?_⟩
        have g1 := get i j hi hj
        have g2 := get j i hj hi
        have anti : cmpop .ne (.int (f (i, j))) (.int (0 - f (j, i))) = some false := by
          rw [ne_int, ef, ef]
          have := cv_anti (Hp.keyOf k (cs.getD i .no)) (Hp.keyOf k (cs.getD j .no))
          unfold cmpV
          generalize cv (Hp.keyOf k (cs.getD i .no)) (Hp.keyOf k (cs.getD j .no)) = u at this ⊢
          subst this
          simp
        refine step ?_
        simp! [cDget, two, g1, g2, anti]
        refine step ?_
        simp! [own9]
        refine comp_k (List.range cs.length) (fun (i : Nat) => .int (i : Int)) (fun _ : Unit => .int 1) (fun _ => false) (fun _ => ()) (stays_one rfl sol9) (by rw [List.length_range]; exact Nat.le_trans hl (by decide)) ?_ ?_
        · intro m hm'
          have hm' : m < cs.length := List.mem_range.mp hm'
          have g3 := get j m hj hm'
          have g4 := get i m hi hm'
          by_cases h1 : f (i, j) ≤ 0
          · by_cases h2 : f (j, m) ≤ 0
            · have h3 : ¬ 0 < f (i, m) := by
                rw [ef] at h1 h2 ⊢
                exact cv_tr h1 h2
              simp! [cDget, two, g1, g3, g4, h1, h2, h3]
            · simp! [cDget, two, g1, g3, h1, h2]
          · simp! [cDget, two, g1, h1]
        · have e0 : List.filter (fun _ : Nat => false) (List.range cs.length) = [] := by simp
          have nn : cmpop .ne (.lst true []) (.lst true []) = some false := by rfl
          simp! [e0, nn]
          exact ⟨some (.int (j : Int)), rfl⟩
      · rintro t7 _
        simp! []
        exact ⟨(some (.int (i : Int)), t7), rfl⟩
    · rintro ⟨t5, t7⟩ _
      have eg : ∀ s ∈ (["a", "Z", "^"] : List Str), Γ "compare_cells" [.str "caseless", .str "_", .str s] = .ok (.int (if s = "^" then 1 else -1)) [.str "caseless", .str "_", .str s] := by
        intro s hs
        have w : ∀ s ∈ (["a", "Z", "^"] : List Str), wordOk s ∧ cmpV .c (.txt "_") (.txt s) = if s = "^" then 1 else -1 := by decide +kernel
        exact cmp_eg hc .c "_" s (by decide +kernel) (w s hs).1 (by decide) _ (w s hs).2
      have e1 := cmp_eg hc .c "aZ" "Az" (by decide +kernel) (by decide +kernel) (by decide) 0 (by decide +kernel)
      have e2 := cmp_eg hc .t "Z" "a" (by decide +kernel) (by decide +kernel) (by decide) (-1) (by decide +kernel)
      have e1 : Γ "compare_cells" [.str "caseless", .str "aZ", .str "Az"] = .ok (.int 0) [.str "caseless", .str "aZ", .str "Az"] := e1
      have e2 : Γ "compare_cells" [.str "text", .str "Z", .str "a"] = .ok (.int (-1)) [.str "text", .str "Z", .str "a"] := e2
      simp! []
      refine step ?_
      simp! []
      refine comp_m' (["a", "Z", "^"] : List Str) D.str D.int (fun s => if s = "^" then 1 else -1) rfl rfl (by decide) ?_ ?_
      · intro s hs
        have e3 := eg s hs
        simp! [e3]
      · simp! []
        refine step ?_
        simp! [e1, e2]

abbrev SHoldsT (Γ : Glob) : Prop := ∀ {x : D} (sm : Bool), BagT 0 x → (Γ "_law_holds" [x, .bl sm]).wp (fun d _ => d = .bl true) noXc
theorem t_holdsT {Γ : Glob} (hd : DrT Γ) (hce : SCellsT Γ) (hc : SCmp Γ) (hm : SCompared Γ) {x : D} (sm : Bool) (hx : BagT 0 x) : (runDef Γ 12 b_law_holds [x, .bl sm]).wp (fun d _ => d = .bl true) noXc := by
  refine run_wp2 (env := [some x, some (.bl sm), none, none, none, none, none, none, none, none, none, none]) (ks := [true, true]) rfl rfl ?_
  have rest := @rest_02 Γ hc hm
  unfold b_law_holds at rest ⊢
  refine step ?_
  simp! []
  refine Rc.then (hd hx (by omega) (by decide) (by decide +kernel)) ?_
  rintro _ _ ⟨r, x1, rfl, rfl, r0, r1, hx1⟩
  have e1 := kinT_at r r0 r1
  simp! [e1]
  clear e1
  generalize kinT r = k
  refine step ?_
  cases sm with
  | true =>
    simp! []
    refine Rc.then (hce k 3 hx1 (by omega) (by decide) (by decide)) ?_
    rintro _ _ ⟨cs, y, rfl, rfl, hl, hcs, hy⟩
    simp! []
    exact rest y true k cs hcs (by omega)
  | false =>
    simp! []
    refine Rc.then (hd hx1 (by omega) (by decide) (by decide +kernel)) ?_
    rintro _ _ ⟨u, x2, rfl, rfl, u0, u1, hx2⟩
    simp! []
    refine Rc.then (hce k (2 + u) hx2 (by omega) (by omega) (by omega)) ?_
    rintro _ _ ⟨cs, y, rfl, rfl, hl, hcs, hy⟩
    simp! []
    exact rest y false k cs hcs (by omega)
theorem t_law {Γ : Glob} (hs : SSrcT Γ) (hh : SHoldsT Γ) (ns : List Int) (hn : ns.length ≤ 63) : (runDef Γ 3 b_law [.lst false (ns.map .int)]).wp (fun d ps => d = .bl true) noXc := by
  refine run_wp2 (env := [some (.lst false (ns.map .int)), none, none]) (ks := [true]) rfl rfl ?_
  unfold b_law
  refine step ?_
  simp! [own_ints]
  refine ⟨by omega, ?_⟩
  obtain ⟨q, hq, q0, q1⟩ : ∃ q : Int, (if (if 12 < (ns.length : Int) then 12 else (ns.length : Int)) > 1 then if 12 < (ns.length : Int) then 12 else (ns.length : Int) else 1) = q ∧ 0 ≤ q ∧ q ≤ 12 := ⟨_, rfl, by split <;> (try split) <;> omega, by split <;> (try split) <;> omega⟩
  rw [hq, cut_to _ q0]
  obtain ⟨ms, em, hms⟩ : ∃ ms : List Int, (ns.map D.int ++ [D.int 0]).take q.toNat = ms.map .int ∧ ms.length ≤ 12 := by
    refine ⟨(ns ++ [0]).take q.toNat, ?_, by rw [List.length_take]; omega⟩
    rw [List.map_take, List.map_append]
    rfl
  have fzi : fzs (ms.map D.int) = ms.map .int := fzs_map _ (fun _ => rfl) ms
  rw [em, fzi]
  clear em hq fzi
  refine loop (σ := Option D × Option D) (fun s => [some (.lst false (ns.map .int)), s.1, s.2]) (fun _ _ => True) (none, none) rfl (fun _ => rfl) trivial ?_ ?_
  · rintro k d ⟨s1, s2⟩ hk _
    obtain ⟨x, hx, rfl⟩ := Hc.enum_get hk
    have hkl : k < ms.length := by
      have := (List.getElem?_eq_some_iff.mp hx).1
      rwa [List.length_map] at this
    rw [List.getElem?_map] at hx
    obtain ⟨n, _, rfl⟩ := Option.map_eq_some_iff.mp hx
    rw [Nat.zero_add]
    refine ⟨_, rfl, ?_⟩
    dsimp only
    obtain ⟨src, ps, es, hb⟩ := hs n (k : Int) (by omega) (by omega)
    refine step ?_
    simp! [es, own_ints, eq_nilL]
    refine Rc.then (hh _ hb) ?_
    rintro _ pp rfl
    simp! []
    exact ⟨(some (.int (k : Int)), some (.int n)), rfl⟩
  · rintro ⟨s1, s2⟩ _
    simp! []
    refine step ?_
    simp! []
local macro_rules
  | `(tactic| walk_at "g") => `(tactic| ((repeat refine (glob_off (by decide)).trans ?_); exact glob_at))
section
variable {Γ : Glob}
theorem m_is_integer (h : Γ "is_integer" = runDef (globOf p_0) 1 bIsInt) : SInt Γ := by
  unfold SInt
  intros
  rw [h]
  apply t_int  <;> assumption
theorem m_is_kind (h : Γ "is_kind" = runDef (globOf p_1) 1 bIsKind) : SKind Γ := by
  unfold SKind
  intros
  rw [h]
  apply t_kind  <;> assumption
theorem m_is_cell_character (h : Γ "is_cell_character" = runDef (globOf p_2) 1 bIsCh) : SCh Γ := by
  unfold SCh
  intros
  rw [h]
  apply t_ch  <;> assumption
theorem m_is_cell (h : Γ "is_cell" = runDef (globOf p_3) 3 bIsCell) : SCell Γ := by
  unfold SCell
  intros
  rw [h]
  apply t_cell (m_is_integer (by walk_at "g")) (m_is_cell_character (by walk_at "g")) <;> assumption
theorem m_sort_key (h : Γ "sort_key" = runDef (globOf p_4) 2 b_sort_key) : SSortKeyT Γ := by
  unfold SSortKeyT
  intros
  rw [h]
  apply t_sortKeyT  <;> assumption
theorem m_compare_cells (h : Γ "compare_cells" = runDef (globOf p_5) 5 b_compare_cells) : SCmp Γ := by
  unfold SCmp
  intros
  rw [h]
  apply t_cmp (m_is_kind (by walk_at "g")) (m_is_cell (by walk_at "g")) (m_sort_key (by walk_at "g")) <;> assumption
theorem m_law_source (h : Γ "_law_source" = runDef (globOf p_6) 2 b_law_source) : SSrcT Γ := by
  unfold SSrcT
  intros
  rw [h]
  apply t_srcT  <;> assumption
theorem m_law_draw (h : Γ "_law_draw" = runDef (globOf p_7) 4 b_law_draw) : DrT Γ := by
  unfold DrT
  intros
  rw [h]
  apply t_drawT  <;> assumption
theorem m_law_word (h : Γ "_law_word" = runDef (globOf p_8) 6 b_law_word) : SWordT Γ := by
  unfold SWordT
  intros
  rw [h]
  apply t_wordT (m_law_draw (by walk_at "g")) <;> assumption
theorem m_law_number (h : Γ "_law_number" = runDef (globOf p_9) 2 b_law_number) : SNumT Γ := by
  unfold SNumT
  intros
  rw [h]
  apply t_numT (m_law_draw (by walk_at "g")) <;> assumption
theorem m_law_cells (h : Γ "_law_cells" = runDef (globOf p_10) 5 b_law_cells) : SCellsT Γ := by
  unfold SCellsT
  intros
  rw [h]
  apply t_cellsT (m_law_draw (by walk_at "g")) (m_law_word (by walk_at "g")) (m_law_number (by walk_at "g")) <;> assumption
theorem m_law_compared (h : Γ "_law_compared" = runDef (globOf p_11) 3 b_law_compared) : SCompared Γ := by
  unfold SCompared
  intros
  rw [h]
  apply t_compared  <;> assumption
theorem m_law_holds (h : Γ "_law_holds" = runDef (globOf p_12) 12 b_law_holds) : SHoldsT Γ := by
  unfold SHoldsT
  intros
  rw [h]
  apply t_holdsT (m_law_draw (by walk_at "g")) (m_law_cells (by walk_at "g")) (m_compare_cells (by walk_at "g")) (m_law_compared (by walk_at "g")) <;> assumption
end
theorem pure_law (ns : List Int) (h : ns.length ≤ 63) : ∃ ps, sem ns = .ok (.bl true) ps := by
  have e : globOf prog "law" = runDef (globOf p_13) 3 b_law := glob_at
  have r := t_law (Γ := globOf p_13) (m_law_source (by walk_at "g")) (m_law_holds (by walk_at "g")) ns h
  rw [← e] at r
  obtain ⟨d, ps, h1, rfl⟩ := Rc.wp_ex r
  exact ⟨ps, h1⟩

end K02

set_option Elab.async false
set_option linter.all false
set_option maxRecDepth 100000
set_option maxHeartbeats 0
open PySem PySem.W PySem.Calls PyProof.Rows
theorem PySem.Challenge.cw_headerclicks_k02_cells_compared_holds : PySem.Challenge.rw_headerclicks_k02_cells_compared.Holds := by
  w_on; o_law
  refine HandSHeadRun.head_any (r := OpenLaw.row PySem.Challenge.rw_headerclicks_k02_cells_compared) (q := view (OpenLaw.row PySem.Challenge.rw_headerclicks_k02_cells_compared).prog [23]) (H := K02.hk) (ob := K02.ob) (M := 4000) (loose := K02.loose) (d := HandSHeadRun.topDef (OpenLaw.row PySem.Challenge.rw_headerclicks_k02_cells_compared).prog 23) (kwd := []) K02.ob_eq
    (by kernel_rfl) (fun s => by kernel_rfl) K02.run (by kernel_rfl) (by kernel_rfl) (by kernel_rfl) (by rfl) (by first | assumption | decide +kernel) (by decide +kernel) ⟨rfl, rfl, rfl, rfl, rfl, by decide +kernel⟩ ?hw ?hc
  case hw => w_witness2
  case hc =>
    refine Att.attach_call (n := 63) rfl (by kernel_rfl) fun w s₀ s₁ mg mb fa o pm cd doc a vs ns G Y ho hd hcd hmg0 hobj hints hlen hg => ?_
    obtain ⟨K, KX, c⟩ := Y
    have hmg : mg ("law" : PySem.Str) = some (.ref fa) := by
      have e : (HandSHeadRun.topDef (OpenLaw.row PySem.Challenge.rw_headerclicks_k02_cells_compared).prog 23).name = ("law" : PySem.Str) := by kernel_rfl
      rw [← e]
      exact hmg0
    obtain ⟨fd, F, hm, hb, _⟩ := K02.at_law KX G.T.g c
    have e : fa = He.ga K ("law" : PySem.Str) := by
      have := hmg.symm.trans hm
      cases this
      rfl
    subst e
    refine Hc.lawG KX G.T.g G.T.b G.T.builtins G.T.nolimit hg hobj hints (Nat.le_trans hlen (by decide)) (k := K02.prog.length) ⟨rfl, by decide, by decide⟩ (fun base hK hG => ?_) (fun s u hk => hb s [u] hk rfl) (K02.pure_law ns hlen)
    exact Hc.defOk (K02.gis hK hG c) (K02.frs hK hG c) (Hc.progOk (K02.gis hK hG c) (K02.frs hK hG c) _ (K02.atAll hK hG c) (Hc.chkP_tail K02.chk)) K02.chk F
