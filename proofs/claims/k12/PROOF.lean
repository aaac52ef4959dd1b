import PyProof.Rows.All
import KE.LtData
import KE.DataFind
import HandS.List
import HandS.Text
import HandS.ForMost
import HandS.FStr
import HandS.Wide
import HandS.Walk
import HandS.TupAny
import HandS.TupMul
import HandS.Style
import HandS.ExcOwn
import HandS.WordsExc
import HandS.Zip
import HandS.RaiseMore
import HandS.Deep
import PyProof.ReprRoads
import KE.DataCmp
import PyProof.Rows.InDataRows
import PyProof.EnumMake
import KE.GoesMore
import KE.GoesEnum
import HandS.Conv
import HandS.Dict
import HandS.IsInst
import HandS.TupSets
import HandS.HeadEnd
import HandS.Defaults
import HandS.HeadHook1
import HandS.HeadHook2
import HandS.Head0
import HandS.Head1
import HandS.Head2
import HandS.Words
import KE.SortData
import PySem.Challenge.RW_hoistsure_k12_opposite_conditions
set_option Elab.async false
set_option linter.all false
/-! A small language of our own: values as trees (tuples inline, lists by number), terms with places for names, and a reckoner. -/
namespace Ev
open PySem

/-- a value: tuples are trees (a list that is never written, too: scr), a list stands in the store under a number -/
inductive D where
  | non | bl (b : Bool) | int (i : Int) | str (s : Str) | tup (ds : List D) | scr (ds : List D) | ref (n : Nat)
  deriving Inhabited
/-- what a term gives: a value, or a list that nobody else holds -/
inductive TV where
  | d (d : D) | lst (ds : List D)
/-- what stands in the store -/
inductive MO where
  | lst (ds : List D)
abbrev MH := List MO
/-- the names' values by place -/
abbrev Sg := List (Option D)
inductive Res (α : Type) where
  | ok (a : α) (M : MH) | exc (c : Nat) (d : D) (M : MH) | bad
def Res.bnd {α β : Type} : Res α → (α → MH → Res β) → Res β
  | .ok a M, k => k a M
  | .exc c d M, _ => .exc c d M
  | .bad, _ => .bad
/-- where something lacks, nothing is said -/
def opt {α : Type} (o : Option α) (M : MH) : Res α := match o with
  | some a => .ok a M
  | none => .bad
/-- a list that is handed on gets its number -/
def mat : TV → MH → D × MH
  | .d d, M => (d, M)
  | .lst ds, M => (.ref M.length, M ++ [.lst ds])
def MO.items : MO → List D
  | .lst ds => ds
def rd (M : MH) (n : Nat) : Option (List D) := (M[n]?).map MO.items
/-- the items of a list or tuple -/
def sq (M : MH) : TV → Option (List D)
  | .lst ds => some ds
  | .d (.tup ds) => some ds
  | .d (.scr ds) => some ds
  | .d (.ref n) => rd M n
  | _ => none
/-- of a list alone -/
def sqL (M : MH) : TV → Option (List D)
  | .lst ds => some ds
  | .d (.scr ds) => some ds
  | .d (.ref n) => rd M n
  | _ => none
/-- of a list that may change -/
def sqW (M : MH) : TV → Option (List D)
  | .lst ds => some ds
  | .d (.ref n) => match M[n]? with
    | some (.lst ds) => some ds
    | _ => none
  | _ => none
/-- as data of plain trees -/
def pdAll (f : D → Option PyData) : List D → Option (List PyData)
  | [] => some []
  | d :: ds => match f d, pdAll f ds with
    | some x, some xs => some (x :: xs)
    | _, _ => none
def pd (M : MH) : Nat → D → Option PyData
  | 0, _ => none
  | n + 1, d => match d with
    | .non => some .none
    | .bl b => some (.bool b)
    | .int i => some (.int i)
    | .str s => some (.str s)
    | .tup ds => (pdAll (pd M n) ds).map .tuple
    | .scr ds => (pdAll (pd M n) ds).map .list
    | .ref k => match rd M k with
      | some ds => (pdAll (pd M n) ds).map .list
      | none => none
def pdT (M : MH) (n : Nat) : TV → Option PyData
  | .d d => pd M n d
  | .lst ds => match n with
    | 0 => none
    | k + 1 => (pdAll (pd M k) ds).map .list
/-- how deep data may be -/
def deep : Nat := 40

inductive Bop where
  | add | sub | mul | fdiv | mod | pow
inductive Cop where
  | eq | ne | lt | le | gt | ge | is | isnot | isin | notin
inductive Bfn where
  | len | int | str | tuple | list | all | any | max1 | min1 | max2 | min2 | sum | abs | repr
inductive Mth where
  | append | count | join | pop | extend
/-- built-in classes that isinstance is asked about -/
inductive Ity where
  | int | bool | str | tuple | list
  deriving DecidableEq
/-- terms of one part -/
inductive Op1 where
  | isi (t : Ity) | lset
/-- terms of two parts -/
inductive Op2 where
  | dget (kvs : List (Str × Int))
mutual
inductive Ex where
  | var (i : Nat)
  | cst (x : Str) (d : D)
  | lit (d : D)
  | tup (es : Exs)
  | lst (es : Exs)
  | bin (o : Bop) (a b : Ex)
  | neg (a : Ex)
  | nt (a : Ex)
  | cmp (o : Cop) (a b : Ex)
  | chain (o o2 : Cop) (a b c : Ex)
  | bop (all : Bool) (es : Exs)
  | ite (c a b : Ex)
  | ix (a i : Ex)
  | slc (a : Ex) (lo hi : Ox)
  | rev (a : Ex)
  | lrg (a : Ex)
  | dix (kvs : List (Str × Str)) (a : Ex)
  | x1 (o : Op1) (a : Ex)
  | x2 (o : Op2) (a b : Ex)
  | call (f : Nat) (es : Exs) (ks : List Nat)
  | bf (f : Bfn) (es : Exs)
  | mt (m : Mth) (o : Ex) (es : Exs)
  | comp (own : List Nat) (elt : Ex) (tg : Tg) (it : It) (ifs : Exs)
  | fst (ps : Fps)
inductive Exs where
  | nil | cons (e : Ex) (es : Exs)
inductive Ox where
  | non | som (e : Ex)
inductive Fps where
  | nil | txt (s : Str) (ps : Fps) | val (e : Ex) (ps : Fps)
inductive It where
  | seq (e : Ex) | rng1 (a : Ex) | rng2 (a b : Ex) | rng3 (a b c : Ex) | enum (e : Ex) | zip (a b : Ex)
inductive Tg where
  | name (i : Nat) | tup (is : List Nat) | mix (l : List (Nat ⊕ List Nat))
end
mutual
inductive Stm where
  | set (i : Nat) (e : Ex)
  | par (is : List Nat) (es : Exs)
  | unp (is : List Nat) (e : Ex)
  | put (o i e : Ex)
  | expr (e : Ex)
  | ret (e : Ex)
  | iff (c : Ex) (a b : Stms)
  | for_ (tg : Tg) (it : It) (body : Stms)
  | whl (k : Nat) (c : Ex) (body : Stms)
  | aug (i : Nat) (o : Bop) (e : Ex)
  | brk | cnt | stop
inductive Stms where
  | nil | cons (s : Stm) (ss : Stms)
end

/-! ### what the operators give -/
def dInt : TV → Option Int
  | .d (.int i) => some i
  | _ => none
def dStr : TV → Option Str
  | .d (.str s) => some s
  | _ => none
def dTup : TV → Option (List D)
  | .d (.tup ds) => some ds
  | _ => none
def guard' {α : Type} (c : Bool) (a : α) : Option α := if c = true then some a else none
def bigOk (i j : Int) : Bool := decide (i.natAbs < 2 ^ 64) || decide (j.natAbs < 2 ^ 64) || (decide (i.natAbs < 2 ^ 2000) && decide (j.natAbs < 2 ^ 2000))
def intsOf : List D → Option (List Int)
  | [] => some []
  | .int i :: r => (intsOf r).map (i :: ·)
  | _ :: _ => none
def strsOf : List D → Option (List Str)
  | [] => some []
  | .str i :: r => (strsOf r).map (i :: ·)
  | _ :: _ => none
def blsOf : List D → Option (List Bool)
  | [] => some []
  | .bl i :: r => (blsOf r).map (i :: ·)
  | _ :: _ => none
def copies (n : Nat) (ds : List D) : List D := (List.replicate n ds).flatten
/-- a list's items, of a list alone -/
def cut {α : Type} (xs : List α) (lo hi : Option Int) : List α := (xs.drop (HT.sIx xs.length 0 lo)).take (HT.sIx xs.length xs.length hi - HT.sIx xs.length 0 lo)
def addop (M : MH) (x y : TV) : Option TV := match x, y with
  | .d (.int i), .d (.int j) => some (.d (.int (i + j)))
  | .d (.str a), .d (.str b) => guard' (decide (a.length + b.length ≤ sizeLine)) (.d (.str (a ++ b)))
  | .d (.tup a), .d (.tup b) => guard' (decide (a.length + b.length ≤ sizeLine)) (.d (.tup (a ++ b)))
  | x, y => match sqW M x, sqW M y with
    | some a, some b => guard' (decide (a.length + b.length ≤ sizeLine)) (.lst (a ++ b))
    | _, _ => none
def mulop (x y : TV) : Option TV := match x, y with
  | .d (.int i), .d (.int j) => guard' (bigOk i j) (.d (.int (i * j)))
  | .d (.tup a), .d (.int k) => guard' (decide (0 ≤ k) && decide (k ≤ 1000) && decide (a.length ≤ 1000)) (.d (.tup (copies k.toNat a)))
  | _, _ => none
def numop (x y : TV) (g : Int → Int → Option Int) : Option TV := match x, y with
  | .d (.int i), .d (.int j) => (g i j).map fun k => .d (.int k)
  | _, _ => none
def binop (M : MH) : Bop → TV → TV → Option TV
  | .add, x, y => addop M x y
  | .sub, x, y => numop x y fun i j => some (i - j)
  | .mul, x, y => mulop x y
  | .fdiv, x, y => numop x y fun i j => guard' (decide (0 < j) && decide (j.natAbs < 2 ^ 2000)) (i / j)
  | .mod, x, y => numop x y fun i j => guard' (decide (0 < j)) (i % j)
  | .pow, x, y => numop x y fun i j => guard' (decide (0 ≤ j) && decide (j ≤ 1000) && decide (i.natAbs < 2 ^ 1000)) (i ^ j.toNat)
def memOf : PyData → Option (List PyData)
  | .list bs => some bs
  | .tuple bs => some bs
  | _ => none
def noNone : PyData → Bool
  | .none => false
  | _ => true
def cmpop (M : MH) (o : Cop) (x y : TV) : Option Bool := match o with
  | .eq => match pdT M deep x, pdT M deep y with
    | some a, some b => some (PyData.eqv a b)
    | _, _ => none
  | .ne => match pdT M deep x, pdT M deep y with
    | some a, some b => some (!PyData.eqv a b)
    | _, _ => none
  | .lt => match pdT M deep x, pdT M deep y with
    | some a, some b => guard' (W.alike a b && noNone a) (W.dataLt a b)
    | _, _ => none
  | .le => match pdT M deep x, pdT M deep y with
    | some a, some b => guard' (W.alike a b && noNone a) (!W.dataLt b a)
    | _, _ => none
  | .gt => match pdT M deep x, pdT M deep y with
    | some a, some b => guard' (W.alike a b && noNone a) (W.dataLt b a)
    | _, _ => none
  | .ge => match pdT M deep x, pdT M deep y with
    | some a, some b => guard' (W.alike a b && noNone a) (!W.dataLt a b)
    | _, _ => none
  | .is => match x, y with
    | .d .non, .d .non => some true
    | .d (.bl a), .d (.bl b) => some (decide (a = b))
    | .d (.bl _), .d .non => some false
    | .d (.int _), .d .non => some false
    | .d (.str _), .d .non => some false
    | .d (.tup _), .d .non => some false
    | _, _ => none
  | .isnot => match x, y with
    | .d .non, .d .non => some false
    | .d (.bl a), .d (.bl b) => some (!decide (a = b))
    | .d (.bl _), .d .non => some true
    | .d (.int _), .d .non => some true
    | .d (.str _), .d .non => some true
    | .d (.tup _), .d .non => some true
    | _, _ => none
  | .isin => match pdT M deep x, pdT M deep y with
    | some a, some b => (memOf b).map fun bs => bs.any fun z => PyData.eqv z a
    | _, _ => none
  | .notin => match pdT M deep x, pdT M deep y with
    | some a, some b => (memOf b).map fun bs => !bs.any fun z => PyData.eqv z a
    | _, _ => none
def ixStr (i : Int) : TV → Option TV
  | .d (.str s) => match L2.atI s.cps.toList i with
    | some c => guard' (decide (s.length ≤ sizeLine)) (.d (.str ⟨#[c]⟩))
    | none => none
  | _ => none
def ixAt (M : MH) (x : TV) (i : Int) : Option TV := match sq M x with
  | some ds => (L2.atI ds i).map .d
  | none => ixStr i x
def ixop (M : MH) (x y : TV) : Option TV := match y with
  | .d (.int i) => ixAt M x i
  | _ => none
def slop (M : MH) (x : TV) (lo hi : Option Int) : Option TV := match x with
  | .d (.tup ds) => some (.d (.tup (cut ds lo hi)))
  | .d (.str s) => guard' (decide (s.length ≤ sizeLine)) (.d (.str (L2.cutS s lo hi)))
  | x => match sqL M x with
    | some ds => some (.lst (cut ds lo hi))
    | none => none
def revop (M : MH) (x : TV) : Option TV := match x with
  | .d (.tup ds) => some (.d (.tup ds.reverse))
  | x => match sqL M x with
    | some ds => some (.lst ds.reverse)
    | none => none
/-- list(range(j)) -/
def lrgop : TV → Option TV
  | .d (.int j) => guard' (decide (-(2 ^ 62) ≤ j) && decide (j ≤ 16777216)) (.lst ((List.range j.toNat).map fun (i : Nat) => D.int i))
  | _ => none
def lookS : List (Str × Str) → Str → Option Str
  | [], _ => none
  | (k, t) :: r, s => if k = s then some t else lookS r s
/-- {k: t, ..}[s], all texts -/
def dixop (kvs : List (Str × Str)) : TV → Option TV
  | .d (.str s) => (lookS kvs s).map fun t => .d (.str t)
  | _ => none
def maxL : List Int → Option Int
  | [] => none
  | a :: r => some (r.foldl (fun m x => if m < x then x else m) a)
def minL : List Int → Option Int
  | [] => none
  | a :: r => some (r.foldl (fun m x => if x < m then x else m) a)
def showInt (i : Int) : Option Str := guard' (decide (i.natAbs.log2 < 1920)) (toString i : String)
def bfop (M : MH) (f : Bfn) (xs : List TV) : Option TV := match f, xs with
  | .len, [x] => match sq M x with
    | some ds => some (.d (.int ds.length))
    | none => match dStr x with
      | some s => guard' (decide (s.length ≤ sizeLine)) (.d (.int s.length))
      | none => none
  | .int, [.d (.int i)] => some (.d (.int i))
  | .int, [.d (.bl b)] => some (.d (.int (if b then 1 else 0)))
  | .str, [.d (.int i)] => (showInt i).map fun s => .d (.str s)
  | .str, [.d (.str s)] => some (.d (.str s))
  | .tuple, [x] => (sq M x).map fun ds => .d (.tup ds)
  | .list, [x] => (sq M x).map .lst
  | .all, [x] => match sqL M x with
    | some ds => (blsOf ds).map fun bs => .d (.bl (bs.all id))
    | none => none
  | .any, [x] => match sqL M x with
    | some ds => (blsOf ds).map fun bs => .d (.bl (bs.any id))
    | none => none
  | .max1, [x] => match sqL M x with
    | some ds => match intsOf ds with
      | some is => (maxL is).map fun i => .d (.int i)
      | none => none
    | none => none
  | .min1, [x] => match sqL M x with
    | some ds => match intsOf ds with
      | some is => (minL is).map fun i => .d (.int i)
      | none => none
    | none => none
  | .max2, [.d (.int i), .d (.int j)] => some (.d (.int (if j > i then j else i)))
  | .min2, [.d (.int i), .d (.int j)] => some (.d (.int (if j < i then j else i)))
  | .sum, [x] => match sqL M x with
    | some ds => (intsOf ds).map fun is => .d (.int is.sum)
    | none => none
  | .abs, [.d (.int i)] => some (.d (.int (if i < 0 then -i else i)))
  | .repr, [x] => match pdT M deep x with
    | some p => guard' (p.showable && decide (p.shown.length ≤ sizeLine)) (.d (.str p.shown))
    | none => none
  | _, _ => none
def isD : Ity → D → Bool
  | .int, .int _ => true
  | .int, .bl _ => true
  | .bool, .bl _ => true
  | .str, .str _ => true
  | .tuple, .tup _ => true
  | .list, .scr _ => true
  | .list, .ref _ => true
  | _, _ => false
def isop : Ity → TV → Bool
  | t, .d d => isD t d
  | .list, .lst _ => true
  | _, .lst _ => false
/-- tuples of whole numbers -/
def intTups : List D → Option (List (List Int))
  | [] => some []
  | .tup ds :: r => match intsOf ds, intTups r with
    | some is, some l => some (is :: l)
    | _, _ => none
  | _ :: _ => none
/-- each of them once -/
def ddL : List (List Int) → List (List Int)
  | [] => []
  | a :: r => if a ∈ r then ddL r else a :: ddL r
/-- len(set(..)) of a list of tuples of whole numbers -/
def lsetop (M : MH) (x : TV) : Option TV := match sqL M x with
  | some ds => match intTups ds with
    | some l => guard' (decide (l.length < 64)) (.d (.int (ddL l).length))
    | none => none
  | none => none
def op1 (M : MH) : Op1 → TV → Option TV
  | .isi t, x => some (.d (.bl (isop t x)))
  | .lset, x => lsetop M x
def lookI : List (Str × Int) → Str → Option Int
  | [], _ => none
  | (k, t) :: r, s => if k = s then some t else lookI r s
/-- {k: i, ..}.get(s, d) -/
def dgetop (kvs : List (Str × Int)) : TV → TV → Option TV
  | .d (.str s), y => match lookI kvs s with
    | some i => some (.d (.int i))
    | none => some y
  | _, _ => none
def op2 (_ : MH) : Op2 → TV → TV → Option TV
  | .dget kvs, x, y => dgetop kvs x y
/-- a method's value and the store behind it -/
def mtop (M : MH) (m : Mth) (o : TV) (xs : List D) : Option (TV × MH) := match m, o, xs with
  | .append, .d (.ref n), [d] => match M[n]? with
    | some (.lst ds) => guard' (decide (ds.length < sizeLine)) (.d .non, M.set n (.lst (ds ++ [d])))
    | _ => none
  | .count, .d (.tup ds), [d] => match pd M deep (.tup ds), pd M deep d with
    | some (.tuple bs), some a => some (.d (.int (bs.countP fun z => PyData.eqv z a)), M)
    | _, _ => none
  | .pop, .d (.ref n), [] => match M[n]? with
    | some (.lst ds) => match ds[ds.length - 1]? with
      | some d => some (.d d, M.set n (.lst ds.dropLast))
      | none => none
    | _ => none
  | .extend, .d (.ref n), [.ref m] => match M[n]?, rd M m with
    | some (.lst ds), some es => guard' (decide (ds.length + es.length ≤ sizeLine) && decide (n ≠ m)) (.d .non, M.set n (.lst (ds ++ es)))
    | _, _ => none
  | _, _, _ => none
def joinS (M : MH) (s : Str) (x : TV) : Option TV := match sq M x with
  | some ds => match strsOf ds with
    | some ys => guard' (decide ((ys.map (·.length)).sum + ys.length * s.length ≤ 16777216)) (.d (.str (PySem.Txt.join s ys)))
    | none => none
  | none => none
def joinop (M : MH) (o x : TV) : Option TV := match o with
  | .d (.str s) => joinS M s x
  | _ => none
/-- whose method it may be -/
def recvOk : Mth → TV → Bool
  | .append, .d (.ref _) => true
  | .count, .d (.tup _) => true
  | .pop, .d (.ref _) => true
  | .extend, .d (.ref _) => true
  | .join, .d (.str _) => true
  | _, _ => false
def fmtop : TV → Option Str
  | .d (.str s) => guard' (decide (s.length ≤ sizeLine)) s
  | .d (.int i) => showInt i
  | _ => none

/-! ### what is walked -/
inductive Src where
  | vals (ds : List D) | live (n : Nat) | enum (s : Src) | zip (s t : Src)
def Src.cur (M : MH) : Src → Option (List D)
  | .vals ds => some ds
  | .live n => rd M n
  | .enum s => (s.cur M).map fun ds => (List.range ds.length).zipWith (fun (i : Nat) d => .tup [.int i, d]) ds
  | .zip s t => match s.cur M, t.cur M with
    | some a, some b => some (List.zipWith (fun x y => .tup [x, y]) a b)
    | _, _ => none
def srcOf (M : MH) : TV → Option Src
  | .d (.tup ds) => some (.vals ds)
  | .d (.scr ds) => some (.vals ds)
  | .lst ds => some (.vals ds)
  | .d (.ref n) => (rd M n).map fun _ => .live n
  | _ => none
def isTup : TV → Bool
  | .d (.tup _) => true
  | _ => false
def rng (lo : Int) (n : Nat) (c : Int) : List D := (List.range n).map fun i => .int (lo + (i : Nat) * c)
/-- range's ends are small -/
def small (i : Int) : Bool := decide (-(2 ^ 62) ≤ i) && decide (i < 2 ^ 62)
def rngN (i j c : Int) : Nat := if 0 < c then ((j - i + c - 1) / c).toNat else ((i - j + (-c) - 1) / (-c)).toNat
def setAll : List Nat → List D → Sg → Sg
  | i :: is, d :: ds, σ => setAll is ds (σ.set i (some d))
  | _, _, σ => σ
def putMix : List (Nat ⊕ List Nat) → List D → Sg → Option Sg
  | [], [], σ => some σ
  | .inl i :: l, d :: ds, σ => putMix l ds (σ.set i (some d))
  | .inr is :: l, d :: ds, σ => match d with
    | .tup es => if es.length = is.length then putMix l ds (setAll is es σ) else none
    | _ => none
  | _, _, _ => none
def putTg : Tg → D → Sg → Option Sg
  | .name i, d, σ => some (σ.set i (some d))
  | .tup is, d, σ => match d with
    | .tup ds => if ds.length = is.length then some (setAll is ds σ) else none
    | _ => none
  | .mix l, d, σ => match d with
    | .tup ds => putMix l ds σ
    | _ => none
def wipeS (σ : Sg) : List Nat → Sg
  | [] => σ
  | i :: r => wipeS (σ.set i none) r
/-- a comprehension's turns: n of them to come, the i-th next -/
def compL (s : Src) (len : Nat) (step : D → MH → Res (Option D)) : Nat → Nat → List D → MH → Res (List D)
  | 0, _, acc, M => match s.cur M with
    | some ds => if ds.length = len then .ok acc M else .bad
    | none => .bad
  | n + 1, i, acc, M => match s.cur M with
    | some ds => if ds.length = len then match ds[i]? with
        | some d => (step d M).bnd fun r M => match r with
          | some x => if acc.length < sizeLine then compL s len step n (i + 1) (acc ++ [x]) M else .bad
          | none => compL s len step n (i + 1) acc M
        | none => .bad
      else .bad
    | none => .bad
/-- no error leaves -/
def Res.quiet {α : Type} : Res α → Res α
  | .ok a M => .ok a M
  | _ => .bad
def tBl (r : Res TV) : Res Bool := r.bnd fun x M => match x with
  | .d (.bl b) => .ok b M
  | _ => .bad
def matR (r : Res TV) : Res D := r.bnd fun x M => .ok (mat x M).1 (mat x M).2

section
variable (C : Nat → List D → MH → Res D)
mutual
def ev : Ex → Sg → MH → Res TV
  | .var i, σ, M => match σ[i]? with
    | some (some d) => .ok (.d d) M
    | _ => .bad
  | .cst _ d, _, M => .ok (.d d) M
  | .lit d, _, M => .ok (.d d) M
  | .tup es, σ, M => (evs es σ M).bnd fun ds M => .ok (.d (.tup ds)) M
  | .lst es, σ, M => (evs es σ M).bnd fun ds M => .ok (.lst ds) M
  | .bin o a b, σ, M => (ev a σ M).bnd fun x M => (ev b σ M).bnd fun y M => opt (binop M o x y) M
  | .neg a, σ, M => (ev a σ M).bnd fun x M => match x with
    | .d (.int i) => .ok (.d (.int (-i))) M
    | _ => .bad
  | .nt a, σ, M => (tBl (ev a σ M)).bnd fun b M => .ok (.d (.bl (!b))) M
  | .cmp o a b, σ, M => (ev a σ M).bnd fun x M => (ev b σ M).bnd fun y M => (opt (cmpop M o x y) M).bnd fun b M => .ok (.d (.bl b)) M
  | .chain o o2 a b c, σ, M => (ev a σ M).bnd fun x M => (ev b σ M).bnd fun y M => (opt (cmpop M o x y) M).bnd fun k M =>
    if k = true then (ev c σ M).bnd fun z M => (opt (cmpop M o2 y z) M).bnd fun b M => .ok (.d (.bl b)) M else .ok (.d (.bl false)) M
  | .bop all es, σ, M => (evB all es σ M).bnd fun b M => .ok (.d (.bl b)) M
  | .ite c a b, σ, M => (tBl (ev c σ M)).bnd fun k M => if k = true then ev a σ M else ev b σ M
  | .ix a i, σ, M => (ev a σ M).bnd fun x M => (ev i σ M).bnd fun y M => opt (ixop M x y) M
  | .slc a lo hi, σ, M => (ev a σ M).bnd fun x M => (evO lo σ M).bnd fun l M => (evO hi σ M).bnd fun h M => opt (slop M x l h) M
  | .rev a, σ, M => (ev a σ M).bnd fun x M => opt (revop M x) M
  | .lrg a, σ, M => (ev a σ M).bnd fun x M => opt (lrgop x) M
  | .dix kvs a, σ, M => (ev a σ M).bnd fun x M => opt (dixop kvs x) M
  | .x1 o a, σ, M => (ev a σ M).bnd fun x M => opt (op1 M o x) M
  | .x2 o a b, σ, M => (ev a σ M).bnd fun x M => (ev b σ M).bnd fun y M => opt (op2 M o x y) M
  | .call f es ks, σ, M => (evs es σ M).bnd fun ds M => (C f (ks.filterMap fun k => ds[k]?) M).bnd fun d M => .ok (.d d) M
  | .bf f es, σ, M => (evT es σ M).bnd fun xs M => opt (bfop M f xs) M
  | .mt m o es, σ, M => (ev o σ M).bnd fun x M => if recvOk m x = true then match m with
      | .join => (evT es σ M).bnd fun ys M => match ys with
        | [y] => opt (joinop M x y) M
        | _ => .bad
      | m => (evs es σ M).bnd fun ds M => match mtop M m x ds with
        | some (r, M) => .ok r M
        | none => .bad
    else .bad
  | .comp own elt tg it ifs, σ, M => (evI it σ M).bnd fun s M => match s.cur M with
    | some ds => (compL s ds.length (fun d M => match putTg tg d (wipeS σ own) with
        | some σ => (evB true ifs σ M).quiet.bnd fun b M => if b = true then (matR (ev elt σ M)).quiet.bnd fun x M => .ok (some x) M else .ok none M
        | none => .bad) ds.length 0 [] M).bnd fun xs M => .ok (.lst xs) M
    | none => .bad
  | .fst ps, σ, M => (evF ps Str.empty σ M).bnd fun s M => .ok (.d (.str s)) M
def evs : Exs → Sg → MH → Res (List D)
  | .nil, _, M => .ok [] M
  | .cons e es, σ, M => (matR (ev e σ M)).bnd fun d M => (evs es σ M).bnd fun ds M => .ok (d :: ds) M
def evT : Exs → Sg → MH → Res (List TV)
  | .nil, _, M => .ok [] M
  | .cons e es, σ, M => (ev e σ M).bnd fun d M => (evT es σ M).bnd fun ds M => .ok (d :: ds) M
def evB : Bool → Exs → Sg → MH → Res Bool
  | all, .nil, _, M => .ok all M
  | all, .cons e es, σ, M => (tBl (ev e σ M)).bnd fun b M => if b = all then evB all es σ M else .ok (!all) M
def evO : Ox → Sg → MH → Res (Option Int)
  | .non, _, M => .ok none M
  | .som e, σ, M => (ev e σ M).bnd fun x M => match x with
    | .d (.int i) => .ok (some i) M
    | _ => .bad
def evF : Fps → Str → Sg → MH → Res Str
  | .nil, acc, _, M => .ok acc M
  | .txt s ps, acc, σ, M => if (acc ++ s).length ≤ sizeLine then evF ps (acc ++ s) σ M else .bad
  | .val e ps, acc, σ, M => (ev e σ M).bnd fun x M => match fmtop x with
    | some s => if (acc ++ s).length ≤ sizeLine then evF ps (acc ++ s) σ M else .bad
    | none => .bad
def evI : It → Sg → MH → Res Src
  | .seq e, σ, M => (ev e σ M).bnd fun x M => opt (srcOf M x) M
  | .rng1 a, σ, M => (ev a σ M).bnd fun x M => match x with
    | .d (.int j) => if small j = true then .ok (.vals (rng 0 j.toNat 1)) M else .bad
    | _ => .bad
  | .rng2 a b, σ, M => (ev a σ M).bnd fun x M => (ev b σ M).bnd fun y M => match x, y with
    | .d (.int i), .d (.int j) => if (small i && small j) = true then .ok (.vals (rng i (j - i).toNat 1)) M else .bad
    | _, _ => .bad
  | .rng3 a b c, σ, M => (ev a σ M).bnd fun x M => (ev b σ M).bnd fun y M => (ev c σ M).bnd fun z M => match x, y, z with
    | .d (.int i), .d (.int j), .d (.int c) => if (small i && small j && decide (c = -1)) = true then .ok (.vals (rng i (i - j).toNat (-1))) M else .bad
    | _, _, _ => .bad
  | .enum e, σ, M => (ev e σ M).bnd fun x M => (opt (srcOf M x) M).bnd fun s M => .ok (.enum s) M
  | .zip a b, σ, M => (ev a σ M).bnd fun x M => (ev b σ M).bnd fun y M => if (isTup x == isTup y) = true then match srcOf M x, srcOf M y with
      | some s, some t => .ok (.zip s t) M
      | _, _ => .bad
    else .bad
end
/-- how a statement ends -/
inductive Fl where
  | nx (σ : Sg) | rt (d : D) | bk (σ : Sg) | ct (σ : Sg)
def forL (s : Src) (len : Nat) (tg : Tg) (body : Sg → MH → Res Fl) : Nat → Nat → Sg → MH → Res Fl
  | 0, _, σ, M => match s.cur M with
    | some ds => if ds.length = len then .ok (.nx σ) M else .bad
    | none => .bad
  | n + 1, i, σ, M => match s.cur M with
    | some ds => if ds.length = len then match ds[i]? with
        | some d => match putTg tg d σ with
          | some σ => (body σ M).bnd fun f M => match f with
            | .nx σ => forL s len tg body n (i + 1) σ M
            | .ct σ => forL s len tg body n (i + 1) σ M
            | .bk σ => .ok (.nx σ) M
            | .rt d => .ok (.rt d) M
          | none => .bad
        | none => .bad
      else .bad
    | none => .bad
def whlL (c : Sg → MH → Res Bool) (body : Sg → MH → Res Fl) : Nat → Sg → MH → Res Fl
  | 0, _, _ => .bad
  | n + 1, σ, M => (c σ M).bnd fun b M => if b = true then (body σ M).bnd fun f M => match f with
      | .nx σ => whlL c body n σ M
      | .ct σ => whlL c body n σ M
      | .bk σ => .ok (.nx σ) M
      | .rt d => .ok (.rt d) M
    else .ok (.nx σ) M
mutual
def ex : Stm → Sg → MH → Res Fl
  | .set i e, σ, M => (matR (ev C e σ M)).bnd fun d M => .ok (.nx (σ.set i (some d))) M
  | .par is es, σ, M => (evs C es σ M).bnd fun ds M => if ds.length = is.length then .ok (.nx (setAll is ds σ)) M else .bad
  | .unp is e, σ, M => (ev C e σ M).bnd fun x M => match x with
    | .d (.tup ds) => if ds.length = is.length then .ok (.nx (setAll is ds σ)) M else .bad
    | _ => .bad
  | .put o i e, σ, M => (matR (ev C e σ M)).bnd fun d M => (ev C o σ M).bnd fun x M => (ev C i σ M).bnd fun y M => match x, y with
    | .d (.ref n), .d (.int k) => match M[n]? with
      | some (.lst ds) => match L2.ixN ds.length k with
        | some j => .ok (.nx σ) (M.set n (.lst (ds.set j d)))
        | none => .bad
      | _ => .bad
    | _, _ => .bad
  | .expr e, σ, M => (ev C e σ M).bnd fun _ M => .ok (.nx σ) M
  | .ret e, σ, M => (matR (ev C e σ M)).bnd fun d M => .ok (.rt d) M
  | .iff c a b, σ, M => (tBl (ev C c σ M)).bnd fun k M => if k = true then exs a σ M else exs b σ M
  | .for_ tg it body, σ, M => (evI C it σ M).bnd fun s M => match s.cur M with
    | some ds => forL s ds.length tg (exs body) ds.length 0 σ M
    | none => .bad
  | .whl k c body, σ, M => whlL (fun σ M => tBl (ev C c σ M)) (exs body) k σ M
  | .aug i o e, σ, M => match σ[i]? with
    | some (some (.int a)) => (ev C e σ M).bnd fun x M => match o, x with
      | .add, .d (.int j) => .ok (.nx (σ.set i (some (.int (a + j))))) M
      | .sub, .d (.int j) => .ok (.nx (σ.set i (some (.int (a - j))))) M
      | _, _ => .bad
    | _ => .bad
  | .brk, σ, M => .ok (.bk σ) M
  | .cnt, σ, M => .ok (.ct σ) M
  | .stop, _, _ => .bad
def exs : Stms → Sg → MH → Res Fl
  | .nil, σ, M => .ok (.nx σ) M
  | .cons s ss, σ, M => (ex s σ M).bnd fun f M => match f with
    | .nx σ => exs ss σ M
    | f => .ok f M
end
end
/-- a def: its parameters, its names by place (parameters first), its body -/
structure Fn where
  name : Str
  ps : List Str
  ns : List Str
  body : Stms
def run (fs : Nat → Option Fn) : Nat → Nat → List D → MH → Res D
  | 0, _, _, _ => .bad
  | n + 1, f, ds, M => match fs f with
    | some fn => if ds.length = fn.ps.length then
        (exs (run fs n) fn.body (ds.map some ++ List.replicate (fn.ns.length - ds.length) none) M).bnd fun r M => match r with
          | .rt d => .ok d M
          | .nx _ => .ok .non M
          | _ => .bad
      else .bad
    | none => .bad
end Ev

set_option maxRecDepth 100000
namespace Ev
open PySem PySem.Spec PyProof.Rows L2

/-! ### how the trees lie in the heap -/
/-- a tuple without an own dict -/
def TupAt (K : PySem.W.Frag) (H : Hp) (a : Addr) (vs : List V) : Prop :=
  (∃ o : Obj, H a = some (.frz o (.tup vs)) ∧ o.dict = none) ∨
    ∃ (o : Obj) (its : Array Value) (n : Nat), K.lookup a = some o ∧ (o.cls = .type "tuple" ∧ o.dict = none) ∧ o.data = .seq its n ∧ its.size ≤ sizeLine ∧ Vals vs its.toList
theorem TupAt.sq {K : PySem.W.Frag} {H : Hp} {a : Addr} {vs : List V} (h : TupAt K H a vs) : SqT K H a vs := by
  rcases h with ⟨o, h, _⟩ | ⟨o, its, n, h1, ⟨h2, _⟩, h3, h4, h5⟩
  · exact .inl (.inr ⟨o, h⟩)
  · exact .inr ⟨o, its, n, h1, h2, h3, h4, h5⟩
/-- a list that is never written -/
def FrzAt (K : PySem.W.Frag) (H : Hp) (a : Addr) (vs : List V) : Prop :=
  (∃ o : Obj, H a = some (.frz o (.lst vs))) ∨
    ∃ (o : Obj) (its : Array Value) (n : Nat), K.lookup a = some o ∧ o.cls = .type "list" ∧ o.dict = none ∧ o.data = .seq its n ∧ its.size ≤ sizeLine ∧ Vals vs its.toList
theorem FrzAt.sq {K : PySem.W.Frag} {H : Hp} {a : Addr} {vs : List V} (h : FrzAt K H a vs) : SqL K H a vs := by
  rcases h with ⟨o, h⟩ | h
  · exact .inl (.inr ⟨o, h⟩)
  · exact .inr h
mutual
inductive Rep (K : PySem.W.Frag) (H : Hp) (f : List Addr) : D → V → Prop where
  | non : Rep K H f .non .non
  | bl (b : Bool) : Rep K H f (.bl b) (.bl b)
  | int (i : Int) : Rep K H f (.int i) (.int i)
  | str (s : Str) : Rep K H f (.str s) (.str s)
  | tup {a : Addr} {vs : List V} {ds : List D} : TupAt K H a vs → RepL K H f ds vs → Rep K H f (.tup ds) (.ref a)
  | scr {a : Addr} {vs : List V} {ds : List D} : FrzAt K H a vs → RepL K H f ds vs → Rep K H f (.scr ds) (.ref a)
  | ref {n : Nat} {a : Addr} : f[n]? = some a → Rep K H f (.ref n) (.ref a)
inductive RepL (K : PySem.W.Frag) (H : Hp) (f : List Addr) : List D → List V → Prop where
  | nil : RepL K H f [] []
  | cons {d : D} {v : V} {ds : List D} {vs : List V} : Rep K H f d v → RepL K H f ds vs → RepL K H f (d :: ds) (v :: vs)
end
/-- one stretch of the run: f grows by new places, what is not f's stays -/
structure Ext (f f' : List Addr) (H H' : Hp) : Prop where
  pre : f <+: f'
  keep : ∀ a o, H a = some o → a ∉ f → H' a = some o
  new : ∀ a, a ∈ f' → a ∈ f ∨ H a = none
  frz : ∀ a o u, H a = some (.frz o u) → H' a = some (.frz o u)
section
variable {K : PySem.W.Frag} {f f' f'' : List Addr} {H H' H'' : Hp}
theorem Ext.refl : Ext f f H H := ⟨List.prefix_rfl, fun _ _ h _ => h, fun _ h => .inl h, fun _ _ _ h => h⟩
theorem Ext.trans (a : Ext f f' H H') (b : Ext f' f'' H' H'') : Ext f f'' H H'' where
  pre := a.pre.trans b.pre
  keep := fun p o h n => b.keep p o (a.keep p o h n) fun m => (a.new p m).elim n fun z => by rw [h] at z; cases z
  new := fun p m => by
    rcases b.new p m with z | z
    · exact a.new p z
    · by_cases hp : p ∈ f
      · exact .inl hp
      · cases e : H p with
        | none => exact .inr rfl
        | some o => rw [a.keep p o e hp] at z; cases z
  frz := fun p o u h => b.frz p o u (a.frz p o u h)
theorem Ext.fresh {p : Addr} {o : HO} (h : H p = none) : Ext f f H (upd H p o) where
  pre := List.prefix_rfl
  keep := fun a u e _ => by rw [upd_ne (ne_of_none e h)]; exact e
  new := fun _ h => .inl h
  frz := fun a o u e => by rw [upd_ne (ne_of_none e h)]; exact e
theorem Ext.write {p : Addr} {xs ys : List V} (h : H p = some (.lst xs)) (hp : p ∈ f) : Ext f f H (upd H p (.lst ys)) where
  pre := List.prefix_rfl
  keep := fun a u e n => by
    rw [upd_ne fun z => n (by rw [z]; exact hp)]
    exact e
  new := fun _ h => .inl h
  frz := fun a o u e => by
    rw [upd_ne]
    · exact e
    · rintro rfl
      rw [h] at e
      cases e
theorem Ext.get (x : Ext f f' H H') {n : Nat} {a : Addr} (h : f[n]? = some a) : f'[n]? = some a := by
  obtain ⟨r, e⟩ := x.pre
  rw [← e, List.getElem?_append_left (List.getElem?_eq_some_iff.mp h).1]
  exact h
theorem Ext.out (x : Ext f f' H H') {a : Addr} {o : HO} (h : H a = some o) (n : a ∉ f) : a ∉ f' := fun m => (x.new a m).elim n fun z => by rw [h] at z; cases z
/-- as Ext, of what never changes alone -/
structure Grow (f f' : List Addr) (H H' : Hp) : Prop where
  pre : f <+: f'
  frz : ∀ a o u, H a = some (.frz o u) → H' a = some (.frz o u)
theorem Ext.grow (x : Ext f f' H H') : Grow f f' H H' := ⟨x.pre, x.frz⟩
theorem Grow.get (x : Grow f f' H H') {n : Nat} {a : Addr} (h : f[n]? = some a) : f'[n]? = some a := by
  obtain ⟨r, e⟩ := x.pre
  rw [← e, List.getElem?_append_left (List.getElem?_eq_some_iff.mp h).1]
  exact h
theorem TupAt.grow {a : Addr} {vs : List V} (h : TupAt K H a vs) (x : Grow f f' H H') : TupAt K H' a vs := by
  rcases h with ⟨o, h, hd⟩ | h
  · exact .inl ⟨o, x.frz _ _ _ h, hd⟩
  · exact .inr h
theorem FrzAt.grow {a : Addr} {vs : List V} (h : FrzAt K H a vs) (x : Grow f f' H H') : FrzAt K H' a vs := by
  rcases h with ⟨o, h⟩ | h
  · exact .inl ⟨o, x.frz _ _ _ h⟩
  · exact .inr h
mutual
theorem Rep.grow (x : Grow f f' H H') : ∀ {d : D} {v : V}, Rep K H f d v → Rep K H' f' d v
  | _, _, .non => .non
  | _, _, .bl b => .bl b
  | _, _, .int i => .int i
  | _, _, .str s => .str s
  | _, _, .tup h r => .tup (h.grow x) (RepL.grow x r)
  | _, _, .scr h r => .scr (h.grow x) (RepL.grow x r)
  | _, _, .ref h => .ref (x.get h)
theorem RepL.grow (x : Grow f f' H H') : ∀ {ds : List D} {vs : List V}, RepL K H f ds vs → RepL K H' f' ds vs
  | _, _, .nil => .nil
  | _, _, .cons h r => .cons (Rep.grow x h) (RepL.grow x r)
end
theorem Rep.ext (x : Ext f f' H H') {d : D} {v : V} (h : Rep K H f d v) : Rep K H' f' d v := h.grow x.grow
theorem RepL.ext (x : Ext f f' H H') {ds : List D} {vs : List V} (h : RepL K H f ds vs) : RepL K H' f' ds vs := h.grow x.grow
theorem TupAt.ext {a : Addr} {vs : List V} (h : TupAt K H a vs) (x : Ext f f' H H') : TupAt K H' a vs := h.grow x.grow
theorem RepL.length : ∀ {ds : List D} {vs : List V}, RepL K H f ds vs → ds.length = vs.length
  | _, _, .nil => rfl
  | _, _, .cons _ r => congrArg (· + 1) r.length
theorem RepL.get : ∀ {ds : List D} {vs : List V} {i : Nat} {d : D}, RepL K H f ds vs → ds[i]? = some d → ∃ v, vs[i]? = some v ∧ Rep K H f d v
  | _, _, _, _, .nil, e => by simp at e
  | _, _, 0, _, .cons h _, e => by
    have e' := Option.some.inj e
    subst e'
    exact ⟨_, rfl, h⟩
  | _, _, i + 1, _, .cons _ r, e => RepL.get (i := i) r e
theorem RepL.getV : ∀ {ds : List D} {vs : List V} {i : Nat} {v : V}, RepL K H f ds vs → vs[i]? = some v → ∃ d, ds[i]? = some d ∧ Rep K H f d v
  | _, _, _, _, .nil, e => by simp at e
  | _, _, 0, _, .cons h _, e => by
    have e' := Option.some.inj e
    subst e'
    exact ⟨_, rfl, h⟩
  | _, _, i + 1, _, .cons _ r, e => RepL.getV (i := i) r e
theorem RepL.append : ∀ {ds es : List D} {vs us : List V}, RepL K H f ds vs → RepL K H f es us → RepL K H f (ds ++ es) (vs ++ us)
  | _, _, _, _, .nil, r => r
  | _, _, _, _, .cons h t, r => .cons h (RepL.append t r)
theorem RepL.take : ∀ {ds : List D} {vs : List V} (n : Nat), RepL K H f ds vs → RepL K H f (ds.take n) (vs.take n)
  | _, _, 0, _ => .nil
  | _, _, _ + 1, .nil => .nil
  | _, _, n + 1, .cons h r => .cons h (RepL.take n r)
theorem RepL.drop : ∀ {ds : List D} {vs : List V} (n : Nat), RepL K H f ds vs → RepL K H f (ds.drop n) (vs.drop n)
  | _, _, 0, r => r
  | _, _, _ + 1, .nil => .nil
  | _, _, n + 1, .cons _ r => RepL.drop n r
theorem RepL.set {d : D} {v : V} (h : Rep K H f d v) : ∀ {ds : List D} {vs : List V} (n : Nat), RepL K H f ds vs → RepL K H f (ds.set n d) (vs.set n v)
  | _, _, _, .nil => .nil
  | _, _, 0, .cons _ r => .cons h r
  | _, _, n + 1, .cons g r => .cons g (RepL.set h n r)
theorem RepL.reverse : ∀ {ds : List D} {vs : List V}, RepL K H f ds vs → RepL K H f ds.reverse vs.reverse
  | _, _, .nil => .nil
  | _, _, .cons h r => by
    rw [List.reverse_cons, List.reverse_cons]
    exact (RepL.reverse r).append (.cons h .nil)
theorem RepL.copies {ds : List D} {vs : List V} (r : RepL K H f ds vs) : ∀ n : Nat, RepL K H f (List.replicate n ds).flatten (List.replicate n vs).flatten
  | 0 => .nil
  | n + 1 => by
    rw [List.replicate_succ, List.replicate_succ, List.flatten_cons, List.flatten_cons]
    exact r.append (RepL.copies r n)
/-- what stands in the store, in the heap -/
def ObjRep (K : PySem.W.Frag) (H : Hp) (f : List Addr) (a : Addr) : MO → Prop
  | .lst ds => ∃ vs, H a = some (.lst vs) ∧ RepL K H f ds vs
structure Sim (K : PySem.W.Frag) (H : Hp) (f : List Addr) (M : MH) : Prop where
  len : f.length = M.length
  nd : f.Nodup
  obj : ∀ (n : Nat) (o : MO), M[n]? = some o → ∃ a : Addr, f[n]? = some a ∧ ObjRep K H f a o
/-- a term's value in the heap; H0: the heap ahead of the term -/
def TRep (K : PySem.W.Frag) (H0 H : Hp) (f : List Addr) : TV → V → Prop
  | .d d, v => Rep K H f d v
  | .lst ds, v => ∃ a vs, v = .ref a ∧ H a = some (.lst vs) ∧ a ∉ f ∧ H0 a = none ∧ RepL K H f ds vs
theorem TRep.ext {H0 : Hp} {tv : TV} {v : V} (h : TRep K H0 H f tv v) (x : Ext f f' H H') : TRep K H0 H' f' tv v := by
  cases tv with
  | d d => exact Rep.ext x h
  | lst ds =>
    obtain ⟨a, vs, rfl, h1, h2, h3, h4⟩ := h
    exact ⟨a, vs, rfl, x.keep _ _ h1 h2, x.out h1 h2, h3, RepL.ext x h4⟩
/-- seen from an earlier heap -/
theorem TRep.back {f0 : List Addr} {H0 H1 : Hp} {f1 : List Addr} {tv : TV} {v : V} (h : TRep K H1 H f tv v) (x : Ext f0 f1 H0 H1) (y : Ext f1 f H1 H) : TRep K H0 H f tv v := by
  cases tv with
  | d d => exact h
  | lst ds =>
    obtain ⟨a, vs, rfl, h1, h2, h3, h4⟩ := h
    refine ⟨a, vs, rfl, h1, h2, ?_, h4⟩
    cases e : H0 a with
    | none => rfl
    | some o =>
      have n0 : a ∉ f0 := fun m => h2 (y.pre.subset (x.pre.subset m))
      rw [x.keep a o e n0] at h3
      cases h3
theorem Sim.at {M : MH} (s : Sim K H f M) {n : Nat} {o : MO} (h : M[n]? = some o) {a : Addr} (ha : f[n]? = some a) : ObjRep K H f a o := by
  obtain ⟨b, hb, q⟩ := s.obj n o h
  rw [ha] at hb
  cases hb
  exact q
theorem Sim.addr {M : MH} (s : Sim K H f M) {n : Nat} {a : Addr} (ha : f[n]? = some a) : ∃ o, M[n]? = some o := by
  have h := (List.getElem?_eq_some_iff.mp ha).1
  rw [s.len] at h
  exact ⟨M[n], by simp [h]⟩
theorem ObjRep.sq {a : Addr} {o : MO} (h : ObjRep K H f a o) : ∃ vs, H a = some (.lst vs) ∧ RepL K H f o.items vs := by
  cases o with
  | lst ds => exact h
theorem rd_some {M : MH} {n : Nat} {ds : List D} (h : rd M n = some ds) : ∃ o, M[n]? = some o ∧ o.items = ds := by
  unfold rd at h
  cases e : M[n]? with
  | none => rw [e] at h; cases h
  | some o =>
    rw [e] at h
    exact ⟨o, rfl, Option.some.inj h⟩
theorem Sim.here {M : MH} (s : Sim K H f M) {a : Addr} (h : a ∈ f) : ∃ vs, H a = some (.lst vs) := by
  obtain ⟨n, hn⟩ := List.getElem?_of_mem h
  obtain ⟨o, ho⟩ := s.addr hn
  obtain ⟨vs, e, _⟩ := (s.at ho hn).sq
  exact ⟨vs, e⟩
/-- a new place is nowhere yet -/
theorem Sim.out {M : MH} (s : Sim K H f M) {p : Addr} (hp : H p = none) : p ∉ f := fun m => by
  obtain ⟨vs, e⟩ := s.here m
  rw [hp] at e
  cases e
theorem Sim.before {M : MH} (s : Sim K H f M) {f0 : List Addr} {H0 : Hp} (x : Ext f0 f H0 H) {p : Addr} (hp : H p = none) : H0 p = none := by
  cases e : H0 p with
  | none => rfl
  | some o =>
    have n0 : p ∉ f0 := fun m => s.out hp (x.pre.subset m)
    rw [x.keep p o e n0] at hp
    cases hp
/-- the heap grew elsewhere -/
theorem Sim.fresh {M : MH} (s : Sim K H f M) {p : Addr} {u : HO} (hp : H p = none) : Sim K (upd H p u) f M where
  len := s.len
  nd := s.nd
  obj := fun n o h => by
    obtain ⟨a, ha, q⟩ := s.obj n o h
    refine ⟨a, ha, ?_⟩
    have x : Ext f f H (upd H p u) := Ext.fresh hp
    cases o with
    | lst ds =>
      obtain ⟨vs, h1, h2⟩ := q
      exact ⟨vs, by rw [upd_ne (ne_of_none h1 hp)]; exact h1, RepL.ext x h2⟩
/-- a list that nobody holds gets its number -/
theorem Sim.mat {M : MH} (s : Sim K H f M) {a : Addr} {vs : List V} {ds : List D} (h : H a = some (.lst vs)) (n : a ∉ f) (r : RepL K H f ds vs) : Sim K H (f ++ [a]) (M ++ [.lst ds]) := by
  have x : Grow f (f ++ [a]) H H := ⟨List.prefix_append _ _, fun _ _ _ h => h⟩
  refine ⟨by simp [s.len], ?_, fun k o e => ?_⟩
  · rw [List.nodup_append]
    refine ⟨s.nd, by simp, fun b hb c hc => ?_⟩
    rw [List.mem_singleton] at hc
    rw [hc]
    exact fun e => n (e ▸ hb)
  · by_cases hk : k < M.length
    · rw [List.getElem?_append_left hk] at e
      obtain ⟨b, hb, q⟩ := s.obj k o e
      refine ⟨b, x.get hb, ?_⟩
      cases o with
      | lst ds =>
        obtain ⟨us, h1, h2⟩ := q
        exact ⟨us, h1, h2.grow x⟩
    · have e' : k = M.length := by
        have := (List.getElem?_eq_some_iff.mp e).1
        rw [List.length_append, List.length_singleton] at this
        omega
      subst e'
      rw [List.getElem?_append_right (Nat.le_refl _), Nat.sub_self] at e
      have e2 : MO.lst ds = o := Option.some.inj e
      subst e2
      refine ⟨a, ?_, vs, h, r.grow x⟩
      rw [← s.len, List.getElem?_append_right (Nat.le_refl _), Nat.sub_self]
      rfl
/-- a list of the store is written -/
theorem Sim.write {M : MH} (s : Sim K H f M) {n : Nat} {a : Addr} {vs : List V} {ds es : List D} {us : List V} (hn : M[n]? = some (.lst ds)) (ha : f[n]? = some a) (h : H a = some (.lst vs)) (r : RepL K H f es us) : Sim K (upd H a (.lst us)) f (M.set n (.lst es)) := by
  have hm : a ∈ f := List.mem_of_getElem? ha
  have x : Ext f f H (upd H a (.lst us)) := Ext.write h hm
  refine ⟨by rw [List.length_set]; exact s.len, s.nd, fun k o e => ?_⟩
  by_cases hk : k = n
  · subst hk
    rw [List.getElem?_set_self (List.getElem?_eq_some_iff.mp hn).1] at e
    have e2 : MO.lst es = o := Option.some.inj e
    subst e2
    exact ⟨a, ha, us, upd_same, RepL.ext x r⟩
  · rw [List.getElem?_set_ne (Ne.symm hk)] at e
    obtain ⟨b, hb, q⟩ := s.obj k o e
    have hne : b ≠ a := fun z => by
      subst z
      exact hk (nd_ix s.nd hb ha)
    refine ⟨b, hb, ?_⟩
    cases o with
    | lst zs =>
      obtain ⟨ws, h1, h2⟩ := q
      exact ⟨ws, by rw [upd_ne hne]; exact h1, RepL.ext x h2⟩
end
end Ev

set_option maxRecDepth 100000
set_option maxHeartbeats 2000000
namespace Ev
open PySem PySem.Spec PyProof.Rows L2
/-! ### rules over tuples that are known to their object -/
/-- a tuple with these items comes to be -/
def NewTup (xs : List V) (H : Hp) (Q : VK) : Prop := ∀ (p : Addr) (o : Obj), H p = none → o.dict = none → Q (.ref p) (upd H p (.frz o (.tup xs)))
section
variable {X : Cx} {pins : List (Addr × Obj)} {σ : L2.St} {H : Hp} {s : Shared}
/-- the heap with a new tuple behind -/
abbrev pushT (h : Heap) (us : List Value) : Heap := h.push { cls := .type "tuple", data := .seq us.toArray }
theorem lay_tup {xs : List V} {us : List Value} {Q : VK} {h : Heap} (I : Inv X pins σ H { s with heap := h }) (hz : xs.length ≤ sizeLine) (r : Vals xs us) (q : NewTup xs H Q) :
    EP X pins σ Q (.ref h.objs.size) { s with heap := pushT h us } := by
  have hn : H h.objs.size = none := I.hok.fresh (Nat.le_refl _)
  have hg : (pushT h us).get? h.objs.size = some { cls := .type "tuple", data := .seq us.toArray } := Heap.get?_push_size _ rfl
  refine ⟨.ref h.objs.size, _, I.laid (t' := s.toks) (o := .frz { cls := .type "tuple", data := .seq us.toArray } (.tup xs)) (fun b u e => Heap.get?_push_of_some _ e) (Nat.le_refl _) ?_, rfl, q h.objs.size { cls := .type "tuple", data := .seq us.toArray } hn rfl⟩
  exact ⟨hg, hz, us, r, _, hg, rfl, _, rfl⟩
theorem lay_tup0 {xs : List V} {us : List Value} {Q : VK} (I : Inv X pins σ H s) (hz : xs.length ≤ sizeLine) (r : Vals xs us) (q : NewTup xs H Q) :
    EP X pins σ Q (.ref s.heap.objs.size) { s with heap := pushT s.heap us } := lay_tup (s := s) (h := s.heap) I hz r q
theorem pe_tupF {es : List Expr} {t : TA} {kk : Nat} {pos : Pos} (h : PA X es t) : PE X (.Tuple es kk pos) (fun σ H Q => t σ H fun xs H1 => xs.length ≤ sizeLine ∧ NewTup xs H1 Q) := by
  constructor
  intro pins s σ H Q I hq
  apply wpAny_Tuple_spliced
  refine thn (h.run pos pins s σ H _ I hq) ?_
  rintro us s1 ⟨xs, H1, I1, r, hz, q⟩
  exact ⟨by rw [← r.length]; exact hz, lay_tup0 I1 hz r q⟩
theorem call_tupF : CallR X (.type "tuple") (fun xs H Q => ∃ p ys, xs = [.ref p] ∧ ((SqL X.K H p ys ∧ NewTup ys H Q) ∨ (SqT X.K H p ys ∧ Q (.ref p) H))) := by
  rintro pins s σ H xs us Q I r ⟨p, ys, rfl, h⟩
  obtain ⟨u, rfl, rx⟩ := vals1 r
  obtain rfl : u = Value.ref p := rx
  cases h with
  | inl h =>
    obtain ⟨its, rv, pl, hz⟩ := I.list h.1
    have hn := rv.length
    refine call_tuple_list pl.isList (fun h' kp => ?_) (by rw [List.size_toArray]; omega)
    exact lay_tup (s := s) (h := h') (I.kept (t' := s.toks) kp) hz rv h.2
  | inr h =>
    obtain ⟨its, _, pl, _⟩ := I.tuple h.1
    exact call_tuple_same pl ⟨.ref p, H, I, rfl, h.2⟩
theorem op_catF : OpR X (binaryOp .Add) (fun x y H Q => ∃ a b xs ys, x = .ref a ∧ y = .ref b ∧ SqT X.K H a xs ∧ SqT X.K H b ys ∧ xs.length + ys.length ≤ sizeLine ∧
    (xs = [] → Q (.ref b) H) ∧ (ys = [] → Q (.ref a) H) ∧ NewTup (xs ++ ys) H Q) := by
  rintro pins s σ H x y v u Q I rx ry ⟨a, b, xs, ys, rfl, rfl, ha, hb, hz, q0, q1, q2⟩
  obtain rfl : v = Value.ref a := rx
  obtain rfl : u = Value.ref b := ry
  obtain ⟨is, r1, p1, _⟩ := I.tuple ha
  obtain ⟨js, r2, p2, _⟩ := I.tuple hb
  by_cases hx : xs = []
  · subst hx
    cases r1
    exact cat_tup0 p1 p2 ⟨.ref b, H, I, rfl, q0 rfl⟩
  · have n1 : is ≠ [] := fun z => hx (by rw [z] at r1; cases r1; rfl)
    refine HT.cat_tup p1 p2 n1 (fun z => ?_) (fun _ => ?_) (by rw [← r1.length, ← r2.length]; exact hz)
    · rw [z] at r2
      cases r2
      exact ⟨.ref a, H, I, rfl, q1 rfl⟩
    · exact lay_tup0 I (by rw [List.length_append]; exact hz) (r1.append r2) q2
theorem sl_tupF : SlR X (fun x lo hi H Q => ∃ a xs, x = .ref a ∧ SqT X.K H a xs ∧ (cut xs lo hi = xs → Q (.ref a) H) ∧ NewTup (cut xs lo hi) H Q) := by
  rintro pins s σ H x v vl vu lo hi sl Q I rx hs pl pu ⟨a, xs, rfl, hx, q1, q2⟩
  obtain rfl : v = Value.ref a := rx
  obtain ⟨its, r, ht, hz⟩ := I.tuple hx
  have hl : its.toArray.size = xs.length := by rw [List.size_toArray, r.length]
  refine ⟨"tuple", _, PyProof.Rows.slot_tuple_getitem.lookup, ht.typeIs, ?_⟩
  by_cases hw : HT.sIx xs.length 0 lo = 0 ∧ HT.sIx xs.length xs.length hi = xs.length
  · refine getItem_tuple_whole ht hs pl pu (by rw [hl]; exact hw) ⟨.ref a, H, I, rfl, q1 ?_⟩
    unfold cut
    rw [hw.1, hw.2]
    simp
  · refine HT.getItem_tuple_cut ht hs pl pu (by rw [hl]; exact hw) ?_ (by rw [hl]; exact hz)
    rw [hl]
    refine lay_tup0 I ?_ ((r.drop _).take _) q2
    rw [List.length_take, List.length_drop]
    omega
end
end Ev

set_option maxRecDepth 100000
set_option maxHeartbeats 2000000
namespace Ev
open PySem PySem.Spec PyProof.Rows L2
/-! ### data of plain trees -/
/-- small plain data in the heap -/
structure Dat (K : PySem.W.Frag) (H : Hp) (x : V) (d : PyData) : Prop where
  dp : Dp K H x d
  pl : d.plain = true
  dep : d.depth ≤ deep
section
variable {X : Cx} {k : Nat}
theorem room_dat {A : Around} {d e : PyData} (hr : Room k A) (h : d.depth ≤ deep) : A.units + min d.depth e.depth < cLine := by
  have h1 := hr.units
  have h2 : min d.depth e.depth ≤ d.depth := Nat.min_le_left _ _
  unfold deep at h
  omega
theorem op_eqP (hr : Room k X.A) : OpR X (compareOp .Eq) (fun x y H Q => ∃ d e, Dat X.K H x d ∧ Dat X.K H y e ∧ Q (.bl (PyData.eqv d e)) H) := by
  rintro pins s σ H x y v u Q I rx ry ⟨d, e, hd, he, q⟩
  obtain ⟨as, ra⟩ := Dp.reads I d x v hd.dp rx
  obtain ⟨bs, rb⟩ := Dp.reads I e y u he.dp ry
  exact SeqAt.eq_plain ra rb hd.pl he.pl (room_dat hr hd.dep) ⟨.bl _, H, I, rfl, q⟩
theorem op_neP (hr : Room k X.A) : OpR X (compareOp .NotEq) (fun x y H Q => ∃ d e, Dat X.K H x d ∧ Dat X.K H y e ∧ Q (.bl (!PyData.eqv d e)) H) := by
  rintro pins s σ H x y v u Q I rx ry ⟨d, e, hd, he, q⟩
  obtain ⟨as, ra⟩ := Dp.reads I d x v hd.dp rx
  obtain ⟨bs, rb⟩ := Dp.reads I e y u he.dp ry
  exact SeqAt.ne_plain ra rb hd.pl he.pl (room_dat hr hd.dep) ⟨.bl _, H, I, rfl, q⟩
theorem noNone_ne {d : PyData} (h : noNone d = true) : d ≠ .none := by
  rintro rfl
  cases h
/-- what two alike data give -/
def rCm (K : PySem.W.Frag) (g : PyData → PyData → Bool) : R2 := fun x y H Q => ∃ d e, Dat K H x d ∧ Dat K H y e ∧ (W.alike d e && noNone d) = true ∧ Q (.bl (g d e)) H
theorem op_ltP (hr : Room k X.A) : OpR X (compareOp .Lt) (rCm X.K fun d e => W.dataLt d e) := by
  rintro pins s σ H x y v u Q I rx ry ⟨d, e, hd, he, ha, q⟩
  obtain ⟨h1, h2⟩ := Bool.and_eq_true_iff.mp ha
  obtain ⟨as, ra⟩ := Dp.reads I d x v hd.dp rx
  obtain ⟨bs, rb⟩ := Dp.reads I e y u he.dp ry
  exact W.lt_data ra rb h1 (noNone_ne h2) (room_dat hr hd.dep) ⟨.bl _, H, I, rfl, q⟩
theorem op_gtP (hr : Room k X.A) : OpR X (compareOp .Gt) (rCm X.K fun d e => W.dataLt e d) := by
  rintro pins s σ H x y v u Q I rx ry ⟨d, e, hd, he, ha, q⟩
  obtain ⟨h1, h2⟩ := Bool.and_eq_true_iff.mp ha
  obtain ⟨as, ra⟩ := Dp.reads I d x v hd.dp rx
  obtain ⟨bs, rb⟩ := Dp.reads I e y u he.dp ry
  exact W.gt_data ra rb h1 (noNone_ne h2) (room_dat hr hd.dep) ⟨.bl _, H, I, rfl, q⟩
theorem op_leP (hr : Room k X.A) : OpR X (compareOp .LtE) (rCm X.K fun d e => !W.dataLt e d) := by
  rintro pins s σ H x y v u Q I rx ry ⟨d, e, hd, he, ha, q⟩
  obtain ⟨h1, h2⟩ := Bool.and_eq_true_iff.mp ha
  obtain ⟨as, ra⟩ := Dp.reads I d x v hd.dp rx
  obtain ⟨bs, rb⟩ := Dp.reads I e y u he.dp ry
  exact W.le_data ra rb h1 (noNone_ne h2) (room_dat hr hd.dep) ⟨.bl _, H, I, rfl, q⟩
theorem op_geP (hr : Room k X.A) : OpR X (compareOp .GtE) (rCm X.K fun d e => !W.dataLt d e) := by
  rintro pins s σ H x y v u Q I rx ry ⟨d, e, hd, he, ha, q⟩
  obtain ⟨h1, h2⟩ := Bool.and_eq_true_iff.mp ha
  obtain ⟨as, ra⟩ := Dp.reads I d x v hd.dp rx
  obtain ⟨bs, rb⟩ := Dp.reads I e y u he.dp ry
  exact W.ge_data ra rb h1 (noNone_ne h2) (room_dat hr hd.dep) ⟨.bl _, H, I, rfl, q⟩
theorem room_in {A : Around} {m : Nat} {d : PyData} (hr : Room k A) (h : d.depth ≤ deep) : A.units + 1 + min m d.depth < cLine := by
  have h1 := hr.units
  have h2 : min m d.depth ≤ d.depth := Nat.min_le_right _ _
  unfold deep at h
  omega
theorem plainAll_l {ds : List PyData} (h : (PyData.list ds).plain = true) : PyData.plainAll ds = true := h
theorem plainAll_t {ds : List PyData} (h : (PyData.tuple ds).plain = true) : PyData.plainAll ds = true := h
/-- membership in a list or a tuple -/
def rMem (K : PySem.W.Frag) (g : Bool → Bool) : R2 := fun x y H Q => ∃ d ds, Dat K H x d ∧ (Dat K H y (.list ds) ∨ Dat K H y (.tuple ds)) ∧ Q (.bl (g (ds.any fun z => PyData.eqv z d))) H
theorem op_inP (hr : Room k X.A) : OpR X (compareOp .In) (rMem X.K id) := by
  rintro pins s σ H x y v u Q I rx ry ⟨d, ds, hd, he, q⟩
  obtain ⟨as, ra⟩ := Dp.reads I d x v hd.dp rx
  rcases he with he | he
  · obtain ⟨bs, rb⟩ := Dp.reads I _ y u he.dp ry
    exact SeqAt.in_list_data rb ra (plainAll_l he.pl) hd.pl (room_in hr hd.dep) ⟨.bl _, H, I, rfl, q⟩
  · obtain ⟨bs, rb⟩ := Dp.reads I _ y u he.dp ry
    exact SeqAt.in_tuple_data rb ra (plainAll_t he.pl) hd.pl (room_in hr hd.dep) ⟨.bl _, H, I, rfl, q⟩
theorem op_notinP (hr : Room k X.A) : OpR X (compareOp .NotIn) (rMem X.K not) := by
  rintro pins s σ H x y v u Q I rx ry ⟨d, ds, hd, he, q⟩
  obtain ⟨as, ra⟩ := Dp.reads I d x v hd.dp rx
  rcases he with he | he
  · obtain ⟨bs, rb⟩ := Dp.reads I _ y u he.dp ry
    exact SeqAt.notIn_list_data rb ra (plainAll_l he.pl) hd.pl (room_in hr hd.dep) ⟨.bl _, H, I, rfl, q⟩
  · obtain ⟨bs, rb⟩ := Dp.reads I _ y u he.dp ry
    exact SeqAt.notIn_tuple_data rb ra (plainAll_t he.pl) hd.pl (room_in hr hd.dep) ⟨.bl _, H, I, rfl, q⟩
/-- is, is not: with None, between truths -/
def rIs (g : Bool → Bool) : R2 := fun x y H Q => (y = .non ∧ Q (.bl (g (decide (x = .non)))) H) ∨ ∃ a b : Bool, x = .bl a ∧ y = .bl b ∧ Q (.bl (g (decide (a = b)))) H
theorem op_isP : OpR X (compareOp .Is) (rIs id) := by
  rintro pins s σ H x y v u Q I rx ry (q | q)
  · exact op_isN pins s σ H x y v u Q I rx ry q
  · exact op_isBl pins s σ H x y v u Q I rx ry q
theorem op_isnotP : OpR X (compareOp .IsNot) (rIs not) := by
  rintro pins s σ H x y v u Q I rx ry (q | q)
  · exact op_notN pins s σ H x y v u Q I rx ry q
  · exact op_notBl pins s σ H x y v u Q I rx ry q
/-! ### numbers -/
theorem bits_lt {i : Int} {n : Nat} (h : i.natAbs < 2 ^ n) : Builtin.Int.intBits i ≤ n := by
  unfold Builtin.Int.intBits
  by_cases e : i = 0
  · rw [if_pos (by rw [e]; rfl)]
    exact Nat.zero_le _
  · rw [if_neg (by simpa using e)]
    exact (Nat.log2_lt (by omega)).mpr h
theorem op_powW : OpR X (binaryOp .Pow) (rI (fun i j => (decide (0 ≤ j) && decide (j ≤ 1000) && decide (i.natAbs < 2 ^ 1000)) = true) fun i j => .int (i ^ j.toNat)) := by
  rintro pins s σ H x y v u Q I rx ry ⟨i, j, rfl, rfl, hc, q⟩
  obtain ⟨t, rfl⟩ := rx
  obtain ⟨t2, rfl⟩ := ry
  simp only [Bool.and_eq_true, decide_eq_true_eq] at hc
  obtain ⟨⟨h0, h1⟩, h2⟩ := hc
  refine pow_int h0 ?_ ⟨.int _, H, I.tok _, ⟨_, rfl⟩, q⟩
  have hb := bits_lt h2
  have h3 : ((Builtin.Int.intBits i : Nat) : Int) * j ≤ 1000 * 1000 := Int.le_trans (Int.mul_le_mul_of_nonneg_right (by omega : ((Builtin.Int.intBits i : Nat) : Int) ≤ 1000) h0) (Int.mul_le_mul_of_nonneg_left h1 (by omega))
  exact Int.le_trans h3 (by decide)
theorem op_mulP : OpR X (binaryOp .Mult) (rI (fun i j => bigOk i j = true) fun i j => .int (i * j)) := by
  rintro pins s σ H x y v u Q I rx ry ⟨i, j, rfl, rfl, hc, q⟩
  obtain ⟨t, rfl⟩ := rx
  obtain ⟨t2, rfl⟩ := ry
  have hm : IntMulOk i j := by
    unfold bigOk at hc
    simp only [Bool.or_eq_true, Bool.and_eq_true, decide_eq_true_eq] at hc
    rcases hc with (h | h) | ⟨h1, h2⟩
    · exact .of_left (bits_lt h)
    · exact .of_right (bits_lt h)
    · exact (wide_mul h1 h2 (by decide) (by decide) (by decide)).ok
  exact mul_int ⟨.int _, H, I.tok _, ⟨_, rfl⟩, q⟩ hm
theorem op_fdivP : OpR X (binaryOp .FloorDiv) (rI (fun _ j => (decide (0 < j) && decide (j.natAbs < 2 ^ 2000)) = true) fun i j => .int (i / j)) := by
  rintro pins s σ H x y v u Q I rx ry ⟨i, j, rfl, rfl, hc, q⟩
  simp only [Bool.and_eq_true, decide_eq_true_eq] at hc
  exact op_fdivW pins s σ H _ _ v u Q I rx ry ⟨i, j, rfl, rfl, wide_div hc.1 hc.2 (by decide) (by decide), q⟩
/-! ### repr -/
mutual
theorem plain_noDict : ∀ {d : PyData}, d.hasDict = true → d.plain = false
  | .none, h => by cases h
  | .bool _, h => by cases h
  | .int _, h => by cases h
  | .str _, h => by cases h
  | .list xs, h => plain_noDictAll (xs := xs) h
  | .tuple xs, h => plain_noDictAll (xs := xs) h
  | .dict _, _ => rfl
theorem plain_noDictAll : ∀ {xs : List PyData}, PyData.hasDictAll xs = true → PyData.plainAll xs = false
  | [], h => by cases h
  | x :: xs, h => by
    have h' : (x.hasDict || PyData.hasDictAll xs) = true := h
    show (x.plain && PyData.plainAll xs) = false
    rcases Bool.or_eq_true_iff.mp h' with z | z
    · rw [plain_noDict z, Bool.false_and]
    · rw [plain_noDictAll z, Bool.and_false]
end
theorem call_reprP (hr : Room k X.A) (hg : X.A.guards = some []) : CallR X (.builtin "repr") (fun xs H Q => ∃ x d, xs = [x] ∧ Dat X.K H x d ∧ (d.showable && decide (d.shown.length ≤ sizeLine)) = true ∧ Q (.str d.shown) H) := by
  rintro pins s σ H xs us Q I r ⟨x, d, rfl, hd, hc, q⟩
  obtain ⟨u, rfl, ru⟩ := vals1 r
  obtain ⟨as, rd⟩ := Dp.reads I d x u hd.dp ru
  obtain ⟨hs, hl⟩ := Bool.and_eq_true_iff.mp hc
  have hl := of_decide_eq_true hl
  have hu := hr.units
  have hd2 := hd.dep
  unfold deep at hd2
  have nd : d.hasDict = false := by
    cases hh : d.hasDict with
    | false => rfl
    | true => exact absurd hd.pl (by rw [plain_noDict hh]; exact Bool.false_ne_true)
  cases rd with
  | none => exact PySem.P.repr_of_none ⟨.str _, H, I.tok _, ⟨_, rfl⟩, q⟩
  | bool b => exact PySem.P.repr_of_bool ⟨.str _, H, I.tok _, ⟨_, rfl⟩, by cases b <;> exact q⟩
  | int i t => exact PySem.P.repr_of_int (of_decide_eq_true (by simpa only [PyData.showable] using hs)) ⟨.str _, H, I.tok _, ⟨_, rfl⟩, q⟩
  | str x t => exact PySem.P.repr_of_str ⟨.str _, H, I.tok _, ⟨_, rfl⟩, q⟩ hl
  | list h1 h2 h3 h4 =>
    refine repr_of_reads' (.list h1 h2 h3 h4) hs (fun z => by rw [nd] at z; cases z) hg (by omega) (fun _ _ e => e) (fun h' u tk kp => ?_) hl
    exact ⟨.str _, H, I.kept kp, ⟨_, rfl⟩, q⟩
  | tuple h1 h2 h3 h4 =>
    refine repr_of_reads' (.tuple h1 h2 h3 h4) hs (fun z => by rw [nd] at z; cases z) hg (by omega) (fun _ _ e => e) (fun h' u tk kp => ?_) hl
    exact ⟨.str _, H, I.kept kp, ⟨_, rfl⟩, q⟩
  | dict h1 h2 h3 h4 h5 => cases nd
end
end Ev

set_option maxRecDepth 100000
set_option maxHeartbeats 2000000
namespace Ev
open PySem PySem.Spec PyProof.Rows L2
/-! ### tuple * int -/
section
variable (l : Addr) (items : Array Value) (n : Nat) (dd : Option Addr) (sl : Array (Option Value)) (x : Int) (u : Tok)
abbrev tupO : Obj := { cls := .type "tuple", dict := dd, data := .seq items n, slots := sl }
theorem mul_same (c0 : (decide (x < -(2 ^ 63)) || decide (x ≥ 2 ^ 63)) = false) (c1 : (items.isEmpty || x == 1) = true) :
    Meets (Builtin.«tuple.__mul__» ⟨[.ref l, .int x u], []⟩) (fun _ R s => s.heap.get? l = some (tupO items n dd sl) ∧ R (.ok (.ret (Value.ref l))) s) :=
  .of_wp fun prog w A R s h => by
    obtain ⟨hp, g, d, tk, os⟩ := s
    obtain ⟨hl, h⟩ := h
    have f1 := AutoSeq1.idx_int
    wp_walk using wpAny_loadPart' hl
    repeat (first
      | (refine wpAny_ite_false (decide_eq_false (by rw [c0]; exact Bool.false_ne_true)) ?_; wp_walk using wpAny_loadPart' hl)
      | (refine wpAny_ite_true (decide_eq_true c1) ?_; wp_walk using wpAny_loadPart' hl)
      | (rw [if_pos c1]; wp_walk using wpAny_loadPart' hl))
    all_goals exact ⟨_, rfl, h⟩
theorem mul_zero (c0 : (decide (x < -(2 ^ 63)) || decide (x ≥ 2 ^ 63)) = false) (c1 : (items.isEmpty || x == 1) = false) (c2 : (decide (x ≤ 0) || items.isEmpty) = true) :
    Meets (Builtin.«tuple.__mul__» ⟨[.ref l, .int x u], []⟩) (fun _ R s => s.heap.get? l = some (tupO items n dd sl) ∧ R (.ok (.ret (Value.ref s.heap.objs.size))) { s with heap := pushT s.heap [] }) :=
  .of_wp fun prog w A R s h => by
    obtain ⟨hp, g, d, tk, os⟩ := s
    obtain ⟨hl, h⟩ := h
    have f1 := AutoSeq1.idx_int
    wp_walk using wpAny_loadPart' hl
    repeat (first
      | (refine wpAny_ite_false (decide_eq_false (by rw [c0]; exact Bool.false_ne_true)) ?_; wp_walk using wpAny_loadPart' hl)
      | (refine wpAny_ite_false (decide_eq_false (by rw [c1]; exact Bool.false_ne_true)) ?_; wp_walk using wpAny_loadPart' hl)
      | (refine wpAny_ite_true (decide_eq_true c2) ?_; wp_walk using wpAny_loadPart' hl))
    all_goals exact ⟨_, rfl, h⟩
end
section
variable {X : Cx} {k : Nat}
theorem op_repF : OpR X (binaryOp .Mult) (fun x y H Q => ∃ l k xs, x = .ref l ∧ y = .int k ∧ SqT X.K H l xs ∧ (decide (0 ≤ k) && decide (k ≤ 1000) && decide (xs.length ≤ 1000)) = true ∧
    (List.replicate k.toNat xs).flatten.length ≤ sizeLine ∧ ((List.replicate k.toNat xs).flatten = xs → Q (.ref l) H) ∧ NewTup (List.replicate k.toNat xs).flatten H Q) := by
  rintro pins s σ H x y v u Q I rx ry ⟨l, k, xs, rfl, rfl, hT, hc, flen, q1, q2⟩
  simp only [Bool.and_eq_true, decide_eq_true_eq] at hc
  obtain ⟨⟨h0, h1⟩, hz⟩ := hc
  obtain rfl : v = Value.ref l := rx
  obtain ⟨t, rfl⟩ := ry
  obtain ⟨its, r, ⟨⟨cls, dd, data, sl⟩, ho, hcl, n, hd⟩, hs⟩ := I.tuple hT
  simp only at hcl hd
  subst hcl hd
  have hle : its.length = xs.length := r.length.symm
  have c0 : (decide (k < -(2 ^ 63)) || decide (k ≥ 2 ^ 63)) = false := by
    simp only [Bool.or_eq_false_iff, decide_eq_false_iff_not]
    omega
  have road : wpAny (model X.prog X.w) X.A (call (.builtin "tuple.__mul__") [.ref l, .int k t]) (EP X pins σ Q) X.xe s → wpAny (model X.prog X.w) X.A (binaryOp .Mult (.ref l) (.int k t)) (EP X pins σ Q) X.xe s := fun h =>
    wpAny_binaryOp_repeat_ref (T := "tuple") (U := "int") (by decide) ⟨_, ho, rfl⟩ (fun s' => typeIs_int s' k t) noFill_tuple_mul F.fills_int_mul F.slot_int_rmul repeat_tuple F.slot_int_index.lookup
      (call_meets F.slot_int_rmul (typeIs_int s k t) F.entry_int_rmul (F.args_int_rmul_2 _ _) (int_rmul_tuple k t l its.toArray n dd sl) ⟨ho, rfl, ⟨_, ho, rfl⟩, h⟩)
  refine road ?_
  cases c1 : (its.toArray.isEmpty || k == 1) with
  | true =>
    refine call_meets F.slot_tuple_mul ⟨_, ho, rfl⟩ F.entry_tuple_mul (F.args_tuple_mul_2 _ _) (mul_same l its.toArray n dd sl k t c0 c1) ⟨ho, .ref l, H, I, rfl, q1 ?_⟩
    rcases Bool.or_eq_true_iff.mp c1 with z | z
    · have e : its = [] := by simpa using z
      have ex : xs = [] := by
        rw [e] at hle
        exact List.eq_nil_of_length_eq_zero hle.symm
      rw [ex]
      simp
    · have e : k = 1 := by simpa using z
      rw [e]
      simp
  | false =>
    cases c2 : (decide (k ≤ 0) || its.toArray.isEmpty) with
    | true =>
      refine call_meets F.slot_tuple_mul ⟨_, ho, rfl⟩ F.entry_tuple_mul (F.args_tuple_mul_2 _ _) (mul_zero l its.toArray n dd sl k t c0 c1 c2) ⟨ho, ?_⟩
      have e : k.toNat = 0 := by
        rcases Bool.or_eq_true_iff.mp c2 with z | z
        · have := of_decide_eq_true z
          omega
        · rw [z, Bool.true_or] at c1
          cases c1
      rw [e] at q2
      exact lay_tup0 I (Nat.zero_le _) .nil q2
    | false =>
      have hn : its.toArray.isEmpty = false := by
        cases z : its.toArray.isEmpty with
        | false => rfl
        | true => rw [z, Bool.true_or] at c1; cases c1
      have hsz0 : its.toArray.size = xs.length := by rw [List.size_toArray, hle]
      have hm : ((its.toArray.size : Nat) : Int) * k ≤ 1000000 := by
        rw [hsz0]
        have a1 : ((xs.length : Nat) : Int) * k ≤ 1000 * k := Int.mul_le_mul_of_nonneg_right (by omega) h0
        omega
      have c4 : Builtin.Tuple.tupleTooMany (((its.toArray.size : Nat) : Int) * k) = false := by
        unfold Builtin.Tuple.tupleTooMany
        have e : sizeLine = 16777216 := sizeLine_eq
        exact decide_eq_false (by rw [e]; omega)
      have fl : (List.replicate k.toNat its).flatten.length ≤ sizeLine := by
        rw [PyProof.Rows.lm_len_rep_flat] at flen ⊢
        rw [hle]
        exact flen
      refine call_meets F.slot_tuple_mul ⟨_, ho, rfl⟩ F.entry_tuple_mul (F.args_tuple_mul_2 _ _) (tuple_mulW l its.toArray n dd sl k t c0 c1 c2 (by omega) c4 (by rw [size_rep, List.size_toArray]; exact fl)) ⟨ho, ?_⟩
      rw [size_rep]
      exact lay_tup0 I flen (r.rep k.toNat) q2
/-! ### t[::-1] of a tuple -/
end
section
variable {prog : Program} {w : World} {A : Around} {E : Value → Shared → Prop} {s : Shared}
theorem filterMap_all {α β : Type} {f : α → Option β} {g : α → β} : ∀ l : List α, (∀ m, m ∈ l → f m = some (g m)) → l.filterMap f = l.map g
  | [], _ => rfl
  | a :: l, h => by
    rw [List.filterMap_cons, h a List.mem_cons_self, List.map_cons]
    exact congrArg (g a :: ·) (filterMap_all l fun m hm => h m (List.mem_cons_of_mem _ hm))
theorem back_pick (xs : List Value) : ((List.range xs.length).filterMap fun (m : Nat) => xs.toArray[(((xs.length : Int) - 1) + (m : Int) * (-1)).toNat]?).toArray = xs.reverse.toArray := by
  congr 1
  apply List.ext_getElem?
  intro i
  by_cases hi : i < xs.length
  · have e : ∀ m, m ∈ List.range xs.length → (fun (m : Nat) => xs.toArray[(((xs.length : Int) - 1) + (m : Int) * (-1)).toNat]?) m = some (xs.getD (xs.length - 1 - m) .none) := by
      intro m hm
      have hm' := List.mem_range.mp hm
      have e2 : (((xs.length : Int) - 1) + (m : Int) * (-1)).toNat = xs.length - 1 - m := by omega
      show xs.toArray[(((xs.length : Int) - 1) + (m : Int) * (-1)).toNat]? = _
      rw [e2]
      simp [List.getD, show xs.length - 1 - m < xs.length by omega]
    rw [filterMap_all (g := fun m => xs.getD (xs.length - 1 - m) .none) _ e]
    rw [List.getElem?_map, List.getElem?_range hi, List.getElem?_reverse hi]
    simp [List.getD, show xs.length - 1 - i < xs.length by omega]
  · have h1 : xs.reverse[i]? = none := List.getElem?_eq_none (by rw [List.length_reverse]; omega)
    rw [h1]
    refine List.getElem?_eq_none (Nat.le_trans (List.length_filterMap_le _ _) ?_)
    rw [List.length_range]
    omega
theorem back_adjust (n : Nat) : Builtin.Slice.sliceAdjust none none (-1) (n : Int) = ((n : Int) - 1, -1) := by
  unfold Builtin.Slice.sliceAdjust
  simp
theorem back_places (n : Nat) : Builtin.Slice.slicePlaces ((n : Int) - 1) (-1) (-1) = n := by
  unfold Builtin.Slice.slicePlaces
  simp only [show ¬ ((-1 : Int) > 0) by omega, if_false]
  split
  · simp
  · omega
theorem back_applied {sl : Addr} {vl vu vs : Value} {n : Nat} {Q : Int × Int × Nat → Shared → Prop} (hs : s.heap.IsSliceOf sl vl vu vs) (pl : IsPart vl none) (pu : IsPart vu none) (ps : IsPart vs (some (-1)))
    (h : Q ((n : Int) - 1, -1, n) s) : wpAny (model prog w) A (Builtin.Slice.sliceApplied (.ref sl) (pure (n : Int))) Q E s := by
  obtain ⟨os, hos, hcs, hds⟩ := id hs
  unfold Builtin.Slice.sliceApplied Builtin.Slice.sliceFields
  refine wpAny_bind (wpAny_bind (wpAny_field hos hds (x := vl) rfl (wpAny_bind (wpAny_field hos hds (x := vu) rfl (wpAny_bind (wpAny_field hos hds (x := vs) rfl (wpAny_pure ?_)))))))
  refine wpAny_bind (HT.slicePart_ ps ?_)
  show wpAny _ _ (if (((-1 : Int)) == 0) = true then _ else _) _ _ s
  rw [if_neg (by decide)]
  refine wpAny_bind (HT.slicePart_ pl (wpAny_bind (HT.slicePart_ pu (wpAny_bind (wpAny_pure ?_)))))
  show wpAny _ _ (match Builtin.Slice.sliceAdjust none none (-1) (n : Int) with | (lo, hi) => pure (lo, (-1 : Int), Builtin.Slice.slicePlaces lo hi (-1))) _ _ s
  rw [back_adjust]
  show wpAny _ _ (pure ((n : Int) - 1, (-1 : Int), Builtin.Slice.slicePlaces ((n : Int) - 1) (-1) (-1))) _ _ s
  rw [back_places]
  exact wpAny_pure h
theorem tup_back {t sl : Addr} {items : List Value} {vl vu vs : Value} {Q : Value → Shared → Prop} (ht : IsTup s.heap t items.toArray) (hs : s.heap.IsSliceOf sl vl vu vs) (pl : IsPart vl none) (pu : IsPart vu none) (ps : IsPart vs (some (-1)))
    (hsz : items.toArray.size ≤ sizeLine) (h : Q (.ref s.heap.objs.size) { s with heap := pushT s.heap items.reverse }) : wpAny (model prog w) A (getItem (.ref t) (.ref sl)) Q E s := by
  obtain ⟨os, hos, hcs, hds⟩ := id hs
  have hTs : s.TypeIs (.ref sl) "slice" := ⟨os, hos, hcs⟩
  unfold getItem
  try with_reducible apply wpAny_holding
  first | apply wpAny_bind (wpAny_pure ?_) | skip
  refine wpAny_bind (wpAny_sequenceKey ht.typeIs (by decide) ?_)
  refine wpAny_bind (wpAny_callSpecial?_slot (name := Str.ofString "__getitem__") ht.typeIs slot_tuple_getitem (wpAny_call_entry slot_tuple_getitem ht.typeIs entry_tuple_getitem ?_ (args_tuple_getitem _ _)))
  show wpAny _ _ (Builtin.Tuple.tupleItemsOf (.ref t) >>= _) _ _ s
  apply wpAny_bind
  apply tupleItemsOf_ ht
  apply wpAny_bind
  apply wpAny_typeOf hTs
  rw [if_pos (by decide)]
  refine wpAny_bind (back_applied (n := items.length) hs pl pu ps ?_)
  have hno : ¬ ((((items.length : Int) - 1) == 0 && (-1 : Int) == 1 && items.length == items.toArray.size) = true) := by simp
  show wpAny _ _ (if (((items.length : Int) - 1) == 0 && (-1 : Int) == 1 && items.length == items.toArray.size) = true then _ else _) _ _ s
  rw [if_neg hno, back_pick]
  have hz : sizeOk (.seq items.reverse.toArray) := by
    show items.reverse.toArray.size ≤ sizeLine
    simpa using hsz
  first
    | exact wpAny_bind (m := Builtin.Tuple.tupleExact _) (wpAny_newObj_type (wpAny_pure ⟨_, rfl, wpAny_pure h⟩) hz)
    | exact wpAny_bind (m := Builtin.Tuple.tupleExact _) (wpAny_newObj_type (wpAny_bind (wpAny_pure (wpAny_pure ⟨_, rfl, wpAny_pure h⟩))) hz)
    | exact wpAny_bind (wpAny_bind (m := Builtin.Tuple.tupleExact _) (wpAny_newObj_type (wpAny_pure (wpAny_pure ⟨_, rfl, wpAny_pure h⟩)) hz))
    | exact wpAny_bind (wpAny_bind (m := Builtin.Tuple.tupleExact _) (wpAny_newObj_type (wpAny_pure ⟨_, rfl, wpAny_pure h⟩) hz))
end
section
variable {X : Cx} {k : Nat}
def bwd : Expr → Prop := fun e => ∃ k p1 p2 p3, e = .Slice none none (some (.UnaryOp .USub (.Constant (.int 1) k p1) p2)) p3
theorem pe_revP {e : Expr} {te : TE} {k : Nat} {p1 p2 p3 pos : Pos} (he : PE X e te) : PE X (.Subscript e (.Slice none none (some (.UnaryOp .USub (.Constant (.int 1) k p1) p2)) p3) pos)
    (fun σ H Q => te σ H fun x H1 => ∃ a xs, x = .ref a ∧ ((SqL X.K H1 a xs ∧ ∀ p, H1 p = none → Q (.ref p) (upd H1 p (.lst xs.reverse))) ∨ (SqT X.K H1 a xs ∧ NewTup xs.reverse H1 Q))) := by
  constructor
  intro pins s σ H Q I h
  refine Subscript_ (thn (he.run pins s σ H _ I h) ?_)
  rintro v s1 ⟨x, H1, I1, r1, a, xs, rfl, q⟩
  obtain rfl : v = Value.ref a := r1
  have hst : PO X (some (.UnaryOp .USub (.Constant (.int 1) k p1) p2)) (tPart (tUn (rU fun i => .int (-i)) (tC (.int 1)))) := po_some (pe_un un_neg pe_int)
  apply wpAny_Slice
  refine thn (po_none.run pins s1 σ H1 (fun o H2 => o = none ∧ H2 = H1) I1 ⟨rfl, rfl⟩) ?_
  rintro vl s2 ⟨l, H2, I2, pl, rfl, rfl⟩
  refine thn (po_none.run pins s2 σ _ (fun o H3 => o = none ∧ H3 = H2) I2 ⟨rfl, rfl⟩) ?_
  rintro vu s3 ⟨u, H3, I3, pu, rfl, rfl⟩
  refine thn (hst.run pins s3 σ _ (fun o H4 => o = some (-1) ∧ H4 = H3) I3 ⟨1, rfl, -1, rfl, rfl, rfl⟩) ?_
  rintro vs s4 ⟨o, H4, I4, ps, rfl, rfl⟩
  have I5 : Inv X pins σ H4 { s4 with heap := s4.heap.push { cls := .type "slice", data := .fields #[vl, vu, vs] } } := I4.kept (t' := s4.toks) fun b ob z => Heap.get?_push_of_some _ z
  generalize hs5 : ({ s4 with heap := s4.heap.push { cls := .type "slice", data := .fields #[vl, vu, vs] } } : Shared) = s5 at I5 ⊢
  have hsl : s5.heap.IsSliceOf s4.heap.objs.size vl vu vs := by rw [← hs5]; exact Heap.IsSliceOf.new _ vl vu vs
  rcases q with ⟨hx, q⟩ | ⟨hx, q⟩
  · obtain ⟨its, r, ht, hz⟩ := I5.list hx
    have hlen := r.length
    refine tail_any (ops := [.ref a, .ref s4.heap.objs.size]) ht.isList.typeIs (PySem.slot_list_getitem.lookup) ?_ (by with_unfolding_all rfl)
    refine wpAny_getItem_list_slice ht.isList hsl pl pu ps (by decide) ?_ (by rw [List.size_toArray]; omega)
    rw [PySem.W.krv_pick]
    refine ⟨.ref _, _, I5.laid (t' := s5.toks) (o := .lst xs.reverse) (fun b ob z => Heap.get?_push_of_some _ z) (Nat.le_refl _) ?_, rfl, q _ (I5.hok.fresh (Nat.le_refl _))⟩
    exact ⟨by rw [List.length_reverse]; exact hz, _, 0, r.reverse, Heap.get?_push_size _ rfl⟩
  · obtain ⟨its, r, ht, hz⟩ := I5.tuple hx
    have hlen := r.length
    refine tail_any (ops := [.ref a, .ref s4.heap.objs.size]) ht.typeIs (PyProof.Rows.slot_tuple_getitem.lookup) ?_ (by with_unfolding_all rfl)
    exact tup_back ht hsl pl pu ps (by rw [List.size_toArray]; omega) (lay_tup0 I5 (by rw [List.length_reverse]; exact hz) r.reverse q)
end
end Ev

set_option maxRecDepth 100000
set_option maxHeartbeats 2000000
namespace Ev
open PySem PySem.Spec PyProof.Rows L2
section
variable {X : Cx} {k : Nat}
/-- t.count(x), t a tuple without an own dict -/
theorem pe_countT {o e : Expr} {to : TE} {t : TA} {apos cpos : Pos} (hr : Room k X.A) (ho : PE X o to) (ha : PA X [e] t)
    (hbase : attributeBase o "count" X.env (eval o X.env) = eval o X.env) (hline : (apos.endLine == cpos.line) = true) (hs : starEach [e] X.env = [(false, eval e X.env)]) :
    PE X (.Call (.Attribute o "count" apos) [e] [] cpos) (fun σ H Q => to σ H fun x H1 => ∃ a us, x = .ref a ∧ TupAt X.K H1 a us ∧ t σ H1 fun xs H2 => ∃ y d ds, xs = [y] ∧ Dat X.K H2 y d ∧ Dat X.K H2 (.ref a) (.tuple ds) ∧
      Q (.int ((ds.countP fun z => PyData.eqv z d : Nat) : Int)) H2) := by
  constructor
  intro pins s σ H Q I h
  refine wpAny_Call_method_late hbase (by rw [hs]; rfl) hline rfl (thn (ho.run pins s σ H _ I h) ?_)
  rintro v s1 ⟨x, H1, I1, r1, a, us, rfl, ht, q1⟩
  obtain rfl : v = Value.ref a := r1
  obtain ⟨ob, he, hc, hd⟩ : ∃ ob : Obj, s1.heap.get? a = some ob ∧ ob.cls = .type "tuple" ∧ ob.dict = none := by
    rcases ht with ⟨ob, h1, h2⟩ | ⟨ob, its, n, h1, ⟨h2, h3⟩, _⟩
    · obtain ⟨e1, _, _, _, o2, e2, h3, _⟩ := I1.hok a _ h1
      rw [e1] at e2
      cases e2
      exact ⟨ob, e1, h3, h2⟩
    · exact ⟨ob, I1.kIn a ob h1, h2, h3⟩
  refine ⟨"tuple", "tuple.count", PySem.F.plainAttrs_tuple, PySem.F.slot_tuple_count, PySem.F.type_tuple_count, ⟨ob, he, hc⟩, fun b hb => ?_, ?_⟩
  · cases hb
    exact ⟨ob, he, hd⟩
  · have hA := ha.run cpos pins s1 σ H1 _ I1 q1
    rw [hs] at hA ⊢
    refine Calls.callWith_builtin rfl (Calls.evalArgs_plain (thn hA ?_))
    rintro zs s2 ⟨xs, H2, I2, r2, y, d, ds, rfl, hy, hx, q2⟩
    obtain ⟨u, rfl, ru⟩ := vals1 r2
    obtain ⟨as, ra⟩ := Dp.reads I2 d y u hy.dp ru
    obtain ⟨bs, rb⟩ := Dp.reads I2 _ (.ref a) (.ref a) hx.dp rfl
    cases rb with
    | tuple h1 h2 h3 h4 => exact SeqAt.count_tuple_data ⟨_, h1, h2, _, h3⟩ h4 ra (plainAll_t hx.pl) hy.pl (room_in hr hy.dep) ⟨.int _, H2, I2.tok _, ⟨_, rfl⟩, q2⟩
end
/-! ### a def's promise where no repr is under way -/
structure FnG (P : Program) (w : World) (K : PySem.W.Frag) (mg : Str → Option Value) (base : Heap) (k : Nat) (f : Addr) (fd : FuncData) (ps : List Str) (sp : Sp) : Prop where
  run : ∀ (A : Around) (outer : List Env) (s : Shared) (H : Hp) (args : Args) (us : List Value) (vs : List V) (Q : VK) (E : XK), Room k A → A.guards = some [] → Env0 P w K mg base A outer s H → vs.length = ps.length → BindsTo s fd args (ps.zip us) → Vals vs us → sp vs H Q E →
    codeAny (model P w) A (.call (.ref f) args) (CR (L2.CX P w) outer P w H s Q E) s
section
variable {X : Cx} {W : WX} {k : Nat} {f : Addr} {fd : FuncData} {ps : List Str} {sp : Sp} {x : Str} {p pos : Pos}
theorem run_g {pins : List (Addr × Obj)} {σ : L2.St} {H : Hp} {s : Shared} {Q : VK} {us : List Value} {kw : List (Str × Value)} {ws : List Value} {vs : List V} (F : FnG X.prog X.w X.K X.mg X.base k f fd ps sp) (hr : Room k X.A) (hg : X.A.guards = some [])
    (tk : Takes X W) (hl : vs.length = ps.length) (hb : BindsTo s fd ⟨us, kw⟩ (ps.zip ws)) (I : Inv X pins σ H s) (r : Vals vs ws) (h : sp vs H Q (fun c d H' => W c d σ H')) : wpAny (model X.prog X.w) X.A (call (.ref f) us kw) (EP X pins σ Q) X.xe s := by
  apply wpAny_call
  refine codeAny_mono (F.run X.A X.stack s H ⟨us, kw⟩ ws vs Q _ hr hg I.env0 hl hb r h) ?_
  rintro (e | (_ | _ | _ | u)) s' hq
  · exact tk e s' (XE.of_call I (fun _ _ _ z => z) hq)
  · exact hq.elim
  · exact hq.elim
  · exact hq.elim
  · exact I.after hq
/-- f(e, ..) by place -/
theorem pe_callG {e : Expr} {es : List Expr} {t : TA} (F : FnG X.prog X.w X.K X.mg X.base k f fd ps sp) (hr : Room k X.A) (hg : X.A.guards = some []) (tk : Takes X W) (hG : Gl X x) (hm : X.mg x = some (.ref f)) (hk : PySem.W.keepIn X.K (.ref f) = true)
    (hb : ∀ (s : Shared) (us : List Value), us.length = ps.length → BindsTo s fd ⟨us, []⟩ (ps.zip us)) (ha : PA X (e :: es) t) (hdb : (x == ("__debug__" : Str)) = false) (he : starEach (e :: es) X.env = (false, eval e X.env) :: starEach es X.env)
    (hpl : (backTo pos (starEach es X.env)).any (·.1) = false) : PE X (.Call (.Name x p) (e :: es) [] pos) (fun σ H Q => t σ H fun vs H1 => vs.length = ps.length ∧ sp vs H1 Q fun c d H' => W c d σ H') := by
  constructor
  intro pins s σ H Q I h
  refine wpAny_Call_Name_kw (ld_glob I hG hm ?_ hdb)
  refine PySem.W.callWith_K (h₀ := X.base) I.ok.mod.kin hk (thn (ha.run pos pins s σ H _ I h) ?_) he hpl
  rintro us s1 ⟨vs, H1, I1, r, hl, q⟩
  exact ⟨I1.kIn, run_g F hr hg tk hl (hb s1 us (by rw [← r.length]; exact hl)) I1 r q⟩
/-- f(k = e, ..), all by name: ks the names as they are written, ord the parameters' places among them -/
theorem pe_callGK {kws : List Keyword} {t : TA} (F : FnG X.prog X.w X.K X.mg X.base k f fd ps sp) (hr : Room k X.A) (hg : X.A.guards = some []) (tk : Takes X W) (hG : Gl X x) (hm : X.mg x = some (.ref f)) (hk : PySem.W.keepIn X.K (.ref f) = true)
    {ks : List Str} {ord : List Nat} (hb : ∀ (s : Shared) (us : List Value), us.length = ks.length → BindsTo s fd ⟨[], ks.zip us⟩ (ps.zip (ord.filterMap fun i => us[i]?)))
    (hks : (backToKw pos (keywordEach kws X.env)).filterMap (·.1) = ks) (hall : (backToKw pos (keywordEach kws X.env)).all (·.1.isSome) = true) (hno : (backToKw pos (keywordEach kws X.env)).any (·.1.isNone) = false)
    (ha : PK X kws t) (hdb : (x == ("__debug__" : Str)) = false) : PE X (.Call (.Name x p) [] kws pos) (fun σ H Q => t σ H fun vs H1 => vs.length = ks.length ∧ (ord.filterMap fun i => vs[i]?).length = ps.length ∧ sp (ord.filterMap fun i => vs[i]?) H1 Q fun c d H' => W c d σ H') := by
  constructor
  intro pins s σ H Q I h
  refine wpAny_Call_Name_kw (ld_glob I hG hm ?_ hdb)
  refine PySem.W.callWith_KW0 (h₀ := X.base) I.ok.mod.kin hk hall (thn (ha.run pos pins s σ H _ I h) ?_) (by rw [hno]; rfl)
  rintro us s1 ⟨vs, H1, I1, r, hl, hl2, q⟩
  refine ⟨I1.kIn, ?_⟩
  rw [hks]
  have pick : ∀ o : List Nat, Vals (o.filterMap fun i => vs[i]?) (o.filterMap fun i => us[i]?) := by
    intro o
    induction o with
    | nil => exact .nil
    | cons i o ih =>
      rw [List.filterMap_cons, List.filterMap_cons]
      cases e : vs[i]? with
      | none =>
        rw [Vals.none_of r e]
        exact ih
      | some v =>
        obtain ⟨u, hu, rv⟩ := r.get e
        rw [hu]
        exact .cons rv ih
  exact run_g F hr hg tk hl2 (hb s1 us (by rw [← r.length]; exact hl)) I1 (pick ord) q
end
end Ev

set_option maxRecDepth 100000
set_option maxHeartbeats 2000000
namespace Ev
open PySem PySem.Spec PyProof.Rows L2
open PySem.AutoSeq1 (wpAny_loadPart')
/-! ### enumerate over a tuple -/
/-- the object that iter(a tuple) makes -/
abbrev tupIt (c : Addr) : Obj := { cls := .type "tuple_iterator", data := .fields #[.ref c, .int 0 0] }
abbrev enumOb (c : Addr) : Obj := { cls := .type "enumerate", data := .fields #[.none, .bool false, .ref c, rawInt 0, .none, .none] }
theorem enum_made (c : Addr) (ob : Obj) (us : Array Value) (k : Nat) (hcl : ob.cls = .type "tuple") (hda : ob.data = .seq us k) :
    Meets (Builtin.«enumerate.__new__» ⟨[.type "enumerate", .ref c], []⟩) (fun _ T z => z.heap.get? c = some ob ∧
      T (.ok (.ret (.ref (z.heap.push (tupIt c)).objs.size))) { z with heap := (z.heap.push (tupIt c)).push (enumOb z.heap.objs.size) }) :=
  .of_wp fun P w B T z hz => by
    obtain ⟨hp, gs, dr, tk, os⟩ := z
    obtain ⟨hc, hT⟩ := hz
    have isSub := sub_enumerate
    have tupl : Heap.IsTuple (Shared.heap ⟨hp, gs, dr, tk, os⟩) c us := ⟨ob, hc, hcl, k, hda⟩
    wp_walk using wpAny_loadPart' hc, wpAny_pyIter_tuple tupl
    refine wpAny_stack_any fun stk => wpAny_pure ?_
    split
    · rename_i v _ _ _ _ _
      cases hv : (v == Value.type "enumerate") <;> (wp_walk using wpAny_loadPart' hc, wpAny_pyIter_tuple tupl; exact ⟨_, rfl, hT⟩)
    · wp_walk using wpAny_loadPart' hc, wpAny_pyIter_tuple tupl
      exact ⟨_, rfl, hT⟩
section
variable {prog : Program} {w : World} {A : Around} {E : Value → Shared → Prop} {s : Shared}
theorem call_enum_tup {c : Addr} {us : Array Value} {Q : Value → Shared → Prop} (ht : s.heap.IsTuple c us)
    (hQ : ∀ g, IsEnum g (s.heap.objs.size + 1) s.heap.objs.size 0 .none → g.IsTupleIter s.heap.objs.size c 0 → (∀ b o, s.heap.get? b = some o → g.get? b = some o) → Q (.ref (s.heap.objs.size + 1)) { s with heap := g }) :
    wpAny (model prog w) A (call (.type "enumerate") [.ref c]) Q E s := by
  obtain ⟨ob, hc, hcl, k, hda⟩ := ht
  apply callType_new F.called_enumerate (by decide) (F.typeCall_enumerate_1 _) (F.newCall_enumerate_1 _) (fun y => F.args_object_init_2 y _) F.entry_enumerate_new (enum_made c ob us k hcl hda)
  have sz1 : (s.heap.push (tupIt c)).objs.size = s.heap.objs.size + 1 := Heap.size_push ..
  have e1 : IsEnum ((s.heap.push (tupIt c)).push (enumOb s.heap.objs.size)) (s.heap.objs.size + 1) s.heap.objs.size 0 .none := by
    have z := Heap.get?_push_size (s.heap.push (tupIt c)) (o := enumOb s.heap.objs.size) rfl
    rw [sz1] at z
    exact z
  refine ⟨hc, ?_⟩
  show _ ∧ _
  rw [sz1]
  exact ⟨⟨_, e1, rfl⟩, hQ _ e1 ⟨_, Heap.get?_push_of_some _ (Heap.get?_push_size _ rfl), rfl, rfl⟩ fun b o q => Heap.get?_push_of_some _ (Heap.get?_push_of_some _ q)⟩
end
/-- the tuple at a, each item in a new pair -/
def IteT (K : PySem.W.Frag) (a : Addr) : L2.It where
  go := fun i H => ∃ (xs : List V) (x : V), SqT K H a xs ∧ xs[i]? = some x
  yld := fun i H v H' => ∃ T x, v = .ref T ∧ H T = none ∧ H' = upd H T (.tup [.int (i : Nat), x]) ∧ ∀ xs, SqT K H a xs → xs[i]? = some x
  stop := fun i H => ∃ xs : List V, SqT K H a xs ∧ xs.length ≤ i
theorem tup_apart {h : Heap} {a b : Addr} {us : Array Value} {o : Obj} (t : h.IsTuple a us) (e : h.get? b = some o) (hc : o.cls ≠ .type "tuple") : a ≠ b := fun z => by
  obtain ⟨ob, h1, h2, _⟩ := t
  rw [z, e] at h1
  cases h1
  exact hc h2
theorem turn_enumT {P : Program} {w : World} {K : PySem.W.Frag} {elts : List Expr} {kk : Nat} {tpos : Pos} (a e it : Addr) :
    Turn P w K (.Tuple elts kk tpos) (IteT K a) [e, it] e (fun i h => (∃ old, IsEnum h e it ((i : Nat) : Int) old) ∧ h.IsTupleIter it a i ∧ e ≠ it) := by
  have two : ∀ {b : Addr}, b ∈ [e, it] → b = e ∨ b = it := fun hb => by simpa using hb
  refine ⟨by simp, ?_, ?_, ?_, ?_, ?_⟩
  · rintro i h ⟨⟨old, he⟩, ⟨o, ho, hc, hd⟩, _⟩ b hb
    rcases two hb with rfl | rfl
    · exact ⟨_, he, fun v q => nomatch q⟩
    · exact ⟨o, ho, fun v q => by rw [hd] at q; cases q⟩
  · rintro i h h' ⟨⟨old, he⟩, hi, hne⟩ k
    exact ⟨⟨old, k e (by simp) _ he⟩, hi.at fun o q => k it (by simp) o q, hne⟩
  · rintro X rfl rfl rfl hc i pins s σ H E I hf ⟨⟨old, he⟩, hit, hne⟩ ⟨xs, x, hq, hx⟩
    obtain ⟨its, rv, tp, hz⟩ := I.tuple hq
    obtain ⟨u, hu, ru⟩ := rv.get hx
    have ae : a ≠ e := tup_apart (show s.heap.IsTuple a its.toArray from tp) he (show Value.type "enumerate" ≠ Value.type "tuple" by decide)
    have ai : a ≠ it := by
      obtain ⟨o, h1, h2, _⟩ := id hit
      exact tup_apart (show s.heap.IsTuple a its.toArray from tp) h1 (by rw [h2]; decide)
    have lte : e < s.heap.objs.size := Heap.lt_size he
    have lti : it < s.heap.objs.size := by
      obtain ⟨_, q, _⟩ := id hit
      exact Heap.lt_size q
    have hlt : i < its.toArray.size := by
      rw [List.size_toArray]
      exact (List.getElem?_eq_some_iff.mp hu).1
    have hd : X.A.in1.handled = none := I.ok.hd hc
    refine wpAny_pyNext_enum_itemD (Draws.tuple hd it a ai its.toArray) he ⟨hit, tp⟩ hlt hne (by simp [hne, Ne.symm ae]) fun y h1 tk hy ho hit1 hT hs hk => ?_
    have hyu : y = u := by
      have q : its.toArray[i]? = some y := hy
      rw [show its.toArray[i]? = its[i]? by simp, hu] at q
      exact (Option.some.inj q).symm
    subst hyu
    refine ⟨_, rfl, wpAny_letOwnedTupleGo_enum (s := { s with heap := h1, toks := tk + 1 }) ho fun h2 he2 sb => ?_⟩
    have hT2 := (sb.2 _ (Nat.ne_of_gt lte)).trans hT
    have fr : H s.heap.objs.size = none := I.hok.fresh (Nat.le_refl _)
    have new : ObjOk X.prog X.w (upd H s.heap.objs.size (.tup [.int (i : Nat), x])) h2 s.heap.objs.size (.tup [.int (i : Nat), x]) :=
      ⟨by show 2 ≤ sizeLine; decide, [.int i tk, y], .cons ⟨_, rfl⟩ (.cons ru .nil), _, hT2, rfl, _, rfl⟩
    have J : Inv X pins σ (upd H s.heap.objs.size (.tup [.int (i : Nat), x])) { s with heap := h2, toks := tk + 1 } := by
      refine I.turnedNew (ch := [e, it]) (fun b o hb q => ?_) hf (Nat.le_refl _) new
      have b1 : b ≠ e := fun z => hb (by simp [z])
      have b2 : b ≠ it := fun z => hb (by simp [z])
      exact (sb.2 b b1).trans (hk b o b1 b2 q)
    have cast : ((i + 1 : Nat) : Int) = (i : Int) + 1 := by omega
    refine ⟨.ref s.heap.objs.size, _, J, rfl, ⟨_, x, rfl, fr, rfl, fun ys hy => by rw [I.tuple_inj hy hq]; exact hx⟩, ⟨⟨y, by rw [cast]; exact he2⟩, hit1.1.at fun o q => (sb.2 it (Ne.symm hne)).trans q, hne⟩, fun b hb => ?_⟩
    have lt : b < s.heap.objs.size := by
      rcases two hb with z | z <;> rw [z] <;> assumption
    rw [upd_ne (Nat.ne_of_lt lt)]
    exact (hf b hb).1
  · rintro X rfl rfl rfl hc i pins s σ H E I hf ⟨⟨old, he⟩, hit, hne⟩ ⟨xs, hq, hx⟩
    obtain ⟨its, rv, tp, hz⟩ := I.tuple hq
    have ai : a ≠ it := by
      obtain ⟨o, h1, h2, _⟩ := id hit
      exact tup_apart (show s.heap.IsTuple a its.toArray from tp) h1 (by rw [h2]; decide)
    obtain ⟨f0, f1, f2, f3, f4, f5⟩ := hf it (by simp)
    have hd : X.A.in1.handled = none := I.ok.hd hc
    have hl := rv.length
    have D0 : Draws X.prog X.w X.A.in1 it [it, a] i (fun _ _ => False) (fun j h => j = i ∧ h.IsTupleIter it a i ∧ h.IsTuple a its.toArray) := by
      refine ⟨fun j h q => ?_, fun j h h' q k => ?_, fun j s' Q E' lt q _ => ?_, fun s' Q E' q hE => ?_⟩
      · obtain ⟨o, h1, _⟩ := q.2.1
        exact ⟨o, h1⟩
      · exact ⟨q.1, q.2.1.at fun o z => k it (by simp) o z, q.2.2.at fun o z => k a (by simp) o z⟩
      · exact absurd lt (by rw [q.1]; exact Nat.lt_irrefl _)
      · exact wpAny_nextOf_tuple_end hd q.2.1 q.2.2 (by simp; omega) hE
    exact wpAny_pyNext_enum_endD D0 he ⟨rfl, hit, tp⟩ fun g ge => ⟨rfl, I.turned (t' := s.toks) (fun b o hb q => ge b o hb q) f0 f1 f3 f4 f5⟩
  · rintro A i s Q E ⟨⟨old, he⟩, _⟩ h
    exact wpAny_pyIter_enum he h
/-- enumerate(e), e a list or a tuple -/
theorem pi_enumA {X : Cx} {e : Expr} {ta : TA} {p pos tpos : Pos} {elts : List Expr} {kk : Nat} (hg : Gl X "enumerate") (hm : X.mg "enumerate" = none) (ha : PA X [e] ta) (hs : starEach [e] X.env = [(false, eval e X.env)]) :
    PI X (.Tuple elts kk tpos) (.Call (.Name "enumerate" p) [e] [] pos) (fun σ H R => ta σ H fun vs H1 => ∃ a, vs = [.ref a] ∧ ((∃ xs, SqL X.K H1 a xs ∧ R (Ite X.K a) H1) ∨ (∃ xs, SqT X.K H1 a xs ∧ R (IteT X.K a) H1))) := by
  constructor
  intro pins s σ H R I h
  refine Call_ (ld_blt I hg hm boot_enumerate (PyProof.Rows.callWith_type1 (thn (ha.run pos pins s σ H _ I h) ?_) hs rfl))
  rintro us s1 ⟨vs, H1, I1, r1, a, rfl, q⟩
  obtain ⟨u, rfl, ru⟩ := vals1 r1
  obtain rfl : u = Value.ref a := ru
  have fpt : ∀ b, b ∈ [s1.heap.objs.size + 1, s1.heap.objs.size] → FpOk X pins H1 b := fun b hb => by
    have hle : s1.heap.objs.size ≤ b := by
      have z : b = s1.heap.objs.size + 1 ∨ b = s1.heap.objs.size := by simpa using hb
      rcases z with rfl | rfl
      · exact Nat.le_succ _
      · exact Nat.le_refl _
    exact I1.fpOk hle (I1.hok.fresh hle)
  rcases q with ⟨xs, hq, q⟩ | ⟨xs, hq, q⟩
  · obtain ⟨its, rv, pl, hz⟩ := I1.list hq
    refine call_enumerate_list pl.isList fun g ge gi _ gk => wpAny_pyIter_enum ge ?_
    exact ⟨_, _, _, _, H1, rfl, I1.kept (t' := s1.toks) gk, turn_enum a _ _, ⟨⟨.none, ge⟩, gi, Nat.succ_ne_self _⟩, fpt, q⟩
  · obtain ⟨its, rv, tp, hz⟩ := I1.tuple hq
    refine call_enum_tup (show s1.heap.IsTuple a its.toArray from tp) fun g ge gi gk => wpAny_pyIter_enum ge ?_
    exact ⟨_, _, _, _, H1, rfl, I1.kept (t' := s1.toks) gk, turn_enumT a _ _, ⟨⟨.none, ge⟩, gi, Nat.succ_ne_self _⟩, fpt, q⟩
/-- a list or a tuple -/
theorem pi_seqA {X : Cx} {tg e : Expr} {te : TE} (he : PE X e te) : PI X tg e (fun σ H R => te σ H fun x H1 => ∃ a, x = .ref a ∧ ((∃ xs, SqL X.K H1 a xs ∧ R (Itl X.K a) H1) ∨ (∃ xs, SqT X.K H1 a xs ∧ R (Itt X.K a) H1))) := by
  constructor
  intro pins s σ H R I h
  refine thn (he.run pins s σ H _ I h) ?_
  rintro v s1 ⟨x, H1, I1, r1, a, rfl, q⟩
  obtain rfl : v = Value.ref a := r1
  have fpt : ∀ b, b ∈ [s1.heap.objs.size] → FpOk X pins H1 b := fun b hb => by
    obtain rfl : b = s1.heap.objs.size := by simpa using hb
    exact I1.fpOk (Nat.le_refl _) (I1.hok.fresh (Nat.le_refl _))
  rcases q with ⟨xs, hq, q⟩ | ⟨xs, hq, q⟩
  · obtain ⟨its, rv, pl, hz⟩ := I1.list hq
    exact wpAny_pyIter_list pl.isList ⟨_, _, _, _, H1, rfl, I1.kept (t' := s1.toks) fun b o z => Heap.get?_push_of_some _ z, turn_list a _, ⟨_, Heap.get?_push_size _ rfl, rfl, rfl⟩, fpt, q⟩
  · obtain ⟨its, rv, tp, hz⟩ := I1.tuple hq
    exact wpAny_pyIter_tuple (show s1.heap.IsTuple a its.toArray from tp) ⟨_, _, _, _, H1, rfl, I1.kept (t' := s1.toks) fun b o z => Heap.get?_push_of_some _ z, turn_tuple a _, ⟨_, Heap.get?_push_size _ rfl, rfl, rfl⟩, fpt, q⟩
end Ev

set_option maxRecDepth 100000
set_option maxHeartbeats 2000000
namespace Ev
open PySem PySem.Spec PyProof.Rows L2
/-! ### what a reckoning's end must satisfy -/
def sat {α : Type} (r : Res α) (P : α → MH → Prop) (E : Nat → D → MH → Prop) : Prop := match r with
  | .ok a M => P a M
  | .exc c d M => E c d M
  | .bad => False
theorem sat_bnd {α β : Type} {r : Res α} {k : α → MH → Res β} {P : β → MH → Prop} {E : Nat → D → MH → Prop} : sat (r.bnd k) P E ↔ sat r (fun a M => sat (k a M) P E) E := by
  cases r <;> exact Iff.rfl
theorem sat_mono {α : Type} {r : Res α} {P P' : α → MH → Prop} {E E' : Nat → D → MH → Prop} (h : sat r P E) (hP : ∀ a M, P a M → P' a M) (hE : ∀ c d M, E c d M → E' c d M) : sat r P' E' := by
  cases r with
  | ok a M => exact hP a M h
  | exc c d M => exact hE c d M h
  | bad => exact h
theorem sat_opt {α : Type} {o : Option α} {M : MH} {P : α → MH → Prop} {E : Nat → D → MH → Prop} (h : sat (opt o M) P E) : ∃ a, o = some a ∧ P a M := by
  cases o with
  | none => exact h.elim
  | some a => exact ⟨a, rfl, h⟩
section
variable (K : PySem.W.Frag) (cl : Nat → Value) (f : List Addr) (H : Hp)
/-- wishes, seen from f and H -/
def okT (Q : VK) : TV → MH → Prop := fun tv M' => ∀ v H' f', Ext f f' H H' → Sim K H' f' M' → TRep K H H' f' tv v → Q v H'
def okD (Q : VK) : D → MH → Prop := fun d M' => ∀ v H' f', Ext f f' H H' → Sim K H' f' M' → Rep K H' f' d v → Q v H'
def okL (Q : List V → Hp → Prop) : List D → MH → Prop := fun ds M' => ∀ vs H' f', Ext f f' H H' → Sim K H' f' M' → RepL K H' f' ds vs → Q vs H'
def okB (Q : Bool → Hp → Prop) : Bool → MH → Prop := fun b M' => ∀ H' f', Ext f f' H H' → Sim K H' f' M' → Q b H'
def okX (W : Value → Option Addr → Hp → Prop) : Nat → D → MH → Prop := fun c d M' => ∀ (H' : Hp) (f' : List Addr) (dd : Addr) (v : V), Ext f f' H H' → Sim K H' f' M' → H' dd = some (.xd [(("value" : Str), v)]) → Rep K H' f' d v → W (cl c) (some dd) H'
end
/-- the names' values in the frame -/
structure EnvR (K : PySem.W.Frag) (H : Hp) (f : List Addr) (env : Sg) (σ : L2.St) : Prop where
  len : env.length = σ.length
  val : ∀ (i : Nat) (d : D), env[i]? = some (some d) → ∃ v, σ[i]? = some (some v) ∧ Rep K H f d v
section
variable {K : PySem.W.Frag} {cl : Nat → Value} {f f' f0 f1 f2 : List Addr} {H H' H0 H1 H2 : Hp} {env : Sg} {σ : L2.St} {M : MH}
theorem EnvR.ext (r : EnvR K H f env σ) (x : Ext f f' H H') : EnvR K H' f' env σ :=
  ⟨r.len, fun i d e => let ⟨v, h1, h2⟩ := r.val i d e; ⟨v, h1, h2.ext x⟩⟩
theorem EnvR.set (r : EnvR K H f env σ) {d : D} {v : V} (i : Nat) (h : Rep K H f d v) : EnvR K H f (env.set i (some d)) (σ.set i (some v)) := by
  refine ⟨by simp [r.len], fun j e hj => ?_⟩
  by_cases hij : j = i
  · subst hij
    have hl : j < env.length := by
      have := (List.getElem?_eq_some_iff.mp hj).1
      simpa using this
    rw [List.getElem?_set_self hl] at hj
    have e2 : d = e := by simpa using hj
    subst e2
    exact ⟨v, List.getElem?_set_self (by rw [← r.len]; exact hl), h⟩
  · rw [List.getElem?_set_ne (Ne.symm hij)] at hj ⊢
    exact r.val j e hj
theorem okX.back {W : Value → Option Addr → Hp → Prop} {c : Nat} {d : D} (x : Ext f f1 H H1) (h : okX K cl f H W c d M) : okX K cl f1 H1 W c d M :=
  fun H' g dd v y s e r => h H' g dd v (x.trans y) s e r
theorem pd_dat (s : Sim K H f M) : ∀ (n : Nat) (d : D) (v : V) (p : PyData), pd M n d = some p → Rep K H f d v → Dp K H v p ∧ p.plain = true ∧ p.depth ≤ n
  | 0, _, _, _, h, _ => by cases h
  | n + 1, d, v, p, h, r => by
    have all : ∀ (ds : List D) (vs : List V) (ps : List PyData), pdAll (pd M n) ds = some ps → RepL K H f ds vs → DpAll K H vs ps ∧ PyData.plainAll ps = true ∧ PyData.depthAll ps ≤ n := by
      intro ds
      induction ds with
      | nil =>
        intro vs ps h r
        cases r
        have e : ([] : List PyData) = ps := Option.some.inj h
        subst e
        exact ⟨.nil, rfl, Nat.zero_le _⟩
      | cons d ds ih =>
        intro vs ps h r
        cases r with
        | cons r rs =>
          have h' : (match pd M n d, pdAll (pd M n) ds with
            | some x, some xs => some (x :: xs)
            | _, _ => none) = some ps := h
          cases e1 : pd M n d with
          | none => rw [e1] at h'; cases h'
          | some x =>
            cases e2 : pdAll (pd M n) ds with
            | none => rw [e1, e2] at h'; cases h'
            | some xs =>
              rw [e1, e2] at h'
              have e : x :: xs = ps := Option.some.inj h'
              subst e
              obtain ⟨a1, a2, a3⟩ := pd_dat s n d _ x e1 r
              obtain ⟨b1, b2, b3⟩ := ih _ xs e2 rs
              refine ⟨.cons a1 b1, ?_, ?_⟩
              · show (x.plain && PyData.plainAll xs) = true
                rw [a2, b2]
                rfl
              · show max x.depth (PyData.depthAll xs) ≤ n
                omega
    cases r with
    | non => cases h; exact ⟨.non, rfl, Nat.zero_le _⟩
    | bl b => cases h; exact ⟨.bl b, rfl, Nat.zero_le _⟩
    | int i => cases h; exact ⟨.int i, rfl, Nat.zero_le _⟩
    | str x => cases h; exact ⟨.str x, rfl, Nat.zero_le _⟩
    | @tup a vs ds ht rs =>
      have h' : (pdAll (pd M n) ds).map PyData.tuple = some p := h
      obtain ⟨ps, e, rfl⟩ := Option.map_eq_some_iff.mp h'
      obtain ⟨a1, a2, a3⟩ := all ds vs ps e rs
      exact ⟨.tup ht.sq a1, a2, by show PyData.depthAll ps + 1 ≤ n + 1; omega⟩
    | @scr a vs ds ht rs =>
      have h' : (pdAll (pd M n) ds).map PyData.list = some p := h
      obtain ⟨ps, e, rfl⟩ := Option.map_eq_some_iff.mp h'
      obtain ⟨a1, a2, a3⟩ := all ds vs ps e rs
      exact ⟨.lst ht.sq a1, a2, by show PyData.depthAll ps + 1 ≤ n + 1; omega⟩
    | @ref k a ha =>
      have h' : (match rd M k with
        | some ds => (pdAll (pd M n) ds).map PyData.list
        | none => none) = some p := h
      cases e1 : rd M k with
      | none => rw [e1] at h'; cases h'
      | some ds =>
        rw [e1] at h'
        obtain ⟨ps, e, rfl⟩ := Option.map_eq_some_iff.mp h'
        obtain ⟨o, ho, rfl⟩ := rd_some e1
        obtain ⟨vs, e2, rs⟩ := (s.at ho ha).sq
        obtain ⟨a1, a2, a3⟩ := all _ vs ps e rs
        exact ⟨.lst (SqL.of e2) a1, a2, by show PyData.depthAll ps + 1 ≤ n + 1; omega⟩
theorem pdAll_dat (s : Sim K H f M) {n : Nat} : ∀ (ds : List D) (vs : List V) (ps : List PyData), pdAll (pd M n) ds = some ps → RepL K H f ds vs → DpAll K H vs ps ∧ PyData.plainAll ps = true ∧ PyData.depthAll ps ≤ n
  | [], _, ps, h, .nil => by
    have e : ([] : List PyData) = ps := Option.some.inj h
    subst e
    exact ⟨.nil, rfl, Nat.zero_le _⟩
  | d :: ds, _, ps, h, .cons r rs => by
    have h' : (match pd M n d, pdAll (pd M n) ds with
      | some x, some xs => some (x :: xs)
      | _, _ => none) = some ps := h
    cases e1 : pd M n d with
    | none => rw [e1] at h'; cases h'
    | some x =>
      cases e2 : pdAll (pd M n) ds with
      | none => rw [e1, e2] at h'; cases h'
      | some xs =>
        rw [e1, e2] at h'
        have e : x :: xs = ps := Option.some.inj h'
        subst e
        obtain ⟨a1, a2, a3⟩ := pd_dat s n d _ x e1 r
        obtain ⟨b1, b2, b3⟩ := pdAll_dat s ds _ xs e2 rs
        refine ⟨.cons a1 b1, ?_, ?_⟩
        · show (x.plain && PyData.plainAll xs) = true
          rw [a2, b2]
          rfl
        · show max x.depth (PyData.depthAll xs) ≤ n
          omega
theorem pdT_dat (s : Sim K H f M) {x : TV} {v : V} {p : PyData} (h : pdT M deep x = some p) (r : TRep K H0 H f x v) : Dat K H v p := by
  cases x with
  | d d =>
    obtain ⟨a, b, c⟩ := pd_dat s deep d v p h r
    exact ⟨a, b, c⟩
  | lst ds =>
    have h' : (pdAll (pd M 39) ds).map PyData.list = some p := h
    obtain ⟨ps, e, rfl⟩ := Option.map_eq_some_iff.mp h'
    obtain ⟨a, vs, rfl, h1, _, _, rs⟩ := r
    obtain ⟨a1, a2, a3⟩ := pdAll_dat s ds vs ps e rs
    exact ⟨.lst (SqL.of h1) a1, a2, by show PyData.depthAll ps + 1 ≤ 40; omega⟩
theorem pd_dat' (s : Sim K H f M) {d : D} {v : V} {p : PyData} (h : pd M deep d = some p) (r : Rep K H f d v) : Dat K H v p :=
  let ⟨a, b, c⟩ := pd_dat s deep d v p h r
  ⟨a, b, c⟩
end
end Ev

set_option maxRecDepth 100000
set_option maxHeartbeats 2000000
namespace Ev
open PySem PySem.Spec PyProof.Rows L2
theorem guard_some {α : Type} {c : Bool} {a b : α} (h : guard' c a = some b) : c = true ∧ a = b := by
  unfold guard' at h
  split at h
  · rename_i hc
    exact ⟨hc, Option.some.inj h⟩
  · cases h
/-- the wish behind an operator -/
def Done (K : PySem.W.Frag) (H0 : Hp) (f : List Addr) (H : Hp) (M : MH) (z : TV) (Q : VK) : Prop := ∀ w H', Ext f f H H' → Sim K H' f M → TRep K H0 H' f z w → Q w H'
section
variable {K : PySem.W.Frag} {f f0 : List Addr} {H H0 : Hp} {M : MH} {Q : VK} {x y z : TV} {v u : V}
theorem done_val (S : Sim K H f M) {d : D} {w : V} (q : Done K H0 f H M (.d d) Q) (r : Rep K H f d w) : Q w H := q w H Ext.refl S r
theorem done_tup (S : Sim K H f M) {ds : List D} {vs : List V} (q : Done K H0 f H M (.d (.tup ds)) Q) (r : RepL K H f ds vs) : NewTup vs H Q := fun p o hp hd =>
  q (.ref p) _ (Ext.fresh hp) (S.fresh hp) (.tup (.inl ⟨o, upd_same, hd⟩) (r.ext (Ext.fresh hp)))
theorem done_lst (S : Sim K H f M) (X0 : Ext f0 f H0 H) {ds : List D} {vs : List V} (q : Done K H0 f H M (.lst ds) Q) (r : RepL K H f ds vs) : ∀ p, H p = none → Q (.ref p) (upd H p (.lst vs)) := fun p hp =>
  q (.ref p) _ (Ext.fresh hp) (S.fresh hp) ⟨p, vs, rfl, upd_same, S.out hp, S.before X0 hp, r.ext (Ext.fresh hp)⟩
/-- what lies behind the readers of items -/
theorem sqW_rep (S : Sim K H f M) {ds : List D} (h : sqW M x = some ds) (r : TRep K H0 H f x v) : ∃ a vs, v = .ref a ∧ H a = some (.lst vs) ∧ RepL K H f ds vs := by
  cases x with
  | lst es =>
    have e : es = ds := Option.some.inj h
    subst e
    obtain ⟨a, vs, rfl, h1, _, _, rs⟩ := r
    exact ⟨a, vs, rfl, h1, rs⟩
  | d d =>
    cases r with
    | @ref n a ha =>
      have h' : (match M[n]? with
        | some (.lst ds) => some ds
        | _ => none) = some ds := h
      cases e1 : M[n]? with
      | none => rw [e1] at h'; cases h'
      | some o =>
        cases o with
        | lst es =>
          rw [e1] at h'
          have e : es = ds := Option.some.inj h'
          subst e
          obtain ⟨vs, h1, rs⟩ := S.at e1 ha
          exact ⟨a, vs, rfl, h1, rs⟩
    | _ => cases h
theorem sqL_rep (S : Sim K H f M) {ds : List D} (h : sqL M x = some ds) (r : TRep K H0 H f x v) : ∃ a vs, v = .ref a ∧ SqL K H a vs ∧ RepL K H f ds vs := by
  cases x with
  | lst es =>
    have e : es = ds := Option.some.inj h
    subst e
    obtain ⟨a, vs, rfl, h1, _, _, rs⟩ := r
    exact ⟨a, vs, rfl, SqL.of h1, rs⟩
  | d d =>
    cases r with
    | @ref n a ha =>
      obtain ⟨o, ho, rfl⟩ := rd_some (show rd M n = some ds from h)
      obtain ⟨vs, h1, rs⟩ := (S.at ho ha).sq
      exact ⟨a, vs, rfl, SqL.of h1, rs⟩
    | @scr a vs es ht rs =>
      have e : es = ds := Option.some.inj h
      subst e
      exact ⟨a, vs, rfl, ht.sq, rs⟩
    | _ => cases h
/-- a list or a tuple -/
theorem sq_rep (S : Sim K H f M) {ds : List D} (h : sq M x = some ds) (r : TRep K H0 H f x v) : ∃ a vs, v = .ref a ∧ RepL K H f ds vs ∧ (SqL K H a vs ∨ (x = .d (.tup ds) ∧ TupAt K H a vs)) := by
  cases x with
  | lst es =>
    have e : es = ds := Option.some.inj h
    subst e
    obtain ⟨a, vs, rfl, h1, _, _, rs⟩ := r
    exact ⟨a, vs, rfl, rs, .inl (SqL.of h1)⟩
  | d d =>
    cases r with
    | @ref n a ha =>
      obtain ⟨o, ho, rfl⟩ := rd_some (show rd M n = some ds from h)
      obtain ⟨vs, h1, rs⟩ := (S.at ho ha).sq
      exact ⟨a, vs, rfl, rs, .inl (SqL.of h1)⟩
    | @scr a vs es ht rs =>
      have e : es = ds := Option.some.inj h
      subst e
      exact ⟨a, vs, rfl, rs, .inl ht.sq⟩
    | @tup a vs es ht rs =>
      have e : es = ds := Option.some.inj h
      subst e
      exact ⟨a, vs, rfl, rs, .inr ⟨rfl, ht⟩⟩
    | _ => cases h
/-! ### + -/
def rAddA (K : PySem.W.Frag) : R2 := fun x y H Q => (∃ i j, x = .int i ∧ y = .int j ∧ Q (.int (i + j)) H) ∨ (∃ i j, x = .str i ∧ y = .str j ∧ i.length + j.length ≤ sizeLine ∧ Q (.str (i ++ j)) H) ∨
  (∃ a b xs ys, x = .ref a ∧ y = .ref b ∧ SqT K H a xs ∧ SqT K H b ys ∧ xs.length + ys.length ≤ sizeLine ∧ (xs = [] → Q (.ref b) H) ∧ (ys = [] → Q (.ref a) H) ∧ NewTup (xs ++ ys) H Q) ∨ rCat x y H Q
theorem op_addA {X : Cx} : OpR X (binaryOp .Add) (rAddA X.K) := by
  rintro pins s σ H x y v u Q I rx ry (q | q | q | q)
  · exact op_add pins s σ H x y v u Q I rx ry q
  · exact op_add_str pins s σ H x y v u Q I rx ry q
  · exact op_catF pins s σ H x y v u Q I rx ry q
  · exact op_cat pins s σ H x y v u Q I rx ry q
theorem add_ok (S : Sim K H f M) (X0 : Ext f0 f H0 H) (rx : TRep K H0 H f x v) (ry : TRep K H0 H f y u) (h : addop M x y = some z) (q : Done K H0 f H M z Q) : rAddA K v u H Q := by
  have lists : (match sqW M x, sqW M y with
    | some a, some b => guard' (decide (a.length + b.length ≤ sizeLine)) (TV.lst (a ++ b))
    | _, _ => none) = some z → rAddA K v u H Q := by
    intro h
    cases e1 : sqW M x with
    | none => rw [e1] at h; cases h
    | some a =>
      cases e2 : sqW M y with
      | none => rw [e1, e2] at h; cases h
      | some b =>
        rw [e1, e2] at h
        obtain ⟨hc, e⟩ := guard_some h
        subst e
        obtain ⟨p, vs, rfl, h1, r1⟩ := sqW_rep S e1 rx
        obtain ⟨p2, us, rfl, h2, r2⟩ := sqW_rep S e2 ry
        have hc := of_decide_eq_true hc
        exact .inr (.inr (.inr ⟨p, p2, vs, us, rfl, rfl, h1, h2, by rw [← r1.length, ← r2.length]; exact hc, done_lst S X0 q (r1.append r2)⟩))
  cases x with
  | lst xs => exact lists h
  | d d =>
    cases y with
    | lst ys => cases rx <;> exact lists h
    | d e =>
      cases rx with
      | int i =>
        cases ry with
        | int j =>
          have e : TV.d (.int (i + j)) = z := Option.some.inj h
          subst e
          exact .inl ⟨i, j, rfl, rfl, done_val S q (.int _)⟩
        | _ => exact lists h
      | str a =>
        cases ry with
        | str b =>
          obtain ⟨hc, e⟩ := guard_some (show guard' _ _ = some z from h)
          subst e
          exact .inr (.inl ⟨a, b, rfl, rfl, of_decide_eq_true hc, done_val S q (.str _)⟩)
        | _ => exact lists h
      | @tup p vs ds t1 r1 =>
        cases ry with
        | @tup p2 us es t2 r2 =>
          obtain ⟨hc, e⟩ := guard_some (show guard' _ _ = some z from h)
          subst e
          have hc := of_decide_eq_true hc
          refine .inr (.inr (.inl ⟨p, p2, vs, us, rfl, rfl, t1.sq, t2.sq, by rw [← r1.length, ← r2.length]; exact hc, fun e => ?_, fun e => ?_, done_tup S q (r1.append r2)⟩))
          · subst e
            cases r1
            exact done_val S q (.tup t2 r2)
          · subst e
            cases r2
            rw [List.append_nil] at q
            exact done_val S q (.tup t1 r1)
        | _ => exact lists h
      | _ => exact lists h
/-! ### * -/
def rMulA (K : PySem.W.Frag) : R2 := fun x y H Q => rI (fun i j => bigOk i j = true) (fun i j => .int (i * j)) x y H Q ∨
  (∃ l k xs, x = .ref l ∧ y = .int k ∧ SqT K H l xs ∧ (decide (0 ≤ k) && decide (k ≤ 1000) && decide (xs.length ≤ 1000)) = true ∧
    (List.replicate k.toNat xs).flatten.length ≤ sizeLine ∧ ((List.replicate k.toNat xs).flatten = xs → Q (.ref l) H) ∧ NewTup (List.replicate k.toNat xs).flatten H Q)
theorem op_mulA {X : Cx} : OpR X (binaryOp .Mult) (rMulA X.K) := by
  rintro pins s σ H x y v u Q I rx ry (q | q)
  · exact op_mulP pins s σ H x y v u Q I rx ry q
  · exact op_repF pins s σ H x y v u Q I rx ry q
theorem flat_len {α : Type} (xs : List α) : ∀ n, (List.replicate n xs).flatten.length = n * xs.length
  | 0 => by simp
  | n + 1 => by
    rw [List.replicate_succ, List.flatten_cons, List.length_append, flat_len xs n, Nat.succ_mul, Nat.add_comm]
theorem RepL.eq_of {ds es : List D} {vs : List V} (r : RepL K H f ds vs) (r2 : RepL K H f es vs) : ds.length = es.length := by rw [r.length, r2.length]
theorem mul_ok (S : Sim K H f M) (rx : TRep K H0 H f x v) (ry : TRep K H0 H f y u) (h : mulop x y = some z) (q : Done K H0 f H M z Q) : rMulA K v u H Q := by
  cases x with
  | lst xs => cases h
  | d d =>
    cases y with
    | lst ys => cases rx <;> cases h
    | d e =>
      cases rx with
      | int i =>
        cases ry with
        | int j =>
          obtain ⟨hc, e⟩ := guard_some (show guard' _ _ = some z from h)
          subst e
          exact .inl ⟨i, j, rfl, rfl, hc, done_val S q (.int _)⟩
        | _ => cases h
      | @tup p vs ds t1 r1 =>
        cases ry with
        | int k =>
          obtain ⟨hc, e⟩ := guard_some (show guard' _ _ = some z from h)
          subst e
          have hl := r1.length
          have hc' := hc
          simp only [Bool.and_eq_true, decide_eq_true_eq] at hc'
          obtain ⟨⟨c0, c1⟩, c2⟩ := hc'
          refine .inr ⟨p, k, vs, rfl, rfl, t1.sq, by rw [← hl]; exact hc, ?_, fun e => ?_, done_tup S q (r1.copies k.toNat)⟩
          · rw [flat_len]
            have h1 : k.toNat * vs.length ≤ 1000 * 1000 := Nat.mul_le_mul (by omega) (by omega)
            have e : sizeLine = 16777216 := sizeLine_eq
            omega
          · -- the same object: either one copy, or nothing in it
            have hcp : copies k.toNat ds = ds := by
              have e2 := congrArg List.length e
              rw [flat_len] at e2
              unfold copies
              by_cases hz : ds = []
              · subst hz
                simp
              · have hp : 0 < vs.length := by
                  rw [← hl]
                  exact List.length_pos_iff.mpr hz
                have e1 : k.toNat = 1 := Nat.eq_of_mul_eq_mul_right hp (by rw [Nat.one_mul]; exact e2)
                rw [e1]
                simp
            rw [hcp] at q
            exact done_val S q (.tup t1 r1)
        | _ => cases h
      | _ => cases h
/-! ### numbers alone -/
theorem num_ok {g : Int → Int → Option Int} {C : Int → Int → Prop} {k : Int → Int → Int} (hg : ∀ i j n, g i j = some n → C i j ∧ n = k i j) (S : Sim K H f M) (rx : TRep K H0 H f x v) (ry : TRep K H0 H f y u) (h : numop x y g = some z) (q : Done K H0 f H M z Q) :
    rI C (fun i j => .int (k i j)) v u H Q := by
  cases x with
  | lst xs => cases h
  | d d =>
    cases y with
    | lst ys => cases rx <;> cases h
    | d e =>
      cases rx with
      | int i =>
        cases ry with
        | int j =>
          obtain ⟨n, hn, e⟩ := Option.map_eq_some_iff.mp (show (g i j).map _ = some z from h)
          subst e
          obtain ⟨hc, rfl⟩ := hg i j n hn
          exact ⟨i, j, rfl, rfl, hc, done_val S q (.int _)⟩
        | _ => cases h
      | _ => cases h
end
end Ev

set_option maxRecDepth 100000
set_option maxHeartbeats 2000000
namespace Ev
open PySem PySem.Spec PyProof.Rows L2
/-! ### comparisons -/
def cop : Cop → CmpOp
  | .eq => .Eq | .ne => .NotEq | .lt => .Lt | .le => .LtE | .gt => .Gt | .ge => .GtE | .is => .Is | .isnot => .IsNot | .isin => .In | .notin => .NotIn
def rCmp (K : PySem.W.Frag) : Cop → R2
  | .eq => fun x y H Q => ∃ d e, Dat K H x d ∧ Dat K H y e ∧ Q (.bl (PyData.eqv d e)) H
  | .ne => fun x y H Q => ∃ d e, Dat K H x d ∧ Dat K H y e ∧ Q (.bl (!PyData.eqv d e)) H
  | .lt => rCm K fun d e => W.dataLt d e
  | .le => rCm K fun d e => !W.dataLt e d
  | .gt => rCm K fun d e => W.dataLt e d
  | .ge => rCm K fun d e => !W.dataLt d e
  | .is => rIs id
  | .isnot => rIs not
  | .isin => rMem K id
  | .notin => rMem K not
theorem op_cmp {X : Cx} {k : Nat} (hr : Room k X.A) : ∀ o : Cop, OpR X (compareOp (cop o)) (rCmp X.K o)
  | .eq => op_eqP hr
  | .ne => op_neP hr
  | .lt => op_ltP hr
  | .le => op_leP hr
  | .gt => op_gtP hr
  | .ge => op_geP hr
  | .is => op_isP
  | .isnot => op_isnotP
  | .isin => op_inP hr
  | .notin => op_notinP hr
section
variable {K : PySem.W.Frag} {f f0 : List Addr} {H H0 H1 : Hp} {M : MH} {Q : VK} {x y z : TV} {v u : V}
theorem two_dat {α : Type} {g : PyData → PyData → Option α} {b : α} (h : (match pdT M deep x, pdT M deep y with
    | some a, some b => g a b
    | _, _ => none) = some b) : ∃ d e, pdT M deep x = some d ∧ pdT M deep y = some e ∧ g d e = some b := by
  cases e1 : pdT M deep x with
  | none => rw [e1] at h; cases h
  | some d =>
    cases e2 : pdT M deep y with
    | none => rw [e1, e2] at h; cases h
    | some e =>
      rw [e1, e2] at h
      exact ⟨d, e, rfl, rfl, h⟩
theorem mem_dat {e : PyData} {bs : List PyData} (h : memOf e = some bs) (r : Dat K H u e) : Dat K H u (.list bs) ∨ Dat K H u (.tuple bs) := by
  cases e with
  | list xs =>
    cases h
    exact .inl r
  | tuple xs =>
    cases h
    exact .inr r
  | _ => cases h
theorem cmp_ok (S : Sim K H f M) (rx : TRep K H0 H f x v) (ry : TRep K H1 H f y u) {o : Cop} {b : Bool} (h : cmpop M o x y = some b) (q : Q (.bl b) H) : rCmp K o v u H Q := by
  have cm : ∀ {g : PyData → PyData → Bool}, (match pdT M deep x, pdT M deep y with
      | some a, some b => guard' (W.alike a b && noNone a) (g a b)
      | _, _ => none) = some b → rCm K g v u H Q := by
    intro g h
    obtain ⟨d, e, h1, h2, h3⟩ := two_dat h
    obtain ⟨hc, rfl⟩ := guard_some h3
    exact ⟨d, e, pdT_dat S h1 rx, pdT_dat S h2 ry, hc, q⟩
  cases o with
  | eq =>
    obtain ⟨d, e, h1, h2, h3⟩ := two_dat (g := fun a b => some (PyData.eqv a b)) h
    cases h3
    exact ⟨d, e, pdT_dat S h1 rx, pdT_dat S h2 ry, q⟩
  | ne =>
    obtain ⟨d, e, h1, h2, h3⟩ := two_dat (g := fun a b => some (!PyData.eqv a b)) h
    cases h3
    exact ⟨d, e, pdT_dat S h1 rx, pdT_dat S h2 ry, q⟩
  | lt => exact cm h
  | le => exact cm h
  | gt => exact cm h
  | ge => exact cm h
  | is =>
    cases x with
    | lst _ => cases h
    | d d =>
      cases y with
      | lst _ => cases rx <;> cases h
      | d e =>
        cases ry with
        | non => cases rx <;> first | (cases h; exact .inl ⟨rfl, q⟩) | cases h
        | bl b2 => cases rx <;> first | (cases h; exact .inr ⟨_, _, rfl, rfl, q⟩) | cases h
        | _ => cases rx <;> cases h
  | isnot =>
    cases x with
    | lst _ => cases h
    | d d =>
      cases y with
      | lst _ => cases rx <;> cases h
      | d e =>
        cases ry with
        | non => cases rx <;> first | (cases h; exact .inl ⟨rfl, q⟩) | cases h
        | bl b2 => cases rx <;> first | (cases h; exact .inr ⟨_, _, rfl, rfl, q⟩) | cases h
        | _ => cases rx <;> cases h
  | isin =>
    obtain ⟨d, e, h1, h2, h3⟩ := two_dat (g := fun a b => (memOf b).map fun (bs : List PyData) => bs.any fun z => PyData.eqv z a) (M := M) (x := x) (y := y) (b := b) h
    obtain ⟨bs, hb, e2⟩ := Option.map_eq_some_iff.mp h3
    subst e2
    exact ⟨d, bs, pdT_dat S h1 rx, mem_dat hb (pdT_dat S h2 ry), q⟩
  | notin =>
    obtain ⟨d, e, h1, h2, h3⟩ := two_dat (g := fun a b => (memOf b).map fun (bs : List PyData) => !bs.any fun z => PyData.eqv z a) (M := M) (x := x) (y := y) (b := b) h
    obtain ⟨bs, hb, e2⟩ := Option.map_eq_some_iff.mp h3
    subst e2
    exact ⟨d, bs, pdT_dat S h1 rx, mem_dat hb (pdT_dat S h2 ry), q⟩
/-! ### x[i], x[a:b], x[::-1] -/
theorem at_rep {ds : List D} {vs : List V} {i : Int} {d : D} (r : RepL K H f ds vs) (h : atI ds i = some d) : ∃ w, atI vs i = some w ∧ Rep K H f d w := by
  have h' : (ixN ds.length i).bind (fun j => ds[j]?) = some d := h
  cases e : ixN ds.length i with
  | none => rw [e] at h'; cases h'
  | some j =>
    rw [e] at h'
    obtain ⟨w, hw, rw'⟩ := r.get (show ds[j]? = some d from h')
    refine ⟨w, ?_, rw'⟩
    show (ixN vs.length i).bind (fun j => vs[j]?) = some w
    rw [← r.length, e]
    exact hw
theorem ix_ok (S : Sim K H f M) (rx : TRep K H0 H f x v) (ry : TRep K H1 H f y u) (h : ixop M x y = some z) (q : Done K H0 f H M z Q) : rIx K v u H Q := by
  cases y with
  | lst _ => cases h
  | d e =>
    cases ry with
    | int i =>
      have h' : (match sq M x with
        | some ds => (L2.atI ds i).map TV.d
        | none => ixStr i x) = some z := h
      cases e1 : sq M x with
      | some ds =>
        rw [e1] at h'
        obtain ⟨d, hd, e2⟩ := Option.map_eq_some_iff.mp h'
        subst e2
        obtain ⟨a, vs, rfl, rs, hl⟩ := sq_rep S e1 rx
        obtain ⟨w, hw, rw'⟩ := at_rep rs hd
        rcases hl with hl | ⟨_, hl⟩
        · exact .inl ⟨a, vs, i, w, rfl, rfl, hl, hw, done_val S q rw'⟩
        · exact .inr (.inl ⟨a, vs, i, w, rfl, rfl, hl.sq, hw, done_val S q rw'⟩)
      | none =>
        rw [e1] at h'
        cases x with
        | lst _ => cases e1
        | d d =>
          cases rx with
          | str s =>
            have h2 : (match L2.atI s.cps.toList i with
              | some c => guard' (decide (s.length ≤ sizeLine)) (TV.d (.str ⟨#[c]⟩))
              | none => none) = some z := h'
            cases e3 : L2.atI s.cps.toList i with
            | none => rw [e3] at h2; cases h2
            | some c =>
              rw [e3] at h2
              obtain ⟨hc, e2⟩ := guard_some h2
              subst e2
              exact .inr (.inr ⟨s, i, c, rfl, rfl, of_decide_eq_true hc, e3, done_val S q (.str _)⟩)
          | _ => cases h'
    | _ => cases h
theorem cut_rep {ds : List D} {vs : List V} (r : RepL K H f ds vs) (lo hi : Option Int) : RepL K H f (cut ds lo hi) (cut vs lo hi) := by
  unfold cut
  rw [r.length]
  exact (r.drop _).take _
/-- the slices' reading -/
def rSlA' (K : PySem.W.Frag) : V → Option Int → Option Int → Hp → VK → Prop := fun x lo hi H Q =>
  ((∃ a xs, x = .ref a ∧ SqT K H a xs ∧ (cut xs lo hi = xs → Q (.ref a) H) ∧ NewTup (cut xs lo hi) H Q) ∨ rSlS x lo hi H Q) ∨ rSlL K x lo hi H Q
theorem sl_all {X : Cx} : SlR X (rSlA' X.K) := (sl_tupF.or sl_str).or sl_list
theorem rep_inj : ∀ {ds es : List D} {vs : List V}, RepL K H f ds vs → RepL K H f es vs → ds.length = es.length := fun r r2 => r.eq_of r2
theorem cut_whole {α : Type} {xs : List α} {lo hi : Option Int} (h : (cut xs lo hi).length = xs.length) : cut xs lo hi = xs := by
  unfold cut at h ⊢
  rw [List.length_take, List.length_drop] at h
  have h0 : HT.sIx xs.length 0 lo ≤ xs.length := HT.sIx_le _ _ (Nat.zero_le _) _
  by_cases hz : xs = []
  · subst hz
    simp
  · have hp : 0 < xs.length := List.length_pos_iff.mpr hz
    have e1 : HT.sIx xs.length 0 lo = 0 := by omega
    have e2 : xs.length ≤ HT.sIx xs.length xs.length hi := by omega
    rw [e1, List.drop_zero, Nat.sub_zero]
    exact List.take_of_length_le e2
theorem sl_ok (S : Sim K H f M) (X0 : Ext f0 f H0 H) {lo hi : Option Int} (rx : TRep K H0 H f x v) (h : slop M x lo hi = some z) (q : Done K H0 f H M z Q) : rSlA' K v lo hi H Q := by
  have lists : (match sqL M x with
    | some ds => some (TV.lst (cut ds lo hi))
    | none => none) = some z → rSlA' K v lo hi H Q := by
    intro h
    cases e1 : sqL M x with
    | none => rw [e1] at h; cases h
    | some ds =>
      rw [e1] at h
      have e : TV.lst (cut ds lo hi) = z := Option.some.inj h
      subst e
      obtain ⟨a, vs, rfl, hl, rs⟩ := sqL_rep S e1 rx
      exact .inr ⟨a, vs, rfl, hl, done_lst S X0 q (cut_rep rs lo hi)⟩
  cases x with
  | lst _ => exact lists h
  | d d =>
    cases rx with
    | @tup a vs ds t r =>
      have e : TV.d (.tup (cut ds lo hi)) = z := Option.some.inj h
      subst e
      refine .inl (.inl ⟨a, vs, rfl, t.sq, fun e => ?_, done_tup S q (cut_rep r lo hi)⟩)
      have e2 : cut ds lo hi = ds := cut_whole (by rw [(cut_rep r lo hi).length, e, r.length])
      rw [e2] at q
      exact done_val S q (.tup t r)
    | str s =>
      obtain ⟨hc, e⟩ := guard_some (show guard' _ _ = some z from h)
      subst e
      exact .inl (.inr ⟨s, rfl, of_decide_eq_true hc, done_val S q (.str _)⟩)
    | _ => exact lists h
theorem rev_ok (S : Sim K H f M) (X0 : Ext f0 f H0 H) (rx : TRep K H0 H f x v) (h : revop M x = some z) (q : Done K H0 f H M z Q) :
    ∃ a xs, v = .ref a ∧ ((SqL K H a xs ∧ ∀ p, H p = none → Q (.ref p) (upd H p (.lst xs.reverse))) ∨ (SqT K H a xs ∧ NewTup xs.reverse H Q)) := by
  have lists : (match sqL M x with
    | some ds => some (TV.lst ds.reverse)
    | none => none) = some z → ∃ a xs, v = .ref a ∧ ((SqL K H a xs ∧ ∀ p, H p = none → Q (.ref p) (upd H p (.lst xs.reverse))) ∨ (SqT K H a xs ∧ NewTup xs.reverse H Q)) := by
    intro h
    cases e1 : sqL M x with
    | none => rw [e1] at h; cases h
    | some ds =>
      rw [e1] at h
      have e : TV.lst ds.reverse = z := Option.some.inj h
      subst e
      obtain ⟨a, vs, rfl, hl, rs⟩ := sqL_rep S e1 rx
      exact ⟨a, vs, rfl, .inl ⟨hl, done_lst S X0 q rs.reverse⟩⟩
  cases x with
  | lst _ => exact lists h
  | d d =>
    cases rx with
    | @tup a vs ds t r =>
      have e : TV.d (.tup ds.reverse) = z := Option.some.inj h
      subst e
      exact ⟨a, vs, rfl, .inr ⟨t.sq, done_tup S q r.reverse⟩⟩
    | _ => exact lists h
end
end Ev

set_option maxRecDepth 100000
set_option maxHeartbeats 2000000
namespace Ev
open PySem PySem.Spec PyProof.Rows L2
/-! ### built-ins -/
def bfV : Bfn → Value
  | .len => .builtin "len" | .int => .type "int" | .str => .type "str" | .tuple => .type "tuple" | .list => .type "list" | .all => .builtin "all" | .any => .builtin "any"
  | .max1 => .builtin "max" | .max2 => .builtin "max" | .min1 => .builtin "min" | .min2 => .builtin "min" | .sum => .builtin "sum" | .abs => .builtin "abs" | .repr => .builtin "repr"
def bfN : Bfn → Str
  | .len => "len" | .int => "int" | .str => "str" | .tuple => "tuple" | .list => "list" | .all => "all" | .any => "any"
  | .max1 => "max" | .max2 => "max" | .min1 => "min" | .min2 => "min" | .sum => "sum" | .abs => "abs" | .repr => "repr"
def rBf (K : PySem.W.Frag) : Bfn → List V → Hp → VK → Prop
  | .len => fun xs H Q => (∃ p ys, xs = [.ref p] ∧ (SqL K H p ys ∨ SqT K H p ys) ∧ Q (.int ys.length) H) ∨ ∃ z, xs = [.str z] ∧ z.length ≤ sizeLine ∧ Q (.int z.length) H
  | .int => fun xs H Q => (∃ i, xs = [.int i] ∧ Q (.int i) H) ∨ ∃ k, xs = [.bl k] ∧ Q (.int (if k then 1 else 0)) H
  | .str => fun xs H Q => (∃ i, xs = [.int i] ∧ i.natAbs.log2 < 1920 ∧ Q (.str (toString i)) H) ∨ ∃ a, xs = [.str a] ∧ Q (.str a) H
  | .tuple => fun xs H Q => ∃ p ys, xs = [.ref p] ∧ ((SqL K H p ys ∧ NewTup ys H Q) ∨ (SqT K H p ys ∧ Q (.ref p) H))
  | .list => fun xs H Q => ∃ p ys, xs = [.ref p] ∧ (SqL K H p ys ∨ SqT K H p ys) ∧ ∀ l, H l = none → Q (.ref l) (upd H l (.lst ys))
  | .all => rAll K
  | .any => rAny K
  | .max1 => rMax K
  | .min1 => rMin K
  | .max2 => fun xs H Q => ∃ i j, xs = [.int i, .int j] ∧ Q (.int (if j > i then j else i)) H
  | .min2 => fun xs H Q => ∃ i j, xs = [.int i, .int j] ∧ Q (.int (if j < i then j else i)) H
  | .sum => rSum K
  | .abs => fun xs H Q => ∃ i, xs = [.int i] ∧ Q (.int (if i < 0 then -i else i)) H
  | .repr => fun xs H Q => ∃ x d, xs = [x] ∧ Dat K H x d ∧ (d.showable && decide (d.shown.length ≤ sizeLine)) = true ∧ Q (.str d.shown) H
theorem callR_or {X : Cx} {fv : Value} {r r' : List V → Hp → VK → Prop} (h : CallR X fv r) (h' : CallR X fv r') : CallR X fv (fun xs H Q => r xs H Q ∨ r' xs H Q) := by
  rintro pins s σ H xs us Q I rs (q | q)
  · exact h pins s σ H xs us Q I rs q
  · exact h' pins s σ H xs us Q I rs q
theorem call_bf {X : Cx} {k : Nat} (hr : Room k X.A) (hg : X.A.guards = some []) (hc : X.calm = true) : ∀ g : Bfn, CallR X (bfV g) (rBf X.K g)
  | .len => callR_or call_len_seq call_len_str
  | .int => call_int1
  | .str => callR_or call_str_int SkE.call_str_str
  | .tuple => call_tupF
  | .list => call_list_of
  | .all => cr_all hc
  | .any => cr_any hc
  | .max1 => cr_max hc
  | .min1 => cr_min hc
  | .max2 => call_max2 hc
  | .min2 => call_min2 hc
  | .sum => cr_sum hc
  | .abs => call_abs
  | .repr => call_reprP hr hg
section
variable {K : PySem.W.Frag} {f f0 f1 : List Addr} {H H0 H1 : Hp} {M : MH} {Q : VK} {x y z : TV} {v u : V}
theorem ints_rep : ∀ {ds : List D} {is : List Int} {vs : List V}, intsOf ds = some is → RepL K H f ds vs → vs = is.map V.int
  | [], is, _, h, .nil => by
    have e : ([] : List Int) = is := Option.some.inj h
    subst e
    rfl
  | d :: ds, is, _, h, .cons r rs => by
    cases r with
    | int i =>
      obtain ⟨js, e1, e2⟩ := Option.map_eq_some_iff.mp (show (intsOf ds).map (i :: ·) = some is from h)
      subst e2
      rw [ints_rep e1 rs]
      rfl
    | _ => cases h
theorem strs_rep : ∀ {ds : List D} {is : List Str} {vs : List V}, strsOf ds = some is → RepL K H f ds vs → vs = is.map V.str
  | [], is, _, h, .nil => by
    have e : ([] : List Str) = is := Option.some.inj h
    subst e
    rfl
  | d :: ds, is, _, h, .cons r rs => by
    cases r with
    | str i =>
      obtain ⟨js, e1, e2⟩ := Option.map_eq_some_iff.mp (show (strsOf ds).map (i :: ·) = some is from h)
      subst e2
      rw [strs_rep e1 rs]
      rfl
    | _ => cases h
theorem bls_rep : ∀ {ds : List D} {is : List Bool} {vs : List V}, blsOf ds = some is → RepL K H f ds vs → vs = is.map V.bl
  | [], is, _, h, .nil => by
    have e : ([] : List Bool) = is := Option.some.inj h
    subst e
    rfl
  | d :: ds, is, _, h, .cons r rs => by
    cases r with
    | bl i =>
      obtain ⟨js, e1, e2⟩ := Option.map_eq_some_iff.mp (show (blsOf ds).map (i :: ·) = some is from h)
      subst e2
      rw [bls_rep e1 rs]
      rfl
    | _ => cases h
theorem fold_max (l : List Int) : ∀ a : Int, (l.foldl (fun m x => if m < x then x else m) a) ∈ a :: l ∧ ∀ y ∈ a :: l, y ≤ l.foldl (fun m x => if m < x then x else m) a := by
  induction l with
  | nil => intro a; simp
  | cons b l ih =>
    intro a
    rw [List.foldl_cons]
    obtain ⟨h1, h2⟩ := ih (if a < b then b else a)
    refine ⟨?_, fun y hy => ?_⟩
    · rcases List.mem_cons.mp h1 with e | e
      · rw [e]
        split <;> simp
      · exact List.mem_cons_of_mem _ (List.mem_cons_of_mem _ e)
    · have h3 := h2 _ List.mem_cons_self
      have ha : a ≤ (if a < b then b else a) := by split <;> omega
      have hb : b ≤ (if a < b then b else a) := by split <;> omega
      rcases List.mem_cons.mp hy with e | hy
      · subst e
        exact Int.le_trans ha h3
      · rcases List.mem_cons.mp hy with e | hy
        · subst e
          exact Int.le_trans hb h3
        · exact h2 y (List.mem_cons_of_mem _ hy)
theorem fold_min (l : List Int) : ∀ a : Int, (l.foldl (fun m x => if x < m then x else m) a) ∈ a :: l ∧ ∀ y ∈ a :: l, l.foldl (fun m x => if x < m then x else m) a ≤ y := by
  induction l with
  | nil => intro a; simp
  | cons b l ih =>
    intro a
    rw [List.foldl_cons]
    obtain ⟨h1, h2⟩ := ih (if b < a then b else a)
    refine ⟨?_, fun y hy => ?_⟩
    · rcases List.mem_cons.mp h1 with e | e
      · rw [e]
        split <;> simp
      · exact List.mem_cons_of_mem _ (List.mem_cons_of_mem _ e)
    · have h3 := h2 _ List.mem_cons_self
      have ha : (if b < a then b else a) ≤ a := by split <;> omega
      have hb : (if b < a then b else a) ≤ b := by split <;> omega
      rcases List.mem_cons.mp hy with e | hy
      · subst e
        exact Int.le_trans h3 ha
      · rcases List.mem_cons.mp hy with e | hy
        · subst e
          exact Int.le_trans h3 hb
        · exact h2 y (List.mem_cons_of_mem _ hy)
theorem maxL_is {is : List Int} {m : Int} (h : maxL is = some m) : 0 < is.length ∧ ∀ n, n ∈ is → (∀ y, y ∈ is → y ≤ n) → n = m := by
  cases is with
  | nil => cases h
  | cons a l =>
    have e : l.foldl (fun m x => if m < x then x else m) a = m := Option.some.inj h
    obtain ⟨h1, h2⟩ := fold_max l a
    rw [e] at h1 h2
    exact ⟨Nat.succ_pos _, fun n hn hy => Int.le_antisymm (h2 n hn) (hy m h1)⟩
theorem minL_is {is : List Int} {m : Int} (h : minL is = some m) : 0 < is.length ∧ ∀ n, n ∈ is → (∀ y, y ∈ is → n ≤ y) → n = m := by
  cases is with
  | nil => cases h
  | cons a l =>
    have e : l.foldl (fun m x => if x < m then x else m) a = m := Option.some.inj h
    obtain ⟨h1, h2⟩ := fold_min l a
    rw [e] at h1 h2
    exact ⟨Nat.succ_pos _, fun n hn hy => Int.le_antisymm (hy m h1) (h2 n hn)⟩
/-- several terms' values -/
inductive TReps (K : PySem.W.Frag) (H0 H : Hp) (f : List Addr) : List TV → List V → Prop where
  | nil : TReps K H0 H f [] []
  | cons {x : TV} {v : V} {xs : List TV} {vs : List V} : TRep K H0 H f x v → TReps K H0 H f xs vs → TReps K H0 H f (x :: xs) (v :: vs)
theorem showInt_is {i : Int} {s : Str} (h : showInt i = some s) : i.natAbs.log2 < 1920 ∧ s = ((toString i : String) : Str) := by
  obtain ⟨hc, e⟩ := guard_some h
  exact ⟨of_decide_eq_true hc, e.symm⟩
theorem bf_ok (S : Sim K H f M) (X0 : Ext f0 f H0 H) {g : Bfn} {xs : List TV} {vs : List V} (r : TReps K H0 H f xs vs) (h : bfop M g xs = some z) (q : Done K H0 f H M z Q) : rBf K g vs H Q := by
  have one : ∀ {F : TV → Option TV} {R : V → Prop}, (∀ x v, TRep K H0 H f x v → F x = some z → R v) → (match xs with
      | [x] => F x
      | _ => none) = some z → ∃ v, vs = [v] ∧ R v := by
    intro F R hF h
    cases r with
    | nil => cases h
    | cons r rs =>
      cases rs with
      | nil => exact ⟨_, rfl, hF _ _ r h⟩
      | cons _ _ => cases h
  cases g with
  | len =>
    obtain ⟨v, rfl, q'⟩ := one (F := fun x => match sq M x with
      | some ds => some (.d (.int ds.length))
      | none => match dStr x with
        | some s => guard' (decide (s.length ≤ sizeLine)) (.d (.int s.length))
        | none => none) (R := fun v => rBf K .len [v] H Q) (fun x v rx h => by
        have h' : (match sq M x with
          | some ds => some (TV.d (.int ds.length))
          | none => match dStr x with
            | some s => guard' (decide (s.length ≤ sizeLine)) (.d (.int s.length))
            | none => none) = some z := h
        cases e1 : sq M x with
        | some ds =>
          rw [e1] at h'
          have e : TV.d (.int ds.length) = z := Option.some.inj h'
          subst e
          obtain ⟨a, us, rfl, rs, hl⟩ := sq_rep S e1 rx
          refine .inl ⟨a, us, rfl, hl.imp id fun t => t.2.sq, ?_⟩
          rw [← rs.length]
          exact done_val S q (.int _)
        | none =>
          rw [e1] at h'
          cases x with
          | lst _ => cases e1
          | d d =>
            cases rx with
            | str s =>
              obtain ⟨hc, e⟩ := guard_some (show guard' _ _ = some z from h')
              subst e
              exact .inr ⟨s, rfl, of_decide_eq_true hc, done_val S q (.int _)⟩
            | _ => cases h') (by
        cases xs with
        | nil => exact h
        | cons x l => cases l <;> exact h)
    exact q'
  | int =>
    cases r with
    | nil => cases h
    | @cons x _ _ _ r rs =>
      cases rs with
      | cons _ _ => cases x with
        | lst _ => cases h
        | d d => cases r <;> cases h
      | nil =>
        cases x with
        | lst _ => cases h
        | d d =>
          cases r with
          | int i =>
            cases h
            exact .inl ⟨i, rfl, done_val S q (.int _)⟩
          | bl b =>
            cases h
            exact .inr ⟨b, rfl, done_val S q (.int _)⟩
          | _ => cases h
  | str =>
    cases r with
    | nil => cases h
    | @cons x _ _ _ r rs =>
      cases rs with
      | cons _ _ => cases x with
        | lst _ => cases h
        | d d => cases r <;> cases h
      | nil =>
        cases x with
        | lst _ => cases h
        | d d =>
          cases r with
          | int i =>
            obtain ⟨s, h1, e⟩ := Option.map_eq_some_iff.mp (show (showInt i).map _ = some z from h)
            subst e
            obtain ⟨h2, rfl⟩ := showInt_is h1
            exact .inl ⟨i, rfl, h2, done_val S q (.str _)⟩
          | str s =>
            cases h
            exact .inr ⟨s, rfl, done_val S q (.str _)⟩
          | _ => cases h
  | tuple =>
    cases r with
    | nil => cases h
    | @cons x _ _ _ r rs =>
      cases rs with
      | cons _ _ => cases h
      | nil =>
        obtain ⟨ds, h1, e⟩ := Option.map_eq_some_iff.mp (show (sq M x).map _ = some z from h)
        subst e
        obtain ⟨a, us, rfl, rs, hl⟩ := sq_rep S h1 r
        rcases hl with hl | ⟨rfl, hl⟩
        · exact ⟨a, us, rfl, .inl ⟨hl, done_tup S q rs⟩⟩
        · exact ⟨a, us, rfl, .inr ⟨hl.sq, done_val S q r⟩⟩
  | list =>
    cases r with
    | nil => cases h
    | @cons x _ _ _ r rs =>
      cases rs with
      | cons _ _ => cases h
      | nil =>
        obtain ⟨ds, h1, e⟩ := Option.map_eq_some_iff.mp (show (sq M x).map _ = some z from h)
        subst e
        obtain ⟨a, us, rfl, rs, hl⟩ := sq_rep S h1 r
        exact ⟨a, us, rfl, hl.imp id fun t => t.2.sq, done_lst S X0 q rs⟩
  | all =>
    cases r with
    | nil => cases h
    | @cons x _ _ _ r rs =>
      cases rs with
      | cons _ _ => cases h
      | nil =>
        have h' : (match sqL M x with
          | some ds => (blsOf ds).map fun bs => TV.d (.bl (bs.all id))
          | none => none) = some z := h
        cases e1 : sqL M x with
        | none => rw [e1] at h'; cases h'
        | some ds =>
          rw [e1] at h'
          obtain ⟨bs, h2, e⟩ := Option.map_eq_some_iff.mp h'
          subst e
          obtain ⟨a, us, rfl, hl, rs⟩ := sqL_rep S e1 r
          exact ⟨a, bs, rfl, by rw [← bls_rep h2 rs]; exact hl, done_val S q (.bl _)⟩
  | any =>
    cases r with
    | nil => cases h
    | @cons x _ _ _ r rs =>
      cases rs with
      | cons _ _ => cases h
      | nil =>
        have h' : (match sqL M x with
          | some ds => (blsOf ds).map fun bs => TV.d (.bl (bs.any id))
          | none => none) = some z := h
        cases e1 : sqL M x with
        | none => rw [e1] at h'; cases h'
        | some ds =>
          rw [e1] at h'
          obtain ⟨bs, h2, e⟩ := Option.map_eq_some_iff.mp h'
          subst e
          obtain ⟨a, us, rfl, hl, rs⟩ := sqL_rep S e1 r
          exact ⟨a, bs, rfl, by rw [← bls_rep h2 rs]; exact hl, done_val S q (.bl _)⟩
  | max1 =>
    cases r with
    | nil => cases h
    | @cons x _ _ _ r rs =>
      cases rs with
      | cons _ _ => cases h
      | nil =>
        have h' : (match sqL M x with
          | some ds => match intsOf ds with
            | some is => (maxL is).map fun i => TV.d (.int i)
            | none => none
          | none => none) = some z := h
        cases e1 : sqL M x with
        | none => rw [e1] at h'; cases h'
        | some ds =>
          rw [e1] at h'
          have h2 : (match intsOf ds with
            | some is => (maxL is).map fun i => TV.d (.int i)
            | none => none) = some z := h'
          cases e2 : intsOf ds with
          | none => rw [e2] at h2; cases h2
          | some is =>
            rw [e2] at h2
            obtain ⟨m, h3, e⟩ := Option.map_eq_some_iff.mp h2
            subst e
            obtain ⟨a, us, rfl, hl, rs⟩ := sqL_rep S e1 r
            obtain ⟨h4, h5⟩ := maxL_is h3
            exact ⟨a, is, rfl, by rw [← ints_rep e2 rs]; exact hl, h4, fun n hn hy => by rw [h5 n hn hy]; exact done_val S q (.int _)⟩
  | min1 =>
    cases r with
    | nil => cases h
    | @cons x _ _ _ r rs =>
      cases rs with
      | cons _ _ => cases h
      | nil =>
        have h' : (match sqL M x with
          | some ds => match intsOf ds with
            | some is => (minL is).map fun i => TV.d (.int i)
            | none => none
          | none => none) = some z := h
        cases e1 : sqL M x with
        | none => rw [e1] at h'; cases h'
        | some ds =>
          rw [e1] at h'
          have h2 : (match intsOf ds with
            | some is => (minL is).map fun i => TV.d (.int i)
            | none => none) = some z := h'
          cases e2 : intsOf ds with
          | none => rw [e2] at h2; cases h2
          | some is =>
            rw [e2] at h2
            obtain ⟨m, h3, e⟩ := Option.map_eq_some_iff.mp h2
            subst e
            obtain ⟨a, us, rfl, hl, rs⟩ := sqL_rep S e1 r
            obtain ⟨h4, h5⟩ := minL_is h3
            exact ⟨a, is, rfl, by rw [← ints_rep e2 rs]; exact hl, h4, fun n hn hy => by rw [h5 n hn hy]; exact done_val S q (.int _)⟩
  | sum =>
    cases r with
    | nil => cases h
    | @cons x _ _ _ r rs =>
      cases rs with
      | cons _ _ => cases h
      | nil =>
        have h' : (match sqL M x with
          | some ds => (intsOf ds).map fun is => TV.d (.int is.sum)
          | none => none) = some z := h
        cases e1 : sqL M x with
        | none => rw [e1] at h'; cases h'
        | some ds =>
          rw [e1] at h'
          obtain ⟨bs, h2, e⟩ := Option.map_eq_some_iff.mp h'
          subst e
          obtain ⟨a, us, rfl, hl, rs⟩ := sqL_rep S e1 r
          exact ⟨a, bs, rfl, by rw [← ints_rep h2 rs]; exact hl, done_val S q (.int _)⟩
  | max2 =>
    cases r with
    | nil => cases h
    | @cons x _ xs' _ r rs =>
      cases rs with
      | nil => cases x with
        | lst _ => cases h
        | d d => cases r <;> cases h
      | @cons y _ ys' _ r2 rs =>
        cases x with
        | lst _ => cases h
        | d d =>
          cases y with
          | lst _ => cases r <;> cases h
          | d e =>
            cases r with
            | int i =>
              cases r2 with
              | int j =>
                cases rs with
                | nil =>
                  cases h
                  exact ⟨i, j, rfl, done_val S q (.int _)⟩
                | cons _ _ => cases h
              | _ => cases h
            | _ => cases h
  | min2 =>
    cases r with
    | nil => cases h
    | @cons x _ xs' _ r rs =>
      cases rs with
      | nil => cases x with
        | lst _ => cases h
        | d d => cases r <;> cases h
      | @cons y _ ys' _ r2 rs =>
        cases x with
        | lst _ => cases h
        | d d =>
          cases y with
          | lst _ => cases r <;> cases h
          | d e =>
            cases r with
            | int i =>
              cases r2 with
              | int j =>
                cases rs with
                | nil =>
                  cases h
                  exact ⟨i, j, rfl, done_val S q (.int _)⟩
                | cons _ _ => cases h
              | _ => cases h
            | _ => cases h
  | abs =>
    cases r with
    | nil => cases h
    | @cons x _ _ _ r rs =>
      cases rs with
      | cons _ _ => cases x with
        | lst _ => cases h
        | d d => cases r <;> cases h
      | nil =>
        cases x with
        | lst _ => cases h
        | d d =>
          cases r with
          | int i =>
            cases h
            exact ⟨i, rfl, done_val S q (.int _)⟩
          | _ => cases h
  | repr =>
    cases r with
    | nil => cases h
    | @cons x _ _ _ r rs =>
      cases rs with
      | cons _ _ => cases h
      | nil =>
        have h' : (match pdT M deep x with
          | some p => guard' (p.showable && decide (p.shown.length ≤ sizeLine)) (TV.d (.str p.shown))
          | none => none) = some z := h
        cases e1 : pdT M deep x with
        | none => rw [e1] at h'; cases h'
        | some p =>
          rw [e1] at h'
          obtain ⟨hc, e⟩ := guard_some h'
          subst e
          exact ⟨_, p, rfl, pdT_dat S e1 r, hc, done_val S q (.str _)⟩
end
end Ev

set_option maxRecDepth 100000
set_option maxHeartbeats 2000000
namespace Ev
open PySem PySem.Spec PyProof.Rows L2
/-! ### when two values are the same -/
mutual
def sameD : D → D → Bool
  | .non, .non => true
  | .bl a, .bl b => a == b
  | .int a, .int b => decide (a = b)
  | .str a, .str b => decide (a = b)
  | .tup a, .tup b => sameDs a b
  | _, _ => false
def sameDs : List D → List D → Bool
  | [], [] => true
  | a :: as, b :: bs => sameD a b && sameDs as bs
  | _, _ => false
end
mutual
theorem sameD_is : ∀ (a b : D), sameD a b = true → a = b
  | .non, b, h => by cases b <;> first | rfl | exact absurd (show false = true from h) (by decide)
  | .bl x, b, h => by
    cases b <;> first | (exact congrArg D.bl (by simpa [sameD] using h)) | exact absurd (show false = true from h) (by decide)
  | .int x, b, h => by
    cases b <;> first | (exact congrArg D.int (by simpa [sameD] using h)) | exact absurd (show false = true from h) (by decide)
  | .str x, b, h => by
    cases b <;> first | (exact congrArg D.str (by simpa [sameD] using h)) | exact absurd (show false = true from h) (by decide)
  | .tup x, b, h => by
    cases b with
    | tup y => exact congrArg D.tup (sameDs_is x y h)
    | _ => exact absurd (show false = true from h) (by decide)
  | .scr x, b, h => by cases b <;> exact absurd (show false = true from h) (by decide)
  | .ref x, b, h => by cases b <;> exact absurd (show false = true from h) (by decide)
theorem sameDs_is : ∀ (a b : List D), sameDs a b = true → a = b
  | [], b, h => by
    cases b with
    | nil => rfl
    | cons _ _ => exact absurd (show false = true from h) (by decide)
  | x :: xs, b, h => by
    cases b with
    | nil => exact absurd (show false = true from h) (by decide)
    | cons y ys =>
      have h' : (sameD x y && sameDs xs ys) = true := h
      rw [Bool.and_eq_true] at h'
      rw [sameD_is x y h'.1, sameDs_is xs ys h'.2]
end
/-! ### what a law's text gives: its defs, its constants, its calls by name -/
structure Tab where
  fs : List (Nat × Fn)
  cs : List (Str × D)
  kc : List (Nat × List Str × List Nat)
def Tab.at (T : Tab) (i : Nat) : Option Fn := T.fs.lookup i
structure Gd where
  P : Program
  w : World
  K : PySem.W.Frag
  mg : Str → Option Value
  base : Heap
  T : Tab
  cl : Nat → Value
  k : Nat
  n : Nat
def Gd.C (G : Gd) : Nat → List D → MH → Res D := run G.T.at G.n
/-- what the i-th def promises -/
def spF (G : Gd) (n i : Nat) : Sp := fun vs H Q E => ∃ f M ds, Sim G.K H f M ∧ RepL G.K H f ds vs ∧ sat (run G.T.at n i ds M) (okD G.K f H Q) (okX G.K G.cl f H E)
def bNames : List Str := ["len", "int", "str", "tuple", "list", "all", "any", "max", "min", "sum", "abs", "repr", "range", "enumerate", "zip", "isinstance", "bool", "set", "sorted"]
structure Gd.Ok (G : Gd) : Prop where
  cst : ∀ x d, (x, d) ∈ G.T.cs → ∃ v u, G.mg x = some u ∧ RelV v u ∧ ∀ H f, Rep G.K H f d v
  fn : ∀ i fn, G.T.at i = some fn → ∃ a fd, G.mg fn.name = some (.ref a) ∧ PySem.W.keepIn G.K (.ref a) = true ∧ FnG G.P G.w G.K G.mg G.base G.k a fd fn.ps (spF G G.n i) ∧
    (∀ (s : Shared) (us : List Value), us.length = fn.ps.length → BindsTo s fd ⟨us, []⟩ (fn.ps.zip us)) ∧
    ∀ ks ord, (i, ks, ord) ∈ G.T.kc → ∀ (s : Shared) (us : List Value), us.length = ks.length → BindsTo s fd ⟨[], ks.zip us⟩ (fn.ps.zip (ord.filterMap fun i => us[i]?))
  blt : ∀ x, x ∈ bNames → G.mg x = none
/-- a place in the text: within a def's scope or a comprehension's -/
structure Ctx (G : Gd) (N : List Str) (sc : Scope) (W : WX) (X : Cx) : Prop where
  p : X.prog = G.P
  w : X.w = G.w
  K : X.K = G.K
  mg : X.mg = G.mg
  b : X.base = G.base
  N : X.N = N
  sc : X.env.scope = sc
  calm : X.calm = true
  gs : X.A.guards = some []
  rm : Room G.k X.A
  tk : Takes X W
/-- the wish about errors -/
abbrev oX (G : Gd) (W : WX) (σ : L2.St) (f : List Addr) (H : Hp) : Nat → D → MH → Prop := okX G.K G.cl f H fun c d H' => W c d σ H'
def Snd (G : Gd) (W : WX) (x : Ex) (t : TE) : Prop := ∀ (σ : L2.St) (H : Hp) (Q : VK) (f : List Addr) (M : MH) (env : Sg), Sim G.K H f M → EnvR G.K H f env σ → sat (ev G.C x env M) (okT G.K f H Q) (oX G W σ f H) → t σ H Q
def SE (G : Gd) (N : List Str) (sc : Scope) (x : Ex) (e : Expr) : Prop := ∀ W : WX, ∃ t : TE, (∀ X, Ctx G N sc W X → PE X e t) ∧ Snd G W x t
section
variable {G : Gd} {N : List Str} {sc : Scope} {W : WX} {x a b : Ex} {e : Expr} {t ta tb : TE} {σ : L2.St} {H H1 H2 : Hp} {Q : VK} {f f1 f2 : List Addr} {M M1 M2 : MH} {env : Sg}
/-- the rest behind a term -/
theorem Snd.bind {α : Type} {k : TV → MH → Res α} {P : α → MH → Prop} {E : Nat → D → MH → Prop} (hx : Snd G W x t) (S : Sim G.K H f M) (R : EnvR G.K H f env σ) (h : sat ((ev G.C x env M).bnd k) P E) (hE : ∀ c d M, E c d M → oX G W σ f H c d M)
    (next : ∀ tv M1 v H1 f1, Ext f f1 H H1 → Sim G.K H1 f1 M1 → EnvR G.K H1 f1 env σ → TRep G.K H H1 f1 tv v → sat (k tv M1) P E → Q v H1) : t σ H Q :=
  hx σ H Q f M env S R (sat_mono (sat_bnd.mp h) (fun tv M1 h1 v H1 f1 X1 S1 r1 => next tv M1 v H1 f1 X1 S1 (R.ext X1) r1 h1) hE)
theorem oX.back {c : Nat} {d : D} (x : Ext f f1 H H1) (h : oX G W σ f H c d M) : oX G W σ f1 H1 c d M := okX.back x h
/-- a value that is known, and the store as it is -/
theorem okT.fin {z : TV} (x : Ext f f1 H H1) (h : okT G.K f H Q z M) : Done G.K H f1 H1 M z Q := fun w H' y s r => h w H' f1 (x.trans y) s r
theorem okT.d {d : D} {v : V} (h : okT G.K f H Q (.d d) M) (x : Ext f f1 H H1) (S : Sim G.K H1 f1 M) (r : Rep G.K H1 f1 d v) : Q v H1 := h v H1 f1 x S r
end
/-! ### names, constants -/
def visC (sc : Scope) (x : Str) : Bool := match sc.names.lookup x with
  | some .local => true
  | some .cell => true
  | some .free => true
  | _ => false
theorem vis_of {sc : Scope} {x : Str} (h : visC sc x = true) : Vis sc x := by
  unfold visC at h
  split at h
  · rename_i e; exact .inl e
  · rename_i e; exact .inr (.inl e)
  · rename_i e; exact .inr (.inr e)
  · cases h
def magic (x : Str) : Bool := (x == ("__debug__" : Str)) || (x == ("__classdict__" : Str)) || (x == ("__name__" : Str))
theorem magic_of {x : Str} (h : magic x = false) : (x == ("__debug__" : Str)) = false ∧ (x == ("__classdict__" : Str)) = false ∧ x ≠ ("__name__" : Str) := by
  unfold magic at h
  rw [Bool.or_eq_false_iff, Bool.or_eq_false_iff] at h
  exact ⟨h.1.1, h.1.2, by simpa using h.2⟩
def nmOk (N : List Str) (sc : Scope) (i : Nat) (x : Str) : Bool := decide (N[i]? = some x) && visC sc x && !magic x
def glC (sc : Scope) (x : Str) : Bool := decide (sc.names.lookup x = some .globalImplicit) && !magic x
def litOk : D → Const → Bool
  | .non, .none => true
  | .bl a, .bool b => a == b
  | .int a, .int b => decide (a = b)
  | .str a, .str b => decide (a = b)
  | _, _ => false
section
variable {G : Gd} {N : List Str} {sc : Scope} {W : WX}
theorem se_var {i : Nat} {x : Str} {p : Pos} (h : nmOk N sc i x = true) : SE G N sc (.var i) (.Name x p) := by
  unfold nmOk at h
  rw [Bool.and_eq_true, Bool.and_eq_true, decide_eq_true_eq] at h
  obtain ⟨⟨h1, h2⟩, h3⟩ := h
  obtain ⟨m1, m2, _⟩ := magic_of (by simpa using h3)
  refine fun W => ⟨tVar i, fun X c => pe_var (by rw [c.N]; exact h1) (by rw [c.sc]; exact vis_of h2) m1 m2, fun σ H Q f M env S R h => ?_⟩
  have h' : sat (match env[i]? with
    | some (some d) => Res.ok (TV.d d) M
    | _ => .bad) (okT G.K f H Q) (oX G W σ f H) := h
  cases e : env[i]? with
  | none => rw [e] at h'; exact h'.elim
  | some o =>
    cases o with
    | none => rw [e] at h'; exact h'.elim
    | some d =>
      rw [e] at h'
      obtain ⟨v, h4, r⟩ := R.val i d e
      exact ⟨v, h4, okT.d h' Ext.refl S r⟩
theorem gl_of {X : Cx} {x : Str} (c : Ctx G N sc W X) (h : glC sc x = true) : Gl X x := by
  unfold glC at h
  rw [Bool.and_eq_true, decide_eq_true_eq] at h
  unfold Gl Env.kindOf
  rw [c.sc]
  exact h.1
theorem gl_magic {x : Str} (h : glC sc x = true) : (x == ("__debug__" : Str)) = false ∧ (x == ("__classdict__" : Str)) = false ∧ x ≠ ("__name__" : Str) := by
  unfold glC at h
  rw [Bool.and_eq_true] at h
  exact magic_of (by simpa using h.2)
theorem snd_c {x : Ex} {d : D} {v : V} (hx : ∀ env M, ev G.C x env M = .ok (.d d) M) (r : ∀ H f, Rep G.K H f d v) : Snd G W x (tC v) := fun σ H Q f M env S R h => by
  rw [hx] at h
  exact okT.d h Ext.refl S (r H f)
theorem se_cst (ok : G.Ok) {x : Str} {d : D} {p : Pos} (hg : glC sc x = true) (hm : (G.T.cs.any fun q => decide (q.1 = x) && sameD q.2 d) = true) : SE G N sc (.cst x d) (.Name x p) := by
  rw [List.any_eq_true] at hm
  obtain ⟨⟨y, d'⟩, hq, hm⟩ := hm
  rw [Bool.and_eq_true, decide_eq_true_eq] at hm
  obtain ⟨rfl, hm⟩ := hm
  obtain rfl := sameD_is _ _ hm
  obtain ⟨v, u, h1, h2, h3⟩ := ok.cst _ _ hq
  exact fun W => ⟨tC v, fun X c => pe_glob (gl_of c hg) (by rw [c.mg]; exact h1) h2 (gl_magic hg).1, snd_c (fun _ _ => rfl) h3⟩
theorem se_lit {d : D} {c : Const} {j : Nat} {p : Pos} (h : litOk d c = true) : SE G N sc (.lit d) (.Constant c j p) := by
  intro W
  cases d with
  | non =>
    cases c with
    | none => exact ⟨tC .non, fun X _ => pe_non, snd_c (fun _ _ => rfl) fun _ _ => .non⟩
    | _ => exact absurd (show false = true from h) (by decide)
  | bl a =>
    cases c with
    | bool b =>
      obtain rfl : a = b := by simpa [litOk] using h
      exact ⟨tC (.bl a), fun X _ => pe_bl, snd_c (fun _ _ => rfl) fun _ _ => .bl a⟩
    | _ => exact absurd (show false = true from h) (by decide)
  | int a =>
    cases c with
    | int b =>
      obtain rfl : a = b := by simpa [litOk] using h
      exact ⟨tC (.int a), fun X _ => pe_int, snd_c (fun _ _ => rfl) fun _ _ => .int a⟩
    | _ => exact absurd (show false = true from h) (by decide)
  | str a =>
    cases c with
    | str b =>
      obtain rfl : a = b := by simpa [litOk] using h
      exact ⟨tC (.str a), fun X _ => pe_str, snd_c (fun _ _ => rfl) fun _ _ => .str a⟩
    | _ => exact absurd (show false = true from h) (by decide)
  | tup _ => cases c <;> exact absurd (show false = true from h) (by decide)
  | scr _ => cases c <;> exact absurd (show false = true from h) (by decide)
  | ref _ => cases c <;> exact absurd (show false = true from h) (by decide)
end
/-! ### operators -/
def bopS : Bop → Operator
  | .add => .Add | .sub => .Sub | .mul => .Mult | .fdiv => .FloorDiv | .mod => .Mod | .pow => .Pow
def rBin (K : PySem.W.Frag) : Bop → R2
  | .add => rAddA K
  | .sub => rI0 fun i j => .int (i - j)
  | .mul => rMulA K
  | .fdiv => rI (fun _ j => (decide (0 < j) && decide (j.natAbs < 2 ^ 2000)) = true) fun i j => .int (i / j)
  | .mod => rI (fun _ j => 0 < j) fun i j => .int (i % j)
  | .pow => rI (fun i j => (decide (0 ≤ j) && decide (j ≤ 1000) && decide (i.natAbs < 2 ^ 1000)) = true) fun i j => .int (i ^ j.toNat)
theorem op_bin {X : Cx} : ∀ o : Bop, OpR X (binaryOp (bopS o)) (rBin X.K o)
  | .add => op_addA
  | .sub => op_sub
  | .mul => op_mulA
  | .fdiv => op_fdivP
  | .mod => op_mod
  | .pow => op_powW
theorem bin_ok {K : PySem.W.Frag} {f f0 : List Addr} {H H0 : Hp} {M : MH} {Q : VK} {x y z : TV} {v u : V} (S : Sim K H f M) (X0 : Ext f0 f H0 H) (rx : TRep K H0 H f x v) (ry : TRep K H0 H f y u) :
    ∀ {o : Bop}, binop M o x y = some z → Done K H0 f H M z Q → rBin K o v u H Q
  | .add, h, q => add_ok S X0 rx ry h q
  | .mul, h, q => mul_ok S rx ry h q
  | .sub, h, q => by
    obtain ⟨i, j, h1, h2, _, h3⟩ := num_ok (C := fun _ _ => True) (k := fun i j => i - j) (fun i j n e => ⟨trivial, (Option.some.inj e).symm⟩) S rx ry h q
    exact ⟨i, j, h1, h2, h3⟩
  | .fdiv, h, q => num_ok (k := fun i j => i / j) (fun i j n e => ⟨(guard_some e).1, (guard_some e).2.symm⟩) S rx ry h q
  | .mod, h, q => num_ok (k := fun i j => i % j) (fun i j n e => ⟨of_decide_eq_true (guard_some e).1, (guard_some e).2.symm⟩) S rx ry h q
  | .pow, h, q => num_ok (k := fun i j => i ^ j.toNat) (fun i j n e => ⟨(guard_some e).1, (guard_some e).2.symm⟩) S rx ry h q
def noSet : Expr → Bool
  | .Set _ _ _ => false
  | _ => true
theorem noSet_marks {op : CmpOp} {e : Expr} (h : noSet e = true) : behindInMarks op e = false := by
  cases e <;> first | rfl | exact absurd (show false = true from h) (by decide)
theorem noSet_fold {e : Expr} {env : Env} {x : Value} (h : noSet e = true) : foldedSetIterable e env x = pure x := by
  cases e <;> first | rfl | exact absurd (show false = true from h) (by decide)
section
variable {G : Gd} {N : List Str} {sc : Scope} {W : WX} {a b c : Ex} {ea eb ec : Expr} {p : Pos}
theorem snd_two {x : Ex} {α : Type} {r : R2} {ta tb : TE} {g : TV → TV → MH → Res TV} (hx : ∀ env M, ev G.C x env M = (ev G.C a env M).bnd fun u M => (ev G.C b env M).bnd fun v M => g u v M) (ha : Snd G W a ta) (hb : Snd G W b tb)
    (hr : ∀ {f f0 H H0 M Q u v vu vv σ}, Sim G.K H f M → Ext f0 f H0 H → TRep G.K H0 H f u vu → TRep G.K H0 H f v vv → sat (g u v M) (fun z M' => M' = M ∧ Done G.K H0 f H M z Q) (oX G W σ f H) → r vu vv H Q)
    (hg : ∀ u v M z M', g u v M = .ok z M' → M' = M) : Snd G W x (tOp r ta tb) := fun σ H Q f M env S R h => by
  rw [hx] at h
  refine ha.bind S R h (fun _ _ _ z => z) fun u M1 vu H1 f1 X1 S1 R1 r1 h1 => ?_
  refine hb.bind S1 R1 h1 (fun _ _ _ z => oX.back X1 z) fun v M2 vv H2 f2 X2 S2 R2 r2 h2 => ?_
  refine hr S2 (X1.trans X2) (r1.ext X2) (r2.back X1 X2) ?_ (σ := σ)
  revert h2
  cases e : g u v M2 with
  | ok z M' =>
    intro h2
    obtain rfl := hg _ _ _ _ _ e
    exact ⟨rfl, okT.fin (X1.trans X2) h2⟩
  | exc c d M' => exact fun h2 => oX.back (X1.trans X2) h2
  | bad => exact fun h2 => h2
theorem opt_ok {α : Type} {o : Option α} {M M' : MH} {z : α} (h : opt o M = .ok z M') : o = some z ∧ M' = M := by
  cases o with
  | none => cases h
  | some y => cases h; exact ⟨rfl, rfl⟩
theorem se_bin {o : Bop} (ha : SE G N sc a ea) (hb : SE G N sc b eb) : SE G N sc (.bin o a b) (.BinOp ea (bopS o) eb p) := fun W => by
  obtain ⟨ta, pa, sa⟩ := ha W
  obtain ⟨tb, pb, sb⟩ := hb W
  refine ⟨tOp (rBin G.K o) ta tb, fun X c => pe_op (by rw [← c.K]; exact op_bin o) (pa X c) (pb X c), ?_⟩
  refine snd_two (α := Nat) (g := fun u v M => opt (binop M o u v) M) (fun _ _ => rfl) sa sb ?_ fun u v M z M' h => (opt_ok h).2
  intro f f0 H H0 M Q u v vu vv σ S X0 ru rv h
  obtain ⟨z, hz, _, q⟩ := sat_opt h
  exact bin_ok S X0 ru rv hz q
theorem se_cmp {o : Cop} (ha : SE G N sc a ea) (hb : SE G N sc b eb) (hn : noSet eb = true) : SE G N sc (.cmp o a b) (.Compare ea [cop o] [eb] p) := fun W => by
  obtain ⟨ta, pa, sa⟩ := ha W
  obtain ⟨tb, pb, sb⟩ := hb W
  refine ⟨tOp (rCmp G.K o) ta tb, fun X c => pe_cmpR (by rw [← c.K]; exact op_cmp c.rm o) (pa X c) (pb X c) (noSet_marks hn), ?_⟩
  refine snd_two (α := Nat) (g := fun u v M => (opt (cmpop M o u v) M).bnd fun b M => .ok (.d (.bl b)) M) (fun _ _ => rfl) sa sb ?_ fun u v M z M' h => ?_
  · intro f f0 H H0 M Q u v vu vv σ S X0 ru rv h
    obtain ⟨z, hz, _, q⟩ := sat_opt (sat_bnd.mp h)
    exact cmp_ok S ru rv hz (done_val S q (.bl z))
  · cases e : cmpop M o u v with
    | none => rw [e] at h; cases h
    | some k => rw [e] at h; cases h; rfl
theorem se_ix (ha : SE G N sc a ea) (hb : SE G N sc b eb) (hs : PlainIx eb) : SE G N sc (.ix a b) (.Subscript ea eb p) := fun W => by
  obtain ⟨ta, pa, sa⟩ := ha W
  obtain ⟨tb, pb, sb⟩ := hb W
  refine ⟨tOp (rIx G.K) ta tb, fun X c => pe_ix (by rw [← c.K]; exact ix_seq) (pa X c) (pb X c) hs, ?_⟩
  refine snd_two (α := Nat) (g := fun u v M => opt (ixop M u v) M) (fun _ _ => rfl) sa sb ?_ fun u v M z M' h => (opt_ok h).2
  intro f f0 H H0 M Q u v vu vv σ S X0 ru rv h
  obtain ⟨z, hz, _, q⟩ := sat_opt h
  exact ix_ok S ru rv hz q
theorem se_neg (ha : SE G N sc a ea) : SE G N sc (.neg a) (.UnaryOp .USub ea p) := fun W => by
  obtain ⟨ta, pa, sa⟩ := ha W
  refine ⟨tUn (rU fun i => .int (-i)) ta, fun X c => pe_un un_neg (pa X c), fun σ H Q f M env S R h => ?_⟩
  refine sa.bind S R h (fun _ _ _ z => z) fun u M1 vu H1 f1 X1 S1 R1 r1 h1 => ?_
  cases u with
  | lst _ => exact h1.elim
  | d d =>
    cases r1 with
    | int i => exact ⟨i, rfl, okT.d h1 X1 S1 (.int _)⟩
    | _ => exact h1.elim
theorem se_rev {k : Nat} {p1 p2 p3 : Pos} (ha : SE G N sc a ea) : SE G N sc (.rev a) (.Subscript ea (.Slice none none (some (.UnaryOp .USub (.Constant (.int 1) k p1) p2)) p3) p) := fun W => by
  obtain ⟨ta, pa, sa⟩ := ha W
  refine ⟨(fun σ H Q => ta σ H fun x H1 => ∃ a xs, x = .ref a ∧ ((SqL G.K H1 a xs ∧ ∀ p, H1 p = none → Q (.ref p) (upd H1 p (.lst xs.reverse))) ∨ (SqT G.K H1 a xs ∧ NewTup xs.reverse H1 Q))),
    fun X c => by rw [← c.K]; exact pe_revP (pa X c), fun σ H Q f M env S R h => ?_⟩
  refine sa.bind S R h (fun _ _ _ z => z) fun u M1 vu H1 f1 X1 S1 R1 r1 h1 => ?_
  obtain ⟨z, hz, q⟩ := sat_opt h1
  exact rev_ok S1 X1 r1 hz (okT.fin X1 q)
/-- a bound of a slice -/
def SO (G : Gd) (N : List Str) (sc : Scope) (x : Ox) (e : Option Expr) : Prop := ∀ W : WX, ∃ t : TO, (∀ X, Ctx G N sc W X → PO X e t) ∧
  ∀ (σ : L2.St) (H : Hp) (Q : Option Int → Hp → Prop) (f : List Addr) (M : MH) (env : Sg), Sim G.K H f M → EnvR G.K H f env σ →
    sat (evO G.C x env M) (fun o M' => ∀ H' f', Ext f f' H H' → Sim G.K H' f' M' → Q o H') (oX G W σ f H) → t σ H Q
theorem so_non : SO G N sc .non none := fun W => ⟨tNoPart, fun X _ => po_none, fun σ H Q f M env S R h => h H f Ext.refl S⟩
theorem so_som (ha : SE G N sc a ea) : SO G N sc (.som a) (some ea) := fun W => by
  obtain ⟨ta, pa, sa⟩ := ha W
  refine ⟨tPart ta, fun X c => po_some (pa X c), fun σ H Q f M env S R h => ?_⟩
  refine sa.bind S R h (fun _ _ _ z => z) fun u M1 vu H1 f1 X1 S1 R1 r1 h1 => ?_
  cases u with
  | lst _ => exact h1.elim
  | d d =>
    cases r1 with
    | int i => exact ⟨i, rfl, h1 H1 f1 X1 S1⟩
    | _ => exact h1.elim
theorem se_slc {lo hi : Ox} {lo' hi' : Option Expr} {p2 : Pos} (ha : SE G N sc a ea) (hl : SO G N sc lo lo') (hh : SO G N sc hi hi') : SE G N sc (.slc a lo hi) (.Subscript ea (.Slice lo' hi' none p2) p) := fun W => by
  obtain ⟨ta, pa, sa⟩ := ha W
  obtain ⟨tl, pl, sl⟩ := hl W
  obtain ⟨th, ph, sh⟩ := hh W
  refine ⟨tSl (rSlA' G.K) ta tl th, fun X c => pe_slice (by rw [← c.K]; exact sl_all) (pa X c) (pl X c) (ph X c), fun σ H Q f M env S R h => ?_⟩
  refine sa.bind S R h (fun _ _ _ z => z) fun u M1 vu H1 f1 X1 S1 R1 r1 h1 => ?_
  refine sl σ H1 _ f1 M1 env S1 R1 (sat_mono (sat_bnd.mp h1) (fun l M2 h2 H2 f2 X2 S2 => ?_) fun _ _ _ z => oX.back X1 z)
  refine sh σ H2 _ f2 M2 env S2 (R1.ext X2) (sat_mono (sat_bnd.mp h2) (fun u M3 h3 H3 f3 X3 S3 => ?_) fun _ _ _ z => oX.back (X1.trans X2) z)
  obtain ⟨z, hz, q⟩ := sat_opt h3
  exact sl_ok S3 (X1.trans (X2.trans X3)) ((r1.ext X2).ext X3) hz (okT.fin (X1.trans (X2.trans X3)) q)
end
end Ev

set_option maxRecDepth 100000
set_option maxHeartbeats 2000000
namespace Ev
open PySem PySem.Spec PyProof.Rows L2
/-! ### several terms -/
def noStar : Expr → Bool
  | .Starred _ _ => false
  | _ => true
theorem star_cons {e : Expr} {es : List Expr} {env : Env} (h : noStar e = true) : starEach (e :: es) env = (false, eval e env) :: starEach es env := by
  cases e <;> first | rfl | exact absurd (show false = true from h) (by decide)
def Exs.len : Exs → Nat
  | .nil => 0
  | .cons _ es => es.len + 1
inductive SEs (G : Gd) (N : List Str) (sc : Scope) : Exs → List Expr → Prop where
  | nil : SEs G N sc .nil []
  | cons {x : Ex} {e : Expr} {xs : Exs} {es : List Expr} : SE G N sc x e → noStar e = true → SEs G N sc xs es → SEs G N sc (.cons x xs) (e :: es)
section
variable {G : Gd} {N : List Str} {sc : Scope} {W : WX} {xs : Exs} {es : List Expr} {p : Pos}
theorem SEs.len (h : SEs G N sc xs es) : xs.len = es.length := by
  induction h with
  | nil => rfl
  | cons _ _ _ ih => exact congrArg (· + 1) ih
theorem SEs.star (h : SEs G N sc xs es) (env : Env) : (starEach es env).any (·.1) = false := by
  induction h with
  | nil => rfl
  | cons _ hs _ ih =>
    rw [star_cons hs, List.any_cons, ih]
    rfl
theorem back_plain {l : List (Bool × Sem Value)} (pos : Pos) (h : l.any (·.1) = false) : (backTo pos l).any (·.1) = false := by
  induction l with
  | nil => rfl
  | cons q l ih =>
    rw [List.any_cons, Bool.or_eq_false_iff] at h
    show (q.1 || (backTo pos l).any (·.1)) = false
    rw [h.1, ih h.2]
    rfl
/-- a value that is handed on: a fresh list gets its number -/
theorem mat_ok {K : PySem.W.Frag} {H H1 : Hp} {f f1 : List Addr} {M1 : MH} {tv : TV} {v : V} (X1 : Ext f f1 H H1) (S1 : Sim K H1 f1 M1) (r1 : TRep K H H1 f1 tv v) : ∃ f2, Ext f f2 H H1 ∧ Sim K H1 f2 (mat tv M1).2 ∧ Rep K H1 f2 (mat tv M1).1 v := by
  cases tv with
  | d d => exact ⟨f1, X1, S1, r1⟩
  | lst ds =>
    obtain ⟨a, vs, rfl, h2, h3, h4, r2⟩ := r1
    refine ⟨f1 ++ [a], ⟨X1.pre.trans (List.prefix_append _ _), X1.keep, fun b hb => ?_, X1.frz⟩, S1.mat h2 h3 r2, .ref ?_⟩
    · rcases List.mem_append.mp hb with hb | hb
      · exact X1.new b hb
      · rw [List.mem_singleton.mp hb]
        exact .inr h4
    · rw [← S1.len]
      simp
theorem Snd.bindM {α : Type} {x : Ex} {t : TE} {σ : L2.St} {H : Hp} {Q : VK} {f : List Addr} {M : MH} {env : Sg} {k : D → MH → Res α} {P : α → MH → Prop} {E : Nat → D → MH → Prop} (hx : Snd G W x t) (S : Sim G.K H f M) (R : EnvR G.K H f env σ) (h : sat ((matR (ev G.C x env M)).bnd k) P E) (hE : ∀ c d M, E c d M → oX G W σ f H c d M)
    (next : ∀ d M1 v H1 f1, Ext f f1 H H1 → Sim G.K H1 f1 M1 → EnvR G.K H1 f1 env σ → Rep G.K H1 f1 d v → sat (k d M1) P E → Q v H1) : t σ H Q := by
  refine hx σ H Q f M env S R (sat_mono (sat_bnd.mp (sat_bnd.mp h)) (fun tv M1 h1 v H1 f1 X1 S1 r1 => ?_) hE)
  obtain ⟨f2, X2, S2, r2⟩ := mat_ok X1 S1 r1
  exact next _ _ v H1 f2 X2 S2 (R.ext X2) r2 h1
/-- values that are handed on -/
theorem SEs.pa (h : SEs G N sc xs es) (W : WX) : ∃ t : TA, (∀ X, Ctx G N sc W X → PA X es t) ∧ ∀ (σ : L2.St) (H : Hp) (Q : List V → Hp → Prop) (f : List Addr) (M : MH) (env : Sg), Sim G.K H f M → EnvR G.K H f env σ →
    sat (evs G.C xs env M) (fun ds M' => ds.length = xs.len → okL G.K f H Q ds M') (oX G W σ f H) → t σ H Q := by
  induction h with
  | nil => exact ⟨tNil, fun X _ => pa_nil, fun σ H Q f M env S R h => h rfl [] H f Ext.refl S .nil⟩
  | @cons x e xs es hx hs hr ih =>
    obtain ⟨ta, pa, sa⟩ := hx W
    obtain ⟨tr, pr, sr⟩ := ih
    refine ⟨tCons ta tr, fun X c => pa_cons (pa X c) (pr X c) (star_cons hs), fun σ H Q f M env S R h => ?_⟩
    refine sa.bindM S R h (fun _ _ _ z => z) fun d M2 v H1 f2 X2 S2 R2 r2 h2 => ?_
    refine sr σ H1 _ f2 M2 env S2 R2 (sat_mono (sat_bnd.mp h2) (fun ds M3 h3 hl vs H3 f3 X3 S3 r3 => ?_) fun _ _ _ z => oX.back X2 z)
    exact h3 (congrArg (· + 1) hl) (v :: vs) H3 f3 (X2.trans X3) S3 (.cons (r2.ext X3) r3)
/-- values that are looked at -/
theorem SEs.paT (h : SEs G N sc xs es) (W : WX) : ∃ t : TA, (∀ X, Ctx G N sc W X → PA X es t) ∧ ∀ (σ : L2.St) (H : Hp) (Q : List V → Hp → Prop) (f : List Addr) (M : MH) (env : Sg), Sim G.K H f M → EnvR G.K H f env σ →
    sat (evT G.C xs env M) (fun tvs M' => ∀ vs H' f', Ext f f' H H' → Sim G.K H' f' M' → TReps G.K H H' f' tvs vs → Q vs H') (oX G W σ f H) → t σ H Q := by
  induction h with
  | nil => exact ⟨tNil, fun X _ => pa_nil, fun σ H Q f M env S R h => h [] H f Ext.refl S .nil⟩
  | @cons x e xs es hx hs hr ih =>
    obtain ⟨ta, pa, sa⟩ := hx W
    obtain ⟨tr, pr, sr⟩ := ih
    refine ⟨tCons ta tr, fun X c => pa_cons (pa X c) (pr X c) (star_cons hs), fun σ H Q f M env S R h => ?_⟩
    refine sa.bind S R h (fun _ _ _ z => z) fun tv M1 v H1 f1 X1 S1 R1 r1 h1 => ?_
    refine sr σ H1 _ f1 M1 env S1 R1 (sat_mono (sat_bnd.mp h1) (fun tvs M2 h2 vs H2 f2 X2 S2 r2 => ?_) fun _ _ _ z => oX.back X1 z)
    refine h2 (v :: vs) H2 f2 (X1.trans X2) S2 (.cons (r1.ext X2) ?_)
    have bk : ∀ {tvs : List TV} {vs : List V}, TReps G.K H1 H2 f2 tvs vs → TReps G.K H H2 f2 tvs vs := fun {tvs vs} r => by
      induction r with
      | nil => exact .nil
      | cons r _ ih => exact .cons (r.back X1 X2) ih
    exact bk r2
theorem se_tup (h : SEs G N sc xs es) (hz : decide (es.length ≤ 1000) = true) {kk : Nat} : SE G N sc (.tup xs) (.Tuple es kk p) := fun W => by
  obtain ⟨t, pa, st⟩ := h.pa W
  refine ⟨_, fun X c => pe_tupF (pa X c), fun σ H Q f M env S R hs => ?_⟩
  refine st σ H _ f M env S R (sat_mono (sat_bnd.mp hs) (fun ds M1 h1 hl vs H1 f1 X1 S1 r1 => ?_) fun _ _ _ z => z)
  refine ⟨?_, done_tup S1 (okT.fin X1 h1) r1⟩
  rw [← r1.length, hl, h.len]
  have e : sizeLine = 16777216 := sizeLine_eq
  have := of_decide_eq_true hz
  omega
theorem se_lst (h : SEs G N sc xs es) (hz : decide (es.length ≤ 1000) = true) : SE G N sc (.lst xs) (.List es p) := fun W => by
  obtain ⟨t, pa, st⟩ := h.pa W
  refine ⟨_, fun X c => pe_lst (pa X c), fun σ H Q f M env S R hs => ?_⟩
  refine st σ H _ f M env S R (sat_mono (sat_bnd.mp hs) (fun ds M1 h1 hl vs H1 f1 X1 S1 r1 => ?_) fun _ _ _ z => z)
  refine ⟨?_, done_lst S1 X1 (okT.fin X1 h1) r1⟩
  rw [← r1.length, hl, h.len]
  have e : sizeLine = 16777216 := sizeLine_eq
  have := of_decide_eq_true hz
  omega
/-! ### calls -/
theorem repL_pick {K : PySem.W.Frag} {H : Hp} {f : List Addr} {ds : List D} {vs : List V} (r : RepL K H f ds vs) : ∀ o : List Nat, RepL K H f (o.filterMap fun i => ds[i]?) (o.filterMap fun i => vs[i]?)
  | [] => .nil
  | i :: o => by
    rw [List.filterMap_cons, List.filterMap_cons]
    cases e : ds[i]? with
    | none =>
      have e2 : vs[i]? = none := by
        rw [List.getElem?_eq_none_iff] at e ⊢
        rw [← r.length]
        exact e
      rw [e2]
      exact repL_pick r o
    | some d =>
      obtain ⟨v, hv, rv⟩ := r.get e
      rw [hv]
      exact .cons rv (repL_pick r o)
theorem range_pick {α : Type} (l : List α) : (List.range l.length).filterMap (fun i => l[i]?) = l := by
  have h : ∀ (n : Nat) (l : List α), l.length = n → (List.range n).filterMap (fun i => l[i]?) = l := by
    intro n
    induction n with
    | zero => intro l hl; rw [List.length_eq_zero_iff.mp hl]; rfl
    | succ n ih =>
      intro l hl
      rw [List.range_succ_eq_map, List.filterMap_cons, List.filterMap_map]
      cases l with
      | nil => cases hl
      | cons a l =>
        have hl' : l.length = n := by simpa using hl
        have e : ((fun i => (a :: l)[i]?) ∘ Nat.succ) = fun i => l[i]? := by
          funext i
          simp
        rw [e, ih l hl']
        rfl
  exact h _ l rfl
theorem run_len {fs : Nat → Option Fn} {n i : Nat} {fn : Fn} {ds : List D} {M : MH} {P : D → MH → Prop} {E : Nat → D → MH → Prop} (hf : fs i = some fn) (h : sat (run fs n i ds M) P E) : ds.length = fn.ps.length := by
  cases n with
  | zero => exact h.elim
  | succ n =>
    have h' : sat (match fs i with
      | some fn => if ds.length = fn.ps.length then
          (exs (run fs n) fn.body (ds.map some ++ List.replicate (fn.ns.length - ds.length) none) M).bnd fun r M => match r with
            | .rt d => .ok d M
            | .nx _ => .ok .non M
            | _ => .bad
        else .bad
      | none => .bad) P E := h
    rw [hf] at h'
    by_cases e : ds.length = fn.ps.length
    · exact e
    · have h2 : sat (if ds.length = fn.ps.length then
          (exs (run fs n) fn.body (ds.map some ++ List.replicate (fn.ns.length - ds.length) none) M).bnd fun r M => match r with
            | .rt d => Res.ok d M
            | .nx _ => .ok .non M
            | _ => .bad
        else .bad) P E := h'
      rw [if_neg e] at h2
      exact h2.elim
theorem se_call (ok : G.Ok) {i : Nat} {fn : Fn} {ks : List Nat} {y : Str} {q : Pos} (hf : G.T.at i = some fn) (hy : fn.name = y) (hg : glC sc y = true) (h : SEs G N sc xs es) (hne : xs.len ≠ 0) (hk : ks = List.range xs.len) :
    SE G N sc (.call i xs ks) (.Call (.Name y q) es [] p) := fun W => by
  subst hk
  obtain ⟨a, fd, h1, h2, F, hb, _⟩ := ok.fn i fn hf
  obtain ⟨t, pa, st⟩ := h.pa W
  cases h with
  | nil => exact absurd rfl hne
  | @cons x e xs es hx hs hr =>
    refine ⟨fun σ H Q => t σ H fun vs H1 => vs.length = fn.ps.length ∧ spF G G.n i vs H1 Q fun c d H' => W c d σ H', fun X c => ?_, fun σ H Q f M env S R hsat => ?_⟩
    · have F' : FnG X.prog X.w X.K X.mg X.base G.k a fd fn.ps (spF G G.n i) := by rw [c.p, c.w, c.K, c.mg, c.b]; exact F
      exact pe_callG F' c.rm c.gs c.tk (gl_of c hg) (by rw [c.mg, ← hy]; exact h1) (by rw [c.K]; exact h2) hb (pa X c) (gl_magic hg).1 (star_cons hs) (back_plain p (hr.star _))
    · refine st σ H _ f M env S R (sat_mono (sat_bnd.mp hsat) (fun ds M1 h1 hl vs H1 f1 X1 S1 r1 => ?_) fun _ _ _ z => z)
      have e : ((List.range (Exs.cons x xs).len).filterMap fun k => ds[k]?) = ds := by rw [← hl]; exact range_pick ds
      have h1' : sat (run G.T.at G.n i ds M1) (fun d M' => okT G.K f H Q (.d d) M') (oX G W σ f H) := by
        have h2 := sat_bnd.mp h1
        rw [e] at h2
        exact h2
      refine ⟨by rw [← r1.length]; exact run_len hf h1', f1, M1, ds, S1, r1, sat_mono h1' (fun d M2 h2 v H2 f2 X2 S2 r2 => okT.d h2 (X1.trans X2) S2 r2) fun _ _ _ z => oX.back X1 z⟩
/-- all by name -/
def kwN : List Keyword → Option (List Str)
  | [] => some []
  | ⟨some x, _, _⟩ :: r => (kwN r).map (x :: ·)
  | ⟨none, _, _⟩ :: _ => none
theorem SEs.pk (h : SEs G N sc xs es) (W : WX) : ∃ t : TA, (∀ X (kws : List Keyword), Ctx G N sc W X → kws.map (·.value) = es → PK X kws t) ∧ ∀ (σ : L2.St) (H : Hp) (Q : List V → Hp → Prop) (f : List Addr) (M : MH) (env : Sg), Sim G.K H f M → EnvR G.K H f env σ →
    sat (evs G.C xs env M) (fun ds M' => ds.length = xs.len → okL G.K f H Q ds M') (oX G W σ f H) → t σ H Q := by
  induction h with
  | nil => exact ⟨tNil, fun X kws _ e => by rw [List.map_eq_nil_iff.mp e]; exact pk_nil, fun σ H Q f M env S R h => h rfl [] H f Ext.refl S .nil⟩
  | @cons x e xs es hx hs hr ih =>
    obtain ⟨ta, pa, sa⟩ := hx W
    obtain ⟨tr, pr, sr⟩ := ih
    refine ⟨tCons ta tr, fun X kws c e => ?_, fun σ H Q f M env S R h => ?_⟩
    · cases kws with
      | nil => cases e
      | cons kw kws =>
        obtain ⟨nm, v, kp⟩ := kw
        rw [List.map_cons] at e
        injection e with e1 e2
        subst e1
        exact pk_cons (pa X c) (pr X kws c e2)
    refine sa.bindM S R h (fun _ _ _ z => z) fun d M2 v H1 f2 X2 S2 R2 r2 h2 => ?_
    refine sr σ H1 _ f2 M2 env S2 R2 (sat_mono (sat_bnd.mp h2) (fun ds M3 h3 hl vs H3 f3 X3 S3 r3 => ?_) fun _ _ _ z => oX.back X2 z)
    exact h3 (congrArg (· + 1) hl) (v :: vs) H3 f3 (X2.trans X3) S3 (.cons (r2.ext X3) r3)
theorem kw_back {kws : List Keyword} {ks : List Str} {env : Env} (pos : Pos) (h : kwN kws = some ks) : (backToKw pos (keywordEach kws env)).filterMap (·.1) = ks ∧ (backToKw pos (keywordEach kws env)).all (·.1.isSome) = true ∧ (backToKw pos (keywordEach kws env)).any (·.1.isNone) = false := by
  induction kws generalizing ks with
  | nil =>
    have e : ([] : List Str) = ks := Option.some.inj h
    subst e
    exact ⟨rfl, rfl, rfl⟩
  | cons kw kws ih =>
    obtain ⟨nm, v, kp⟩ := kw
    cases nm with
    | none => cases h
    | some x =>
      obtain ⟨r, hr, e⟩ := Option.map_eq_some_iff.mp (show (kwN kws).map (x :: ·) = some ks from h)
      subst e
      obtain ⟨h1, h2, h3⟩ := ih hr
      refine ⟨?_, ?_, ?_⟩
      · show x :: (backToKw pos (keywordEach kws env)).filterMap (·.1) = _
        rw [h1]
      · show (true && (backToKw pos (keywordEach kws env)).all (·.1.isSome)) = true
        rw [h2]
        rfl
      · show (false || (backToKw pos (keywordEach kws env)).any (·.1.isNone)) = false
        rw [h3]
        rfl
theorem se_callK (ok : G.Ok) {i : Nat} {fn : Fn} {ks : List Nat} {nms : List Str} {y : Str} {q : Pos} {kws : List Keyword} (hf : G.T.at i = some fn) (hy : fn.name = y) (hg : glC sc y = true) (h : SEs G N sc xs (kws.map (·.value))) (hn : kwN kws = some nms) (hk : (i, nms, ks) ∈ G.T.kc) :
    SE G N sc (.call i xs ks) (.Call (.Name y q) [] kws p) := fun W => by
  obtain ⟨a, fd, h1, h2, F, _, hb⟩ := ok.fn i fn hf
  obtain ⟨t, pa, st⟩ := h.pk W
  have hl0 : xs.len = nms.length := by
    rw [h.len, List.length_map]
    have : ∀ (kws : List Keyword) (nms : List Str), kwN kws = some nms → kws.length = nms.length := by
      intro kws
      induction kws with
      | nil => intro nms e; cases e; rfl
      | cons kw kws ih =>
        intro nms e
        obtain ⟨nm, v, kp⟩ := kw
        cases nm with
        | none => cases e
        | some x =>
          obtain ⟨r, hr, e⟩ := Option.map_eq_some_iff.mp (show (kwN kws).map (x :: ·) = some nms from e)
          subst e
          rw [List.length_cons, List.length_cons, ih r hr]
    exact this kws nms hn
  refine ⟨fun σ H Q => t σ H fun vs H1 => vs.length = nms.length ∧ (ks.filterMap fun i => vs[i]?).length = fn.ps.length ∧ spF G G.n i (ks.filterMap fun i => vs[i]?) H1 Q fun c d H' => W c d σ H', fun X c => ?_, fun σ H Q f M env S R hsat => ?_⟩
  · have F' : FnG X.prog X.w X.K X.mg X.base G.k a fd fn.ps (spF G G.n i) := by rw [c.p, c.w, c.K, c.mg, c.b]; exact F
    obtain ⟨k1, k2, k3⟩ := kw_back (env := X.env) p hn
    exact pe_callGK F' c.rm c.gs c.tk (gl_of c hg) (by rw [c.mg, ← hy]; exact h1) (by rw [c.K]; exact h2) (hb nms ks hk) k1 k2 k3 (pa X kws c rfl) (gl_magic hg).1
  · refine st σ H _ f M env S R (sat_mono (sat_bnd.mp hsat) (fun ds M1 h1 hl vs H1 f1 X1 S1 r1 => ?_) fun _ _ _ z => z)
    have h1' : sat (run G.T.at G.n i (ks.filterMap fun k => ds[k]?) M1) (fun d M' => okT G.K f H Q (.d d) M') (oX G W σ f H) := sat_bnd.mp h1
    have r2 := repL_pick r1 ks
    refine ⟨by rw [← r1.length, hl, hl0], by rw [← r2.length]; exact run_len hf h1', f1, M1, _, S1, r2, sat_mono h1' (fun d M2 h2 v H2 f2 X2 S2 r2 => okT.d h2 (X1.trans X2) S2 r2) fun _ _ _ z => oX.back X1 z⟩
end
end Ev

set_option maxRecDepth 100000
set_option maxHeartbeats 2000000
namespace Ev
open PySem PySem.Spec PyProof.Rows L2
/-! ### built-ins by name -/
theorem bf_bn (g : Bfn) : bfN g ∈ bNames := by cases g <;> decide +kernel
section
variable {G : Gd} {N : List Str} {sc : Scope} {W : WX} {xs : Exs} {es : List Expr} {p q : Pos} {x a b c : Ex} {e ea eb ec : Expr}
theorem pe_bf (ok : G.Ok) {X : Cx} (cx : Ctx G N sc W X) (g : Bfn) {t : TA} (hg : glC sc (bfN g) = true) (ha : PA X (e :: es) t) (he : starEach (e :: es) X.env = (false, eval e X.env) :: starEach es X.env) (hpl : (backTo p (starEach es X.env)).any (·.1) = false) :
    PE X (.Call (.Name (bfN g) q) (e :: es) [] p) (tCB (rBf X.K g) t) := by
  have hm : X.mg (bfN g) = none := by rw [cx.mg]; exact ok.blt _ (bf_bn g)
  have hr := call_bf cx.rm cx.gs cx.calm g
  have gl := gl_of cx hg
  have mgc := gl_magic hg
  cases g with
  | len => exact pe_callB hr gl hm (by decide +kernel) ha mgc.2.2 mgc.1 he hpl
  | int => exact pe_callTy hr gl hm (by decide +kernel) ha mgc.2.2 mgc.1 he hpl
  | str => exact pe_callTy hr gl hm (by decide +kernel) ha mgc.2.2 mgc.1 he hpl
  | tuple => exact pe_callTy hr gl hm (by decide +kernel) ha mgc.2.2 mgc.1 he hpl
  | list => exact pe_callTy hr gl hm (by decide +kernel) ha mgc.2.2 mgc.1 he hpl
  | all => exact pe_callB hr gl hm (by decide +kernel) ha mgc.2.2 mgc.1 he hpl
  | any => exact pe_callB hr gl hm (by decide +kernel) ha mgc.2.2 mgc.1 he hpl
  | max1 => exact pe_callB hr gl hm (by decide +kernel) ha mgc.2.2 mgc.1 he hpl
  | min1 => exact pe_callB hr gl hm (by decide +kernel) ha mgc.2.2 mgc.1 he hpl
  | max2 => exact pe_callB hr gl hm (by decide +kernel) ha mgc.2.2 mgc.1 he hpl
  | min2 => exact pe_callB hr gl hm (by decide +kernel) ha mgc.2.2 mgc.1 he hpl
  | sum => exact pe_callB hr gl hm (by decide +kernel) ha mgc.2.2 mgc.1 he hpl
  | abs => exact pe_callB hr gl hm (by decide +kernel) ha mgc.2.2 mgc.1 he hpl
  | repr => exact pe_callB hr gl hm (by decide +kernel) ha mgc.2.2 mgc.1 he hpl
theorem se_bf (ok : G.Ok) {g : Bfn} {y : Str} (hy : bfN g = y) (hg : glC sc y = true) (h : SEs G N sc xs es) (hne : xs.len ≠ 0) : SE G N sc (.bf g xs) (.Call (.Name y q) es [] p) := fun W => by
  subst hy
  obtain ⟨t, pa, st⟩ := h.paT W
  cases h with
  | nil => exact absurd rfl hne
  | @cons x e xs es hx hs hr =>
    refine ⟨tCB (rBf G.K g) t, fun X cx => ?_, fun σ H Q f M env S R hsat => ?_⟩
    · rw [← cx.K]
      exact pe_bf ok cx g hg (pa X cx) (star_cons hs) (back_plain p (hr.star _))
    · refine st σ H _ f M env S R (sat_mono (sat_bnd.mp hsat) (fun tvs M1 h1 vs H1 f1 X1 S1 r1 => ?_) fun _ _ _ z => z)
      obtain ⟨z, hz, h2⟩ := sat_opt h1
      exact bf_ok S1 X1 r1 hz (okT.fin X1 h2)
/-! ### methods -/
def plainBase : Expr → Bool
  | .Call _ [] [] _ => false
  | _ => true
theorem base_of {o : Expr} {n : Str} {env : Env} {w : Sem Value} (h : plainBase o = true) : attributeBase o n env w = w := by
  cases o with
  | Call g as ks pos =>
    cases as with
    | nil =>
      cases ks with
      | nil => exact absurd (show false = true from h) (by decide)
      | cons _ _ => cases g <;> rfl
    | cons _ _ => cases g <;> rfl
  | _ => rfl
theorem star_one {e : Expr} {env : Env} (h : noStar e = true) : starEach [e] env = [(false, eval e env)] := star_cons h
theorem ite_sat {α : Type} {c : Bool} {r : Res α} {P : α → MH → Prop} {E : Nat → D → MH → Prop} (h : sat (if c = true then r else .bad) P E) : c = true ∧ sat r P E := by
  cases c with
  | true => exact ⟨rfl, h⟩
  | false => exact h.elim
theorem se_append {ap : Pos} (ha : SE G N sc a ea) (hb : SE G N sc b eb) (hs : noStar eb = true) (hp : plainBase ea = true) (hl : (ap.endLine == p.line) = true) : SE G N sc (.mt .append a (.cons b .nil)) (.Call (.Attribute ea "append" ap) [eb] [] p) := fun W => by
  obtain ⟨ta, pa, sa⟩ := ha W
  obtain ⟨tb, pb, sb⟩ := (SEs.cons hb hs .nil).pa W
  refine ⟨tBM G.K "list" rAppend ta tb, fun X cx => ?_, fun σ H Q f M env S R h => ?_⟩
  · rw [← cx.K]
    exact pe_bm PySem.F.plainAttrs_list PySem.F.slot_list_append PySem.F.type_list_append mt_append (pa X cx) (pb X cx) (base_of hp) (by rw [star_one hs]; rfl) hl (star_cons hs) rfl
  · refine sa.bind S R h (fun _ _ _ z => z) fun u M1 vu H1 f1 X1 S1 R1 r1 h1 => ?_
    obtain ⟨hc, h1⟩ := ite_sat h1
    have h2 : sat (evs G.C (.cons b .nil) env M1) (fun ds M2 => sat (match mtop M2 .append u ds with
        | some (r, M) => Res.ok r M
        | none => .bad) (okT G.K f H Q) (oX G W σ f H)) (oX G W σ f H) := sat_bnd.mp h1
    cases u with
    | lst ls => cases hc
    | d d =>
      cases r1 with
      | @ref n l hn =>
        obtain ⟨o, ho⟩ := S1.addr hn
        obtain ⟨us, e1, rs⟩ := (S1.at ho hn).sq
        refine ⟨.inl ⟨rfl, us, SqL.of e1⟩, sb σ H1 _ f1 M1 env S1 R1 (sat_mono h2 (fun ds M2 h3 hlen vs H2 f2 X2 S2 r2 => ?_) fun _ _ _ z => oX.back X1 z)⟩
        cases r2 with
        | nil => cases hlen
        | @cons d v ds vs rd rs2 =>
          cases rs2 with
          | cons _ _ => cases hlen
          | nil =>
            have h4 : sat (match (match M2[n]? with
              | some (.lst ds) => guard' (decide (ds.length < sizeLine)) (TV.d .non, M2.set n (.lst (ds ++ [d])))
              | _ => none) with
              | some (r, M) => Res.ok r M
              | none => .bad) (okT G.K f H Q) (oX G W σ f H) := h3
            cases e3 : M2[n]? with
            | none => rw [e3] at h4; exact h4.elim
            | some o2 =>
              cases o2 with
              | lst es2 =>
                rw [e3] at h4
                have h4 : sat (match guard' (decide (es2.length < sizeLine)) (TV.d .non, M2.set n (.lst (es2 ++ [d]))) with
                  | some (r, M) => Res.ok r M
                  | none => .bad) (okT G.K f H Q) (oX G W σ f H) := h4
                unfold guard' at h4
                by_cases hc : decide (es2.length < sizeLine) = true
                · rw [if_pos hc] at h4
                  have hn2 := X2.get hn
                  obtain ⟨ws, e4, r4⟩ := S2.at e3 hn2
                  have hmem : l ∈ f2 := List.mem_of_getElem? hn2
                  refine ⟨l, ws, v, rfl, rfl, e4, by rw [← r4.length]; exact of_decide_eq_true hc, ?_⟩
                  exact okT.d h4 ((X1.trans X2).trans (Ext.write e4 hmem)) (S2.write e3 hn2 e4 (r4.append (.cons rd .nil))) .non
                · rw [if_neg hc] at h4
                  exact h4.elim
      | _ => cases hc
theorem se_count {ap : Pos} (ha : SE G N sc a ea) (hb : SE G N sc b eb) (hs : noStar eb = true) (hp : plainBase ea = true) (hl : (ap.endLine == p.line) = true) : SE G N sc (.mt .count a (.cons b .nil)) (.Call (.Attribute ea "count" ap) [eb] [] p) := fun W => by
  obtain ⟨ta, pa, sa⟩ := ha W
  obtain ⟨tb, pb, sb⟩ := (SEs.cons hb hs .nil).pa W
  refine ⟨(fun σ H Q => ta σ H fun x H1 => ∃ a us, x = .ref a ∧ TupAt G.K H1 a us ∧ tb σ H1 fun xs H2 => ∃ y d ds, xs = [y] ∧ Dat G.K H2 y d ∧ Dat G.K H2 (.ref a) (.tuple ds) ∧
      Q (.int ((ds.countP fun z => PyData.eqv z d : Nat) : Int)) H2), fun X cx => ?_, fun σ H Q f M env S R h => ?_⟩
  · rw [← cx.K]
    exact pe_countT cx.rm (pa X cx) (pb X cx) (base_of hp) hl (star_one hs)
  · refine sa.bind S R h (fun _ _ _ z => z) fun u M1 vu H1 f1 X1 S1 R1 r1 h1 => ?_
    obtain ⟨hc, h1⟩ := ite_sat h1
    have h2 : sat (evs G.C (.cons b .nil) env M1) (fun ds M2 => sat (match mtop M2 .count u ds with
        | some (r, M) => Res.ok r M
        | none => .bad) (okT G.K f H Q) (oX G W σ f H)) (oX G W σ f H) := sat_bnd.mp h1
    cases u with
    | lst ls => cases hc
    | d d =>
      cases r1 with
      | @tup l us ts ht rs =>
        refine ⟨l, us, rfl, ht, sb σ H1 _ f1 M1 env S1 R1 (sat_mono h2 (fun ds M2 h3 hlen vs H2 f2 X2 S2 r2 => ?_) fun _ _ _ z => oX.back X1 z)⟩
        cases r2 with
        | nil => cases hlen
        | @cons d v ds vs rd rs2 =>
          cases rs2 with
          | cons _ _ => cases hlen
          | nil =>
            have h4 : sat (match (match pd M2 deep (.tup ts), pd M2 deep d with
              | some (.tuple bs), some a => some (TV.d (.int (bs.countP fun z => PyData.eqv z a)), M2)
              | _, _ => none) with
              | some (r, M) => Res.ok r M
              | none => .bad) (okT G.K f H Q) (oX G W σ f H) := h3
            have rt : Rep G.K H2 f2 (.tup ts) (.ref l) := Rep.ext X2 (.tup ht rs)
            cases e1 : pd M2 deep (.tup ts) with
            | none => rw [e1] at h4; exact h4.elim
            | some pt =>
              have dt := pd_dat' S2 e1 rt
              cases pt with
              | tuple bs =>
                cases e2 : pd M2 deep d with
                | none => rw [e1, e2] at h4; exact h4.elim
                | some a =>
                  rw [e1, e2] at h4
                  exact ⟨v, a, bs, rfl, pd_dat' S2 e2 rd, dt, okT.d h4 (X1.trans X2) S2 (.int _)⟩
              | _ => rw [e1] at h4; exact h4.elim
      | _ => cases hc
theorem se_join {ap : Pos} (ha : SE G N sc a ea) (hb : SE G N sc b eb) (hs : noStar eb = true) (hp : plainBase ea = true) (hl : (ap.endLine == p.line) = true) : SE G N sc (.mt .join a (.cons b .nil)) (.Call (.Attribute ea "join" ap) [eb] [] p) := fun W => by
  obtain ⟨ta, pa, sa⟩ := ha W
  obtain ⟨tb, pb, sb⟩ := hb W
  refine ⟨tM1 (fun x xs H Q => ∃ a p, ∃ ys : List Str, x = .str a ∧ xs = [.ref p] ∧ (SqL G.K H p (ys.map V.str) ∨ SqT G.K H p (ys.map V.str)) ∧
      (ys.map (·.length)).sum + ys.length * a.length ≤ 16777216 ∧ Q (.str (PySem.Txt.join a ys)) H) ta tb, fun X cx => ?_, fun σ H Q f M env S R h => ?_⟩
  · rw [← cx.K]
    exact pe_join (pa X cx) (pb X cx) (star_one hs) (base_of hp) hl
  · refine sa.bind S R h (fun _ _ _ z => z) fun u M1 vu H1 f1 X1 S1 R1 r1 h1 => ?_
    obtain ⟨hc, h1⟩ := ite_sat h1
    have h2 : sat ((ev G.C b env M1).bnd fun y M2 => opt (joinop M2 u y) M2) (okT G.K f H Q) (oX G W σ f H) := by
      have h3 : sat (((ev G.C b env M1).bnd fun d M => (Res.ok [] M).bnd fun ds M => .ok (d :: ds) M).bnd fun ys M => match ys with
        | [y] => opt (joinop M u y) M
        | _ => .bad) (okT G.K f H Q) (oX G W σ f H) := h1
      revert h3
      cases ev G.C b env M1 <;> exact fun h => h
    cases u with
    | lst ls => cases hc
    | d d =>
      cases r1 with
      | str s =>
        refine ⟨⟨s, rfl⟩, sb.bind S1 R1 h2 (fun _ _ _ z => oX.back X1 z) fun y M2 vy H2 f2 X2 S2 R2 r2 h3 => ?_⟩
        obtain ⟨z, hz, h4⟩ := sat_opt h3
        have hz : (match sq M2 y with
          | some ds => match strsOf ds with
            | some ys => guard' (decide ((ys.map (·.length)).sum + ys.length * s.length ≤ 16777216)) (TV.d (.str (PySem.Txt.join s ys)))
            | none => none
          | none => none) = some z := hz
        cases e1 : sq M2 y with
        | none => rw [e1] at hz; cases hz
        | some ds =>
          rw [e1] at hz
          have hz : (match strsOf ds with
            | some ys => guard' (decide ((ys.map (·.length)).sum + ys.length * s.length ≤ 16777216)) (TV.d (.str (PySem.Txt.join s ys)))
            | none => none) = some z := hz
          cases e2 : strsOf ds with
          | none => rw [e2] at hz; cases hz
          | some ys =>
            rw [e2] at hz
            obtain ⟨hc2, e3⟩ := guard_some hz
            subst e3
            obtain ⟨l, vs, rfl, rs, hl⟩ := sq_rep S2 e1 r2
            have ev := strs_rep e2 rs
            subst ev
            exact ⟨s, l, ys, rfl, rfl, hl.imp id fun t => t.2.sq, of_decide_eq_true hc2, okT.d h4 (X1.trans X2) S2 (.str _)⟩
      | _ => cases hc
/-! ### tests -/
def plainT : Expr → Bool
  | .UnaryOp .Not _ _ => false
  | .BoolOp _ _ _ => false
  | .IfExp _ _ _ _ => false
  | .Compare _ _ _ _ => false
  | _ => true
theorem plainT_of {e : Expr} {env : Env} (h : plainT e = true) (whole : Sem Value) : isTrue e env whole = (do let v ← whole; standAt e.pos; holding [v] (truthy v)) := by
  cases e with
  | UnaryOp o x q => cases o <;> first | rfl | exact absurd (show false = true from h) (by decide)
  | BoolOp _ _ _ => exact absurd (show false = true from h) (by decide)
  | IfExp _ _ _ _ => exact absurd (show false = true from h) (by decide)
  | Compare _ _ _ _ => exact absurd (show false = true from h) (by decide)
  | _ => rfl
def TSnd (G : Gd) (W : WX) (x : Ex) (t : TT) : Prop := ∀ (σ : L2.St) (H : Hp) (Q : Bool → Hp → Prop) (f : List Addr) (M : MH) (env : Sg), Sim G.K H f M → EnvR G.K H f env σ → sat (tBl (ev G.C x env M)) (okB G.K f H Q) (oX G W σ f H) → t σ H Q
def ST (G : Gd) (N : List Str) (sc : Scope) (x : Ex) (e : Expr) : Prop := ∀ W : WX, ∃ t : TT, (∀ X, Ctx G N sc W X → PT X e t) ∧ TSnd G W x t
theorem Snd.test {t : TE} (hx : Snd G W x t) : TSnd G W x (tB t) := fun σ H Q f M env S R h => by
  refine hx.bind S R h (fun _ _ _ z => z) fun u M1 vu H1 f1 X1 S1 R1 r1 h1 => ?_
  cases u with
  | lst _ => exact h1.elim
  | d d =>
    cases r1 with
    | bl b => exact ⟨b, rfl, h1 H1 f1 X1 S1⟩
    | _ => exact h1.elim
theorem st_val (h : SE G N sc x e) (hp : plainT e = true) : ST G N sc x e := fun W => by
  obtain ⟨t, pe, se⟩ := h W
  exact ⟨tB t, fun X cx => pt_val (pe X cx) (plainT_of hp), se.test⟩
theorem cmp_snd {o : Cop} {ta tb : TE} (sa : Snd G W a ta) (sb : Snd G W b tb) : Snd G W (.cmp o a b) (tOp (rCmp G.K o) ta tb) := by
  refine snd_two (α := Nat) (g := fun u v M => (opt (cmpop M o u v) M).bnd fun b M => .ok (.d (.bl b)) M) (fun _ _ => rfl) sa sb ?_ fun u v M z M' h => ?_
  · intro f f0 H H0 M Q u v vu vv σ S X0 ru rv h
    obtain ⟨z, hz, _, q⟩ := sat_opt (sat_bnd.mp h)
    exact cmp_ok S ru rv hz (done_val S q (.bl z))
  · cases e : cmpop M o u v with
    | none => rw [e] at h; cases h
    | some k => rw [e] at h; cases h; rfl
theorem st_cmp {o : Cop} (ha : SE G N sc a ea) (hb : SE G N sc b eb) (hn : noSet eb = true) : ST G N sc (.cmp o a b) (.Compare ea [cop o] [eb] p) := fun W => by
  obtain ⟨ta, pa, sa⟩ := ha W
  obtain ⟨tb, pb, sb⟩ := hb W
  exact ⟨_, fun X c => pt_cmpR (by rw [← c.K]; exact op_cmp c.rm o) (pa X c) (pb X c) (noSet_marks hn), (cmp_snd sa sb).test⟩
theorem chain_snd {o o2 : Cop} {ta tb tc : TE} (sa : Snd G W a ta) (sb : Snd G W b tb) (sc' : Snd G W c tc) : Snd G W (.chain o o2 a b c) (tChain (rCmp G.K o) (rCmp G.K o2) ta tb tc) := fun σ H Q f M env S R h => by
  refine sa.bind S R h (fun _ _ _ z => z) fun u M1 vu H1 f1 X1 S1 R1 r1 h1 => ?_
  refine sb.bind S1 R1 h1 (fun _ _ _ z => oX.back X1 z) fun v M2 vv H2 f2 X2 S2 R2 r2 h2 => ?_
  obtain ⟨k, hk, h3⟩ := sat_opt (sat_bnd.mp h2)
  refine cmp_ok S2 (r1.ext X2) r2 hk ⟨k, rfl, ?_⟩
  cases k with
  | false => exact okT.d h3 (X1.trans X2) S2 (.bl false)
  | true =>
    refine sc'.bind S2 R2 h3 (fun _ _ _ z => oX.back (X1.trans X2) z) fun w M3 vw H3 f3 X3 S3 R3 r3 h4 => ?_
    obtain ⟨k2, hk2, h5⟩ := sat_opt (sat_bnd.mp h4)
    exact cmp_ok S3 (r2.ext X3) r3 hk2 (okT.d h5 ((X1.trans X2).trans X3) S3 (.bl k2))
theorem marks2 {o o2 : CmpOp} (h1 : noSet eb = true) (h2 : noSet ec = true) : lastMarks [o, o2] [eb, ec] = false := noSet_marks h2
theorem se_chain {o o2 : Cop} (ha : SE G N sc a ea) (hb : SE G N sc b eb) (hc : SE G N sc c ec) (h1 : noSet eb = true) (h2 : noSet ec = true) : SE G N sc (.chain o o2 a b c) (.Compare ea [cop o, cop o2] [eb, ec] p) := fun W => by
  obtain ⟨ta, pa, sa⟩ := ha W
  obtain ⟨tb, pb, sb⟩ := hb W
  obtain ⟨tc, pc, sc'⟩ := hc W
  exact ⟨_, fun X c => pe_chain (by rw [← c.K]; exact op_cmp c.rm o) (by rw [← c.K]; exact op_cmp c.rm o2) (pa X c) (pb X c) (pc X c) (marks2 h1 h2), chain_snd sa sb sc'⟩
theorem st_chain {o o2 : Cop} (ha : SE G N sc a ea) (hb : SE G N sc b eb) (hc : SE G N sc c ec) (h1 : noSet eb = true) (h2 : noSet ec = true) : ST G N sc (.chain o o2 a b c) (.Compare ea [cop o, cop o2] [eb, ec] p) := fun W => by
  obtain ⟨ta, pa, sa⟩ := ha W
  obtain ⟨tb, pb, sb⟩ := hb W
  obtain ⟨tc, pc, sc'⟩ := hc W
  exact ⟨_, fun X c => pt_chain (by rw [← c.K]; exact op_cmp c.rm o) (by rw [← c.K]; exact op_cmp c.rm o2) (pa X c) (pb X c) (pc X c) (marks2 h1 h2), (chain_snd sa sb sc').test⟩
theorem se_nt (ha : SE G N sc a ea) : SE G N sc (.nt a) (.UnaryOp .Not ea p) := fun W => by
  obtain ⟨ta, pa, sa⟩ := ha W
  refine ⟨tNotV ta, fun X c => pe_not (pa X c), fun σ H Q f M env S R h => ?_⟩
  exact sa.test σ H (fun b H1 => Q (.bl (!b)) H1) f M env S R (sat_mono (sat_bnd.mp h) (fun b M1 h1 H1 f1 X1 S1 => okT.d h1 X1 S1 (.bl _)) fun _ _ _ z => z)
theorem tBl_nt {r : Res Bool} : tBl (r.bnd fun b M => .ok (.d (.bl (!b))) M) = r.bnd fun b M => .ok (!b) M := by cases r <;> rfl
theorem st_nt (ha : ST G N sc a ea) : ST G N sc (.nt a) (.UnaryOp .Not ea p) := fun W => by
  obtain ⟨ta, pa, sa⟩ := ha W
  refine ⟨tNot ta, fun X c => pt_not (pa X c), fun σ H Q f M env S R h => ?_⟩
  have h' : sat (tBl ((tBl (ev G.C a env M)).bnd fun b M => .ok (.d (.bl (!b))) M)) (okB G.K f H Q) (oX G W σ f H) := h
  rw [tBl_nt] at h'
  exact sa σ H (fun b H1 => Q (!b) H1) f M env S R (sat_mono (sat_bnd.mp h') (fun b M1 h1 H1 f1 X1 S1 => h1 H1 f1 X1 S1) fun _ _ _ z => z)
/-! ### and, or -/
def boS : Bool → BoolOp
  | true => .And
  | false => .Or
theorem bop_v (all : Bool) (h : SEs G N sc xs es) (hne : xs.len ≠ 0) (W : WX) : ∃ t : TE, (∀ X, Ctx G N sc W X → PE X (.BoolOp (boS all) es p) t) ∧ ∀ (σ : L2.St) (H : Hp) (Q : VK) (f : List Addr) (M : MH) (env : Sg), Sim G.K H f M → EnvR G.K H f env σ →
    sat (evB G.C all xs env M) (fun b M' => okT G.K f H Q (.d (.bl b)) M') (oX G W σ f H) → t σ H Q := by
  induction h with
  | nil => exact absurd rfl hne
  | @cons x e xs es hx hs hr ih =>
    obtain ⟨ta, pa, sa⟩ := hx W
    cases hr with
    | nil =>
      refine ⟨ta, fun X c => pe_one (pa X c), fun σ H Q f M env S R h => ?_⟩
      have h' : sat ((ev G.C x env M).bnd fun tv M => (match tv with
        | .d (.bl b) => Res.ok b M
        | _ => .bad).bnd fun b M => if b = all then Res.ok all M else .ok (!all) M) (fun b M' => okT G.K f H Q (.d (.bl b)) M') (oX G W σ f H) := by
        have e : ((ev G.C x env M).bnd fun tv M => (match tv with
          | .d (.bl b) => Res.ok b M
          | _ => .bad).bnd fun b M => if b = all then Res.ok all M else .ok (!all) M) = evB G.C all (.cons x .nil) env M := by
          show _ = (tBl (ev G.C x env M)).bnd _
          unfold tBl
          cases ev G.C x env M <;> rfl
        rw [e]
        exact h
      refine sa.bind S R h' (fun _ _ _ z => z) fun u M1 vu H1 f1 X1 S1 R1 r1 h1 => ?_
      cases u with
      | lst _ => exact h1.elim
      | d d =>
        cases r1 with
        | bl b =>
          cases b <;> cases all <;> exact okT.d h1 X1 S1 (.bl _)
        | _ => exact h1.elim
    | @cons x2 e2 xs2 es2 hx2 hs2 hr2 =>
      obtain ⟨tr, pr, sr⟩ := ih (Nat.succ_ne_zero _)
      cases all with
      | true =>
        refine ⟨tAndV ta tr, fun X c => pe_and (pa X c) (pr X c), fun σ H Q f M env S R h => ?_⟩
        refine sa.test σ H (fun c H1 => if c = true then tr σ H1 Q else Q (.bl false) H1) f M env S R (sat_mono (sat_bnd.mp h) (fun b M1 h1 H1 f1 X1 S1 => ?_) fun _ _ _ z => z)
        cases b with
        | true => exact sr σ H1 Q f1 M1 env S1 (R.ext X1) (sat_mono h1 (fun b M2 h2 v H2 f2 X2 S2 r2 => h2 v H2 f2 (X1.trans X2) S2 r2) fun _ _ _ z => oX.back X1 z)
        | false => exact okT.d h1 X1 S1 (.bl false)
      | false =>
        refine ⟨tOrV ta tr, fun X c => pe_or (pa X c) (pr X c), fun σ H Q f M env S R h => ?_⟩
        refine sa.test σ H (fun c H1 => if c = true then Q (.bl true) H1 else tr σ H1 Q) f M env S R (sat_mono (sat_bnd.mp h) (fun b M1 h1 H1 f1 X1 S1 => ?_) fun _ _ _ z => z)
        cases b with
        | false => exact sr σ H1 Q f1 M1 env S1 (R.ext X1) (sat_mono h1 (fun b M2 h2 v H2 f2 X2 S2 r2 => h2 v H2 f2 (X1.trans X2) S2 r2) fun _ _ _ z => oX.back X1 z)
        | true => exact okT.d h1 X1 S1 (.bl true)
theorem se_bop {all : Bool} (h : SEs G N sc xs es) (hne : xs.len ≠ 0) : SE G N sc (.bop all xs) (.BoolOp (boS all) es p) := fun W => by
  obtain ⟨t, pe, se⟩ := bop_v (p := p) all h hne W
  exact ⟨t, pe, fun σ H Q f M env S R h => se σ H Q f M env S R (sat_bnd.mp h)⟩
inductive STs (G : Gd) (N : List Str) (sc : Scope) : Exs → List Expr → Prop where
  | nil : STs G N sc .nil []
  | cons {x : Ex} {e : Expr} {xs : Exs} {es : List Expr} : ST G N sc x e → STs G N sc xs es → STs G N sc (.cons x xs) (e :: es)
theorem bop_t (all : Bool) (h : STs G N sc xs es) (hne : xs.len ≠ 0) (W : WX) : ∃ t : TT, (∀ X, Ctx G N sc W X → PW X (.BoolOp (boS all) es p) t) ∧ ∀ (σ : L2.St) (H : Hp) (Q : Bool → Hp → Prop) (f : List Addr) (M : MH) (env : Sg), Sim G.K H f M → EnvR G.K H f env σ →
    sat (evB G.C all xs env M) (okB G.K f H Q) (oX G W σ f H) → t σ H Q := by
  induction h with
  | nil => exact absurd rfl hne
  | @cons x e xs es hx hr ih =>
    obtain ⟨ta, pa, sa⟩ := hx W
    cases hr with
    | nil =>
      refine ⟨ta, fun X c => ?_, fun σ H Q f M env S R h => ?_⟩
      · cases all with
        | true => exact pw_and1 (pa X c)
        | false => exact pw_or1 (pa X c)
      · refine sa σ H Q f M env S R (sat_mono (sat_bnd.mp h) (fun b M1 h1 H1 f1 X1 S1 => ?_) fun _ _ _ z => z)
        cases b <;> cases all <;> exact h1 H1 f1 X1 S1
    | @cons x2 e2 xs2 es2 hx2 hr2 =>
      obtain ⟨tr, pr, sr⟩ := ih (Nat.succ_ne_zero _)
      cases all with
      | true =>
        refine ⟨tAnd ta tr, fun X c => pw_and (pa X c) (pr X c), fun σ H Q f M env S R h => ?_⟩
        refine sa σ H (fun c H1 => if c = true then tr σ H1 Q else Q false H1) f M env S R (sat_mono (sat_bnd.mp h) (fun b M1 h1 H1 f1 X1 S1 => ?_) fun _ _ _ z => z)
        cases b with
        | true => exact sr σ H1 Q f1 M1 env S1 (R.ext X1) (sat_mono h1 (fun b M2 h2 H2 f2 X2 S2 => h2 H2 f2 (X1.trans X2) S2) fun _ _ _ z => oX.back X1 z)
        | false => exact h1 H1 f1 X1 S1
      | false =>
        refine ⟨tOr ta tr, fun X c => pw_or (pa X c) (pr X c), fun σ H Q f M env S R h => ?_⟩
        refine sa σ H (fun c H1 => if c = true then Q true H1 else tr σ H1 Q) f M env S R (sat_mono (sat_bnd.mp h) (fun b M1 h1 H1 f1 X1 S1 => ?_) fun _ _ _ z => z)
        cases b with
        | false => exact sr σ H1 Q f1 M1 env S1 (R.ext X1) (sat_mono h1 (fun b M2 h2 H2 f2 X2 S2 => h2 H2 f2 (X1.trans X2) S2) fun _ _ _ z => oX.back X1 z)
        | true => exact h1 H1 f1 X1 S1
theorem tBl_bl {r : Res Bool} : tBl (r.bnd fun b M => .ok (.d (.bl b)) M) = r := by cases r <;> rfl
theorem st_bop {all : Bool} (h : STs G N sc xs es) (hne : xs.len ≠ 0) : ST G N sc (.bop all xs) (.BoolOp (boS all) es p) := fun W => by
  obtain ⟨t, pe, se⟩ := bop_t (p := p) all h hne W
  refine ⟨t, fun X c => (pe X c).pt, fun σ H Q f M env S R h => se σ H Q f M env S R ?_⟩
  have h' : sat (tBl ((evB G.C all xs env M).bnd fun b M => .ok (.d (.bl b)) M)) (okB G.K f H Q) (oX G W σ f H) := h
  rw [tBl_bl] at h'
  exact h'
theorem se_ite (hc : ST G N sc c ec) (ha : SE G N sc a ea) (hb : SE G N sc b eb) : SE G N sc (.ite c a b) (.IfExp ec ea eb p) := fun W => by
  obtain ⟨tc, pc, sc'⟩ := hc W
  obtain ⟨ta, pa, sa⟩ := ha W
  obtain ⟨tb, pb, sb⟩ := hb W
  refine ⟨tIf tc ta tb, fun X c => pe_ifExp (pc X c) (pa X c) (pb X c), fun σ H Q f M env S R h => ?_⟩
  refine sc' σ H (fun c H1 => if c = true then ta σ H1 Q else tb σ H1 Q) f M env S R (sat_mono (sat_bnd.mp h) (fun k M1 h1 H1 f1 X1 S1 => ?_) fun _ _ _ z => z)
  have fin : ∀ {x : Ex}, sat (ev G.C x env M1) (okT G.K f H Q) (oX G W σ f H) → sat (ev G.C x env M1) (okT G.K f1 H1 Q) (oX G W σ f1 H1) := fun h => sat_mono h (fun z M2 h2 v H2 f2 X2 S2 r2 => h2 v H2 f2 (X1.trans X2) S2 (by
    cases z with
    | d d => exact r2
    | lst ds => exact r2.back X1 X2)) fun _ _ _ z => oX.back X1 z
  cases k with
  | true => exact sa σ H1 Q f1 M1 env S1 (R.ext X1) (fin h1)
  | false => exact sb σ H1 Q f1 M1 env S1 (R.ext X1) (fin h1)
/-! ### f-strings -/
inductive SFs (G : Gd) (N : List Str) (sc : Scope) : Fps → List Expr → Prop where
  | nil : SFs G N sc .nil []
  | txt {s : Str} {ps : Fps} {es : List Expr} {j : Nat} {q : Pos} : SFs G N sc ps es → SFs G N sc (.txt s ps) (.Constant (.str s) j q :: es)
  | val {x : Ex} {e : Expr} {ps : Fps} {es : List Expr} {q : Pos} : SE G N sc x e → SFs G N sc ps es → SFs G N sc (.val x ps) (.FormattedValue e (-1) none q :: es)
theorem SFs.pj {ps : Fps} (h : SFs G N sc ps es) (W : WX) : ∃ ts : List TE, (∀ X, Ctx G N sc W X → PJ X es ts) ∧ ∀ (σ : L2.St) (H : Hp) (Q : Str → Hp → Prop) (f : List Addr) (M : MH) (env : Sg) (acc : Str), Sim G.K H f M → EnvR G.K H f env σ →
    sat (evF G.C ps acc env M) (fun s M' => ∀ H' f', Ext f f' H H' → Sim G.K H' f' M' → Q s H') (oX G W σ f H) → tJs ts acc σ H Q := by
  induction h with
  | nil => exact ⟨[], fun X _ => .nil, fun σ H Q f M env acc S R h => h H f Ext.refl S⟩
  | @txt s ps es j q hr ih =>
    obtain ⟨ts, pt, st⟩ := ih
    refine ⟨tC (.str s) :: ts, fun X c => .cons pe_str (pt X c), fun σ H Q f M env acc S R h => ?_⟩
    have h' : sat (if (acc ++ s).length ≤ sizeLine then evF G.C ps (acc ++ s) env M else .bad) (fun s M' => ∀ H' f', Ext f f' H H' → Sim G.K H' f' M' → Q s H') (oX G W σ f H) := h
    by_cases hc : (acc ++ s).length ≤ sizeLine
    · rw [if_pos hc] at h'
      exact ⟨s, rfl, hc, st σ H Q f M env _ S R h'⟩
    · rw [if_neg hc] at h'
      exact h'.elim
  | @val x e ps es q hx hr ih =>
    obtain ⟨ts, pt, st⟩ := ih
    obtain ⟨ta, pa, sa⟩ := hx W
    refine ⟨tFmt ta :: ts, fun X c => .cons (pe_fmt (pa X c)) (pt X c), fun σ H Q f M env acc S R h => ?_⟩
    refine sa.bind S R h (fun _ _ _ z => z) fun u M1 vu H1 f1 X1 S1 R1 r1 h1 => ?_
    have go : ∀ s, fmtop u = some s → ∃ y : Str, V.str s = .str y ∧ (acc ++ y).length ≤ sizeLine ∧ tJs ts (acc ++ y) σ H1 Q := fun s hs => by
      have h2 : sat (match fmtop u with
        | some s => if (acc ++ s).length ≤ sizeLine then evF G.C ps (acc ++ s) env M1 else .bad
        | none => .bad) (fun s M' => ∀ H' f', Ext f f' H H' → Sim G.K H' f' M' → Q s H') (oX G W σ f H) := h1
      rw [hs] at h2
      have h2 : sat (if (acc ++ s).length ≤ sizeLine then evF G.C ps (acc ++ s) env M1 else .bad) (fun s M' => ∀ H' f', Ext f f' H H' → Sim G.K H' f' M' → Q s H') (oX G W σ f H) := h2
      by_cases hc : (acc ++ s).length ≤ sizeLine
      · rw [if_pos hc] at h2
        exact ⟨s, rfl, hc, st σ H1 Q f1 M1 env _ S1 R1 (sat_mono h2 (fun s M2 h3 H2 f2 X2 S2 => h3 H2 f2 (X1.trans X2) S2) fun _ _ _ z => oX.back X1 z)⟩
      · rw [if_neg hc] at h2
        exact h2.elim
    cases u with
    | lst _ => exact h1.elim
    | d d =>
      cases r1 with
      | str s =>
        by_cases hc : decide (s.length ≤ sizeLine) = true
        · have e : fmtop (.d (.str s)) = some s := by
            show guard' _ _ = _
            unfold guard'
            rw [if_pos hc]
          exact .inl ⟨s, rfl, of_decide_eq_true hc, go s e⟩
        · have e : fmtop (.d (.str s)) = none := by
            show guard' _ _ = _
            unfold guard'
            rw [if_neg hc]
          have h2 : sat (match fmtop (.d (.str s)) with
            | some s => if (acc ++ s).length ≤ sizeLine then evF G.C ps (acc ++ s) env M1 else .bad
            | none => .bad) (fun s M' => ∀ H' f', Ext f f' H H' → Sim G.K H' f' M' → Q s H') (oX G W σ f H) := h1
          rw [e] at h2
          exact h2.elim
      | int i =>
        cases e : showInt i with
        | none =>
          have h2 : sat (match showInt i with
            | some s => if (acc ++ s).length ≤ sizeLine then evF G.C ps (acc ++ s) env M1 else .bad
            | none => .bad) (fun s M' => ∀ H' f', Ext f f' H H' → Sim G.K H' f' M' → Q s H') (oX G W σ f H) := h1
          rw [e] at h2
          exact h2.elim
        | some s =>
          obtain ⟨h2, rfl⟩ := showInt_is e
          exact .inr ⟨i, rfl, h2, go _ e⟩
      | _ => exact h1.elim
theorem se_fst {ps : Fps} {e1 e2 : Expr} {er : List Expr} (h : SFs G N sc ps (e1 :: e2 :: er)) : SE G N sc (.fst ps) (.JoinedStr (e1 :: e2 :: er) p) := fun W => by
  obtain ⟨ts, pj, sj⟩ := h.pj W
  refine ⟨_, fun X c => pe_joined (pj X c), fun σ H Q f M env S R h => ?_⟩
  exact sj σ H (fun out H1 => Q (.str out) H1) f M env _ S R (sat_mono (sat_bnd.mp h) (fun s M1 h1 H1 f1 X1 S1 => okT.d h1 X1 S1 (.str s)) fun _ _ _ z => z)
end
end Ev

set_option maxRecDepth 100000
set_option maxHeartbeats 2000000
namespace Ev
open PySem PySem.Spec PyProof.Rows L2
/-! ### what is walked -/
/-- an item of a walk; tp: it goes to a tuple of names -/
def ItemRep (K : PySem.W.Frag) (H : Hp) (f : List Addr) (tp : Bool) (d : D) (x : V) : Prop := Rep K H f d x ∨ (tp = true ∧ ∃ T ds vs, d = .tup ds ∧ x = .ref T ∧ SqT K H T vs ∧ RepL K H f ds vs)
/-- J walks s, from f and H on -/
def WalkOf (K : PySem.W.Frag) (tp : Bool) (s : Src) (J : L2.It) (f : List Addr) (H : Hp) : Prop := ∀ H2 f2 M2, Ext f f2 H H2 → Sim K H2 f2 M2 → ∀ ds, s.cur M2 = some ds →
  (∀ i, i < ds.length → J.go i H2) ∧ J.stop ds.length H2 ∧ ∀ i x H3, i < ds.length → J.yld i H2 x H3 → ∃ d, ds[i]? = some d ∧ Ext f2 f2 H2 H3 ∧ Sim K H3 f2 M2 ∧ ItemRep K H3 f2 tp d x
section
variable {K : PySem.W.Frag} {tp : Bool} {s t : Src} {J : L2.It} {f f0 : List Addr} {H H0 : Hp} {M : MH} {x y : TV} {v u : V}
/-- the items of a source lie so -/
inductive SrcAt (K : PySem.W.Frag) (f : List Addr) (H : Hp) : Src → Addr → Bool → Prop where
  | fresh {a : Addr} {vs : List V} {ds : List D} : H a = some (.lst vs) → a ∉ f → RepL K H f ds vs → SrcAt K f H (.vals ds) a false
  | scr {a : Addr} {vs : List V} {ds : List D} : FrzAt K H a vs → RepL K H f ds vs → SrcAt K f H (.vals ds) a false
  | tup {a : Addr} {vs : List V} {ds : List D} : TupAt K H a vs → RepL K H f ds vs → SrcAt K f H (.vals ds) a true
  | live {a : Addr} {n : Nat} : f[n]? = some a → SrcAt K f H (.live n) a false
/-- what it holds at a later time -/
def Holds (K : PySem.W.Frag) (b : Bool) (H : Hp) (a : Addr) (vs : List V) : Prop := if b = true then SqT K H a vs else SqL K H a vs
theorem SrcAt.later {a : Addr} {b : Bool} (r : SrcAt K f H s a b) {H2 : Hp} {f2 : List Addr} {M2 : MH} (X : Ext f f2 H H2) (S : Sim K H2 f2 M2) {ds : List D} (h : s.cur M2 = some ds) : ∃ vs, Holds K b H2 a vs ∧ RepL K H2 f2 ds vs := by
  cases r with
  | @fresh a vs es h1 h2 h3 =>
    obtain rfl : es = ds := Option.some.inj h
    exact ⟨vs, SqL.of (X.keep _ _ h1 h2), h3.ext X⟩
  | @scr a vs es h1 h3 =>
    obtain rfl : es = ds := Option.some.inj h
    exact ⟨vs, (h1.grow X.grow).sq, h3.ext X⟩
  | @tup a vs es h1 h3 =>
    obtain rfl : es = ds := Option.some.inj h
    exact ⟨vs, (h1.ext X).sq, h3.ext X⟩
  | @live a n hn =>
    obtain ⟨o, ho, rfl⟩ := rd_some (show rd M2 n = some ds from h)
    obtain ⟨vs, h1, rs⟩ := (S.at ho (X.get hn)).sq
    exact ⟨vs, SqL.of h1, rs⟩
/-- there is something to begin with -/
theorem SrcAt.now {a : Addr} {b : Bool} (r : SrcAt K f H s a b) (S : Sim K H f M) : ∃ vs, Holds K b H a vs := by
  cases r with
  | fresh h1 h2 h3 => exact ⟨_, SqL.of h1⟩
  | scr h1 h3 => exact ⟨_, h1.sq⟩
  | tup h1 h3 => exact ⟨_, h1.sq⟩
  | live hn =>
    obtain ⟨o, ho⟩ := S.addr hn
    obtain ⟨vs, h1, rs⟩ := (S.at ho hn).sq
    exact ⟨vs, SqL.of h1⟩
theorem src_at (S : Sim K H f M) (h : srcOf M x = some s) (r : TRep K H0 H f x v) : ∃ a, v = .ref a ∧ SrcAt K f H s a (isTup x) := by
  cases x with
  | lst ds =>
    obtain rfl : Src.vals ds = s := Option.some.inj h
    obtain ⟨a, vs, rfl, h1, h2, _, rs⟩ := r
    exact ⟨a, rfl, .fresh h1 h2 rs⟩
  | d d =>
    cases r with
    | @tup a vs ds ht rs =>
      obtain rfl : Src.vals ds = s := Option.some.inj h
      exact ⟨a, rfl, .tup ht rs⟩
    | @scr a vs ds ht rs =>
      obtain rfl : Src.vals ds = s := Option.some.inj h
      exact ⟨a, rfl, .scr ht rs⟩
    | @ref n a ha =>
      obtain ⟨_, _, rfl⟩ := Option.map_eq_some_iff.mp (show (rd M n).map (fun _ => Src.live n) = some s from h)
      exact ⟨a, rfl, .live ha⟩
    | _ => cases h
/-- a walk that gives what stands -/
theorem walk_at {a : Addr} {b : Bool} (r : SrcAt K f H s a b) : WalkOf K tp s (if b = true then Itt K a else Itl K a) f H := by
  intro H2 f2 M2 X S ds h
  obtain ⟨vs, h1, rs⟩ := r.later X S h
  have hl := rs.length
  cases b with
  | true =>
    have w := walk_tup (K := K) (a := a) (xs := vs)
    refine ⟨fun i hi => w.goes i H2 (by rw [← hl]; exact hi) h1, by rw [hl]; exact w.stops H2 h1, fun i z H3 hi hy => ?_⟩
    obtain ⟨rfl, hz⟩ := w.yields i H2 z H3 (by rw [← hl]; exact hi) h1 hy
    obtain ⟨d, hd, rd⟩ := rs.getV hz
    exact ⟨d, hd, Ext.refl, S, .inl rd⟩
  | false =>
    have w := walk_list (K := K) (a := a) (xs := vs)
    refine ⟨fun i hi => w.goes i H2 (by rw [← hl]; exact hi) h1, by rw [hl]; exact w.stops H2 h1, fun i z H3 hi hy => ?_⟩
    obtain ⟨rfl, hz⟩ := w.yields i H2 z H3 (by rw [← hl]; exact hi) h1 hy
    obtain ⟨d, hd, rd⟩ := rs.getV hz
    exact ⟨d, hd, Ext.refl, S, .inl rd⟩
theorem rng_get {lo c : Int} {n i : Nat} (h : i < n) : (rng lo n c)[i]? = some (.int (lo + (i : Nat) * c)) := by
  unfold rng
  rw [List.getElem?_map, List.getElem?_range h]
  rfl
theorem rng_len {lo c : Int} {n : Nat} : (rng lo n c).length = n := by
  unfold rng
  rw [List.length_map, List.length_range]
theorem walk_rng {lo : Int} {n : Nat} : WalkOf K tp (.vals (rng lo n 1)) (Itr lo n) f H := by
  intro H2 f2 M2 X S ds h
  obtain rfl : rng lo n 1 = ds := Option.some.inj h
  rw [rng_len]
  refine ⟨fun i hi => hi, Nat.le_refl _, fun i z H3 hi hy => ?_⟩
  obtain ⟨rfl, rfl⟩ := hy
  exact ⟨_, rng_get hi, Ext.refl, S, .inl (by rw [Int.mul_one]; exact .int _)⟩
theorem walk_rngC {lo c : Int} {n : Nat} : WalkOf K tp (.vals (rng lo n c)) (Itc lo c n) f H := by
  intro H2 f2 M2 X S ds h
  obtain rfl : rng lo n c = ds := Option.some.inj h
  rw [rng_len]
  have w := walk_rangeC (lo := lo) (c := c) (n := n)
  refine ⟨fun i hi => w.goes i H2 hi trivial, w.stops H2 trivial, fun i z H3 hi hy => ?_⟩
  obtain ⟨rfl, rfl⟩ := w.yields i H2 z H3 hi trivial hy
  exact ⟨_, rng_get hi, Ext.refl, S, .inl (.int _)⟩
/-- a new pair -/
theorem pair_item {H2 H3 : Hp} {f2 : List Addr} {M2 : MH} {T : Addr} {p q : V} {d e : D} (S : Sim K H2 f2 M2) (hT : H2 T = none) (h3 : H3 = upd H2 T (.tup [p, q])) (r1 : Rep K H2 f2 d p) (r2 : Rep K H2 f2 e q) :
    Ext f2 f2 H2 H3 ∧ Sim K H3 f2 M2 ∧ ItemRep K H3 f2 true (.tup [d, e]) (.ref T) := by
  subst h3
  have X := Ext.fresh (f := f2) (o := .tup [p, q]) hT
  exact ⟨X, S.fresh hT, .inr ⟨rfl, T, _, _, rfl, rfl, SqT.of upd_same, .cons (r1.ext X) (.cons (r2.ext X) .nil)⟩⟩
theorem walk_enumA {a : Addr} {b : Bool} (r : SrcAt K f H s a b) : WalkOf K true (.enum s) (if b = true then IteT K a else Ite K a) f H := by
  intro H2 f2 M2 X S ds h
  obtain ⟨es, h0, rfl⟩ := Option.map_eq_some_iff.mp (show (s.cur M2).map _ = some ds from h)
  obtain ⟨vs, h1, rs⟩ := r.later X S h0
  have hl := rs.length
  have len : ((List.range es.length).zipWith (fun (i : Nat) d => D.tup [.int i, d]) es).length = es.length := by simp
  rw [len]
  have get : ∀ i d, es[i]? = some d → ((List.range es.length).zipWith (fun (i : Nat) d => D.tup [.int i, d]) es)[i]? = some (D.tup [D.int (i : Nat), d]) := fun i d hd => by
    have hi : i < es.length := (List.getElem?_eq_some_iff.mp hd).1
    rw [List.getElem?_zipWith, List.getElem?_range hi, hd]
  have item : ∀ i T z H3, es.length > i → H2 T = none → H3 = upd H2 T (.tup [.int (i : Nat), z]) → vs[i]? = some z → ∃ d, ((List.range es.length).zipWith (fun (i : Nat) d => D.tup [.int i, d]) es)[i]? = some d ∧ Ext f2 f2 H2 H3 ∧ Sim K H3 f2 M2 ∧ ItemRep K H3 f2 true d (.ref T) := fun i T z H3 hi hT h3 hz => by
    obtain ⟨d, hd, rd⟩ := rs.getV hz
    obtain ⟨p1, p2, p3⟩ := pair_item S hT h3 (.int (i : Nat)) rd
    exact ⟨_, get i d hd, p1, p2, p3⟩
  cases b with
  | true =>
    refine ⟨fun i hi => ⟨vs, vs[i]'(by omega), h1, by simp [show i < vs.length by omega]⟩, ⟨vs, h1, by omega⟩, fun i z H3 hi hy => ?_⟩
    obtain ⟨T, w, rfl, hT, h3, hw⟩ := hy
    exact item i T w H3 hi hT h3 (hw vs h1)
  | false =>
    refine ⟨fun i hi => ⟨vs, vs[i]'(by omega), h1, by simp [show i < vs.length by omega]⟩, ⟨vs, h1, by omega⟩, fun i z H3 hi hy => ?_⟩
    obtain ⟨T, w, rfl, hT, h3, hw⟩ := hy
    exact item i T w H3 hi hT h3 (hw vs h1)
theorem walk_zipA {a c : Addr} {b : Bool} (r : SrcAt K f H s a b) (r2 : SrcAt K f H t c b) : WalkOf K true (.zip s t) (if b = true then RZ.ItzT K a c else Itz K a c) f H := by
  intro H2 f2 M2 X S ds h
  have h' : (match s.cur M2, t.cur M2 with
    | some a, some b => some (List.zipWith (fun x y => D.tup [x, y]) a b)
    | _, _ => none) = some ds := h
  cases e1 : s.cur M2 with
  | none => rw [e1] at h'; cases h'
  | some as =>
    cases e2 : t.cur M2 with
    | none => rw [e1, e2] at h'; cases h'
    | some bs =>
      rw [e1, e2] at h'
      obtain rfl : List.zipWith (fun x y => D.tup [x, y]) as bs = ds := Option.some.inj h'
      obtain ⟨vs, h1, rs⟩ := r.later X S e1
      obtain ⟨us, h2, qs⟩ := r2.later X S e2
      have hl := rs.length
      have hl2 := qs.length
      have len : (List.zipWith (fun x y => D.tup [x, y]) as bs).length = min as.length bs.length := by simp
      rw [len]
      have item : ∀ i T z w H3, H2 T = none → H3 = upd H2 T (.tup [z, w]) → vs[i]? = some z → us[i]? = some w → ∃ d, (List.zipWith (fun x y => D.tup [x, y]) as bs)[i]? = some d ∧ Ext f2 f2 H2 H3 ∧ Sim K H3 f2 M2 ∧ ItemRep K H3 f2 true d (.ref T) := fun i T z w H3 hT h3 hz hw => by
        obtain ⟨d, hd, rd⟩ := rs.getV hz
        obtain ⟨e, he, re⟩ := qs.getV hw
        obtain ⟨p1, p2, p3⟩ := pair_item S hT h3 rd re
        exact ⟨_, by rw [List.getElem?_zipWith, hd, he], p1, p2, p3⟩
      cases b with
      | true =>
        refine ⟨fun i hi => ⟨vs, us, vs[i]'(by omega), us[i]'(by omega), h1, h2, by simp [show i < vs.length by omega], by simp [show i < us.length by omega]⟩, ⟨vs, us, h1, h2, by omega⟩, fun i z H3 hi hy => ?_⟩
        obtain ⟨T, w, w2, rfl, hT, h3, hw, hw2⟩ := hy
        exact item i T w w2 H3 hT h3 (hw vs h1) (hw2 us h2)
      | false =>
        refine ⟨fun i hi => ⟨vs, us, vs[i]'(by omega), us[i]'(by omega), h1, h2, by simp [show i < vs.length by omega], by simp [show i < us.length by omega]⟩, ⟨vs, us, h1, h2, by omega⟩, fun i z H3 hi hy => ?_⟩
        obtain ⟨T, w, w2, rfl, hT, h3, hw, hw2⟩ := hy
        exact item i T w w2 H3 hT h3 (hw vs h1) (hw2 us h2)
end
/-- the judgement of an iterable -/
def SI (G : Gd) (N : List Str) (sc : Scope) (tp : Bool) (tg : Expr) (x : It) (e : Expr) : Prop := ∀ W : WX, ∃ wi : TI, (∀ X, Ctx G N sc W X → PI X tg e wi) ∧
  ∀ (σ : L2.St) (H : Hp) (R : L2.It → Hp → Prop) (f : List Addr) (M : MH) (env : Sg), Sim G.K H f M → EnvR G.K H f env σ →
    sat (evI G.C x env M) (fun s M' => ∀ H' f', Ext f f' H H' → Sim G.K H' f' M' → ∀ J, WalkOf G.K tp s J f' H' → R J H') (oX G W σ f H) → wi σ H R
section
variable {G : Gd} {N : List Str} {sc : Scope} {W : WX} {tp : Bool} {tg e ea eb ec : Expr} {x a b c : Ex} {p q : Pos}
theorem si_seq (h : SE G N sc x e) : SI G N sc tp tg (.seq x) e := fun W => by
  obtain ⟨t, pe, se⟩ := h W
  refine ⟨(fun σ H R => t σ H fun x H1 => ∃ a, x = .ref a ∧ ((∃ xs, SqL G.K H1 a xs ∧ R (Itl G.K a) H1) ∨ (∃ xs, SqT G.K H1 a xs ∧ R (Itt G.K a) H1))), fun X cx => by rw [← cx.K]; exact pi_seqA (pe X cx), fun σ H R f M env S E h => ?_⟩
  refine se.bind S E h (fun _ _ _ z => z) fun tv M1 v H1 f1 X1 S1 R1 r1 h1 => ?_
  obtain ⟨s, hs, h2⟩ := sat_opt h1
  obtain ⟨l, rfl, r⟩ := src_at S1 hs r1
  obtain ⟨vs, hv⟩ := r.now S1
  have w := h2 H1 f1 X1 S1 _ (walk_at r)
  refine ⟨l, rfl, ?_⟩
  revert w hv
  generalize isTup tv = b
  intro hv w
  cases b with
  | true => exact .inr ⟨vs, hv, w⟩
  | false => exact .inl ⟨vs, hv, w⟩
theorem small_of {i : Int} (h : small i = true) : -(2 ^ 62) ≤ i ∧ i < 2 ^ 62 := by
  unfold small at h
  rw [Bool.and_eq_true, decide_eq_true_eq, decide_eq_true_eq] at h
  exact h
theorem mg_of (ok : G.Ok) {X : Cx} (cx : Ctx G N sc W X) {n : Str} (h : n ∈ bNames) : X.mg n = none := by
  rw [cx.mg]
  exact ok.blt n h
/-- one, two, three terms that are looked at -/
theorem pa_one (ha : SE G N sc a ea) (hs : noStar ea = true) (W : WX) : ∃ t ta, t = tCons ta tNil ∧ (∀ X, Ctx G N sc W X → PA X [ea] t) ∧ Snd G W a ta := by
  obtain ⟨ta, pa, sa⟩ := ha W
  exact ⟨_, ta, rfl, fun X cx => pa_cons (pa X cx) pa_nil (star_cons hs), sa⟩
theorem si_rng1 (ok : G.Ok) (hg : glC sc ("range" : Str) = true) (ha : SE G N sc a ea) (hs : noStar ea = true) : SI G N sc tp tg (.rng1 a) (.Call (.Name "range" q) [ea] [] p) := fun W => by
  obtain ⟨ta, pa, sa⟩ := ha W
  refine ⟨iRng1 (tCons ta tNil), fun X cx => pi_range1 (gl_of cx hg) (mg_of ok cx (by decide +kernel)) (pa_cons (pa X cx) pa_nil (star_cons hs)) (star_one hs), fun σ H R f M env S E h => ?_⟩
  refine sa.bind S E h (fun _ _ _ z => z) fun tv M1 v H1 f1 X1 S1 R1 r1 h1 => ?_
  cases tv with
  | lst _ => exact h1.elim
  | d d =>
    cases r1 with
    | int j =>
      obtain ⟨hc, h2⟩ := ite_sat h1
      obtain ⟨c1, c2⟩ := small_of hc
      exact ⟨j, rfl, c1, c2, h2 H1 f1 X1 S1 _ walk_rng⟩
    | _ => exact h1.elim
theorem si_rng2 (ok : G.Ok) (hg : glC sc ("range" : Str) = true) (ha : SE G N sc a ea) (hs : noStar ea = true) (hb : SE G N sc b eb) (hs2 : noStar eb = true) : SI G N sc tp tg (.rng2 a b) (.Call (.Name "range" q) [ea, eb] [] p) := fun W => by
  obtain ⟨ta, pa, sa⟩ := ha W
  obtain ⟨tb, pb, sb⟩ := hb W
  refine ⟨iRng2 (tCons ta (tCons tb tNil)), fun X cx => pi_range2 (gl_of cx hg) (mg_of ok cx (by decide +kernel)) (pa_cons (pa X cx) (pa_cons (pb X cx) pa_nil (star_cons hs2)) (star_cons hs)) (by rw [star_cons hs, star_one hs2]) (star_one hs2), fun σ H R f M env S E h => ?_⟩
  refine sa.bind S E h (fun _ _ _ z => z) fun tv M1 v H1 f1 X1 S1 R1 r1 h1 => ?_
  refine sb.bind S1 R1 h1 (fun _ _ _ z => oX.back X1 z) fun tu M2 u H2 f2 X2 S2 R2 r2 h2 => ?_
  cases tv with
  | lst _ => exact h2.elim
  | d d =>
    cases r1 with
    | int i =>
      cases tu with
      | lst _ => exact h2.elim
      | d d =>
        cases r2 with
        | int j =>
          obtain ⟨hc, h3⟩ := ite_sat h2
          rw [Bool.and_eq_true] at hc
          obtain ⟨c1, c2⟩ := small_of hc.1
          obtain ⟨c3, c4⟩ := small_of hc.2
          exact ⟨i, j, rfl, ⟨c1, c2, c3, c4⟩, h3 H2 f2 (X1.trans X2) S2 _ walk_rng⟩
        | _ => exact h2.elim
    | _ => exact h2.elim
theorem si_rng3 (ok : G.Ok) (hg : glC sc ("range" : Str) = true) (ha : SE G N sc a ea) (hs : noStar ea = true) (hb : SE G N sc b eb) (hs2 : noStar eb = true) (hc : SE G N sc c ec) (hs3 : noStar ec = true) :
    SI G N sc tp tg (.rng3 a b c) (.Call (.Name "range" q) [ea, eb, ec] [] p) := fun W => by
  obtain ⟨ta, pa, sa⟩ := ha W
  obtain ⟨tb, pb, sb⟩ := hb W
  obtain ⟨tc, pc, sc'⟩ := hc W
  refine ⟨iRng3 (tCons ta (tCons tb (tCons tc tNil))), fun X cx => pi_range3 (gl_of cx hg) (mg_of ok cx (by decide +kernel)) (pa_cons (pa X cx) (pa_cons (pb X cx) (pa_cons (pc X cx) pa_nil (star_cons hs3)) (star_cons hs2)) (star_cons hs)) (star_cons hs) (by rw [star_cons hs2, star_one hs3]; rfl), fun σ H R f M env S E h => ?_⟩
  refine sa.bind S E h (fun _ _ _ z => z) fun tv M1 v H1 f1 X1 S1 R1 r1 h1 => ?_
  refine sb.bind S1 R1 h1 (fun _ _ _ z => oX.back X1 z) fun tu M2 u H2 f2 X2 S2 R2 r2 h2 => ?_
  refine sc'.bind S2 R2 h2 (fun _ _ _ z => oX.back (X1.trans X2) z) fun tw M3 w H3 f3 X3 S3 R3 r3 h3 => ?_
  cases tv with
  | lst _ => exact h3.elim
  | d d =>
    cases r1 with
    | int i =>
      cases tu with
      | lst _ => exact h3.elim
      | d d =>
        cases r2 with
        | int j =>
          cases tw with
          | lst _ => exact h3.elim
          | d d =>
            cases r3 with
            | int k =>
              obtain ⟨hc, h4⟩ := ite_sat h3
              rw [Bool.and_eq_true, Bool.and_eq_true, decide_eq_true_eq] at hc
              obtain ⟨⟨hc1, hc2⟩, rfl⟩ := hc
              obtain ⟨c1, c2⟩ := small_of hc1
              obtain ⟨c3, c4⟩ := small_of hc2
              exact ⟨i, j, -1, (i - j).toNat, rfl, RgC.neg c1 c2 c3 c4, h4 H3 f3 ((X1.trans X2).trans X3) S3 _ walk_rngC⟩
            | _ => exact h3.elim
        | _ => exact h3.elim
    | _ => exact h3.elim
theorem si_enum (ok : G.Ok) (hg : glC sc ("enumerate" : Str) = true) {es : List Expr} {kk : Nat} {tpos : Pos} (ha : SE G N sc a ea) (hs : noStar ea = true) : SI G N sc true (.Tuple es kk tpos) (.enum a) (.Call (.Name "enumerate" q) [ea] [] p) := fun W => by
  obtain ⟨ta, pa, sa⟩ := ha W
  refine ⟨(fun σ H R => tCons ta tNil σ H fun vs H1 => ∃ a, vs = [.ref a] ∧ ((∃ xs, SqL G.K H1 a xs ∧ R (Ite G.K a) H1) ∨ (∃ xs, SqT G.K H1 a xs ∧ R (IteT G.K a) H1))),
    fun X cx => by rw [← cx.K]; exact pi_enumA (gl_of cx hg) (mg_of ok cx (by decide +kernel)) (pa_cons (pa X cx) pa_nil (star_cons hs)) (star_one hs), fun σ H R f M env S E h => ?_⟩
  refine sa.bind S E h (fun _ _ _ z => z) fun tv M1 v H1 f1 X1 S1 R1 r1 h1 => ?_
  obtain ⟨s, hs2, h2⟩ := sat_opt (sat_bnd.mp h1)
  obtain ⟨l, rfl, r⟩ := src_at S1 hs2 r1
  obtain ⟨vs, hv⟩ := r.now S1
  have w := h2 H1 f1 X1 S1 _ (walk_enumA r)
  refine ⟨l, rfl, ?_⟩
  revert w hv
  generalize isTup tv = b
  intro hv w
  cases b with
  | true => exact .inr ⟨vs, hv, w⟩
  | false => exact .inl ⟨vs, hv, w⟩
theorem si_zip (ok : G.Ok) (hg : glC sc ("zip" : Str) = true) {es : List Expr} {kk : Nat} {tpos : Pos} (ha : SE G N sc a ea) (hs : noStar ea = true) (hb : SE G N sc b eb) (hs2 : noStar eb = true) : SI G N sc true (.Tuple es kk tpos) (.zip a b) (.Call (.Name "zip" q) [ea, eb] [] p) := fun W => by
  obtain ⟨ta, pa, sa⟩ := ha W
  obtain ⟨tb, pb, sb⟩ := hb W
  refine ⟨RZ.iZipA G.K (tCons ta (tCons tb tNil)), fun X cx => by rw [← cx.K]; exact RZ.pi_zipA (gl_of cx hg) (mg_of ok cx (by decide +kernel)) (pa_cons (pa X cx) (pa_cons (pb X cx) pa_nil (star_cons hs2)) (star_cons hs)) (star_cons hs) (by rw [star_one hs2]; rfl), fun σ H R f M env S E h => ?_⟩
  refine sa.bind S E h (fun _ _ _ z => z) fun tv M1 v H1 f1 X1 S1 R1 r1 h1 => ?_
  refine sb.bind S1 R1 h1 (fun _ _ _ z => oX.back X1 z) fun tu M2 u H2 f2 X2 S2 R2 r2 h2 => ?_
  obtain ⟨hk, h2⟩ := ite_sat h2
  have hk : isTup tv = isTup tu := by simpa using hk
  have h3 : sat (match srcOf M2 tv, srcOf M2 tu with
    | some s, some t => Res.ok (Src.zip s t) M2
    | _, _ => .bad) (fun s M' => ∀ H' f', Ext f f' H H' → Sim G.K H' f' M' → ∀ J, WalkOf G.K true s J f' H' → R J H') (oX G W σ f H) := h2
  cases e1 : srcOf M2 tv with
  | none => rw [e1] at h3; exact h3.elim
  | some s =>
    cases e2 : srcOf M2 tu with
    | none => rw [e1, e2] at h3; exact h3.elim
    | some t =>
      rw [e1, e2] at h3
      obtain ⟨l, rfl, r⟩ := src_at S2 e1 (r1.ext X2)
      obtain ⟨l2, rfl, r'⟩ := src_at S2 e2 r2
      rw [← hk] at r'
      obtain ⟨vs, hv⟩ := r.now S2
      obtain ⟨us, hu⟩ := r'.now S2
      have w := h3 H2 f2 (X1.trans X2) S2 _ (walk_zipA r r')
      refine ⟨l, l2, vs, us, rfl, ?_⟩
      revert w hv hu
      generalize isTup tv = b
      intro hv hu w
      cases b with
      | true => exact .inr ⟨hv, hu, w⟩
      | false => exact .inl ⟨hv, hu, w⟩
end
end Ev

set_option maxRecDepth 100000
set_option maxHeartbeats 2000000
namespace Ev
open PySem PySem.Spec PyProof.Rows L2
/-! ### slots forgotten -/
theorem wipe_at (σ : L2.St) : ∀ (vs : List Nat) (j : Nat), (wipe σ vs)[j]? = if j ∈ vs then σ[j]?.map (fun _ => none) else σ[j]?
  | [], j => by
    rw [if_neg (by simp)]
    rfl
  | v :: vs, j => by
    show ((wipe σ vs).set v none)[j]? = _
    rw [List.getElem?_set]
    by_cases h : v = j
    · subst h
      rw [if_pos rfl, if_pos List.mem_cons_self, wipe_length]
      by_cases hl : v < σ.length
      · rw [if_pos hl, List.getElem?_eq_getElem hl]
        rfl
      · rw [if_neg hl, List.getElem?_eq_none (by omega)]
        rfl
    · rw [if_neg h, wipe_at σ vs j]
      have e : (j ∈ v :: vs) = (j ∈ vs) := propext ⟨fun q => (List.mem_cons.mp q).elim (fun z => absurd z.symm h) id, List.mem_cons_of_mem _⟩
      simp only [e]
theorem wipe_set {σ : L2.St} {i : Nat} {o : Option V} {vs : List Nat} (h : i ∈ vs) : wipe (σ.set i o) vs = wipe σ vs := by
  apply List.ext_getElem?
  intro j
  rw [wipe_at, wipe_at]
  by_cases hj : j ∈ vs
  · rw [if_pos hj, if_pos hj]
    by_cases hl : j < σ.length
    · rw [List.getElem?_eq_getElem (show j < (σ.set i o).length by rw [List.length_set]; exact hl), List.getElem?_eq_getElem hl]
      rfl
    · rw [List.getElem?_eq_none (by rw [List.length_set]; omega), List.getElem?_eq_none (by omega)]
  · rw [if_neg hj, if_neg hj, List.getElem?_set_ne (show i ≠ j from fun z => hj (by rw [← z]; exact h))]
theorem wipe_twice {σ : L2.St} {vs : List Nat} : wipe (wipe σ vs) vs = wipe σ vs := by
  apply List.ext_getElem?
  intro j
  rw [wipe_at, wipe_at]
  by_cases hj : j ∈ vs
  · rw [if_pos hj, if_pos hj]
    cases σ[j]? <;> rfl
  · rw [if_neg hj, if_neg hj]
theorem wipeS_len : ∀ (vs : List Nat) (e : Sg), (wipeS e vs).length = e.length
  | [], _ => rfl
  | v :: vs, e => by
    show (wipeS (e.set v none) vs).length = _
    rw [wipeS_len vs, List.length_set]
theorem wipeS_some {d : D} {i : Nat} : ∀ {vs : List Nat} {e : Sg}, (wipeS e vs)[i]? = some (some d) → e[i]? = some (some d) ∧ i ∉ vs
  | [], _, h => ⟨h, by simp⟩
  | v :: vs, e, h => by
    obtain ⟨h1, h2⟩ := wipeS_some (vs := vs) (e := e.set v none) h
    have hne : v ≠ i := fun z => by
      subst z
      rw [List.getElem?_set] at h1
      split at h1
      · split at h1 <;> cases h1
      · contradiction
    rw [List.getElem?_set_ne hne] at h1
    exact ⟨h1, by simp only [List.mem_cons, not_or]; exact ⟨Ne.symm hne, h2⟩⟩
theorem EnvR.wipe {K : PySem.W.Frag} {H : Hp} {f : List Addr} {env : Sg} {σ : L2.St} (r : EnvR K H f env σ) (vs : List Nat) : EnvR K H f (wipeS env vs) (L2.wipe σ vs) := by
  refine ⟨by rw [wipeS_len, wipe_length, r.len], fun i d h => ?_⟩
  obtain ⟨h1, h2⟩ := wipeS_some h
  obtain ⟨v, h3, rv⟩ := r.val i d h1
  exact ⟨v, by rw [wipe_out h2]; exact h3, rv⟩
/-! ### targets -/
def setV (is : List Nat) (vs : List V) (σ : L2.St) : L2.St := (is.zip vs).foldl (fun σ p => σ.set p.1 (some p.2)) σ
theorem EnvR.all {K : PySem.W.Frag} {H : Hp} {f : List Addr} : ∀ {is : List Nat} {ds : List D} {vs : List V} {env : Sg} {σ : L2.St}, EnvR K H f env σ → RepL K H f ds vs → EnvR K H f (setAll is ds env) (setV is vs σ)
  | [], _, _, _, _, r, _ => r
  | i :: is, _, _, _, _, r, .nil => r
  | i :: is, _, _, _, _, r, .cons rd rs => EnvR.all (is := is) (r.set i rd) rs
theorem setV_wipe {ws : List Nat} : ∀ {is : List Nat} {vs : List V} {σ : L2.St}, (∀ i ∈ is, i ∈ ws) → wipe (setV is vs σ) ws = wipe σ ws
  | [], _, _, _ => rfl
  | i :: is, [], _, _ => rfl
  | i :: is, v :: vs, σ, h => by
    show wipe (setV is vs (σ.set i (some v))) ws = _
    rw [setV_wipe fun j hj => h j (List.mem_cons_of_mem _ hj), wipe_set (h i List.mem_cons_self)]
/-- a name that may be stored; fp: whose cells were made at the entry -/
def locC (sc : Scope) (fp : Str → Bool) (x : Str) : Bool := match sc.names.lookup x with
  | some .local => true
  | some .cell => fp x
  | _ => false
theorem loc_of {sc : Scope} {fp : Str → Bool} {x : Str} (h : locC sc fp x = true) : Loc sc x ∧ (fp x = true ∨ sc.names.lookup x = some .local) := by
  unfold locC at h
  split at h
  · rename_i e
    exact ⟨.inl e, .inr e⟩
  · rename_i e
    exact ⟨.inr e, .inl h⟩
  · cases h
inductive SN (N : List Str) (sc : Scope) (fp : Str → Bool) : List Nat → List Expr → Prop where
  | nil : SN N sc fp [] []
  | cons {i : Nat} {x : Str} {p : Pos} {is : List Nat} {es : List Expr} : N[i]? = some x → locC sc fp x = true → SN N sc fp is es → SN N sc fp (i :: is) (.Name x p :: es)
section
variable {G : Gd} {N : List Str} {sc : Scope} {W : WX} {is : List Nat} {es : List Expr} {fp : Str → Bool}
theorem pg_loc {X : Cx} {i : Nat} {x : Str} {p : Pos} (cx : Ctx G N sc W X) (hfp : ∀ x, fp x = true → X.fn x = true) (hN : N.Nodup) (h1 : N[i]? = some x) (h2 : locC sc fp x = true) : PG X (.Name x p) (gName i) := by
  obtain ⟨l, q⟩ := loc_of h2
  exact pg_name (by rw [cx.N]; exact hN) (by rw [cx.N]; exact h1) (by rw [cx.sc]; exact l) (q.imp (hfp x) fun z => by rw [cx.sc]; exact z)
theorem SN.len (h : SN N sc fp is es) : is.length = es.length := by
  induction h with
  | nil => rfl
  | cons _ _ _ ih => exact congrArg (· + 1) ih
theorem SN.each (h : SN N sc fp is es) (env : Env) : (assignEach es env).length = es.length ∧ (assignEach es env).findIdx? (·.1) = none := by
  induction h with
  | nil => exact ⟨rfl, rfl⟩
  | @cons i x p is es h1 h2 h3 ih =>
    refine ⟨?_, ?_⟩
    · show (assignEach es env).length + 1 = _
      rw [ih.1]
      rfl
    · show List.findIdx? (·.1) ((false, assign (.Name x p) env) :: assignEach es env) = none
      rw [List.findIdx?_cons, ih.2]
      rfl
theorem SN.pgs (hN : N.Nodup) (h : SN N sc fp is es) : ∃ g : TGs, (∀ W X, Ctx G N sc W X → (∀ x, fp x = true → X.fn x = true) → PGs X es g) ∧ ∀ (vs : List V) (σ : L2.St) (H : Hp) (Q : L2.St → Hp → Prop), vs.length = is.length → Q (setV is vs σ) H → g vs σ H Q := by
  induction h with
  | nil => exact ⟨gNil, fun W X _ _ => pgs_nil, fun vs σ H Q hl hq => ⟨List.length_eq_zero_iff.mp hl, by
      cases vs with
      | nil => exact hq
      | cons _ _ => cases hl⟩⟩
  | @cons i x p is es h1 h2 h3 ih =>
    obtain ⟨g, pg, sg⟩ := ih
    refine ⟨gCons (gName i) g, fun W X cx hf => pgs_cons (pg_loc cx hf hN h1 h2) (pg W X cx hf) rfl, fun vs σ H Q hl hq => ?_⟩
    cases vs with
    | nil => cases hl
    | cons v vs => exact ⟨v, vs, rfl, sg vs _ H Q (by simpa using hl) hq⟩
def mixIs : List (Nat ⊕ List Nat) → List Nat
  | [] => []
  | .inl i :: l => i :: mixIs l
  | .inr is :: l => is ++ mixIs l
def tgIs : Tg → List Nat
  | .name i => [i]
  | .tup is => is
  | .mix l => mixIs l
def isTup' : Tg → Bool
  | .name _ => false
  | .tup _ => true
  | .mix _ => true
/-- names and tuples of names -/
inductive SX (N : List Str) (sc : Scope) (fp : Str → Bool) : List (Nat ⊕ List Nat) → List Expr → Prop where
  | nil : SX N sc fp [] []
  | nm {i : Nat} {x : Str} {p : Pos} {l : List (Nat ⊕ List Nat)} {es : List Expr} : N[i]? = some x → locC sc fp x = true → SX N sc fp l es → SX N sc fp (.inl i :: l) (.Name x p :: es)
  | tp {is : List Nat} {ts : List Expr} {kk : Nat} {p : Pos} {l : List (Nat ⊕ List Nat)} {es : List Expr} : SN N sc fp is ts → SX N sc fp l es → SX N sc fp (.inr is :: l) (.Tuple ts kk p :: es)
theorem SX.each {l : List (Nat ⊕ List Nat)} (h : SX N sc fp l es) (env : Env) : (assignEach es env).length = es.length ∧ (assignEach es env).findIdx? (·.1) = none := by
  induction h with
  | nil => exact ⟨rfl, rfl⟩
  | @nm i x p l es h1 h2 h3 ih =>
    refine ⟨congrArg (· + 1) ih.1, ?_⟩
    show List.findIdx? (·.1) ((false, assign (.Name x p) env) :: assignEach es env) = none
    rw [List.findIdx?_cons, ih.2]
    rfl
  | @tp is ts kk p l es h1 h3 ih =>
    refine ⟨congrArg (· + 1) ih.1, ?_⟩
    show List.findIdx? (·.1) ((false, assign (.Tuple ts kk p) env) :: assignEach es env) = none
    rw [List.findIdx?_cons, ih.2]
    rfl
theorem SX.pgs {l : List (Nat ⊕ List Nat)} (hN : N.Nodup) (h : SX N sc fp l es) : ∃ g : TGs, (∀ W X, Ctx G N sc W X → (∀ x, fp x = true → X.fn x = true) → PGs X es g) ∧
    ∀ (ds : List D) (vs : List V) (σ : L2.St) (H : Hp) (Q : L2.St → Hp → Prop) (f : List Addr) (env env2 : Sg), EnvR G.K H f env σ → RepL G.K H f ds vs → putMix l ds env = some env2 →
      (∀ σ2, EnvR G.K H f env2 σ2 → (∀ ws, (∀ i ∈ mixIs l, i ∈ ws) → wipe σ2 ws = wipe σ ws) → Q σ2 H) → g vs σ H Q := by
  induction h with
  | nil =>
    refine ⟨gNil, fun W X _ _ => pgs_nil, fun ds vs σ H Q f env env2 R r hp hq => ?_⟩
    cases r with
    | nil =>
      obtain rfl : env = env2 := Option.some.inj hp
      exact ⟨rfl, hq σ R fun _ _ => rfl⟩
    | cons _ _ => cases hp
  | @nm i x p l es h1 h2 h3 ih =>
    obtain ⟨g, pg, sg⟩ := ih
    refine ⟨gCons (gName i) g, fun W X cx hf => pgs_cons (pg_loc cx hf hN h1 h2) (pg W X cx hf) rfl, fun ds vs σ H Q f env env2 R r hp hq => ?_⟩
    cases r with
    | nil => cases hp
    | @cons d v ds vs rd rs =>
      refine ⟨v, vs, rfl, ?_⟩
      show g vs (σ.set i (some v)) H Q
      refine sg ds vs _ H Q f _ env2 (R.set i rd) rs hp fun σ2 R2 hw => hq σ2 R2 fun ws hi => ?_
      rw [hw ws fun j hj => hi j (List.mem_cons_of_mem _ hj), wipe_set (hi i List.mem_cons_self)]
  | @tp is ts kk p l es h1 h3 ih =>
    obtain ⟨g, pg, sg⟩ := ih
    obtain ⟨g1, pg1, sg1⟩ := h1.pgs (G := G) hN
    refine ⟨gCons (gTup G.K ts.length g1) g, fun W X cx hf => pgs_cons (by rw [← cx.K]; exact pg_tup cx.calm (pg1 W X cx hf) (h1.each _).1 (h1.each _).2) (pg W X cx hf) rfl, fun ds vs σ H Q f env env2 R r hp hq => ?_⟩
    cases r with
    | nil => cases hp
    | @cons d v ds vs rd rs =>
      cases rd with
      | @tup T us es ht ru =>
        have hp : (if es.length = is.length then putMix l ds (setAll is es env) else none) = some env2 := hp
        by_cases hl : es.length = is.length
        · rw [if_pos hl] at hp
          have hv : us.length = is.length := by rw [← ru.length, hl]
          refine ⟨_, vs, rfl, T, us, rfl, ht.sq, by rw [hv, h1.len], sg1 us σ H _ hv ?_⟩
          show g vs (setV is us σ) H Q
          refine sg ds vs _ H Q f _ env2 (R.all ru) rs hp fun σ2 R2 hw => hq σ2 R2 fun ws hi => ?_
          rw [hw ws fun j hj => hi j (List.mem_append_right _ hj), setV_wipe fun j hj => hi j (List.mem_append_left _ hj)]
        · rw [if_neg hl] at hp
          cases hp
      | _ => cases hp
inductive SG (N : List Str) (sc : Scope) (fp : Str → Bool) : Tg → Expr → Prop where
  | name {i : Nat} {x : Str} {p : Pos} : N[i]? = some x → locC sc fp x = true → SG N sc fp (.name i) (.Name x p)
  | tup {is : List Nat} {es : List Expr} {kk : Nat} {p : Pos} : SN N sc fp is es → SG N sc fp (.tup is) (.Tuple es kk p)
  | mix {l : List (Nat ⊕ List Nat)} {es : List Expr} {kk : Nat} {p : Pos} : SX N sc fp l es → SG N sc fp (.mix l) (.Tuple es kk p)
theorem SG.pg {tg : Tg} {e : Expr} (hN : N.Nodup) (h : SG N sc fp tg e) : ∃ g : TG, (∀ W X, Ctx G N sc W X → (∀ x, fp x = true → X.fn x = true) → PG X e g) ∧
    ∀ (d : D) (x : V) (σ : L2.St) (H : Hp) (Q : L2.St → Hp → Prop) (f : List Addr) (env env2 : Sg), EnvR G.K H f env σ → ItemRep G.K H f (isTup' tg) d x → putTg tg d env = some env2 →
      (∀ σ2, EnvR G.K H f env2 σ2 → (∀ ws, (∀ i ∈ tgIs tg, i ∈ ws) → wipe σ2 ws = wipe σ ws) → Q σ2 H) → g x σ H Q := by
  cases h with
  | @name i y p h1 h2 =>
    refine ⟨gName i, fun W X cx hf => pg_loc cx hf hN h1 h2, fun d x σ H Q f env env2 R r hp hq => ?_⟩
    obtain rfl : env.set i (some d) = env2 := Option.some.inj hp
    rcases r with r | ⟨z, _⟩
    · exact hq _ (R.set i r) fun ws hw => wipe_set (hw i (by simp [tgIs]))
    · cases z
  | @tup is es kk p h1 =>
    obtain ⟨g, pg, sg⟩ := h1.pgs (G := G) hN
    refine ⟨gTup G.K es.length g, fun W X cx hf => by rw [← cx.K]; exact pg_tup cx.calm (pg W X cx hf) (h1.each _).1 (h1.each _).2, fun d x σ H Q f env env2 R r hp hq => ?_⟩
    have go : ∀ (T : Addr) (ds : List D) (vs : List V), d = .tup ds → x = .ref T → SqT G.K H T vs → RepL G.K H f ds vs → gTup G.K es.length g x σ H Q := by
      rintro T ds vs rfl rfl ht rs
      have hp : (if ds.length = is.length then some (setAll is ds env) else none) = some env2 := hp
      by_cases hl : ds.length = is.length
      · rw [if_pos hl] at hp
        obtain rfl : setAll is ds env = env2 := Option.some.inj hp
        have hv : vs.length = is.length := by rw [← rs.length, hl]
        exact ⟨T, vs, rfl, ht, by rw [hv, h1.len], sg vs σ H Q hv (hq _ (R.all rs) fun ws hw => setV_wipe hw)⟩
      · rw [if_neg hl] at hp
        cases hp
    rcases r with r | ⟨_, T, ds, vs, hd, hx, ht, rs⟩
    · cases r with
      | @tup T vs ds ht rs => exact go T ds vs rfl rfl ht.sq rs
      | _ => cases hp
    · exact go T ds vs hd hx ht rs
  | @mix l es kk p h1 =>
    obtain ⟨g, pg, sg⟩ := h1.pgs (G := G) hN
    refine ⟨gTup G.K es.length g, fun W X cx hf => by rw [← cx.K]; exact pg_tup cx.calm (pg W X cx hf) (h1.each _).1 (h1.each _).2, fun d x σ H Q f env env2 R r hp hq => ?_⟩
    have len : ∀ {l : List (Nat ⊕ List Nat)} {es : List Expr}, SX N sc fp l es → ∀ {ds : List D} {e1 e2 : Sg}, putMix l ds e1 = some e2 → ds.length = es.length := by
      intro l es h
      induction h with
      | nil => intro ds e1 e2 h; cases ds with
        | nil => rfl
        | cons _ _ => cases h
      | nm _ _ _ ih => intro ds e1 e2 h; cases ds with
        | nil => cases h
        | cons d ds => exact congrArg (· + 1) (ih h)
      | @tp is ts kk p l es _ _ ih => intro ds e1 e2 h; cases ds with
        | nil => cases h
        | cons d ds =>
          cases d with
          | tup us =>
            have h : (if us.length = is.length then putMix l ds (setAll is us e1) else none) = some e2 := h
            by_cases hl : us.length = is.length
            · rw [if_pos hl] at h
              exact congrArg (· + 1) (ih h)
            · rw [if_neg hl] at h
              cases h
          | _ => cases h
    have go : ∀ (T : Addr) (ds : List D) (vs : List V), d = .tup ds → x = .ref T → SqT G.K H T vs → RepL G.K H f ds vs → gTup G.K es.length g x σ H Q := by
      rintro T ds vs rfl rfl ht rs
      have hp : putMix l ds env = some env2 := hp
      exact ⟨T, vs, rfl, ht, by rw [← rs.length, len h1 hp], sg ds vs σ H Q f env env2 R rs hp hq⟩
    rcases r with r | ⟨_, T, ds, vs, hd, hx, ht, rs⟩
    · cases r with
      | @tup T vs ds ht rs => exact go T ds vs rfl rfl ht.sq rs
      | _ => cases hp
    · exact go T ds vs hd hx ht rs
/-! ### comprehensions -/
theorem sat_quiet {α : Type} {r : Res α} {P : α → MH → Prop} {E : Nat → D → MH → Prop} (h : sat r.quiet P E) : sat r P fun _ _ _ => False := by
  cases r with
  | ok a M => exact h
  | exc c d M => exact h
  | bad => exact h
abbrev noW : WX := fun _ _ _ _ => False
theorem no_oX {σ : L2.St} {f : List Addr} {H : Hp} : ∀ c d M, (fun (_ : Nat) (_ : D) (_ : MH) => False) c d M → oX G noW σ f H c d M := fun _ _ _ h => h.elim
/-- a clause's tests: none or one -/
theorem STs.pts {xs : Exs} (h : STs G N sc xs es) (hl : decide (es.length ≤ 1) = true) (W : WX) : ∃ t : TT, (∀ X, Ctx G N sc W X → PTs X es t) ∧ ∀ (σ : L2.St) (H : Hp) (Q : Bool → Hp → Prop) (f : List Addr) (M : MH) (env : Sg), Sim G.K H f M → EnvR G.K H f env σ →
    sat (evB G.C true xs env M) (okB G.K f H Q) (oX G W σ f H) → t σ H Q := by
  cases h with
  | nil => exact ⟨tYes, fun X _ => pts_nil, fun σ H Q f M env S R h => h H f Ext.refl S⟩
  | @cons x e xs es hx hr =>
    cases hr with
    | nil =>
      obtain ⟨t, pt, st⟩ := hx W
      refine ⟨t, fun X cx => pts_one (pt X cx), fun σ H Q f M env S R h => st σ H Q f M env S R (sat_mono (sat_bnd.mp h) (fun b M1 h1 H1 f1 X1 S1 => ?_) fun _ _ _ z => z)⟩
      cases b <;> exact h1 H1 f1 X1 S1
    | cons _ _ =>
      simp at hl
theorem blk_ctx {X : Cx} {s : Shared} {H : Hp} {scope : Scope} {C : Addr} {cl : List (Str × Addr)} {fp : List Addr} (cx : Ctx G N sc W X) : Ctx G N (relS scope sc) noW (X.blk s H scope (compEnvC scope cl C X.env) fp) where
  p := cx.p
  w := cx.w
  K := cx.K
  mg := cx.mg
  b := cx.b
  N := cx.N
  sc := by rw [← cx.sc]; rfl
  calm := cx.calm
  gs := cx.gs
  rm := cx.rm
  tk := takes0
/-- a list that nobody of the store holds changes -/
theorem side_grow {K : PySem.W.Frag} {H : Hp} {f : List Addr} {a : Addr} {vs us : List V} (h : H a = some (.lst vs)) : Grow f f H (upd H a (.lst us)) :=
  ⟨List.prefix_rfl, fun b o u e => by rw [upd_ne (ne_of e h (fun z => by cases z))]; exact e⟩
theorem Sim.side {K : PySem.W.Frag} {H : Hp} {f : List Addr} {M : MH} {a : Addr} {vs us : List V} (S : Sim K H f M) (h : H a = some (.lst vs)) (hn : a ∉ f) : Sim K (upd H a (.lst us)) f M := by
  refine ⟨S.len, S.nd, fun n o ho => ?_⟩
  obtain ⟨b, hb, r⟩ := S.obj n o ho
  have hne : b ≠ a := fun z => hn (z ▸ List.mem_of_getElem? hb)
  refine ⟨b, hb, ?_⟩
  cases o with
  | lst ds =>
    obtain ⟨ws, h1, rs⟩ := r
    exact ⟨ws, by rw [upd_ne hne]; exact h1, rs.grow (side_grow (K := K) h)⟩
theorem lc_snd {own : List Nat} {elt : Ex} {tg : Tg} {it : It} {ifs : Exs} {wi : TI} {g : TG} {tt : TT} {te : TE} (hin : ∀ i ∈ tgIs tg, i ∈ own)
    (swi : ∀ (σ : L2.St) (H : Hp) (R : L2.It → Hp → Prop) (f : List Addr) (M : MH) (env : Sg), Sim G.K H f M → EnvR G.K H f env σ → sat (evI G.C it env M) (fun s M' => ∀ H' f', Ext f f' H H' → Sim G.K H' f' M' → ∀ J, WalkOf G.K (isTup' tg) s J f' H' → R J H') (oX G W σ f H) → wi σ H R)
    (sg : ∀ (d : D) (x : V) (σ : L2.St) (H : Hp) (Q : L2.St → Hp → Prop) (f : List Addr) (env env2 : Sg), EnvR G.K H f env σ → ItemRep G.K H f (isTup' tg) d x → putTg tg d env = some env2 →
      (∀ σ2, EnvR G.K H f env2 σ2 → (∀ ws, (∀ i ∈ tgIs tg, i ∈ ws) → wipe σ2 ws = wipe σ ws) → Q σ2 H) → g x σ H Q)
    (stt : ∀ (σ : L2.St) (H : Hp) (Q : Bool → Hp → Prop) (f : List Addr) (M : MH) (env : Sg), Sim G.K H f M → EnvR G.K H f env σ → sat (evB G.C true ifs env M) (okB G.K f H Q) (oX G noW σ f H) → tt σ H Q)
    (ste : Snd G noW elt te) : Snd G W (.comp own elt tg it ifs) (tLc wi g tt te own) := fun σ H Q f M env S E h => by
  refine swi σ H _ f M env S E (sat_mono (sat_bnd.mp h) (fun s M1 h1 H1 f1 X1 S1 J w => ?_) fun _ _ _ z => z)
  cases hc : s.cur M1 with
  | none =>
    have h2 : sat (match s.cur M1 with
      | some ds => (compL s ds.length _ ds.length 0 [] M1).bnd fun xs M => Res.ok (TV.lst xs) M
      | none => .bad) (okT G.K f H Q) (oX G W σ f H) := h1
    rw [hc] at h2
    exact h2.elim
  | some ds =>
    obtain ⟨step, hstep⟩ : ∃ step, step = fun (d : D) (M : MH) => match putTg tg d (wipeS env own) with
        | some σ => (evB G.C true ifs σ M).quiet.bnd fun b M => if b = true then (matR (ev G.C elt σ M)).quiet.bnd fun x M => .ok (some x) M else .ok none M
        | none => Res.bad := ⟨_, rfl⟩
    have h2 : sat (match s.cur M1 with
      | some ds => (compL s ds.length step ds.length 0 [] M1).bnd fun xs M => Res.ok (TV.lst xs) M
      | none => .bad) (okT G.K f H Q) (oX G W σ f H) := by
      rw [hstep]
      exact h1
    rw [hc] at h2
    have h3 : sat (compL s ds.length step ds.length 0 [] M1) (fun xs M2 => okT G.K f H Q (.lst xs) M2) (oX G W σ f H) := sat_bnd.mp h2
    clear h1 h2
    intro D hD
    generalize hn : ds.length = n at h3
    have hH : H D = none := S1.before X1 hD
    refine ⟨fun i m Hc => m + i = n ∧ ∃ f2 M2 acc vs, Ext f1 f2 H1 Hc ∧ Sim G.K Hc f2 M2 ∧ D ∉ f2 ∧ Hc D = some (.lst vs) ∧ RepL G.K Hc f2 acc vs ∧ sat (compL s n step m i acc M2) (fun xs M2 => okT G.K f H Q (.lst xs) M2) (oX G W σ f H), ⟨n, rfl, f1, M1, [], [], Ext.fresh hD, S1.fresh hD, S1.out hD, upd_same, .nil, h3⟩, ?_⟩
    clear h3
    rintro i m Hc ⟨hmi, f2, M2, acc, vs, X2, S2, nD, eD, rs, h4⟩
    cases hc2 : s.cur M2 with
    | none =>
      exfalso
      cases m with
      | zero =>
        have h5 : sat (match s.cur M2 with
          | some ds => if ds.length = n then Res.ok acc M2 else .bad
          | none => .bad) (fun xs M2 => okT G.K f H Q (.lst xs) M2) (oX G W σ f H) := h4
        rw [hc2] at h5
        exact h5
      | succ m =>
        have h5 : sat (match s.cur M2 with
          | some ds => if ds.length = n then match ds[i]? with
              | some d => (step d M2).bnd fun r M => match r with
                | some x => if acc.length < sizeLine then compL s n step m (i + 1) (acc ++ [x]) M else .bad
                | none => compL s n step m (i + 1) acc M
              | none => .bad
            else .bad
          | none => .bad) (fun xs M2 => okT G.K f H Q (.lst xs) M2) (oX G W σ f H) := h4
        rw [hc2] at h5
        exact h5
    | some es =>
      obtain ⟨w1, w2, w3⟩ := w Hc f2 M2 X2 S2 es hc2
      cases m with
      | zero =>
        have h5 : sat (match s.cur M2 with
          | some ds => if ds.length = n then Res.ok acc M2 else .bad
          | none => .bad) (fun xs M2 => okT G.K f H Q (.lst xs) M2) (oX G W σ f H) := h4
        rw [hc2] at h5
        have h5 : sat (if es.length = n then Res.ok acc M2 else .bad) (fun xs M2 => okT G.K f H Q (.lst xs) M2) (oX G W σ f H) := h5
        by_cases hl : es.length = n
        · rw [if_pos hl] at h5
          have hi : i = es.length := by omega
          exact .inl ⟨by rw [hi]; exact w2, h5 (.ref D) Hc f2 (X1.trans X2) S2 ⟨D, vs, rfl, eD, nD, hH, rs⟩⟩
        · rw [if_neg hl] at h5
          exact h5.elim
      | succ m =>
        have h5 : sat (match s.cur M2 with
          | some ds => if ds.length = n then match ds[i]? with
              | some d => (step d M2).bnd fun r M => match r with
                | some x => if acc.length < sizeLine then compL s n step m (i + 1) (acc ++ [x]) M else .bad
                | none => compL s n step m (i + 1) acc M
              | none => .bad
            else .bad
          | none => .bad) (fun xs M2 => okT G.K f H Q (.lst xs) M2) (oX G W σ f H) := h4
        rw [hc2] at h5
        have h5 : sat (if es.length = n then match es[i]? with
              | some d => (step d M2).bnd fun r M => match r with
                | some x => if acc.length < sizeLine then compL s n step m (i + 1) (acc ++ [x]) M else .bad
                | none => compL s n step m (i + 1) acc M
              | none => .bad
            else .bad) (fun xs M2 => okT G.K f H Q (.lst xs) M2) (oX G W σ f H) := h5
        by_cases hl : es.length = n
        · rw [if_pos hl] at h5
          have hi : i < es.length := by omega
          refine .inr ⟨w1 i hi, fun H' => m + (i + 1) = n ∧ ∃ f2 M2 acc vs, Ext f1 f2 H1 H' ∧ Sim G.K H' f2 M2 ∧ D ∉ f2 ∧ H' D = some (.lst vs) ∧ RepL G.K H' f2 acc vs ∧ sat (compL s n step m (i + 1) acc M2) (fun xs M2 => okT G.K f H Q (.lst xs) M2) (oX G W σ f H),
            fun H' q => ⟨m, Nat.lt_succ_self _, q⟩, fun x H' hy => ?_⟩
          obtain ⟨d, hd, X3, S3, ri⟩ := w3 i x H' hi hy
          rw [hd] at h5
          have h6 : sat ((step d M2).bnd fun r M => match r with
            | some x => if acc.length < sizeLine then compL s n step m (i + 1) (acc ++ [x]) M else .bad
            | none => compL s n step m (i + 1) acc M) (fun xs M2 => okT G.K f H Q (.lst xs) M2) (oX G W σ f H) := h5
          clear h4 h5
          have h6 := sat_bnd.mp h6
          rw [hstep] at h6
          cases hp : putTg tg d (wipeS env own) with
          | none =>
            have h7 : sat (match putTg tg d (wipeS env own) with
              | some σ => (evB G.C true ifs σ M2).quiet.bnd fun b M => if b = true then (matR (ev G.C elt σ M)).quiet.bnd fun x M => .ok (some x) M else .ok none M
              | none => Res.bad) _ _ := h6
            rw [hp] at h7
            exact h7.elim
          | some env2 =>
            have h7 : sat (match putTg tg d (wipeS env own) with
              | some σ => (evB G.C true ifs σ M2).quiet.bnd fun b M => if b = true then (matR (ev G.C elt σ M)).quiet.bnd fun x M => .ok (some x) M else .ok none M
              | none => Res.bad) _ _ := h6
            rw [hp] at h7
            have h7 := sat_quiet (sat_bnd.mp h7)
            have EW : EnvR G.K H' f2 (wipeS env own) (wipe σ own) := ((((E.ext X1).ext X2).ext X3).wipe own)
            refine sg d x (wipe σ own) H' _ f2 _ env2 EW ri hp fun σ2 R2 hw => ⟨by rw [hw own hin, wipe_twice], ?_⟩
            have eD' : H' D = some (.lst vs) := X3.keep _ _ eD nD
            refine stt σ2 H' _ f2 M2 env2 S3 R2 (sat_mono h7 (fun b M3 h8 H3 f3 X4 S4 => ?_) fun _ _ _ z => z.elim)
            have X24 : Ext f2 f3 Hc H3 := X3.trans X4
            cases b with
            | false =>
              have h8 : sat (compL s n step m (i + 1) acc M3) (fun xs M2 => okT G.K f H Q (.lst xs) M2) (oX G W σ f H) := by
                rw [hstep]
                exact h8
              exact ⟨by omega, f3, M3, acc, vs, X2.trans X24, S4, X24.out eD nD, X24.keep _ _ eD nD, rs.ext X24, h8⟩
            | true =>
              have h9 := sat_quiet (sat_bnd.mp h8)
              have eD3 : H3 D = some (.lst vs) := X24.keep _ _ eD nD
              have nD3 : D ∉ f3 := X24.out eD nD
              refine ste.bindM (k := fun x M => Res.ok x M) S4 (R2.ext X4) (sat_bnd.mpr (sat_mono h9 (fun _ _ z => z) fun _ _ _ z => z)) no_oX fun y M4 v H4 f4 X5 S5 R5 r5 h10 => ?_
              have eD4 : H4 D = some (.lst vs) := X5.keep _ _ eD3 nD3
              have nD4 : D ∉ f4 := X5.out eD3 nD3
              have h11 : sat (if acc.length < sizeLine then compL s n step m (i + 1) (acc ++ [y]) M4 else .bad) (fun xs M2 => okT G.K f H Q (.lst xs) M2) (oX G W σ f H) := by
                rw [hstep]
                exact h10
              by_cases hz : acc.length < sizeLine
              · rw [if_pos hz] at h11
                have X14 : Ext f1 f4 H1 H4 := X2.trans (X24.trans X5)
                have gr : Grow f4 f4 H4 (upd H4 D (.lst (vs ++ [v]))) := side_grow (K := G.K) eD4
                refine ⟨vs, eD4, by rw [← rs.length]; exact hz, by omega, f4, M4, acc ++ [y], vs ++ [v], ⟨X14.pre, fun a o ha na => ?_, X14.new, fun a o u ha => ?_⟩, S5.side eD4 nD4, nD4, upd_same, ?_, h11⟩
                · rw [upd_ne (ne_of_none ha hD)]
                  exact X14.keep a o ha na
                · rw [upd_ne (ne_of_none ha hD)]
                  exact X14.frz a o u ha
                · exact ((rs.ext (X24.trans X5)).append (.cons r5 .nil)).grow gr
              · rw [if_neg hz] at h11
                exact h11.elim
        · rw [if_neg hl] at h5
          exact h5.elim
theorem se_comp {own : List Nat} {own' : List (Str × Nat)} {elt : Ex} {tg : Tg} {it : It} {ifs : Exs} {ee te ie : Expr} {ifsE : List Expr} {scope : Scope} {p : Pos} (hN : N.Nodup) (ho : own'.map (·.2) = own) (hb : blkC N sc scope own' = true) (hin : ∀ i ∈ tgIs tg, i ∈ own)
    (hi : SI G N sc (isTup' tg) te it ie) (hs : noSet ie = true) (hg : SG N (relS scope sc) (fun x => scope.names.lookup x == some .cell) tg te) (ht : STs G N (relS scope sc) ifs ifsE) (hl : decide (ifsE.length ≤ 1) = true) (he : SE G N (relS scope sc) elt ee) :
    SE G N sc (.comp own elt tg it ifs) (.ListComp ee [⟨te, ie, ifsE, 0⟩] scope p) := fun W => by
  obtain ⟨wi, pi, si⟩ := hi W
  obtain ⟨g, pg, sg⟩ := hg.pg (G := G) hN
  obtain ⟨tt, pt, st⟩ := ht.pts hl noW
  obtain ⟨t, pe, se⟩ := he noW
  refine ⟨tLc wi g tt t own, fun X cx => ?_, lc_snd hin si sg st se⟩
  rw [← ho]
  exact pe_lc cx.calm (by rw [cx.N]; exact hN) (pi X cx) (by rw [cx.N, cx.sc]; exact blkOk_by hb) (fun s H C cl fp => pg noW _ (blk_ctx cx) fun _ h => h) (fun s H C cl fp => pt _ (blk_ctx cx)) (fun s H C cl fp => pe _ (blk_ctx cx)) fun x => noSet_fold hs
/-- its parts, for a statement that stores it at once -/
theorem lc_parts {own : List Nat} {own' : List (Str × Nat)} {elt : Ex} {tg : Tg} {it : It} {ifs : Exs} {ee te ie : Expr} {ifsE : List Expr} {scope : Scope} {p ps py : Pos} {i : Nat} {y : Str} (hN : N.Nodup) (hy : N[i]? = some y) (hyl : sc.names.lookup y = some .local) (hk : sc.kind = .function) (hline : (py.line == p.line) = true)
    (hany : (scope.names.any fun (n, k) => n == y && (k == .local || k == .cell)) = false) (ho : own'.map (·.2) = own) (hb : blkC N sc scope own' = true) (hin : ∀ i ∈ tgIs tg, i ∈ own)
    (hi : SI G N sc (isTup' tg) te it ie) (hs : noSet ie = true) (hg : SG N (relS scope sc) (fun x => scope.names.lookup x == some .cell) tg te) (ht : STs G N (relS scope sc) ifs ifsE) (hl : decide (ifsE.length ≤ 1) = true) (he : SE G N (relS scope sc) elt ee) (W : WX) :
    ∃ t : TE, (∀ X, Ctx G N sc W X → PS X (.Assign [.Name y py] (.ListComp ee [⟨te, ie, ifsE, 0⟩] scope p) ps) (tAsg t (gName i))) ∧ Snd G W (.comp own elt tg it ifs) t := by
  obtain ⟨wi, pi, si⟩ := hi W
  obtain ⟨g, pg, sg⟩ := hg.pg (G := G) hN
  obtain ⟨tt, pt, st⟩ := ht.pts hl noW
  obtain ⟨t, pe, se⟩ := he noW
  refine ⟨tLc wi g tt t own, fun X cx => ?_, lc_snd hin si sg st se⟩
  rw [← ho]
  have hyl' : X.env.scope.names.lookup y = some .local := by rw [cx.sc]; exact hyl
  exact ps_setLc cx.calm (by rw [cx.N]; exact hN) (by rw [cx.N]; exact hy) hyl' (sw_true (by rw [cx.sc]; exact hk) hyl' hline hany) (pi X cx) (by rw [cx.N, cx.sc]; exact blkOk_by hb) (fun s H C cl fp => pg noW _ (blk_ctx cx) fun _ h => h) (fun s H C cl fp => pt _ (blk_ctx cx)) (fun s H C cl fp => pe _ (blk_ctx cx)) fun x => noSet_fold hs
end
end Ev

set_option maxRecDepth 100000
set_option maxHeartbeats 2000000
namespace Ev
open PySem PySem.Spec PyProof.Rows L2
/-! ### statements -/
/-- in a def's body -/
structure CtxD (G : Gd) (N : List Str) (sc : Scope) (W : WX) (X : Cx) : Prop extends Ctx G N sc W X where
  fn : ∀ x, X.fn x = true
  po : PassesOwn (model X.prog X.w) X.A X.env X.xe
def flK (K : PySem.W.Frag) (D : Ends) (H : Hp) (f : List Addr) : Fl → Prop
  | .nx env => ∀ σ, EnvR K H f env σ → D.nx σ H
  | .bk env => ∀ σ, EnvR K H f env σ → D.bk σ H
  | .ct env => ∀ σ, EnvR K H f env σ → D.ct σ H
  | .rt d => ∀ v, Rep K H f d v → D.rt v H
def okF (K : PySem.W.Frag) (f : List Addr) (H : Hp) (D : Ends) : Fl → MH → Prop := fun fl M' => ∀ H' f', Ext f f' H H' → Sim K H' f' M' → flK K D H' f' fl
def sX (G : Gd) (W : WX) (f : List Addr) (H : Hp) : Nat → D → MH → Prop := fun c d M => ∀ σ, oX G W σ f H c d M
theorem sX.back {G : Gd} {W : WX} {f f1 : List Addr} {H H1 : Hp} {c : Nat} {d : D} {M : MH} (x : Ext f f1 H H1) (h : sX G W f H c d M) : sX G W f1 H1 c d M := fun σ => oX.back x (h σ)
theorem okF.back {K : PySem.W.Frag} {f f1 : List Addr} {H H1 : Hp} {E : Ends} {fl : Fl} {M : MH} (x : Ext f f1 H H1) (h : okF K f H E fl M) : okF K f1 H1 E fl M := fun H2 f2 y S => h H2 f2 (x.trans y) S
def SndS (G : Gd) (W : WX) (s : Stm) (t : TS) : Prop := ∀ (E : Ends) (σ : L2.St) (H : Hp) (f : List Addr) (M : MH) (env : Sg), Sim G.K H f M → EnvR G.K H f env σ → sat (ex G.C s env M) (okF G.K f H E) (sX G W f H) → t E σ H
def SndB (G : Gd) (W : WX) (s : Stms) (t : TS) : Prop := ∀ (E : Ends) (σ : L2.St) (H : Hp) (f : List Addr) (M : MH) (env : Sg), Sim G.K H f M → EnvR G.K H f env σ → sat (exs G.C s env M) (okF G.K f H E) (sX G W f H) → t E σ H
def SS (G : Gd) (N : List Str) (sc : Scope) (s : Stm) (st : Stmt) : Prop := ∀ W : WX, ∃ t : TS, (∀ X, CtxD G N sc W X → PS X st t) ∧ SndS G W s t
def SB (G : Gd) (N : List Str) (sc : Scope) (s : Stms) (st : List Stmt) : Prop := ∀ W : WX, ∃ t : TS, (∀ X, CtxD G N sc W X → PSs X st t) ∧ SndB G W s t
def noComp : Expr → Bool
  | .ListComp _ _ _ _ => false
  | .SetComp _ _ _ _ => false
  | .DictComp _ _ _ _ _ => false
  | _ => true
theorem noComp_of {e : Expr} {t : Option Expr} {l : Nat} {env : Env} (h : noComp e = true) : swapsWith e t l env = pure false := by
  cases e <;> first | rfl | exact absurd (show false = true from h) (by decide)
def noTup : Expr → Bool
  | .Tuple _ _ _ => false
  | _ => true
section
variable {G : Gd} {N : List Str} {sc : Scope} {W : WX} {x a b c : Ex} {e ea eb ec : Expr} {p q : Pos} {i : Nat} {y : Str}
abbrev yes : Str → Bool := fun _ => true
/-- a term's end within a statement -/
theorem Snd.st {α : Type} {t : TE} {σ : L2.St} {H : Hp} {Q : VK} {f : List Addr} {M : MH} {env : Sg} {k : D → MH → Res α} {P : α → MH → Prop} (hx : Snd G W x t) (S : Sim G.K H f M) (R : EnvR G.K H f env σ) (h : sat ((matR (ev G.C x env M)).bnd k) P (sX G W f H))
    (next : ∀ d M1 v H1 f1, Ext f f1 H H1 → Sim G.K H1 f1 M1 → EnvR G.K H1 f1 env σ → Rep G.K H1 f1 d v → sat (k d M1) P (sX G W f H) → Q v H1) : t σ H Q := hx.bindM S R h (fun _ _ _ z => z σ) next
theorem set_snd {t : TE} (se : Snd G W x t) : SndS G W (.set i x) (tAsg t (gName i)) := fun E σ H f M env S R h =>
  se.st S R h fun d M1 v H1 f1 X1 S1 R1 r1 h1 => h1 H1 f1 X1 S1 _ (R1.set i r1)
theorem ss_set (hN : N.Nodup) (h1 : N[i]? = some y) (h2 : locC sc yes y = true) (he : SE G N sc x e) (hc : noComp e = true) : SS G N sc (.set i x) (.Assign [.Name y q] e p) := fun W => by
  obtain ⟨t, pe, se⟩ := he W
  obtain ⟨l, hq⟩ := loc_of h2
  exact ⟨tAsg t (gName i), fun X cx => ps_set (by rw [cx.N]; exact hN) (by rw [cx.N]; exact h1) (by rw [cx.sc]; exact l) (pe X cx.toCtx) (noComp_of hc) (.inl (cx.fn y)), set_snd se⟩
/-- a comprehension that is stored into a cell -/
theorem ss_setCell {ee : Expr} {gs : List Comprehension} {scope : Scope} {pc : Pos} (hN : N.Nodup) (h1 : N[i]? = some y) (h2 : sc.names.lookup y = some .cell) (he : SE G N sc x (.ListComp ee gs scope pc)) : SS G N sc (.set i x) (.Assign [.Name y q] (.ListComp ee gs scope pc) p) := fun W => by
  obtain ⟨t, pe, se⟩ := he W
  refine ⟨tAsg t (gName i), fun X cx => ps_set (by rw [cx.N]; exact hN) (by rw [cx.N]; exact h1) (.inr (by rw [cx.sc]; exact h2)) (pe X cx.toCtx) ?_ (.inl (cx.fn y)), set_snd se⟩
  have k : X.env.kindOf y = some .cell := by
    unfold Env.kindOf
    rw [cx.sc]
    exact h2
  have z : (NameKind.cell == NameKind.local) = false := rfl
  unfold swapsWith
  simp [k, z]
def noSlice : Expr → Bool
  | .Slice _ _ _ _ => false
  | _ => true
theorem ss_put (hns : noSlice eb = true) (ha : SE G N sc a ea) (hb : SE G N sc b eb) (hc : SE G N sc c ec) {tp : Pos} : SS G N sc (.put a b c) (.Assign [.Subscript ea eb tp] ec p) := fun W => by
  obtain ⟨ta, pa, sa⟩ := ha W
  obtain ⟨tb, pb, sb⟩ := hb W
  obtain ⟨tc, pc, sc'⟩ := hc W
  refine ⟨tAsg tc (gSub ta tb rSetL), fun X cx => ps_asg (pc X cx.toCtx) (pg_sub (pa X cx.toCtx) (pb X cx.toCtx) set_list (by intro v; cases eb <;> first | rfl | exact absurd (show false = true from hns) (by decide))) (by cases ec <;> rfl) (by cases ec <;> rfl), fun E σ H f M env S R h => ?_⟩
  refine sc'.st S R h fun d M1 v H1 f1 X1 S1 R1 r1 h1 => ?_
  refine sa.bind S1 R1 h1 (fun _ _ _ z => oX.back X1 (z σ)) fun tv M2 u H2 f2 X2 S2 R2 r2 h2 => ?_
  refine sb.bind S2 R2 h2 (fun _ _ _ z => oX.back (X1.trans X2) (z σ)) fun tw M3 w H3 f3 X3 S3 R3 r3 h3 => ?_
  have r23 := r2.ext X3
  have r13 := (r1.ext X2).ext X3
  cases tv with
  | lst _ => cases tw <;> exact h3.elim
  | d dv =>
    cases tw with
    | lst _ => cases r23 <;> exact h3.elim
    | d dw =>
      cases r23 with
      | @ref n l hn =>
        cases r3 with
        | int k =>
          have h4 : sat (match M3[n]? with
            | some (.lst ds) => match L2.ixN ds.length k with
              | some j => Res.ok (Fl.nx env) (M3.set n (.lst (ds.set j d)))
              | none => .bad
            | _ => .bad) (okF G.K f H E) (sX G W f H) := h3
          cases e1 : M3[n]? with
          | none => rw [e1] at h4; exact h4.elim
          | some o =>
            cases o with
            | lst ds =>
              rw [e1] at h4
              have h4 : sat (match L2.ixN ds.length k with
                | some j => Res.ok (Fl.nx env) (M3.set n (.lst (ds.set j d)))
                | none => .bad) (okF G.K f H E) (sX G W f H) := h4
              cases e2 : L2.ixN ds.length k with
              | none => rw [e2] at h4; exact h4.elim
              | some j =>
                rw [e2] at h4
                obtain ⟨vs, e3, rs⟩ := S3.at e1 hn
                have hm : l ∈ f3 := List.mem_of_getElem? hn
                have XW := Ext.write (ys := vs.set j v) e3 hm
                refine ⟨l, vs, k, j, rfl, rfl, e3, by rw [← rs.length]; exact e2, ?_⟩
                exact h4 _ f3 (((X1.trans X2).trans X3).trans XW) (S3.write e1 hn e3 (RepL.set r13 j rs)) σ (R3.ext XW)
        | _ => exact h3.elim
      | _ => cases r3 <;> exact h3.elim
theorem ss_expr (he : SE G N sc x e) (hc : noComp e = true) : SS G N sc (.expr x) (.Expr e p) := fun W => by
  obtain ⟨t, pe, se⟩ := he W
  refine ⟨tDrop t, fun X cx => ps_expr (pe X cx.toCtx) (noComp_of hc), fun E σ H f M env S R h => ?_⟩
  exact se.bind S R h (fun _ _ _ z => z σ) fun tv M1 v H1 f1 X1 S1 R1 r1 h1 => h1 H1 f1 X1 S1 σ R1
theorem ss_ret (he : SE G N sc x e) : SS G N sc (.ret x) (.Return (some e) p) := fun W => by
  obtain ⟨t, pe, se⟩ := he W
  exact ⟨tRet t, fun X cx => ps_ret (pe X cx.toCtx), fun E σ H f M env S R h => se.st S R h fun d M1 v H1 f1 X1 S1 R1 r1 h1 => h1 H1 f1 X1 S1 v r1⟩
theorem ss_retN : SS G N sc (.ret (.lit .non)) (.Return none p) := fun W =>
  ⟨tRetN, fun X cx => ps_retN, fun E σ H f M env S R h => h H f Ext.refl S .non .non⟩
theorem ss_if {A B : Stms} {sa sb : List Stmt} (hc : ST G N sc c ec) (ha : SB G N sc A sa) (hb : SB G N sc B sb) : SS G N sc (.iff c A B) (.If ec sa sb p) := fun W => by
  obtain ⟨tc, pc, sc'⟩ := hc W
  obtain ⟨ta, pa, qa⟩ := ha W
  obtain ⟨tb, pb, qb⟩ := hb W
  refine ⟨tIfS tc ta tb, fun X cx => ps_if (pc X cx.toCtx) (pa X cx) (pb X cx), fun E σ H f M env S R h => ?_⟩
  refine sc' σ H (fun b H1 => if b = true then ta E σ H1 else tb E σ H1) f M env S R (sat_mono (sat_bnd.mp h) (fun k M1 h1 H1 f1 X1 S1 => ?_) fun _ _ _ z => z σ)
  cases k with
  | true => exact qa E σ H1 f1 M1 env S1 (R.ext X1) (sat_mono h1 (fun _ _ z => okF.back X1 z) fun _ _ _ z => sX.back X1 z)
  | false => exact qb E σ H1 f1 M1 env S1 (R.ext X1) (sat_mono h1 (fun _ _ z => okF.back X1 z) fun _ _ _ z => sX.back X1 z)
theorem sb_nil : SB G N sc .nil [] := fun W => ⟨tNext, fun X cx => pss_nil, fun E σ H f M env S R h => h H f Ext.refl S σ R⟩
theorem sb_cons {s : Stm} {ss : Stms} {st : Stmt} {sts : List Stmt} (h1 : SS G N sc s st) (h2 : SB G N sc ss sts) : SB G N sc (.cons s ss) (st :: sts) := fun W => by
  obtain ⟨t, pt, qt⟩ := h1 W
  obtain ⟨u, pu, qu⟩ := h2 W
  refine ⟨tSeq t u, fun X cx => pss_cons (pt X cx) (pu X cx), fun E σ H f M env S R h => ?_⟩
  refine qt { E with nx := u E } σ H f M env S R (sat_mono (sat_bnd.mp h) (fun fl M1 h3 H1 f1 X1 S1 => ?_) fun _ _ _ z => z)
  cases fl with
  | nx env1 => exact fun σ1 R1 => qu E σ1 H1 f1 M1 env1 S1 R1 (sat_mono h3 (fun _ _ z => okF.back X1 z) fun _ _ _ z => sX.back X1 z)
  | bk env1 => exact h3 H1 f1 X1 S1
  | ct env1 => exact h3 H1 f1 X1 S1
  | rt d => exact h3 H1 f1 X1 S1
/-- (a, b, ..) = e -/
theorem ss_unp {is : List Nat} {es : List Expr} {kk : Nat} {tp : Pos} (hN : N.Nodup) (he : SE G N sc x e) (hg : SN N sc yes is es) (ht : noTup e = true) : SS G N sc (.unp is x) (.Assign [.Tuple es kk tp] e p) := fun W => by
  obtain ⟨t, pe, se⟩ := he W
  obtain ⟨g, pg, sg⟩ := (SG.tup (kk := kk) (p := tp) hg).pg (G := G) hN
  refine ⟨tAsg t g, fun X cx => ps_asg (pe X cx.toCtx) (pg W X cx.toCtx fun x _ => cx.fn x) (by cases e <;> rfl) ?_, fun E σ H f M env S R h => ?_⟩
  · cases e <;> first | rfl | exact absurd (show false = true from ht) (by decide)
  · refine se.bind S R h (fun _ _ _ z => z σ) fun tv M1 v H1 f1 X1 S1 R1 r1 h1 => ?_
    cases tv with
    | lst _ => exact h1.elim
    | d d =>
      have r1 : Rep G.K H1 f1 d v := r1
      cases d with
      | tup ds =>
        have h2 : sat (if ds.length = is.length then Res.ok (Fl.nx (setAll is ds env)) M1 else .bad) (okF G.K f H E) (sX G W f H) := h1
        by_cases hl : ds.length = is.length
        · rw [if_pos hl] at h2
          refine sg (.tup ds) v σ H1 _ f1 env (setAll is ds env) R1 (.inl r1) ?_ fun σ2 R2 _ => h2 H1 f1 X1 S1 σ2 R2
          show (if ds.length = is.length then some (setAll is ds env) else none) = _
          rw [if_pos hl]
        · rw [if_neg hl] at h2
          exact h2.elim
      | _ => exact h1.elim
/-! ### a, b = x, y -/
def stE : Expr → Bool
  | .Starred .. => true
  | _ => false
def nmE (sc : Scope) (l : Nat) : Expr → Option Str
  | .Name id pos => if (decide (sc.names.lookup id = some .local) && pos.line == l) = true then some id else none
  | _ => none
/-- which stores are exchanged, by the text alone -/
def swPar (sc : Scope) (ts vs : List Expr) : Option (Option (List Str)) :=
  if (!(ts.length == 2 || ts.length == 3) || vs.length != ts.length) = true then some none else
  if vs.any stE = true then some none else
  if ((ts.filterMap (nmE sc ((ts.head?.map (·.pos.line)).getD 0))).length != ts.length || (ts.filterMap (nmE sc ((ts.head?.map (·.pos.line)).getD 0))).eraseDups.length != (ts.filterMap (nmE sc ((ts.head?.map (·.pos.line)).getD 0))).length) = true then some none else
  if vs.all (foldedForSure 8) = true then some none else if vs.all (constantsAlone 8) = true then none else some (some (ts.filterMap (nmE sc ((ts.head?.map (·.pos.line)).getD 0))))
theorem swPar_is {ts vs : List Expr} {env : Env} {kt k2 : Nat} {pt p2 : Pos} {r : Option (List Str)} (hs : env.scope = sc) (hk : sc.kind = .function) (h : swPar sc ts vs = some r) : swappedStores [.Tuple ts kt pt] (.Tuple vs k2 p2) env = pure r := by
  have bk : env.blockKind = .function := by
    unfold Env.blockKind
    rw [hs, hk]
    rfl
  have kd : ∀ id : Str, (env.kindOf id == some .local) = decide (sc.names.lookup id = some .local) := fun id => by
    unfold Env.kindOf
    rw [hs]
    by_cases z : sc.names.lookup id = some .local
    · rw [z]; rfl
    · rw [decide_eq_false z]
      exact beq_eq_false_iff_ne.mpr z
  unfold swPar at h
  unfold swappedStores
  simp only [kd, bk]
  change (if (!(ts.length == 2 || ts.length == 3) || vs.length != ts.length || ScopeKind.function != ScopeKind.function) = true then pure none else
    if vs.any stE = true then pure none else
    if ((ts.filterMap (nmE sc ((ts.head?.map (·.pos.line)).getD 0))).length != ts.length || (ts.filterMap (nmE sc ((ts.head?.map (·.pos.line)).getD 0))).eraseDups.length != (ts.filterMap (nmE sc ((ts.head?.map (·.pos.line)).getD 0))).length) = true then pure none else
    if vs.all (foldedForSure 8) = true then pure none else if vs.all (constantsAlone 8) = true then _ else pure (some (ts.filterMap (nmE sc ((ts.head?.map (·.pos.line)).getD 0))))) = pure r
  have ff : (ScopeKind.function != ScopeKind.function) = false := rfl
  rw [ff, Bool.or_false]
  split at h
  · rename_i c
    cases h
    rw [if_pos c]
  · rename_i c
    rw [if_neg c]
    split at h
    · rename_i c
      cases h
      rw [if_pos c]
    · rename_i c
      rw [if_neg c]
      split at h
      · rename_i c
        cases h
        rw [if_pos c]
      · rename_i c
        rw [if_neg c]
        split at h
        · rename_i c
          cases h
          rw [if_pos c]
        · rename_i c
          rw [if_neg c]
          split at h
          · cases h
          · rename_i c
            cases h
            rw [if_neg c]
theorem SEs.two {xs : Exs} {e1 e2 : Expr} (h : SEs G N sc xs [e1, e2]) : xs.len = 2 := h.len
theorem ss_par2 {xs : Exs} {i j : Nat} {x y : Str} {e1 e2 : Expr} {px py pt p2 : Pos} {kt k2 : Nat} (hN : N.Nodup) (hk : sc.kind = .function) (h : SEs G N sc xs [e1, e2]) (hi : N[i]? = some x) (hj : N[j]? = some y) (hij : i ≠ j) (hx : sc.names.lookup x = some .local) (hy : sc.names.lookup y = some .local)
    (hw : swPar sc [.Name x px, .Name y py] [e1, e2] = some (some [x, y])) : SS G N sc (.par [i, j] xs) (.Assign [.Tuple [.Name x px, .Name y py] kt pt] (.Tuple [e1, e2] k2 p2) p) := fun W => by
  obtain ⟨t, pa, st⟩ := h.pa W
  refine ⟨tPar i j t, fun X cx => ps_par cx.calm (by rw [cx.N]; exact hN) (by rw [cx.N]; exact hi) (by rw [cx.N]; exact hj) hij (by rw [cx.sc]; exact hx) (by rw [cx.sc]; exact hy) (pa X cx.toCtx) (swPar_is cx.sc hk hw) rfl, fun E σ H f M env S R hs => ?_⟩
  refine st σ H _ f M env S R (sat_mono (sat_bnd.mp hs) (fun ds M1 h1 hl vs H1 f1 X1 S1 r1 => ?_) fun _ _ _ z => z σ)
  have hl2 : ds.length = 2 := by rw [hl, h.two]
  have h1 : sat (if ds.length = 2 then Res.ok (Fl.nx (setAll [i, j] ds env)) M1 else .bad) (okF G.K f H E) (sX G W f H) := h1
  rw [if_pos hl2] at h1
  have q := h1 H1 f1 X1 S1 (setV [i, j] vs σ) ((R.ext X1).all r1)
  have hv : vs.length = 2 := by rw [← r1.length, hl2]
  match vs, hv with
  | [v, w], _ => exact ⟨v, w, rfl, q⟩
theorem ss_par3 {xs : Exs} {i j l : Nat} {x y z : Str} {e1 e2 e3 : Expr} {px py pz pt p2 : Pos} {kt k2 : Nat} (hN : N.Nodup) (hk : sc.kind = .function) (h : SEs G N sc xs [e1, e2, e3]) (hi : N[i]? = some x) (hj : N[j]? = some y) (hl : N[l]? = some z) (hij : i ≠ j) (hil : i ≠ l) (hjl : j ≠ l) (hx : sc.names.lookup x = some .local) (hy : sc.names.lookup y = some .local) (hz : sc.names.lookup z = some .local)
    (hw : swPar sc [.Name x px, .Name y py, .Name z pz] [e1, e2, e3] = some (some [x, y, z])) : SS G N sc (.par [i, j, l] xs) (.Assign [.Tuple [.Name x px, .Name y py, .Name z pz] kt pt] (.Tuple [e1, e2, e3] k2 p2) p) := fun W => by
  obtain ⟨t, pa, st⟩ := h.pa W
  refine ⟨tPar3 i j l t, fun X cx => L2.ps_par3 cx.calm (by rw [cx.N]; exact hN) (by rw [cx.N]; exact hi) (by rw [cx.N]; exact hj) (by rw [cx.N]; exact hl) hij hil hjl (by rw [cx.sc]; exact hx) (by rw [cx.sc]; exact hy) (by rw [cx.sc]; exact hz) (pa X cx.toCtx) (swPar_is cx.sc hk hw) rfl, fun E σ H f M env S R hs => ?_⟩
  refine st σ H _ f M env S R (sat_mono (sat_bnd.mp hs) (fun ds M1 h1 hlen vs H1 f1 X1 S1 r1 => ?_) fun _ _ _ z => z σ)
  have hl2 : ds.length = 3 := by
    rw [hlen, h.len]
    rfl
  have h1 : sat (if ds.length = 3 then Res.ok (Fl.nx (setAll [i, j, l] ds env)) M1 else .bad) (okF G.K f H E) (sX G W f H) := h1
  rw [if_pos hl2] at h1
  have q := h1 H1 f1 X1 S1 (setV [i, j, l] vs σ) ((R.ext X1).all r1)
  have hv : vs.length = 3 := by rw [← r1.length, hl2]
  match vs, hv with
  | [u, v, w], _ => exact ⟨u, v, w, rfl, q⟩
theorem ss_parG {xs : Exs} {is : List Nat} {ts es : List Expr} {pt p2 : Pos} {kt k2 : Nat} (hN : N.Nodup) (hk : sc.kind = .function) (h : SEs G N sc xs es) (hz : decide (es.length ≤ 1000) = true) (hg : SN N sc yes is ts) (hw : swPar sc ts es = some none) :
    SS G N sc (.par is xs) (.Assign [.Tuple ts kt pt] (.Tuple es k2 p2) p) := fun W => by
  obtain ⟨t, pa, st⟩ := h.pa W
  obtain ⟨g, pg, sg⟩ := (SG.tup (kk := kt) (p := pt) hg).pg (G := G) hN
  refine ⟨_, fun X cx => ps_asg (pe_tupF (pa X cx.toCtx)) (pg W X cx.toCtx fun x _ => cx.fn x) rfl (swPar_is cx.sc hk hw) rfl, fun E σ H f M env S R hs => ?_⟩
  refine st σ H _ f M env S R (sat_mono (sat_bnd.mp hs) (fun ds M1 h1 hlen vs H1 f1 X1 S1 r1 => ?_) fun _ _ _ z => z σ)
  have h2 : sat (if ds.length = is.length then Res.ok (Fl.nx (setAll is ds env)) M1 else .bad) (okF G.K f H E) (sX G W f H) := h1
  by_cases hl : ds.length = is.length
  · rw [if_pos hl] at h2
    refine ⟨?_, fun q o hq ho => ?_⟩
    · rw [← r1.length, hlen, h.len]
      have e : sizeLine = 16777216 := sizeLine_eq
      have := of_decide_eq_true hz
      omega
    · have XF : Ext f1 f1 H1 (upd H1 q (.frz o (.tup vs))) := Ext.fresh hq
      refine sg (.tup ds) (.ref q) σ _ _ f1 env (setAll is ds env) ((R.ext X1).ext XF) (.inl (.tup (.inl ⟨o, upd_same, ho⟩) (r1.ext XF))) ?_ fun σ2 R2 _ => h2 _ f1 (X1.trans XF) (S1.fresh hq) σ2 R2
      show (if ds.length = is.length then some (setAll is ds env) else none) = _
      rw [if_pos hl]
  · rw [if_neg hl] at h2
    exact h2.elim
/-! ### what is never reached, break, continue -/
theorem ss_stop {st : Stmt} : SS G N sc .stop st := fun W => ⟨fun _ _ _ => False, fun X _ => ⟨fun _ _ _ _ _ _ h => h.elim⟩, fun E σ H f M env S R h => h⟩
theorem ss_brk : SS G N sc .brk (.Break p) := fun W => ⟨tBreak, fun X _ => ps_break, fun E σ H f M env S R h => h H f Ext.refl S σ R⟩
theorem ss_cnt : SS G N sc .cnt (.Continue p) := fun W => ⟨tCont, fun X _ => ps_continue, fun E σ H f M env S R h => h H f Ext.refl S σ R⟩
/-! ### x += e -/
theorem ss_augA (hN : N.Nodup) (h1 : N[i]? = some y) (h2 : locC sc yes y = true) (he : SE G N sc x e) : SS G N sc (.aug i .add x) (.AugAssign (.Name y q) .Add e p) := fun W => by
  obtain ⟨t, pe, se⟩ := he W
  obtain ⟨l, hq⟩ := loc_of h2
  refine ⟨tAug i t (ipI fun i j => i + j), fun X cx => ps_aug (by rw [cx.N]; exact hN) (by rw [cx.N]; exact h1) (by rw [cx.sc]; exact l) (pe X cx.toCtx) ip_add (.inl (cx.fn y)), fun E σ H f M env S R h => ?_⟩
  have h' : sat (match env[i]? with
    | some (some (.int a)) => (ev G.C x env M).bnd fun x M => match Bop.add, x with
      | .add, .d (.int j) => Res.ok (Fl.nx (env.set i (some (.int (a + j))))) M
      | .sub, .d (.int j) => .ok (.nx (env.set i (some (.int (a - j))))) M
      | _, _ => .bad
    | _ => .bad) (okF G.K f H E) (sX G W f H) := h
  cases e1 : env[i]? with
  | none => rw [e1] at h'; exact h'.elim
  | some o =>
    cases o with
    | none => rw [e1] at h'; exact h'.elim
    | some d =>
      cases d with
      | int a =>
        rw [e1] at h'
        obtain ⟨v, hv, rv⟩ := R.val i _ e1
        cases rv
        refine ⟨.int a, hv, se.bind S R h' (fun _ _ _ z => z σ) fun tv M1 v H1 f1 X1 S1 R1 r1 h2 => ?_⟩
        cases tv with
        | lst _ => exact h2.elim
        | d d =>
          cases r1 with
          | int j => exact ⟨a, j, rfl, rfl, h2 H1 f1 X1 S1 _ (R1.set i (.int _))⟩
          | _ => exact h2.elim
      | _ => rw [e1] at h'; exact h'.elim
theorem ss_augS (hN : N.Nodup) (h1 : N[i]? = some y) (h2 : locC sc yes y = true) (he : SE G N sc x e) : SS G N sc (.aug i .sub x) (.AugAssign (.Name y q) .Sub e p) := fun W => by
  obtain ⟨t, pe, se⟩ := he W
  obtain ⟨l, hq⟩ := loc_of h2
  refine ⟨tAug i t (ipI fun i j => i - j), fun X cx => ps_aug (by rw [cx.N]; exact hN) (by rw [cx.N]; exact h1) (by rw [cx.sc]; exact l) (pe X cx.toCtx) ip_sub (.inl (cx.fn y)), fun E σ H f M env S R h => ?_⟩
  have h' : sat (match env[i]? with
    | some (some (.int a)) => (ev G.C x env M).bnd fun x M => match Bop.sub, x with
      | .add, .d (.int j) => Res.ok (Fl.nx (env.set i (some (.int (a + j))))) M
      | .sub, .d (.int j) => .ok (.nx (env.set i (some (.int (a - j))))) M
      | _, _ => .bad
    | _ => .bad) (okF G.K f H E) (sX G W f H) := h
  cases e1 : env[i]? with
  | none => rw [e1] at h'; exact h'.elim
  | some o =>
    cases o with
    | none => rw [e1] at h'; exact h'.elim
    | some d =>
      cases d with
      | int a =>
        rw [e1] at h'
        obtain ⟨v, hv, rv⟩ := R.val i _ e1
        cases rv
        refine ⟨.int a, hv, se.bind S R h' (fun _ _ _ z => z σ) fun tv M1 v H1 f1 X1 S1 R1 r1 h2 => ?_⟩
        cases tv with
        | lst _ => exact h2.elim
        | d d =>
          cases r1 with
          | int j => exact ⟨a, j, rfl, rfl, h2 H1 f1 X1 S1 _ (R1.set i (.int _))⟩
          | _ => exact h2.elim
      | _ => rw [e1] at h'; exact h'.elim
/-! ### while -/
theorem ss_whl {k : Nat} {B : Stms} {sb : List Stmt} (hc : ST G N sc c ec) (hb : SB G N sc B sb) : SS G N sc (.whl k c B) (.While ec sb [] p) := fun W => by
  obtain ⟨tc, pc, qc⟩ := hc W
  obtain ⟨tb, pb, qb⟩ := hb W
  refine ⟨tWhile tc tb, fun X cx => ps_while cx.po (pc X cx.toCtx) (pb X cx), fun E σ H f M env S R h => ?_⟩
  have h' : sat (whlL (fun σ M => tBl (ev G.C c σ M)) (exs G.C B) k env M) (okF G.K f H E) (sX G W f H) := h
  refine ⟨fun m σc Hc => ∃ f2 M2 env2, Ext f f2 H Hc ∧ Sim G.K Hc f2 M2 ∧ EnvR G.K Hc f2 env2 σc ∧ sat (whlL (fun σ M => tBl (ev G.C c σ M)) (exs G.C B) m env2 M2) (okF G.K f H E) (sX G W f H), ⟨k, f, M, env, Ext.refl, S, R, h'⟩, ?_⟩
  rintro m σc Hc ⟨f2, M2, env2, X2, S2, R2, h2⟩
  cases m with
  | zero => exact h2.elim
  | succ m =>
    have h3 := sat_bnd.mp (show sat ((tBl (ev G.C c env2 M2)).bnd fun b M => if b = true then (exs G.C B env2 M).bnd fun f M => match f with
      | .nx σ => whlL (fun σ M => tBl (ev G.C c σ M)) (exs G.C B) m σ M
      | .ct σ => whlL (fun σ M => tBl (ev G.C c σ M)) (exs G.C B) m σ M
      | .bk σ => .ok (.nx σ) M
      | .rt d => .ok (.rt d) M
    else .ok (.nx env2) M) (okF G.K f H E) (sX G W f H) from h2)
    refine qc σc Hc _ f2 M2 env2 S2 R2 (sat_mono h3 (fun b M3 h4 H3 f3 X3 S3 => ?_) fun _ _ _ z => oX.back X2 (z σc))
    cases b with
    | false => exact h4 H3 f3 (X2.trans X3) S3 σc (R2.ext X3)
    | true =>
      have h5 := sat_bnd.mp (show sat ((exs G.C B env2 M3).bnd fun f M => match f with
        | .nx σ => whlL (fun σ M => tBl (ev G.C c σ M)) (exs G.C B) m σ M
        | .ct σ => whlL (fun σ M => tBl (ev G.C c σ M)) (exs G.C B) m σ M
        | .bk σ => .ok (.nx σ) M
        | .rt d => .ok (.rt d) M) (okF G.K f H E) (sX G W f H) from h4)
      refine ⟨fun σ' H' => ∃ f4 M4 env4, Ext f f4 H H' ∧ Sim G.K H' f4 M4 ∧ EnvR G.K H' f4 env4 σ' ∧ sat (whlL (fun σ M => tBl (ev G.C c σ M)) (exs G.C B) m env4 M4) (okF G.K f H E) (sX G W f H), fun σ' H' q => ⟨m, Nat.lt_succ_self _, q⟩, ?_⟩
      refine qb _ σc H3 f3 M3 env2 S3 (R2.ext X3) (sat_mono h5 (fun fl M4 h6 H4 f4 X4 S4 => ?_) fun _ _ _ z => sX.back (X2.trans X3) z)
      cases fl with
      | nx env4 => exact fun σ4 R4 => ⟨f4, M4, env4, (X2.trans X3).trans X4, S4, R4, h6⟩
      | ct env4 => exact fun σ4 R4 => ⟨f4, M4, env4, (X2.trans X3).trans X4, S4, R4, h6⟩
      | bk env4 => exact fun σ4 R4 => h6 H4 f4 ((X2.trans X3).trans X4) S4 σ4 R4
      | rt d => exact fun v rv => h6 H4 f4 ((X2.trans X3).trans X4) S4 v rv
/-! ### for -/
theorem ss_for {tg : Tg} {it : It} {B : Stms} {te ie : Expr} {sb : List Stmt} (hN : N.Nodup) (hi : SI G N sc (isTup' tg) te it ie) (hs : noSet ie = true) (hg : SG N sc yes tg te) (hb : SB G N sc B sb) : SS G N sc (.for_ tg it B) (.For te ie sb [] p) := fun W => by
  obtain ⟨wi, pi, si⟩ := hi W
  obtain ⟨g, pg, sg⟩ := hg.pg (G := G) hN
  obtain ⟨tb, pb, qb⟩ := hb W
  refine ⟨tFor wi g tb, fun X cx => ps_for cx.po cx.calm (pi X cx.toCtx) (pg W X cx.toCtx fun x _ => cx.fn x) (pb X cx) fun x => noSet_fold hs, fun E σ H f M env S R h => ?_⟩
  refine si σ H _ f M env S R (sat_mono (sat_bnd.mp h) (fun s M1 h1 H1 f1 X1 S1 J w => ?_) fun _ _ _ z => z σ)
  have h2 : sat (match s.cur M1 with
    | some ds => forL s ds.length tg (exs G.C B) ds.length 0 env M1
    | none => .bad) (okF G.K f H E) (sX G W f H) := h1
  cases hc : s.cur M1 with
  | none => rw [hc] at h2; exact h2.elim
  | some ds =>
    rw [hc] at h2
    have h3 : sat (forL s ds.length tg (exs G.C B) ds.length 0 env M1) (okF G.K f H E) (sX G W f H) := h2
    clear h1 h2
    generalize hn : ds.length = n at h3
    refine ⟨fun i m σc Hc => m + i = n ∧ ∃ f2 M2 env2, Ext f1 f2 H1 Hc ∧ Sim G.K Hc f2 M2 ∧ EnvR G.K Hc f2 env2 σc ∧ sat (forL s n tg (exs G.C B) m i env2 M2) (okF G.K f H E) (sX G W f H), ⟨n, rfl, f1, M1, env, Ext.refl, S1, R.ext X1, h3⟩, ?_⟩
    clear h3
    rintro i m σc Hc ⟨hmi, f2, M2, env2, X2, S2, R2, h4⟩
    cases m with
    | zero =>
      have h5 : sat (match s.cur M2 with
        | some ds => if ds.length = n then Res.ok (Fl.nx env2) M2 else .bad
        | none => .bad) (okF G.K f H E) (sX G W f H) := h4
      cases hc2 : s.cur M2 with
      | none => rw [hc2] at h5; exact h5.elim
      | some es =>
        rw [hc2] at h5
        have h5 : sat (if es.length = n then Res.ok (Fl.nx env2) M2 else .bad) (okF G.K f H E) (sX G W f H) := h5
        obtain ⟨w1, w2, w3⟩ := w Hc f2 M2 X2 S2 es hc2
        by_cases hl : es.length = n
        · rw [if_pos hl] at h5
          have hi : i = es.length := by omega
          exact .inl ⟨by rw [hi]; exact w2, h5 Hc f2 (X1.trans X2) S2 σc R2⟩
        · rw [if_neg hl] at h5
          exact h5.elim
    | succ m =>
      have h5 : sat (match s.cur M2 with
        | some ds => if ds.length = n then match ds[i]? with
            | some d => match putTg tg d env2 with
              | some σ => (exs G.C B σ M2).bnd fun f M => match f with
                | .nx σ => forL s n tg (exs G.C B) m (i + 1) σ M
                | .ct σ => forL s n tg (exs G.C B) m (i + 1) σ M
                | .bk σ => .ok (.nx σ) M
                | .rt d => .ok (.rt d) M
              | none => .bad
            | none => .bad
          else .bad
        | none => .bad) (okF G.K f H E) (sX G W f H) := h4
      cases hc2 : s.cur M2 with
      | none => rw [hc2] at h5; exact h5.elim
      | some es =>
        rw [hc2] at h5
        have h5 : sat (if es.length = n then match es[i]? with
            | some d => match putTg tg d env2 with
              | some σ => (exs G.C B σ M2).bnd fun f M => match f with
                | .nx σ => forL s n tg (exs G.C B) m (i + 1) σ M
                | .ct σ => forL s n tg (exs G.C B) m (i + 1) σ M
                | .bk σ => .ok (.nx σ) M
                | .rt d => .ok (.rt d) M
              | none => .bad
            | none => .bad
          else .bad) (okF G.K f H E) (sX G W f H) := h5
        obtain ⟨w1, w2, w3⟩ := w Hc f2 M2 X2 S2 es hc2
        by_cases hl : es.length = n
        · rw [if_pos hl] at h5
          have hi : i < es.length := by omega
          refine .inr ⟨w1 i hi, fun σ' H' => m + (i + 1) = n ∧ ∃ f2 M2 env2, Ext f1 f2 H1 H' ∧ Sim G.K H' f2 M2 ∧ EnvR G.K H' f2 env2 σ' ∧ sat (forL s n tg (exs G.C B) m (i + 1) env2 M2) (okF G.K f H E) (sX G W f H),
            fun σ' H' q => ⟨m, Nat.lt_succ_self _, q⟩, fun x H' hy => ?_⟩
          obtain ⟨d, hd, X3, S3, ri⟩ := w3 i x H' hi hy
          rw [hd] at h5
          cases hp : putTg tg d env2 with
          | none =>
            have h6 : sat (match putTg tg d env2 with
              | some σ => (exs G.C B σ M2).bnd fun f M => match f with
                | .nx σ => forL s n tg (exs G.C B) m (i + 1) σ M
                | .ct σ => forL s n tg (exs G.C B) m (i + 1) σ M
                | .bk σ => .ok (.nx σ) M
                | .rt d => .ok (.rt d) M
              | none => .bad) (okF G.K f H E) (sX G W f H) := h5
            rw [hp] at h6
            exact h6.elim
          | some env3 =>
            have h6 : sat (match putTg tg d env2 with
              | some σ => (exs G.C B σ M2).bnd fun f M => match f with
                | .nx σ => forL s n tg (exs G.C B) m (i + 1) σ M
                | .ct σ => forL s n tg (exs G.C B) m (i + 1) σ M
                | .bk σ => .ok (.nx σ) M
                | .rt d => .ok (.rt d) M
              | none => .bad) (okF G.K f H E) (sX G W f H) := h5
            rw [hp] at h6
            have h7 := sat_bnd.mp h6
            have X13 : Ext f f2 H H' := (X1.trans X2).trans X3
            refine sg d x σc H' _ f2 env2 env3 (R2.ext X3) ri hp fun σ2 R3 _ => ?_
            refine qb _ σ2 H' f2 M2 env3 S3 R3 (sat_mono h7 (fun fl M3 h8 H3 f3 X4 S4 => ?_) fun _ _ _ z => sX.back X13 z)
            cases fl with
            | nx env4 => exact fun σ4 R4 => ⟨by omega, f3, M3, env4, X2.trans (X3.trans X4), S4, R4, h8⟩
            | ct env4 => exact fun σ4 R4 => ⟨by omega, f3, M3, env4, X2.trans (X3.trans X4), S4, R4, h8⟩
            | bk env4 => exact fun σ4 R4 => h8 H3 f3 (X13.trans X4) S4 σ4 R4
            | rt d => exact fun v rv => h8 H3 f3 (X13.trans X4) S4 v rv
        · rw [if_neg hl] at h5
          exact h5.elim
/-- name = [..] at once -/
theorem ss_setLc {own : List Nat} {own' : List (Str × Nat)} {elt : Ex} {tg : Tg} {it : It} {ifs : Exs} {ee te ie : Expr} {ifsE : List Expr} {scope : Scope} {pc py : Pos} (hN : N.Nodup) (hy : N[i]? = some y) (hyl : sc.names.lookup y = some .local) (hk : sc.kind = .function) (hline : (py.line == pc.line) = true)
    (hany : (scope.names.any fun (n, k) => n == y && (k == .local || k == .cell)) = false) (ho : own'.map (·.2) = own) (hb : blkC N sc scope own' = true) (hin : ∀ i ∈ tgIs tg, i ∈ own)
    (hi : SI G N sc (isTup' tg) te it ie) (hs : noSet ie = true) (hg : SG N (relS scope sc) (fun x => scope.names.lookup x == some .cell) tg te) (ht : STs G N (relS scope sc) ifs ifsE) (hl : decide (ifsE.length ≤ 1) = true) (he : SE G N (relS scope sc) elt ee) :
    SS G N sc (.set i (.comp own elt tg it ifs)) (.Assign [.Name y py] (.ListComp ee [⟨te, ie, ifsE, 0⟩] scope pc) p) := fun W => by
  obtain ⟨t, pt, st⟩ := lc_parts (ps := p) hN hy hyl hk hline hany ho hb hin hi hs hg ht hl he W
  exact ⟨tAsg t (gName i), fun X cx => pt X cx.toCtx, set_snd st⟩
end
end Ev

set_option maxRecDepth 100000
set_option maxHeartbeats 2000000
/-! list(range(j)), {k: t, ..}[s] -/
namespace Ev
open PySem PySem.Spec PyProof.Rows L2
section
variable {G : Gd} {N : List Str} {sc : Scope} {e ea : Expr} {a : Ex} {p q p2 q2 : Pos}
theorem repL_ints {K : PySem.W.Frag} {H : Hp} {f : List Addr} : ∀ l : List Nat, RepL K H f (l.map fun (i : Nat) => D.int i) (l.map fun (i : Nat) => V.int (0 + (i : Nat)))
  | [] => .nil
  | i :: l => by
    refine .cons ?_ (repL_ints l)
    show Rep K H f (.int i) (.int (0 + (i : Nat)))
    rw [Int.zero_add]
    exact .int _
theorem se_lrg (ok : G.Ok) (h1 : glC sc ("list" : Str) = true) (h2 : glC sc ("range" : Str) = true) (ha : SE G N sc a ea) (hs : noStar ea = true) :
    SE G N sc (.lrg a) (.Call (.Name "list" q) [.Call (.Name "range" q2) [ea] [] p2] [] p) := fun W => by
  obtain ⟨ta, pa, sa⟩ := ha W
  refine ⟨tLstRg (tRg1 ta), fun X cx => pe_listRg cx.calm (gl_of cx h1) (mg_of ok cx (by decide +kernel)) (prg_1 (gl_of cx h2) (mg_of ok cx (by decide +kernel)) (pa X cx) (star_cons hs)) rfl, fun σ H Q f M env S R h => ?_⟩
  refine sa.bind S R h (fun _ _ _ z => z) fun u M1 vu H1 f1 X1 S1 R1 r1 h1 => ?_
  obtain ⟨z, hz, h3⟩ := sat_opt h1
  cases u with
  | lst _ => cases hz
  | d d =>
    cases r1 with
    | int j =>
      obtain ⟨hc, rfl⟩ := guard_some hz
      rw [Bool.and_eq_true, decide_eq_true_eq, decide_eq_true_eq] at hc
      refine ⟨j, rfl, ⟨by decide, by decide, hc.1, by omega, by omega⟩, ?_⟩
      refine done_lst S1 X1 (okT.fin X1 h3) ?_
      unfold rgV
      rw [Int.sub_zero]
      exact repL_ints _
    | _ => cases hz
def kvK (kvs : List (Str × Str)) : List (Key × V) := kvs.map fun kv => (.inr kv.1, .str kv.2)
def isTxtE (s : Str) : Expr → Bool
  | .Constant (.str s') _ _ => decide (s' = s)
  | _ => false
def litKs : List (Str × Str) → List (Option Expr) → List Expr → Bool
  | [], [], [] => true
  | (k, t) :: r, some ke :: ks, ve :: vs => isTxtE k ke && (isTxtE t ve && litKs r ks vs)
  | _, _, _ => false
theorem isTxtE_is {s : Str} {e : Expr} (h : isTxtE s e = true) : ∃ k p, e = .Constant (.str s) k p := by
  unfold isTxtE at h
  split at h
  · rw [of_decide_eq_true h]
    exact ⟨_, _, rfl⟩
  · cases h
def kvT (kvs : List (Str × Str)) : List (TE × TE) := kvs.map fun kv => (tC (.str kv.1), tC (.str kv.2))
theorem lit_pps {X : Cx} {pos : Pos} : ∀ {kvs : List (Str × Str)} {ks : List (Option Expr)} {vs : List Expr}, litKs kvs ks vs = true → PPs X pos ks vs (kvT kvs) ∧ ks.all (·.isSome) = true ∧ ks.length = vs.length ∧ ks.length = kvs.length
  | [], [], [], _ => ⟨pps_nil, rfl, rfl, rfl⟩
  | (k, t) :: r, some ke :: ks, ve :: vs, h => by
    unfold litKs at h
    rw [Bool.and_eq_true, Bool.and_eq_true] at h
    obtain ⟨h1, h2, h3⟩ := h
    obtain ⟨_, _, rfl⟩ := isTxtE_is h1
    obtain ⟨_, _, rfl⟩ := isTxtE_is h2
    obtain ⟨i1, i2, i3, i4⟩ := lit_pps h3
    refine ⟨pps_cons pe_str pe_str i1, ?_, by simp [i3], by simp [i4]⟩
    rw [List.all_cons, i2]
    rfl
theorem pairs_c {σ : L2.St} : ∀ {kvs : List (Str × Str)} {H : Hp} {Q : List (V × V) → Hp → Prop}, Q ((kvK kvs).map fun kv => (kV kv.1, kv.2)) H → tPairs (kvT kvs) σ H Q
  | [], _, _, h => h
  | (k, t) :: r, H, Q, h => show tPairs (kvT r) σ H (fun ps H3 => Q ((V.str k, V.str t) :: ps) H3) from pairs_c (Q := fun ps H3 => Q ((V.str k, V.str t) :: ps) H3) h
theorem val_merge : ∀ (more acc : List (Key × V)) (k : Key), (more.map (·.1)).Nodup → valV (mergeK acc more) k = match valV more k with
    | some v => some v
    | none => valV acc k
  | [], acc, k, _ => rfl
  | pr :: r, acc, k, h => by
    rw [List.map_cons, List.nodup_cons] at h
    show valV (mergeK (putK acc pr.1 pr.2) r) k = _
    rw [val_merge r _ k h.2, valV_put]
    by_cases e : pr.1 = k
    · rw [valV_pos e]
      have : valV r k = none := by
        cases z : valV r k with
        | none => rfl
        | some v =>
          exfalso
          unfold valV at z
          rw [Option.map_eq_some_iff] at z
          obtain ⟨kv, z1, z2⟩ := z
          have m := List.mem_of_find?_eq_some z1
          have k2 : kv.1 = k := of_decide_eq_true (List.find?_some (p := fun kv : Key × V => decide (kv.1 = k)) z1)
          exact h.1 (List.mem_map.mpr ⟨kv, m, by rw [k2, e]⟩)
      rw [this, if_pos e.symm]
    · rw [valV_neg e]
      cases valV r k with
      | some v => rfl
      | none => exact if_neg fun z => e z.symm
theorem val_kvK {s t : Str} : ∀ {kvs : List (Str × Str)}, lookS kvs s = some t → valV (kvK kvs) (.inr s) = some (.str t)
  | [], h => by cases h
  | (k, u) :: r, h => by
    unfold lookS at h
    by_cases e : k = s
    · rw [if_pos e] at h
      cases h
      exact valV_pos (by rw [e])
    · rw [if_neg e] at h
      have : ¬ (Sum.inr k : Key) = .inr s := fun z => e (Sum.inr.inj z)
      exact (valV_neg (r := kvK r) (p := (.inr k, .str u)) this).trans (val_kvK h)
theorem kvK_nodup {kvs : List (Str × Str)} (h : (kvs.map (·.1)).Nodup) : ((kvK kvs).map (·.1)).Nodup := by
  have e : (kvK kvs).map (·.1) = (kvs.map (·.1)).map (Sum.inr : Str → Key) := by
    unfold kvK
    rw [List.map_map, List.map_map]
    rfl
  rw [e]
  refine List.Pairwise.map _ (fun a b hab z => hab (Sum.inr.inj z)) h
theorem se_dix {kvs : List (Str × Str)} {ks : List (Option Expr)} {vs : List Expr} (hl : litKs kvs ks vs = true) (hn : (kvs.map (·.1)).Nodup) (h0 : kvs ≠ []) (h15 : kvs.length ≤ 15) (ha : SE G N sc a ea) (hs : NoSl ea) :
    SE G N sc (.dix kvs a) (.Subscript (.Dict ks vs q) ea p) := fun W => by
  obtain ⟨ta, pa, sa⟩ := ha W
  refine ⟨tDGet (tDisp (kvT kvs)) ta, fun X cx => ?_, fun σ H Q f M env S R h => ?_⟩
  · obtain ⟨i1, i2, i3, i4⟩ := lit_pps (X := X) (pos := q) hl
    refine pe_dget ?_ (pe_disp i1 i2 i3 (fun z => h0 (List.length_eq_zero_iff.mp (by rw [← i4, z]; rfl))) (by rw [i4]; exact h15)) (pa X cx) hs
    have := cx.rm.un
    omega
  · intro l hp
    refine pairs_c ⟨upd_same, kvK kvs, rfl, by unfold kvK; rw [List.length_map]; exact h15, ?_⟩
    rw [upd_upd]
    have S0 := S.fresh (u := .dK (mergeK [] (kvK kvs))) hp
    have X0 : Ext f f H (upd H l (.dK (mergeK [] (kvK kvs)))) := Ext.fresh hp
    refine sa.bind S0 (R.ext X0) h (fun _ _ _ z => oX.back X0 z) fun u M1 vu H1 f1 X1 S1 R1 r1 h1 => ?_
    obtain ⟨z, hz, h3⟩ := sat_opt h1
    cases u with
    | lst _ => cases hz
    | d d =>
      cases r1 with
      | str s =>
        obtain ⟨t, ht, rfl⟩ := Option.map_eq_some_iff.mp hz
        refine ⟨l, .str t, rfl, .inl ⟨_, .inr s, .of (X1.keep l _ upd_same (S.out hp)), rfl, ?_⟩, okT.d h3 (X0.trans X1) S1 (.str t)⟩
        rw [val_merge _ _ _ (kvK_nodup hn), val_kvK ht]
      | _ => cases hz
end
end Ev

set_option maxRecDepth 100000
set_option maxHeartbeats 2000000
/-! isinstance, len(set(..)), pop, extend -/
namespace Ev
open PySem PySem.Spec PyProof.Rows L2
def ityN : Ity → String
  | .int => "int" | .bool => "bool" | .str => "str" | .tuple => "tuple" | .list => "list"
def ityS (t : Ity) : Str := (ityN t : String)
theorem ity_boot : ∀ t, bootBuiltins (ityS t) = some (.type (ityN t)) := by intro t; cases t <;> decide +kernel
theorem ity_bn (t : Ity) : ityS t ∈ bNames := by cases t <;> decide +kernel
/-- a value's class -/
def tvN : TV → String
  | .lst _ => "list"
  | .d .non => "NoneType"
  | .d (.bl _) => "bool"
  | .d (.int _) => "int"
  | .d (.str _) => "str"
  | .d (.tup _) => "tuple"
  | .d (.scr _) => "list"
  | .d (.ref _) => "list"
theorem kit_all {K : PySem.W.Frag} (t : Ity) (x : TV) : PySem.W.kitOne K (.type (tvN x)) (.type (ityN t)) = some (isop t x) := by
  cases x with
  | lst ds => cases t <;> exact kit_ty (by kernel_rfl)
  | d d => cases d <;> cases t <;> exact kit_ty (by kernel_rfl)
section
variable {K : PySem.W.Frag} {f f0 : List Addr} {H H0 : Hp} {M : MH}
theorem tvN_ty (S : Sim K H f M) {x : TV} {v : V} (r : TRep K H0 H f x v) : TyX K H v (.type (tvN x)) := by
  cases x with
  | lst ds =>
    obtain ⟨a, vs, rfl, h1, _⟩ := r
    exact .base (.lst h1)
  | d d =>
    cases r with
    | non => exact .base .non
    | bl b => exact .base (.bl b)
    | int i => exact .base (.int i)
    | str s => exact .base (.str s)
    | @tup a vs ds ht rs =>
      rcases ht with ⟨o, h, _⟩ | ⟨o, its, n, h1, ⟨h2, _⟩, _⟩
      · exact .fTuple h
      · exact .kTuple h1 h2
    | @scr a vs ds ht rs =>
      rcases ht with ⟨o, h⟩ | ⟨o, its, n, h1, h2, _⟩
      · exact .base (.frz h)
      · exact .kList h1 h2
    | @ref n a hn =>
      obtain ⟨o, ho⟩ := S.addr hn
      obtain ⟨vs, h1, _⟩ := (S.at ho hn).sq
      exact .base (.lst h1)
end
section
variable {G : Gd} {N : List Str} {sc : Scope} {e ea eb : Expr} {a b : Ex} {p q p2 q2 : Pos}
theorem mg_bn (ok : G.Ok) {W : WX} {X : Cx} (cx : Ctx G N sc W X) {x : Str} (h : x ∈ bNames) : X.mg x = none := by
  rw [cx.mg]
  exact ok.blt x h
theorem se_isi (ok : G.Ok) {t : Ity} (h1 : glC sc ("isinstance" : Str) = true) (h2 : glC sc (ityS t) = true) (ha : SE G N sc a ea) (hs : noStar ea = true) :
    SE G N sc (.x1 (.isi t) a) (.Call (.Name "isinstance" q) [ea, .Name (ityS t) q2] [] p) := fun W => by
  obtain ⟨ta, pa, sa⟩ := ha W
  refine ⟨tCB (rIsi G.K) (tCons ta (tCons (tC (.ty (ityN t))) tNil)), fun X cx => ?_, fun σ H Q f M env S R h => ?_⟩
  · rw [← cx.K]
    have m2 := gl_magic h2
    exact pe_callB call_isi (gl_of cx h1) (mg_bn ok cx (by decide +kernel)) (by decide +kernel) (pa_cons (pa X cx) (pa_cons (pe_bltn (gl_of cx h2) (mg_bn ok cx (ity_bn t)) (ity_boot t) rfl m2.2.2 m2.1) pa_nil) (star_cons hs)) (by decide) (by decide +kernel) (star_cons hs) rfl
  · refine sa.bind S R h (fun _ _ _ z => z) fun u M1 vu H1 f1 X1 S1 R1 r1 h1 => ?_
    exact ⟨vu, .ty (ityN t), .type (tvN u), .type (ityN t), isop t u, rfl, .ty _, tvN_ty S1 r1, kit_all t u, okT.d h1 X1 S1 (.bl _)⟩
/-! ### x.pop(), x.extend(y) -/
theorem se_pop {ap : Pos} (ha : SE G N sc a ea) (hp : plainBase ea = true) (hl : (ap.endLine == p.line) = true) : SE G N sc (.mt .pop a .nil) (.Call (.Attribute ea "pop" ap) [] [] p) := fun W => by
  obtain ⟨ta, pa, sa⟩ := ha W
  refine ⟨tBM0 G.K "list" rPop ta, fun X cx => ?_, fun σ H Q f M env S R h => ?_⟩
  · rw [← cx.K]
    exact pe_bm0 PySem.F.plainAttrs_list PySem.F.slot_list_pop PySem.F.type_list_pop mt_pop (pa X cx) (base_of hp) hl
  · refine sa.bind S R h (fun _ _ _ z => z) fun u M1 vu H1 f1 X1 S1 R1 r1 h1 => ?_
    obtain ⟨hc, h1⟩ := ite_sat h1
    have h2 : sat (match mtop M1 .pop u [] with
        | some (r, M) => Res.ok r M
        | none => .bad) (okT G.K f H Q) (oX G W σ f H) := h1
    cases u with
    | lst ls => cases hc
    | d d =>
      cases r1 with
      | @ref n l hn =>
        obtain ⟨o, ho⟩ := S1.addr hn
        obtain ⟨us, e1, rs⟩ := (S1.at ho hn).sq
        have h4 : sat (match (match M1[n]? with
          | some (.lst ds) => match ds[ds.length - 1]? with
            | some d => some (TV.d d, M1.set n (.lst ds.dropLast))
            | none => none
          | _ => none) with
          | some (r, M) => Res.ok r M
          | none => .bad) (okT G.K f H Q) (oX G W σ f H) := h2
        cases o with
        | lst ds =>
          rw [ho] at h4
          have h4 : sat (match (match ds[ds.length - 1]? with
            | some d => some (TV.d d, M1.set n (.lst ds.dropLast))
            | none => none) with
            | some (r, M) => Res.ok r M
            | none => .bad) (okT G.K f H Q) (oX G W σ f H) := h4
          cases e2 : ds[ds.length - 1]? with
          | none => rw [e2] at h4; exact h4.elim
          | some d =>
            rw [e2] at h4
            have rs : RepL G.K H1 f1 ds us := rs
            obtain ⟨w, hw, rw'⟩ := rs.get e2
            have hmem : l ∈ f1 := List.mem_of_getElem? hn
            have XW := Ext.write (ys := us.dropLast) e1 hmem
            refine ⟨.inl ⟨rfl, us, SqL.of e1⟩, l, us, w, rfl, rfl, e1, by rw [← rs.length]; exact hw, ?_⟩
            have hd : RepL G.K H1 f1 ds.dropLast us.dropLast := by
              rw [List.dropLast_eq_take, List.dropLast_eq_take, rs.length]
              exact rs.take _
            exact okT.d h4 (X1.trans XW) (S1.write ho hn e1 hd) (rw'.ext XW)
      | _ => cases hc
theorem se_extend {ap : Pos} (ha : SE G N sc a ea) (hb : SE G N sc b eb) (hs : noStar eb = true) (hp : plainBase ea = true) (hl : (ap.endLine == p.line) = true) : SE G N sc (.mt .extend a (.cons b .nil)) (.Call (.Attribute ea "extend" ap) [eb] [] p) := fun W => by
  obtain ⟨ta, pa, sa⟩ := ha W
  obtain ⟨tb, pb, sb⟩ := (SEs.cons hb hs .nil).pa W
  refine ⟨tBM G.K "list" rExtend ta tb, fun X cx => ?_, fun σ H Q f M env S R h => ?_⟩
  · rw [← cx.K]
    exact pe_bm PySem.F.plainAttrs_list PySem.F.slot_list_extend PySem.F.type_list_extend mt_extend (pa X cx) (pb X cx) (base_of hp) (by rw [star_one hs]; rfl) hl (star_cons hs) rfl
  · refine sa.bind S R h (fun _ _ _ z => z) fun u M1 vu H1 f1 X1 S1 R1 r1 h1 => ?_
    obtain ⟨hc, h1⟩ := ite_sat h1
    have h2 : sat (evs G.C (.cons b .nil) env M1) (fun ds M2 => sat (match mtop M2 .extend u ds with
        | some (r, M) => Res.ok r M
        | none => .bad) (okT G.K f H Q) (oX G W σ f H)) (oX G W σ f H) := sat_bnd.mp h1
    cases u with
    | lst ls => cases hc
    | d d =>
      cases r1 with
      | @ref n l hn =>
        obtain ⟨o, ho⟩ := S1.addr hn
        obtain ⟨us, e1, rs⟩ := (S1.at ho hn).sq
        refine ⟨.inl ⟨rfl, us, SqL.of e1⟩, sb σ H1 _ f1 M1 env S1 R1 (sat_mono h2 (fun ds M2 h3 hlen vs H2 f2 X2 S2 r2 => ?_) fun _ _ _ z => oX.back X1 z)⟩
        cases r2 with
        | nil => cases hlen
        | @cons d v ds vs rd rs2 =>
          cases rs2 with
          | cons _ _ => cases hlen
          | nil =>
            cases rd with
            | @ref m l2 hm =>
              have h4 : sat (match (match M2[n]?, rd M2 m with
                | some (.lst ds), some es => guard' (decide (ds.length + es.length ≤ sizeLine) && decide (n ≠ m)) (TV.d .non, M2.set n (.lst (ds ++ es)))
                | _, _ => none) with
                | some (r, M) => Res.ok r M
                | none => .bad) (okT G.K f H Q) (oX G W σ f H) := h3
              cases e3 : M2[n]? with
              | none => rw [e3] at h4; exact h4.elim
              | some o2 =>
                cases o2 with
                | lst es2 =>
                  cases e5 : rd M2 m with
                  | none => rw [e3, e5] at h4; exact h4.elim
                  | some es =>
                    rw [e3, e5] at h4
                    have h4 : sat (match guard' (decide (es2.length + es.length ≤ sizeLine) && decide (n ≠ m)) (TV.d .non, M2.set n (.lst (es2 ++ es))) with
                      | some (r, M) => Res.ok r M
                      | none => .bad) (okT G.K f H Q) (oX G W σ f H) := h4
                    unfold guard' at h4
                    by_cases hg : (decide (es2.length + es.length ≤ sizeLine) && decide (n ≠ m)) = true
                    · rw [if_pos hg] at h4
                      rw [Bool.and_eq_true, decide_eq_true_eq, decide_eq_true_eq] at hg
                      have hn2 := X2.get hn
                      obtain ⟨ws, e4, r4⟩ := S2.at e3 hn2
                      have hmem : l ∈ f2 := List.mem_of_getElem? hn2
                      obtain ⟨o3, ho3, rfl⟩ := rd_some e5
                      obtain ⟨zs, e6, r6⟩ := (S2.at ho3 hm).sq
                      refine ⟨l, l2, ws, zs, rfl, rfl, e4, e6, by rw [← r4.length, ← r6.length]; exact hg.1, ?_⟩
                      exact okT.d h4 ((X1.trans X2).trans (Ext.write e4 hmem)) (S2.write e3 hn2 e4 (r4.append r6)) .non
                    · rw [if_neg hg] at h4
                      exact h4.elim
            | _ => exact absurd h3 (by show ¬ False; exact id)
      | _ => cases hc
/-! ### len(set(..)) -/
theorem mem_ddL {x : List Int} : ∀ {l : List (List Int)}, x ∈ ddL l ↔ x ∈ l
  | [] => Iff.rfl
  | a :: r => by
    unfold ddL
    split
    · rename_i h
      rw [mem_ddL]
      refine ⟨List.mem_cons_of_mem _, fun z => (List.mem_cons.mp z).elim (fun e => e ▸ h) id⟩
    · rw [List.mem_cons, List.mem_cons, mem_ddL]
theorem nd_ddL : ∀ l : List (List Int), (ddL l).Nodup
  | [] => List.nodup_nil
  | a :: r => by
    unfold ddL
    split
    · exact nd_ddL r
    · rename_i h
      exact List.nodup_cons.mpr ⟨fun z => h (mem_ddL.mp z), nd_ddL r⟩
theorem intTups_rep {K : PySem.W.Frag} {H : Hp} {f : List Addr} : ∀ {ds : List D} {l : List (List Int)} {vs : List V}, intTups ds = some l → RepL K H f ds vs → ∃ ks : List (Addr × List Int), vs = ks.map (fun p => V.ref p.1) ∧ ks.map (·.2) = l ∧ ∀ p ∈ ks, SqT K H p.1 (p.2.map V.int)
  | [], l, _, h, .nil => by
    obtain rfl : [] = l := Option.some.inj h
    exact ⟨[], rfl, rfl, by simp⟩
  | d :: ds, l, _, h, .cons r rs => by
    cases r with
    | @tup a us es ht ru =>
      have h : (match intsOf es, intTups ds with
        | some is, some l => some (is :: l)
        | _, _ => none) = some l := h
      cases e1 : intsOf es with
      | none => rw [e1] at h; cases h
      | some is =>
        cases e2 : intTups ds with
        | none => rw [e1, e2] at h; cases h
        | some l' =>
          rw [e1, e2] at h
          obtain rfl : is :: l' = l := Option.some.inj h
          obtain ⟨ks, rfl, h2, h3⟩ := intTups_rep e2 rs
          obtain rfl := ints_rep e1 ru
          refine ⟨(a, is) :: ks, rfl, congrArg (is :: ·) h2, fun p hp => ?_⟩
          rcases List.mem_cons.mp hp with rfl | hp
          · exact ht.sq
          · exact h3 p hp
    | _ => cases h
theorem sqT_fresh {K : PySem.W.Frag} {H : Hp} {a c : Addr} {vs : List V} {o : HO} (hc : H c = none) (h : SqT K H a vs) : SqT K (upd H c o) a vs := by
  rcases h with (h | ⟨u, h⟩) | h
  · exact .inl (.inl (by rw [upd_ne (ne_of_none h hc)]; exact h))
  · exact .inl (.inr ⟨u, by rw [upd_ne (ne_of_none h hc)]; exact h⟩)
  · exact .inr h
def rLenSetT (K : PySem.W.Frag) (P : Program) (w : World) : List V → Hp → VK → Prop := fun xs H Q => ∃ (a : Addr) (L : List (Addr × List Int)), xs = [V.ref a] ∧ H a = some (SetTO P w a L) ∧ (∀ p ∈ L, SqT K H p.1 (p.2.map V.int)) ∧ ((L.map (·.2)).Nodup → Q (.int L.length) H)
theorem cr_lenSetT {X : Cx} : CallR X (.builtin "len") (rLenSetT X.K X.prog X.w) := by
  intro pins s σ H xs us Q I r h
  obtain ⟨a, L, rfl, ha, ht, q⟩ := h
  have R0 : SetT0 X.prog X.w s.heap a L := (I.hok a _ ha).1
  obtain ⟨es, ep, t, R⟩ := R0.full fun p hp => I.isT (ht p hp)
  obtain ⟨o, ho, hx, hd⟩ := R.ob
  rw [Vals.ref1 r]
  have hz := R.size
  have hf := R.few
  refine call_len_set ho hx hd R.fits (by omega) ⟨.int L.length, H, I.tok _, ⟨_, by rw [hz]⟩, q R.nd⟩
theorem se_lset (ok : G.Ok) (h1 : glC sc ("len" : Str) = true) (h2 : glC sc ("set" : Str) = true) (ha : SE G N sc a ea) (hs : noStar ea = true) :
    SE G N sc (.x1 .lset a) (.Call (.Name "len" q) [.Call (.Name "set" q2) [ea] [] p2] [] p) := fun W => by
  obtain ⟨ta, pa, sa⟩ := ha W
  refine ⟨tCB (rLenSetT G.K G.P G.w) (tCons (tCB (rSetOfT G.K G.P G.w) (tCons ta tNil)) tNil), fun X cx => ?_, fun σ H Q f M env S R h => ?_⟩
  · rw [← cx.K, ← cx.p, ← cx.w]
    have := cx.rm.un
    exact pe_callB cr_lenSetT (gl_of cx h1) (mg_bn ok cx (by decide +kernel)) (by decide +kernel) (pa_cons (pe_callTy (cr_setOfT cx.calm (by omega)) (gl_of cx h2) (mg_bn ok cx (by decide +kernel)) (by decide +kernel) (pa_cons (pa X cx) pa_nil (star_cons hs)) (by decide) (by decide +kernel) (star_cons hs) rfl) pa_nil) (by decide) (by decide +kernel) rfl rfl
  · refine sa.bind S R h (fun _ _ _ z => z) fun u M1 vu H1 f1 X1 S1 R1 r1 h1 => ?_
    obtain ⟨z, hz, h3⟩ := sat_opt h1
    have hz : (match sqL M1 u with
      | some ds => match intTups ds with
        | some l => guard' (decide (l.length < 64)) (TV.d (.int (ddL l).length))
        | none => none
      | none => none) = some z := hz
    cases e1 : sqL M1 u with
    | none => rw [e1] at hz; cases hz
    | some ds =>
      rw [e1] at hz
      have hz : (match intTups ds with
        | some l => guard' (decide (l.length < 64)) (TV.d (.int (ddL l).length))
        | none => none) = some z := hz
      cases e2 : intTups ds with
      | none => rw [e2] at hz; cases hz
      | some l =>
        rw [e2] at hz
        obtain ⟨hc, rfl⟩ := guard_some hz
        obtain ⟨b, vs, rfl, hb, rs⟩ := sqL_rep S1 e1 r1
        obtain ⟨ks, rfl, hk, ht⟩ := intTups_rep e2 rs
        have hl : ks.length = l.length := by rw [← hk, List.length_map]
        refine ⟨b, ks, rfl, hb, ht, by rw [hl]; exact of_decide_eq_true hc, fun c L hc2 hsub hall => ?_⟩
        have XF : Ext f1 f1 H1 (upd H1 c (SetTO G.P G.w c L)) := Ext.fresh hc2
        refine ⟨c, L, rfl, upd_same, fun p hp => ?_, fun hn => ?_⟩
        · exact sqT_fresh hc2 (ht p (hsub p hp))
        · have e : L.length = (ddL l).length := by
            have pm : (L.map (·.2)).Perm (ddL l) := (List.perm_ext_iff_of_nodup hn (nd_ddL l)).mpr fun x => by
              rw [mem_ddL, ← hk]
              refine ⟨fun hx => ?_, fun hx => ?_⟩
              · obtain ⟨p, hp, rfl⟩ := List.mem_map.mp hx
                exact List.mem_map.mpr ⟨p, hsub p hp, rfl⟩
              · obtain ⟨p, hp, rfl⟩ := List.mem_map.mp hx
                exact hall p hp
            have := pm.length_eq
            rwa [List.length_map] at this
          rw [e]
          exact okT.d h3 (X1.trans XF) (S1.fresh hc2) (.int _)
end
end Ev

set_option maxRecDepth 100000
set_option maxHeartbeats 2000000
namespace Ev
open PySem PySem.Spec PyProof.Rows L2
/-! ### a text and its term belong together -/
def ckNs (N : List Str) (sc : Scope) (fp : Str → Bool) : List Nat → List Expr → Bool
  | [], [] => true
  | i :: is, e :: es => (match e with
    | .Name x _ => decide (N[i]? = some x) && locC sc fp x
    | _ => false) && ckNs N sc fp is es
  | _, _ => false
def sumNs (N : List Str) (sc : Scope) (fp : Str → Bool) : List (Nat ⊕ List Nat) → List Expr → Bool
  | [], [] => true
  | .inl i :: l, e :: es => (match e with
    | .Name x _ => decide (N[i]? = some x) && locC sc fp x
    | _ => false) && sumNs N sc fp l es
  | .inr is :: l, e :: es => (match e with
    | .Tuple ts _ _ => ckNs N sc fp is ts
    | _ => false) && sumNs N sc fp l es
  | _, _ => false
def ckTg (N : List Str) (sc : Scope) (fp : Str → Bool) : Tg → Expr → Bool
  | .name i, e => match e with
    | .Name x _ => decide (N[i]? = some x) && locC sc fp x
    | _ => false
  | .tup is, e => match e with
    | .Tuple es _ _ => ckNs N sc fp is es
    | _ => false
  | .mix l, e => match e with
    | .Tuple es _ _ => sumNs N sc fp l es
    | _ => false
def ownN (N : List Str) (own : List Nat) : List (Str × Nat) := own.filterMap fun i => (N[i]?).map fun x => (x, i)
def allIn (is ws : List Nat) : Bool := is.all fun i => decide (i ∈ ws)
def exsNe : Exs → Bool
  | .nil => false
  | .cons _ _ => true
def isBack : Expr → Bool
  | .Slice none none (some (.UnaryOp .USub (.Constant (.int i) _ _) _)) _ => decide (i = 1)
  | _ => false
def isTxt (s : Str) : Expr → Bool
  | .Constant (.str s') _ _ => decide (s' = s)
  | _ => false
def fval : Expr → Option Expr
  | .FormattedValue e' c none _ => if c = -1 then some e' else none
  | _ => none
theorem isBack_is {s : Expr} (h : isBack s = true) : ∃ k p1 p2 p3, s = .Slice none none (some (.UnaryOp .USub (.Constant (.int 1) k p1) p2)) p3 := by
  unfold isBack at h
  split at h
  · rw [of_decide_eq_true h]
    exact ⟨_, _, _, _, rfl⟩
  · cases h
theorem isTxt_is {t : Str} {s : Expr} (h : isTxt t s = true) : ∃ k p, s = .Constant (.str t) k p := by
  unfold isTxt at h
  split at h
  · rw [of_decide_eq_true h]
    exact ⟨_, _, rfl⟩
  · cases h
theorem fval_is {s e : Expr} (h : fval s = some e) : ∃ p, s = .FormattedValue e (-1) none p := by
  unfold fval at h
  split at h
  · split at h
    · rename_i hc
      cases h
      rw [hc]
      exact ⟨_, rfl⟩
    · cases h
  · cases h
def ckLrg (sc : Scope) (r : Expr → Bool) : Expr → Bool
  | .Call (.Name x _) [.Call (.Name y _) [ea] [] _] [] _ => (decide (x = "list") && decide (y = "range")) && ((glC sc x && glC sc y) && (noStar ea && r ea))
  | _ => false
def ckDix (kvs : List (Str × Str)) (r : Expr → Bool) : Expr → Bool
  | .Subscript (.Dict ks vs _) ea _ => (litKs kvs ks vs && decide ((kvs.map (·.1)).Nodup)) && ((decide (kvs.length ≤ 15) && !kvs.isEmpty) && (noSlice ea && r ea))
  | _ => false
def ckIsi (t : Ity) (sc : Scope) (r : Expr → Bool) : Expr → Bool
  | .Call (.Name x _) [ea, .Name y _] [] _ => (decide (x = "isinstance") && decide (y = ityS t)) && ((glC sc x && glC sc y) && (noStar ea && r ea))
  | _ => false
def ckLset (sc : Scope) (r : Expr → Bool) : Expr → Bool
  | .Call (.Name x _) [.Call (.Name y _) [ea] [] _] [] _ => (decide (x = "len") && decide (y = "set")) && ((glC sc x && glC sc y) && (noStar ea && r ea))
  | _ => false
def ck1 (o : Op1) (sc : Scope) (r : Expr → Bool) (e : Expr) : Bool := match o with
  | .isi t => ckIsi t sc r e
  | .lset => ckLset sc r e
def ck2 (o : Op2) (sc : Scope) (r r2 : Expr → Bool) (e : Expr) : Bool := match o with
  | .dget _ => false
/-- a call of a def, by place or by name -/
def callOk (T : Tab) (f : Nat) (es : Exs) (ks : List Nat) (sc : Scope) (y : Str) (as : List Expr) (kws : List Keyword) (r : List Expr → Bool) : Bool := match T.at f with
  | some fn => decide (fn.name = y) && (glC sc y && match as with
    | [] => match kwN kws with
      | some nms => r (kws.map (·.value)) && T.kc.any fun q => decide (q = (f, nms, ks))
      | none => false
    | _ :: _ => kws.isEmpty && (exsNe es && (decide (ks = List.range es.len) && r as)))
  | none => false
section
variable (T : Tab) (N : List Str)
mutual
def ckE : Ex → Scope → Expr → Bool
  | .var i, sc, e => match e with
    | .Name x _ => nmOk N sc i x
    | _ => false
  | .cst x d, sc, e => match e with
    | .Name y _ => decide (y = x) && (glC sc x && T.cs.any fun q => decide (q.1 = x) && sameD q.2 d)
    | _ => false
  | .lit d, _, e => match e with
    | .Constant c _ _ => litOk d c
    | _ => false
  | .tup es, sc, e => match e with
    | .Tuple es' _ _ => decide (es'.length ≤ 1000) && ckEs es sc es'
    | _ => false
  | .lst es, sc, e => match e with
    | .List es' _ => decide (es'.length ≤ 1000) && ckEs es sc es'
    | _ => false
  | .bin o a b, sc, e => match e with
    | .BinOp a' o' b' _ => decide (o' = bopS o) && (ckE a sc a' && ckE b sc b')
    | _ => false
  | .neg a, sc, e => match e with
    | .UnaryOp o a' _ => decide (o = .USub) && ckE a sc a'
    | _ => false
  | .nt a, sc, e => match e with
    | .UnaryOp o a' _ => decide (o = .Not) && ckE a sc a'
    | _ => false
  | .cmp o a b, sc, e => match e with
    | .Compare a' os bs _ => match os, bs with
      | [o'], [b'] => decide (o' = cop o) && (noSet b' && (ckE a sc a' && ckE b sc b'))
      | _, _ => false
    | _ => false
  | .chain o o2 a b c, sc, e => match e with
    | .Compare a' os bs _ => match os, bs with
      | [o', o2'], [b', c'] => (decide (o' = cop o) && decide (o2' = cop o2)) && ((noSet b' && noSet c') && (ckE a sc a' && (ckE b sc b' && ckE c sc c')))
      | _, _ => false
    | _ => false
  | .bop all es, sc, e => match e with
    | .BoolOp o es' _ => decide (o = boS all) && (exsNe es && ckEs es sc es')
    | _ => false
  | .ite c a b, sc, e => match e with
    | .IfExp c' a' b' _ => ckT c sc c' && (ckE a sc a' && ckE b sc b')
    | _ => false
  | .ix a i, sc, e => match e with
    | .Subscript a' i' _ => noSlice i' && (ckE a sc a' && ckE i sc i')
    | _ => false
  | .slc a lo hi, sc, e => match e with
    | .Subscript a' s _ => match s with
      | .Slice lo' hi' st _ => match st with
        | none => ckE a sc a' && (ckO lo sc lo' && ckO hi sc hi')
        | some _ => false
      | _ => false
    | _ => false
  | .rev a, sc, e => match e with
    | .Subscript a' s _ => isBack s && ckE a sc a'
    | _ => false
  | .x1 o a, sc, e => ck1 o sc (fun ea => ckE a sc ea) e
  | .x2 o a b, sc, e => ck2 o sc (fun ea => ckE a sc ea) (fun eb => ckE b sc eb) e
  | .lrg a, sc, e => ckLrg sc (fun ea => ckE a sc ea) e
  | .dix kvs a, sc, e => ckDix kvs (fun ea => ckE a sc ea) e
  | .call f es ks, sc, e => match e with
    | .Call g as kws _ => match g with
      | .Name y _ => callOk T f es ks sc y as kws fun l => ckEs es sc l
      | _ => false
    | _ => false
  | .bf f es, sc, e => match e with
    | .Call g as kws _ => match g with
      | .Name y _ => decide (bfN f = y) && (glC sc y && (kws.isEmpty && (exsNe es && ckEs es sc as)))
      | _ => false
    | _ => false
  | .mt m o es, sc, e => match e with
    | .Call g as kws p => match g with
      | .Attribute o' n ap => match es, as with
        | .cons b .nil, [b'] => (kws.isEmpty && (noStar b' && (plainBase o' && (ap.endLine == p.line)))) && ((match m with
            | .append => decide (n = "append")
            | .count => decide (n = "count")
            | .extend => decide (n = "extend")
            | .join => decide (n = "join")
            | .pop => false) && (ckE o sc o' && ckE b sc b'))
        | .nil, [] => (kws.isEmpty && (plainBase o' && (ap.endLine == p.line))) && ((match m with
            | .pop => decide (n = "pop")
            | _ => false) && ckE o sc o')
        | _, _ => false
      | _ => false
    | _ => false
  | .comp own elt tg it ifs, sc, e => match e with
    | .ListComp ee gs scope _ => match gs with
      | [⟨te, ie, fe, a⟩] => (decide (a = 0) && (decide ((ownN N own).map (·.2) = own) && (blkC N sc scope (ownN N own) && (allIn (tgIs tg) own && (noSet ie && decide (fe.length ≤ 1)))))) &&
          (ckI it sc te ie && (ckTg N (relS scope sc) (fun x => scope.names.lookup x == some .cell) tg te && (ckTs ifs (relS scope sc) fe && ckE elt (relS scope sc) ee)))
      | _ => false
    | _ => false
  | .fst ps, sc, e => match e with
    | .JoinedStr vs _ => match vs with
      | e1 :: e2 :: er => ckF ps sc (e1 :: e2 :: er)
      | _ => false
    | _ => false
def ckEs : Exs → Scope → List Expr → Bool
  | .nil, _, es => es.isEmpty
  | .cons x xs, sc, es => match es with
    | e :: es => ckE x sc e && (noStar e && ckEs xs sc es)
    | [] => false
def ckT : Ex → Scope → Expr → Bool
  | .nt a, sc, e => match e with
    | .UnaryOp o a' _ => decide (o = .Not) && ckT a sc a'
    | _ => false
  | .cmp o a b, sc, e => match e with
    | .Compare a' os bs _ => match os, bs with
      | [o'], [b'] => decide (o' = cop o) && (noSet b' && (ckE a sc a' && ckE b sc b'))
      | _, _ => false
    | _ => false
  | .chain o o2 a b c, sc, e => match e with
    | .Compare a' os bs _ => match os, bs with
      | [o', o2'], [b', c'] => (decide (o' = cop o) && decide (o2' = cop o2)) && ((noSet b' && noSet c') && (ckE a sc a' && (ckE b sc b' && ckE c sc c')))
      | _, _ => false
    | _ => false
  | .bop all es, sc, e => match e with
    | .BoolOp o es' _ => decide (o = boS all) && (exsNe es && ckTs es sc es')
    | _ => false
  | .var i, sc, e => match e with
    | .Name x _ => nmOk N sc i x
    | _ => false
  | .cst x d, sc, e => match e with
    | .Name y _ => decide (y = x) && (glC sc x && T.cs.any fun q => decide (q.1 = x) && sameD q.2 d)
    | _ => false
  | .lit d, _, e => match e with
    | .Constant c _ _ => litOk d c
    | _ => false
  | .ix a i, sc, e => plainT e && match e with
    | .Subscript a' i' _ => noSlice i' && (ckE a sc a' && ckE i sc i')
    | _ => false
  | .x1 o a, sc, e => plainT e && ck1 o sc (fun ea => ckE a sc ea) e
  | .call f es ks, sc, e => plainT e && match e with
    | .Call g as kws _ => match g with
      | .Name y _ => callOk T f es ks sc y as kws fun l => ckEs es sc l
      | _ => false
    | _ => false
  | .bf f es, sc, e => plainT e && match e with
    | .Call g as kws _ => match g with
      | .Name y _ => decide (bfN f = y) && (glC sc y && (kws.isEmpty && (exsNe es && ckEs es sc as)))
      | _ => false
    | _ => false
  | _, _, _ => false
def ckTs : Exs → Scope → List Expr → Bool
  | .nil, _, es => es.isEmpty
  | .cons x xs, sc, es => match es with
    | e :: es => ckT x sc e && ckTs xs sc es
    | [] => false
def ckO : Ox → Scope → Option Expr → Bool
  | .non, _, e => e.isNone
  | .som x, sc, e => match e with
    | some e => ckE x sc e
    | none => false
def ckF : Fps → Scope → List Expr → Bool
  | .nil, _, es => es.isEmpty
  | .txt s ps, sc, es => match es with
    | e :: es => isTxt s e && ckF ps sc es
    | [] => false
  | .val x ps, sc, es => match es with
    | e :: es => (match fval e with
      | some e' => ckE x sc e'
      | none => false) && ckF ps sc es
    | [] => false
def ckI : It → Scope → Expr → Expr → Bool
  | .seq x, sc, _, e => ckE x sc e
  | .rng1 a, sc, _, e => match e with
    | .Call g as kws _ => match g, as with
      | .Name y _, [a'] => decide (y = "range") && (kws.isEmpty && (glC sc "range" && (noStar a' && ckE a sc a')))
      | _, _ => false
    | _ => false
  | .rng2 a b, sc, _, e => match e with
    | .Call g as kws _ => match g, as with
      | .Name y _, [a', b'] => decide (y = "range") && (kws.isEmpty && (glC sc "range" && ((noStar a' && ckE a sc a') && (noStar b' && ckE b sc b'))))
      | _, _ => false
    | _ => false
  | .rng3 a b c, sc, _, e => match e with
    | .Call g as kws _ => match g, as with
      | .Name y _, [a', b', c'] => decide (y = "range") && (kws.isEmpty && (glC sc "range" && ((noStar a' && ckE a sc a') && ((noStar b' && ckE b sc b') && (noStar c' && ckE c sc c')))))
      | _, _ => false
    | _ => false
  | .enum a, sc, te, e => match te with
    | .Tuple _ _ _ => match e with
      | .Call g as kws _ => match g, as with
        | .Name y _, [a'] => decide (y = "enumerate") && (kws.isEmpty && (glC sc "enumerate" && (noStar a' && ckE a sc a')))
        | _, _ => false
      | _ => false
    | _ => false
  | .zip a b, sc, te, e => match te with
    | .Tuple _ _ _ => match e with
      | .Call g as kws _ => match g, as with
        | .Name y _, [a', b'] => decide (y = "zip") && (kws.isEmpty && (glC sc "zip" && ((noStar a' && ckE a sc a') && (noStar b' && ckE b sc b'))))
        | _, _ => false
      | _ => false
    | _ => false
end
end
end Ev

set_option maxRecDepth 100000
set_option maxHeartbeats 2000000
namespace Ev
open PySem PySem.Spec PyProof.Rows L2
theorem and2 {a b : Bool} (h : (a && b) = true) : a = true ∧ b = true := by
  cases a <;> cases b <;> first | exact ⟨rfl, rfl⟩ | exact absurd h (by decide)
theorem no {p : Prop} (h : false = true) : p := absurd h (by decide)
theorem plainIx_of {e : Expr} (h : noSlice e = true) : PlainIx e := by
  cases e <;> first | exact no h | exact fun _ _ => rfl
theorem ns_of {N : List Str} {sc : Scope} {fp : Str → Bool} : ∀ {is : List Nat} {es : List Expr}, ckNs N sc fp is es = true → SN N sc fp is es
  | [], [], _ => .nil
  | [], _ :: _, h => no h
  | _ :: _, [], h => no h
  | i :: is, e :: es, h => by
    obtain ⟨h1, h2⟩ := and2 h
    cases e with
    | Name x p =>
      obtain ⟨h3, h4⟩ := and2 h1
      exact .cons (of_decide_eq_true h3) h4 (ns_of h2)
    | _ => exact no h1
theorem xs_of {N : List Str} {sc : Scope} {fp : Str → Bool} : ∀ {l : List (Nat ⊕ List Nat)} {es : List Expr}, sumNs N sc fp l es = true → SX N sc fp l es
  | [], [], _ => .nil
  | [], _ :: _, h => no h
  | .inl _ :: _, [], h => no h
  | .inr _ :: _, [], h => no h
  | .inl i :: l, e :: es, h => by
    obtain ⟨h1, h2⟩ := and2 h
    cases e with
    | Name x p =>
      obtain ⟨h3, h4⟩ := and2 h1
      exact .nm (of_decide_eq_true h3) h4 (xs_of h2)
    | _ => exact no h1
  | .inr is :: l, e :: es, h => by
    obtain ⟨h1, h2⟩ := and2 h
    cases e with
    | Tuple ts _ _ => exact .tp (ns_of h1) (xs_of h2)
    | _ => exact no h1
theorem tg_of {N : List Str} {sc : Scope} {fp : Str → Bool} {tg : Tg} {e : Expr} (h : ckTg N sc fp tg e = true) : SG N sc fp tg e := by
  cases tg with
  | name i =>
    cases e with
    | Name x p =>
      obtain ⟨h3, h4⟩ := and2 h
      exact .name (of_decide_eq_true h3) h4
    | _ => exact no h
  | tup is =>
    cases e with
    | Tuple es _ _ => exact .tup (ns_of h)
    | _ => exact no h
  | mix l =>
    cases e with
    | Tuple es _ _ => exact .mix (xs_of h)
    | _ => exact no h
def isTupE : Expr → Bool
  | .Tuple _ _ _ => true
  | _ => false
theorem tup_tg {N : List Str} {sc : Scope} {fp : Str → Bool} {tg : Tg} {e : Expr} (h : ckTg N sc fp tg e = true) (ht : isTupE e = true) : isTup' tg = true := by
  cases tg with
  | name i => cases e <;> first | exact no h | exact no ht
  | tup is => rfl
  | mix l => rfl
theorem in_of {is ws : List Nat} (h : allIn is ws = true) : ∀ i ∈ is, i ∈ ws := fun i hi => of_decide_eq_true (List.all_eq_true.mp h i hi)
theorem ne_of_exs {xs : Exs} (h : exsNe xs = true) : xs.len ≠ 0 := by
  cases xs with
  | nil => exact no h
  | cons _ _ => exact Nat.succ_ne_zero _
section
variable {G : Gd} {N : List Str} (ok : G.Ok) (hN : N.Nodup)
include ok hN
/-- a call by place or by name -/
theorem call_of {f : Nat} {es : Exs} {ks : List Nat} {sc : Scope} {e : Expr} (ih : ∀ as, ckEs G.T N es sc as = true → SEs G N sc es as) (h : ckE G.T N (.call f es ks) sc e = true) : SE G N sc (.call f es ks) e := by
  cases e with
  | Call g as kws p =>
    cases g with
    | Name y q =>
      have h : callOk G.T f es ks sc y as kws (fun l => ckEs G.T N es sc l) = true := h
      unfold callOk at h
      split at h
      · rename_i fn e1
        obtain ⟨h1, h20⟩ := and2 h
        obtain ⟨h2, h3⟩ := and2 h20
        clear h h20
        split at h3
        · split at h3
          · rename_i nms e2
            obtain ⟨h4, h5⟩ := and2 h3
            obtain ⟨q', hq, h6⟩ := List.any_eq_true.mp h5
            rw [of_decide_eq_true h6] at hq
            exact se_callK ok e1 (of_decide_eq_true h1) h2 (ih _ h4) e2 hq
          · exact no h3
        · obtain ⟨h4, h5⟩ := and2 h3
          obtain ⟨h5, h6⟩ := and2 h5
          obtain ⟨h6, h7⟩ := and2 h6
          rw [List.isEmpty_iff.mp h4]
          exact se_call ok e1 (of_decide_eq_true h1) h2 (ih _ h7) (ne_of_exs h5) (of_decide_eq_true h6)
      · exact no h
    | _ => exact no h
  | _ => exact no h
theorem x1_of {o : Op1} {a : Ex} {sc : Scope} {e : Expr} (ih : ∀ e, ckE G.T N a sc e = true → SE G N sc a e) (h : ck1 o sc (fun ea => ckE G.T N a sc ea) e = true) : SE G N sc (.x1 o a) e := by
  cases o with
  | isi t =>
    change ckIsi t sc (fun ea => ckE G.T N a sc ea) e = true at h
    unfold ckIsi at h
    split at h
    · obtain ⟨h1, h2⟩ := and2 h
      obtain ⟨h3, h4⟩ := and2 h1
      obtain ⟨h5, h6⟩ := and2 h2
      obtain ⟨h7, h8⟩ := and2 h5
      obtain ⟨h9, h10⟩ := and2 h6
      rw [of_decide_eq_true h3] at h7 ⊢
      rw [of_decide_eq_true h4] at h8 ⊢
      exact se_isi ok h7 h8 (ih _ h10) h9
    · exact no h
  | lset =>
    change ckLset sc (fun ea => ckE G.T N a sc ea) e = true at h
    unfold ckLset at h
    split at h
    · obtain ⟨h1, h2⟩ := and2 h
      obtain ⟨h3, h4⟩ := and2 h1
      obtain ⟨h5, h6⟩ := and2 h2
      obtain ⟨h7, h8⟩ := and2 h5
      obtain ⟨h9, h10⟩ := and2 h6
      rw [of_decide_eq_true h3] at h7 ⊢
      rw [of_decide_eq_true h4] at h8 ⊢
      exact se_lset ok h7 h8 (ih _ h10) h9
    · exact no h
theorem x2_of {o : Op2} {a b : Ex} {sc : Scope} {e : Expr} (ih : ∀ e, ckE G.T N a sc e = true → SE G N sc a e) (ih2 : ∀ e, ckE G.T N b sc e = true → SE G N sc b e) (h : ck2 o sc (fun ea => ckE G.T N a sc ea) (fun eb => ckE G.T N b sc eb) e = true) : SE G N sc (.x2 o a b) e := by
  cases o with
  | dget _ => exact no h
theorem lrg_of {a : Ex} {sc : Scope} {e : Expr} (ih : ∀ e, ckE G.T N a sc e = true → SE G N sc a e) (h : ckE G.T N (.lrg a) sc e = true) : SE G N sc (.lrg a) e := by
  change ckLrg sc (fun ea => ckE G.T N a sc ea) e = true at h
  unfold ckLrg at h
  split at h
  · obtain ⟨h1, h2⟩ := and2 h
    obtain ⟨h3, h4⟩ := and2 h1
    obtain ⟨h5, h6⟩ := and2 h2
    obtain ⟨h7, h8⟩ := and2 h5
    obtain ⟨h9, h10⟩ := and2 h6
    rw [of_decide_eq_true h3] at h7 ⊢
    rw [of_decide_eq_true h4] at h8 ⊢
    exact se_lrg ok h7 h8 (ih _ h10) h9
  · exact no h
theorem dix_of {kvs : List (Str × Str)} {a : Ex} {sc : Scope} {e : Expr} (ih : ∀ e, ckE G.T N a sc e = true → SE G N sc a e) (h : ckE G.T N (.dix kvs a) sc e = true) : SE G N sc (.dix kvs a) e := by
  change ckDix kvs (fun ea => ckE G.T N a sc ea) e = true at h
  unfold ckDix at h
  split at h
  · obtain ⟨h1, h2⟩ := and2 h
    obtain ⟨h3, h4⟩ := and2 h1
    obtain ⟨h5, h6⟩ := and2 h2
    obtain ⟨h7, h8⟩ := and2 h5
    obtain ⟨h9, h10⟩ := and2 h6
    refine se_dix h3 (of_decide_eq_true h4) (fun z => ?_) (of_decide_eq_true h7) (ih _ h10) (plainIx_of h9)
    rw [z] at h8
    exact no h8
  · exact no h
theorem bf_of {f : Bfn} {es : Exs} {sc : Scope} {e : Expr} (ih : ∀ as, ckEs G.T N es sc as = true → SEs G N sc es as) (h : ckE G.T N (.bf f es) sc e = true) : SE G N sc (.bf f es) e := by
  cases e with
  | Call g as kws p =>
    cases g with
    | Name y q =>
      obtain ⟨h1, h2⟩ := and2 h
      obtain ⟨h2, h3⟩ := and2 h2
      obtain ⟨h3, h4⟩ := and2 h3
      obtain ⟨h4, h5⟩ := and2 h4
      rw [List.isEmpty_iff.mp h3]
      exact se_bf ok (of_decide_eq_true h1) h2 (ih _ h5) (ne_of_exs h4)
    | _ => exact no h
  | _ => exact no h
theorem cmp_of {o : Cop} {a b : Ex} {sc : Scope} {e : Expr} (iha : ∀ e, ckE G.T N a sc e = true → SE G N sc a e) (ihb : ∀ e, ckE G.T N b sc e = true → SE G N sc b e) (h : ckE G.T N (.cmp o a b) sc e = true) : SE G N sc (.cmp o a b) e ∧ ST G N sc (.cmp o a b) e := by
  cases e with
  | Compare a' os bs p =>
    match os, bs, h with
    | [o'], [b'], h =>
      obtain ⟨h1, h2⟩ := and2 h
      obtain ⟨h2, h3⟩ := and2 h2
      obtain ⟨h3, h4⟩ := and2 h3
      rw [of_decide_eq_true h1]
      exact ⟨se_cmp (iha _ h3) (ihb _ h4) h2, st_cmp (iha _ h3) (ihb _ h4) h2⟩
    | [], [], h => exact no h
    | [], _ :: _, h => exact no h
    | [_], [], h => exact no h
    | [_], _ :: _ :: _, h => exact no h
    | _ :: _ :: _, [], h => exact no h
    | _ :: _ :: _, _ :: _, h => exact no h
  | _ => exact no h
theorem chain_of {o o2 : Cop} {a b c : Ex} {sc : Scope} {e : Expr} (iha : ∀ e, ckE G.T N a sc e = true → SE G N sc a e) (ihb : ∀ e, ckE G.T N b sc e = true → SE G N sc b e) (ihc : ∀ e, ckE G.T N c sc e = true → SE G N sc c e) (h : ckE G.T N (.chain o o2 a b c) sc e = true) :
    SE G N sc (.chain o o2 a b c) e ∧ ST G N sc (.chain o o2 a b c) e := by
  cases e with
  | Compare a' os bs p =>
    match os, bs, h with
    | [o', o2'], [b', c'], h =>
      obtain ⟨h1, h2⟩ := and2 h
      obtain ⟨h0, h1⟩ := and2 h1
      obtain ⟨h2, h3⟩ := and2 h2
      obtain ⟨h2, h2'⟩ := and2 h2
      obtain ⟨h3, h4⟩ := and2 h3
      obtain ⟨h4, h5⟩ := and2 h4
      rw [of_decide_eq_true h0, of_decide_eq_true h1]
      exact ⟨se_chain (iha _ h3) (ihb _ h4) (ihc _ h5) h2 h2', st_chain (iha _ h3) (ihb _ h4) (ihc _ h5) h2 h2'⟩
    | [], [], h => exact no h
    | [], _ :: _, h => exact no h
    | [_], [], h => exact no h
    | [_], _ :: _, h => exact no h
    | [_, _], [], h => exact no h
    | [_, _], [_], h => exact no h
    | [_, _], _ :: _ :: _ :: _, h => exact no h
    | _ :: _ :: _ :: _, [], h => exact no h
    | _ :: _ :: _ :: _, _ :: _, h => exact no h
  | _ => exact no h
theorem ix_of {a i : Ex} {sc : Scope} {e : Expr} (iha : ∀ e, ckE G.T N a sc e = true → SE G N sc a e) (ihi : ∀ e, ckE G.T N i sc e = true → SE G N sc i e) (h : ckE G.T N (.ix a i) sc e = true) : SE G N sc (.ix a i) e := by
  cases e with
  | Subscript a' i' p =>
    obtain ⟨h1, h2⟩ := and2 h
    obtain ⟨h2, h3⟩ := and2 h2
    exact se_ix (iha _ h2) (ihi _ h3) (plainIx_of h1)
  | _ => exact no h
mutual
theorem sndE : ∀ (x : Ex) (sc : Scope) (e : Expr), ckE G.T N x sc e = true → SE G N sc x e
  | .var i, sc, e, h => by
    cases e with
    | Name x p => exact se_var h
    | _ => exact no h
  | .cst x d, sc, e, h => by
    cases e with
    | Name y p =>
      obtain ⟨h1, h2⟩ := and2 h
      obtain ⟨h2, h3⟩ := and2 h2
      rw [of_decide_eq_true h1]
      exact se_cst ok h2 h3
    | _ => exact no h
  | .lit d, sc, e, h => by
    cases e with
    | Constant c j p => exact se_lit h
    | _ => exact no h
  | .tup es, sc, e, h => by
    cases e with
    | Tuple es' k p =>
      obtain ⟨h1, h2⟩ := and2 h
      exact se_tup (sndEs es sc es' h2) h1
    | _ => exact no h
  | .lst es, sc, e, h => by
    cases e with
    | List es' p =>
      obtain ⟨h1, h2⟩ := and2 h
      exact se_lst (sndEs es sc es' h2) h1
    | _ => exact no h
  | .bin o a b, sc, e, h => by
    cases e with
    | BinOp a' o' b' p =>
      obtain ⟨h1, h2⟩ := and2 h
      obtain ⟨h2, h3⟩ := and2 h2
      rw [of_decide_eq_true h1]
      exact se_bin (sndE a sc a' h2) (sndE b sc b' h3)
    | _ => exact no h
  | .neg a, sc, e, h => by
    cases e with
    | UnaryOp o a' p =>
      obtain ⟨h1, h2⟩ := and2 h
      rw [of_decide_eq_true h1]
      exact se_neg (sndE a sc a' h2)
    | _ => exact no h
  | .nt a, sc, e, h => by
    cases e with
    | UnaryOp o a' p =>
      obtain ⟨h1, h2⟩ := and2 h
      rw [of_decide_eq_true h1]
      exact se_nt (sndE a sc a' h2)
    | _ => exact no h
  | .cmp o a b, sc, e, h => (cmp_of ok hN (fun e => sndE a sc e) (fun e => sndE b sc e) h).1
  | .chain o o2 a b c, sc, e, h => (chain_of ok hN (fun e => sndE a sc e) (fun e => sndE b sc e) (fun e => sndE c sc e) h).1
  | .bop all es, sc, e, h => by
    cases e with
    | BoolOp o es' p =>
      obtain ⟨h1, h2⟩ := and2 h
      obtain ⟨h2, h3⟩ := and2 h2
      rw [of_decide_eq_true h1]
      exact se_bop (sndEs es sc es' h3) (ne_of_exs h2)
    | _ => exact no h
  | .ite c a b, sc, e, h => by
    cases e with
    | IfExp c' a' b' p =>
      obtain ⟨h1, h2⟩ := and2 h
      obtain ⟨h2, h3⟩ := and2 h2
      exact se_ite (sndT c sc c' h1) (sndE a sc a' h2) (sndE b sc b' h3)
    | _ => exact no h
  | .ix a i, sc, e, h => ix_of ok hN (fun e => sndE a sc e) (fun e => sndE i sc e) h
  | .slc a lo hi, sc, e, h => by
    cases e with
    | Subscript a' s p =>
      cases s with
      | Slice lo' hi' st p2 =>
        cases st with
        | none =>
          obtain ⟨h1, h2⟩ := and2 h
          obtain ⟨h2, h3⟩ := and2 h2
          exact se_slc (sndE a sc a' h1) (sndO lo sc lo' h2) (sndO hi sc hi' h3)
        | some _ => exact no h
      | _ => exact no h
    | _ => exact no h
  | .rev a, sc, e, h => by
    cases e with
    | Subscript a' s p =>
      obtain ⟨h1, h2⟩ := and2 h
      obtain ⟨k, p1, p2, p3, rfl⟩ := isBack_is h1
      exact se_rev (sndE a sc a' h2)
    | _ => exact no h
  | .x1 o a, sc, e, h => x1_of ok hN (fun e => sndE a sc e) h
  | .x2 o a b, sc, e, h => x2_of ok hN (fun e => sndE a sc e) (fun e => sndE b sc e) h
  | .lrg a, sc, e, h => lrg_of ok hN (fun e => sndE a sc e) h
  | .dix kvs a, sc, e, h => dix_of ok hN (fun e => sndE a sc e) h
  | .call f es ks, sc, e, h => call_of ok hN (fun as => sndEs es sc as) h
  | .bf f es, sc, e, h => bf_of ok hN (fun as => sndEs es sc as) h
  | .mt m o (.cons b .nil), sc, e, h => by
    cases e with
    | Call g as kws p =>
      cases g with
      | Attribute o' n ap =>
        match as, h with
        | [b'], h =>
          obtain ⟨h1, h2⟩ := and2 h
          obtain ⟨h1, h3⟩ := and2 h1
          obtain ⟨h3, h4⟩ := and2 h3
          obtain ⟨h4, h5⟩ := and2 h4
          obtain ⟨h2, h6⟩ := and2 h2
          obtain ⟨h6, h7⟩ := and2 h6
          rw [List.isEmpty_iff.mp h1]
          cases m with
          | append =>
            rw [of_decide_eq_true h2]
            exact se_append (sndE o sc o' h6) (sndE b sc b' h7) h3 h4 h5
          | count =>
            rw [of_decide_eq_true h2]
            exact se_count (sndE o sc o' h6) (sndE b sc b' h7) h3 h4 h5
          | join =>
            rw [of_decide_eq_true h2]
            exact se_join (sndE o sc o' h6) (sndE b sc b' h7) h3 h4 h5
          | extend =>
            rw [of_decide_eq_true h2]
            exact se_extend (sndE o sc o' h6) (sndE b sc b' h7) h3 h4 h5
          | pop => exact no h2
        | [], h => exact no h
        | _ :: _ :: _, h => exact no h
      | _ => exact no h
    | _ => exact no h
  | .mt m o .nil, sc, e, h => by
    cases e with
    | Call g as kws p =>
      cases g with
      | Attribute o' n ap =>
        match as, h with
        | [], h =>
          obtain ⟨h1, h2⟩ := and2 h
          obtain ⟨h1, h3⟩ := and2 h1
          obtain ⟨h3, h4⟩ := and2 h3
          obtain ⟨h2, h5⟩ := and2 h2
          rw [List.isEmpty_iff.mp h1]
          cases m with
          | pop =>
            rw [of_decide_eq_true h2]
            exact se_pop (sndE o sc o' h5) h3 h4
          | _ => exact no h2
        | _ :: _, h => exact no h
      | _ => cases as <;> exact no h
    | _ => exact no h
  | .mt m o (.cons _ (.cons _ _)), sc, e, h => by
    cases e with
    | Call g as kws p => cases g <;> first | exact no h | (cases as <;> exact no h)
    | _ => exact no h
  | .comp own elt tg it ifs, sc, e, h => by
    cases e with
    | ListComp ee gs scope p =>
      match gs, h with
      | [⟨te, ie, fe, a⟩], h =>
        obtain ⟨h1, h2⟩ := and2 h
        obtain ⟨h1, h3⟩ := and2 h1
        obtain ⟨h3, h4⟩ := and2 h3
        obtain ⟨h4, h5⟩ := and2 h4
        obtain ⟨h5, h6⟩ := and2 h5
        obtain ⟨h6, h7⟩ := and2 h6
        obtain ⟨h2, h8⟩ := and2 h2
        obtain ⟨h8, h9⟩ := and2 h8
        obtain ⟨h9, h10⟩ := and2 h9
        obtain rfl := of_decide_eq_true h1
        exact se_comp hN (of_decide_eq_true h3) h4 (in_of h5) (sndI it sc (isTup' tg) te ie h2 (tup_tg h8)) h6 (tg_of h8) (sndTs ifs (relS scope sc) fe h9) h7 (sndE elt (relS scope sc) ee h10)
      | [], h => exact no h
      | ⟨_, _, _, _⟩ :: _ :: _, h => exact no h
    | _ => exact no h
  | .fst ps, sc, e, h => by
    cases e with
    | JoinedStr vs p =>
      match vs, h with
      | e1 :: e2 :: er, h => exact se_fst (sndF ps sc _ h)
      | [], h => exact no h
      | [_], h => exact no h
    | _ => exact no h
theorem sndEs : ∀ (xs : Exs) (sc : Scope) (es : List Expr), ckEs G.T N xs sc es = true → SEs G N sc xs es
  | .nil, sc, es, h => by
    cases es with
    | nil => exact .nil
    | cons _ _ => exact no h
  | .cons x xs, sc, es, h => by
    cases es with
    | nil => exact no h
    | cons e es =>
      obtain ⟨h1, h2⟩ := and2 h
      obtain ⟨h2, h3⟩ := and2 h2
      exact .cons (sndE x sc e h1) h2 (sndEs xs sc es h3)
theorem sndT : ∀ (x : Ex) (sc : Scope) (e : Expr), ckT G.T N x sc e = true → ST G N sc x e
  | .nt a, sc, e, h => by
    cases e with
    | UnaryOp o a' p =>
      obtain ⟨h1, h2⟩ := and2 h
      rw [of_decide_eq_true h1]
      exact st_nt (sndT a sc a' h2)
    | _ => exact no h
  | .cmp o a b, sc, e, h => (cmp_of ok hN (fun e => sndE a sc e) (fun e => sndE b sc e) h).2
  | .chain o o2 a b c, sc, e, h => (chain_of ok hN (fun e => sndE a sc e) (fun e => sndE b sc e) (fun e => sndE c sc e) h).2
  | .bop all es, sc, e, h => by
    cases e with
    | BoolOp o es' p =>
      obtain ⟨h1, h2⟩ := and2 h
      obtain ⟨h2, h3⟩ := and2 h2
      rw [of_decide_eq_true h1]
      exact st_bop (sndTs es sc es' h3) (ne_of_exs h2)
    | _ => exact no h
  | .var i, sc, e, h => by
    cases e with
    | Name x p => exact st_val (se_var h) rfl
    | _ => exact no h
  | .cst x d, sc, e, h => by
    cases e with
    | Name y p =>
      obtain ⟨h3, h4⟩ := and2 h
      obtain ⟨h4, h5⟩ := and2 h4
      rw [of_decide_eq_true h3]
      exact st_val (se_cst ok h4 h5) rfl
    | _ => exact no h
  | .lit d, sc, e, h => by
    cases e with
    | Constant c j p => exact st_val (se_lit h) rfl
    | _ => exact no h
  | .ix a i, sc, e, h => st_val (ix_of ok hN (fun e => sndE a sc e) (fun e => sndE i sc e) (and2 h).2) (and2 h).1
  | .x1 o a, sc, e, h => st_val (x1_of ok hN (fun e => sndE a sc e) (and2 h).2) (and2 h).1
  | .x2 _ _ _, _, _, h => no h
  | .call f es ks, sc, e, h => st_val (call_of ok hN (fun as => sndEs es sc as) (and2 h).2) (and2 h).1
  | .bf f es, sc, e, h => st_val (bf_of ok hN (fun as => sndEs es sc as) (and2 h).2) (and2 h).1
  | .tup _, _, _, h => no h
  | .lst _, _, _, h => no h
  | .bin _ _ _, _, _, h => no h
  | .neg _, _, _, h => no h
  | .ite _ _ _, _, _, h => no h
  | .slc _ _ _, _, _, h => no h
  | .rev _, _, _, h => no h
  | .lrg _, _, _, h => no h
  | .dix _ _, _, _, h => no h
  | .mt _ _ _, _, _, h => no h
  | .comp _ _ _ _ _, _, _, h => no h
  | .fst _, _, _, h => no h
theorem sndTs : ∀ (xs : Exs) (sc : Scope) (es : List Expr), ckTs G.T N xs sc es = true → STs G N sc xs es
  | .nil, sc, es, h => by
    cases es with
    | nil => exact .nil
    | cons _ _ => exact no h
  | .cons x xs, sc, es, h => by
    cases es with
    | nil => exact no h
    | cons e es =>
      obtain ⟨h1, h2⟩ := and2 h
      exact .cons (sndT x sc e h1) (sndTs xs sc es h2)
theorem sndO : ∀ (x : Ox) (sc : Scope) (e : Option Expr), ckO G.T N x sc e = true → SO G N sc x e
  | .non, sc, e, h => by
    cases e with
    | none => exact so_non
    | some _ => exact no h
  | .som x, sc, e, h => by
    cases e with
    | none => exact no h
    | some e => exact so_som (sndE x sc e h)
theorem sndF : ∀ (ps : Fps) (sc : Scope) (es : List Expr), ckF G.T N ps sc es = true → SFs G N sc ps es
  | .nil, sc, es, h => by
    cases es with
    | nil => exact .nil
    | cons _ _ => exact no h
  | .txt s ps, sc, es, h => by
    cases es with
    | nil => exact no h
    | cons e es =>
      obtain ⟨h1, h2⟩ := and2 h
      obtain ⟨k, p, rfl⟩ := isTxt_is h1
      exact .txt (sndF ps sc es h2)
  | .val x ps, sc, es, h => by
    cases es with
    | nil => exact no h
    | cons e es =>
      have h : ((match fval e with
        | some e' => ckE G.T N x sc e'
        | none => false) && ckF G.T N ps sc es) = true := h
      obtain ⟨h1, h2⟩ := and2 h
      cases e1 : fval e with
      | none => rw [e1] at h1; exact no h1
      | some e' =>
        rw [e1] at h1
        obtain ⟨p, rfl⟩ := fval_is e1
        exact .val (sndE x sc e' h1) (sndF ps sc es h2)
theorem sndI : ∀ (x : It) (sc : Scope) (tp : Bool) (te e : Expr), ckI G.T N x sc te e = true → (isTupE te = true → tp = true) → SI G N sc tp te x e
  | .seq x, sc, tp, te, e, h, htp => si_seq (sndE x sc e h)
  | .rng1 a, sc, tp, te, e, h, htp => by
    cases e with
    | Call g as kws p =>
      cases g with
      | Name y q =>
        match as, h with
        | [a'], h =>
          obtain ⟨h1, h2⟩ := and2 h
          obtain ⟨h2, h3⟩ := and2 h2
          obtain ⟨h3, h4⟩ := and2 h3
          obtain ⟨h4, h5⟩ := and2 h4
          rw [of_decide_eq_true h1, List.isEmpty_iff.mp h2]
          exact si_rng1 ok h3 (sndE a sc a' h5) h4
        | [], h => exact no h
        | _ :: _ :: _, h => exact no h
      | _ => cases as <;> exact no h
    | _ => exact no h
  | .rng2 a b, sc, tp, te, e, h, htp => by
    cases e with
    | Call g as kws p =>
      cases g with
      | Name y q =>
        match as, h with
        | [a', b'], h =>
          obtain ⟨h1, h2⟩ := and2 h
          obtain ⟨h2, h3⟩ := and2 h2
          obtain ⟨h3, h4⟩ := and2 h3
          obtain ⟨h4, h5⟩ := and2 h4
          obtain ⟨h4, h6⟩ := and2 h4
          obtain ⟨h5, h7⟩ := and2 h5
          rw [of_decide_eq_true h1, List.isEmpty_iff.mp h2]
          exact si_rng2 ok h3 (sndE a sc a' h6) h4 (sndE b sc b' h7) h5
        | [], h => exact no h
        | [_], h => exact no h
        | _ :: _ :: _ :: _, h => exact no h
      | _ => cases as <;> exact no h
    | _ => exact no h
  | .rng3 a b c, sc, tp, te, e, h, htp => by
    cases e with
    | Call g as kws p =>
      cases g with
      | Name y q =>
        match as, h with
        | [a', b', c'], h =>
          obtain ⟨h1, h2⟩ := and2 h
          obtain ⟨h2, h3⟩ := and2 h2
          obtain ⟨h3, h4⟩ := and2 h3
          obtain ⟨h4, h5⟩ := and2 h4
          obtain ⟨h4, h6⟩ := and2 h4
          obtain ⟨h5, h7⟩ := and2 h5
          obtain ⟨h5, h8⟩ := and2 h5
          obtain ⟨h7, h9⟩ := and2 h7
          rw [of_decide_eq_true h1, List.isEmpty_iff.mp h2]
          exact si_rng3 ok h3 (sndE a sc a' h6) h4 (sndE b sc b' h8) h5 (sndE c sc c' h9) h7
        | [], h => exact no h
        | [_], h => exact no h
        | [_, _], h => exact no h
        | _ :: _ :: _ :: _ :: _, h => exact no h
      | _ => cases as <;> exact no h
    | _ => exact no h
  | .enum a, sc, tp, te, e, h, htp => by
    cases te with
    | Tuple ts kk tq =>
      cases e with
      | Call g as kws p =>
        cases g with
        | Name y q =>
          match as, h with
          | [a'], h =>
            obtain ⟨h1, h2⟩ := and2 h
            obtain ⟨h2, h3⟩ := and2 h2
            obtain ⟨h3, h4⟩ := and2 h3
            obtain ⟨h4, h5⟩ := and2 h4
            rw [of_decide_eq_true h1, List.isEmpty_iff.mp h2]
            exact (show tp = true from htp rfl) ▸ si_enum ok h3 (sndE a sc a' h5) h4
          | [], h => exact no h
          | _ :: _ :: _, h => exact no h
        | _ => cases as <;> exact no h
      | _ => exact no h
    | _ => exact no h
  | .zip a b, sc, tp, te, e, h, htp => by
    cases te with
    | Tuple ts kk tq =>
      cases e with
      | Call g as kws p =>
        cases g with
        | Name y q =>
          match as, h with
          | [a', b'], h =>
            obtain ⟨h1, h2⟩ := and2 h
            obtain ⟨h2, h3⟩ := and2 h2
            obtain ⟨h3, h4⟩ := and2 h3
            obtain ⟨h4, h5⟩ := and2 h4
            obtain ⟨h4, h6⟩ := and2 h4
            obtain ⟨h5, h7⟩ := and2 h5
            rw [of_decide_eq_true h1, List.isEmpty_iff.mp h2]
            exact (show tp = true from htp rfl) ▸ si_zip ok h3 (sndE a sc a' h6) h4 (sndE b sc b' h7) h5
          | [], h => exact no h
          | [_], h => exact no h
          | _ :: _ :: _ :: _, h => exact no h
        | _ => cases as <;> exact no h
      | _ => exact no h
    | _ => exact no h
end
end
end Ev

set_option maxRecDepth 100000
set_option maxHeartbeats 2000000
namespace Ev
open PySem PySem.Spec PyProof.Rows L2
/-! ### statements: text and term -/
def parOk (sc : Scope) (is : List Nat) (ts es : List Expr) : Bool := match swPar sc ts es with
  | none => false
  | some none => true
  | some (some ns) => match is, ts with
    | [i, j], [.Name x _, .Name y _] => decide (ns = [x, y]) && (decide (i ≠ j) && (decide (sc.names.lookup x = some .local) && decide (sc.names.lookup y = some .local)))
    | [i, j, l], [.Name x _, .Name y _, .Name z _] => decide (ns = [x, y, z]) && ((decide (i ≠ j) && (decide (i ≠ l) && decide (j ≠ l))) && (decide (sc.names.lookup x = some .local) && (decide (sc.names.lookup y = some .local) && decide (sc.names.lookup z = some .local))))
    | _, _ => false
/-- where a comprehension goes -/
def setOk (sc : Scope) (y : Str) (py : Pos) : Expr → Bool
  | .ListComp _ _ scope p => (decide (sc.names.lookup y = some .cell)) || (decide (sc.names.lookup y = some .local) && ((py.line == p.line) && !(scope.names.any fun (n, k) => n == y && (k == .local || k == .cell))))
  | e => noComp e && locC sc yes y
theorem setOk_plain {sc : Scope} {y : Str} {py : Pos} {e : Expr} (hc : noComp e = true) (h : setOk sc y py e = true) : locC sc yes y = true := by
  unfold setOk at h
  split at h
  · cases hc
  · exact (and2 h).2
def isNon : Ex → Bool
  | .lit .non => true
  | _ => false
section
variable (T : Tab) (N : List Str) (sc : Scope)
mutual
def ckS : Stm → Stmt → Bool
  | .set i x, st => match st with
    | .Assign ts e _ => match ts with
      | [t] => match t with
        | .Name y py => decide (N[i]? = some y) && (setOk sc y py e && ckE T N x sc e)
        | _ => false
      | _ => false
    | _ => false
  | .par is xs, st => match st with
    | .Assign ts e _ => match ts, e with
      | [t], .Tuple es _ _ => match t with
        | .Tuple ts' _ _ => (ckEs T N xs sc es && (decide (es.length ≤ 1000) && ckNs N sc yes is ts')) && parOk sc is ts' es
        | _ => false
      | _, _ => false
    | _ => false
  | .unp is x, st => match st with
    | .Assign ts e _ => match ts with
      | [t] => match t with
        | .Tuple ts' _ _ => ckNs N sc yes is ts' && (noTup e && ckE T N x sc e)
        | _ => false
      | _ => false
    | _ => false
  | .put a b c, st => match st with
    | .Assign ts e _ => match ts with
      | [t] => match t with
        | .Subscript a' b' _ => noSlice b' && (ckE T N a sc a' && (ckE T N b sc b' && ckE T N c sc e))
        | _ => false
      | _ => false
    | _ => false
  | .expr x, st => match st with
    | .Expr e _ => noComp e && ckE T N x sc e
    | _ => false
  | .ret x, st => match st with
    | .Return v _ => match v with
      | some e => ckE T N x sc e
      | none => isNon x
    | _ => false
  | .iff c A B, st => match st with
    | .If c' A' B' _ => ckT T N c sc c' && (ckSs A A' && ckSs B B')
    | _ => false
  | .whl _ c B, st => match st with
    | .While c' B' oe _ => oe.isEmpty && (ckT T N c sc c' && ckSs B B')
    | _ => false
  | .aug i o x, st => match st with
    | .AugAssign t o' e _ => match t with
      | .Name y _ => ((decide (o' = bopS o) && (match o with
          | .add => true
          | .sub => true
          | _ => false)) && (decide (N[i]? = some y) && locC sc yes y)) && ckE T N x sc e
      | _ => false
    | _ => false
  | .brk, st => match st with
    | .Break _ => true
    | _ => false
  | .cnt, st => match st with
    | .Continue _ => true
    | _ => false
  | .stop, _ => true
  | .for_ tg it B, st => match st with
    | .For te ie B' oe _ => (oe.isEmpty && (noSet ie && (ckI T N it sc te ie && ckTg N sc yes tg te))) && ckSs B B'
    | _ => false
def ckSs : Stms → List Stmt → Bool
  | .nil, sts => sts.isEmpty
  | .cons s ss, sts => match sts with
    | st :: sts => ckS s st && ckSs ss sts
    | [] => false
end
end
section
variable {G : Gd} {N : List Str} {sc : Scope} (ok : G.Ok) (hN : N.Nodup) (hk : sc.kind = .function)
include ok hN
theorem comp_parts {x : Ex} {ee : Expr} {gs : List Comprehension} {scope : Scope} {p : Pos} (h : ckE G.T N x sc (.ListComp ee gs scope p) = true) :
    ∃ own elt tg it ifs te ie fe, x = .comp own elt tg it ifs ∧ gs = [⟨te, ie, fe, 0⟩] ∧ (ownN N own).map (·.2) = own ∧ blkC N sc scope (ownN N own) = true ∧ (∀ i ∈ tgIs tg, i ∈ own) ∧ SI G N sc (isTup' tg) te it ie ∧ noSet ie = true ∧
      SG N (relS scope sc) (fun x => scope.names.lookup x == some .cell) tg te ∧ STs G N (relS scope sc) ifs fe ∧ decide (fe.length ≤ 1) = true ∧ SE G N (relS scope sc) elt ee := by
  cases x with
  | comp own elt tg it ifs =>
    match gs, h with
    | [⟨te, ie, fe, a⟩], h =>
      obtain ⟨h1, h2⟩ := and2 h
      obtain ⟨h1, h3⟩ := and2 h1
      obtain ⟨h3, h4⟩ := and2 h3
      obtain ⟨h4, h5⟩ := and2 h4
      obtain ⟨h5, h6⟩ := and2 h5
      obtain ⟨h6, h7⟩ := and2 h6
      obtain ⟨h2, h8⟩ := and2 h2
      obtain ⟨h8, h9⟩ := and2 h8
      obtain ⟨h9, h10⟩ := and2 h9
      obtain rfl := of_decide_eq_true h1
      exact ⟨own, elt, tg, it, ifs, te, ie, fe, rfl, rfl, of_decide_eq_true h3, h4, in_of h5, sndI ok hN it sc (isTup' tg) te ie h2 (tup_tg h8), h6, tg_of h8, sndTs ok hN ifs (relS scope sc) fe h9, h7, sndE ok hN elt (relS scope sc) ee h10⟩
    | [], h => exact no h
    | ⟨_, _, _, _⟩ :: _ :: _, h => exact no h
  | x1 o a => cases o <;> exact no h
  | x2 o a b => cases o <;> exact no h
  | _ => exact no h
include hk
theorem set_of {i : Nat} {x : Ex} {y : Str} {py p : Pos} {e : Expr} (h1 : N[i]? = some y) (h2 : setOk sc y py e = true) (h3 : ckE G.T N x sc e = true) : SS G N sc (.set i x) (.Assign [.Name y py] e p) := by
  cases hc : noComp e with
  | true =>
    have h4 : locC sc yes y = true := setOk_plain hc h2
    exact ss_set hN h1 h4 (sndE ok hN x sc e h3) hc
  | false =>
    cases e with
    | ListComp ee gs scope pc =>
      obtain ⟨own, elt, tg, it, ifs, te, ie, fe, rfl, rfl, q1, q2, q3, q4, q5, q6, q7, q8, q9⟩ := comp_parts ok hN h3
      rcases Bool.or_eq_true_iff.mp (show (decide (sc.names.lookup y = some .cell) || (decide (sc.names.lookup y = some .local) && ((py.line == pc.line) && !(scope.names.any fun (n, k) => n == y && (k == .local || k == .cell))))) = true from h2) with h4 | h4
      · exact ss_setCell hN h1 (of_decide_eq_true h4) (sndE ok hN _ sc _ h3)
      · obtain ⟨h4, h5⟩ := and2 h4
        obtain ⟨h5, h6⟩ := and2 h5
        exact ss_setLc hN h1 (of_decide_eq_true h4) hk h5 (by simpa using h6) q1 q2 q3 q4 q5 q6 q7 q8 q9
    | SetComp _ _ _ _ => exact no (and2 (show (false && locC sc yes y) = true from h2)).1
    | DictComp _ _ _ _ _ => exact no (and2 (show (false && locC sc yes y) = true from h2)).1
    | _ => cases hc
theorem par_of {is : List Nat} {xs : Exs} {ts es : List Expr} {kt k2 : Nat} {pt p2 p : Pos} (h1 : SEs G N sc xs es) (h2 : decide (es.length ≤ 1000) = true) (h3 : SN N sc yes is ts) (h4 : parOk sc is ts es = true) : SS G N sc (.par is xs) (.Assign [.Tuple ts kt pt] (.Tuple es k2 p2) p) := by
  unfold parOk at h4
  split at h4
  · exact no h4
  · rename_i hw
    exact ss_parG hN hk h1 h2 h3 hw
  · rename_i ns hw
    split at h4
    · rename_i i j x px y py
      obtain ⟨h5, h6⟩ := and2 h4
      obtain ⟨h6, h7⟩ := and2 h6
      obtain ⟨h7, h8⟩ := and2 h7
      rw [of_decide_eq_true h5] at hw
      have hl : es.length = 2 := by
        have q := hw
        unfold swPar at q
        split at q
        · cases q
        · rename_i c
          simp at c
          omega
      match es, hl, h1, h2, hw with
      | [e1, e2], _, h1, h2, hw =>
        cases h3 with
        | cons a1 _ r =>
          cases r with
          | cons a2 _ r =>
            exact ss_par2 hN hk h1 a1 a2 (of_decide_eq_true h6) (of_decide_eq_true h7) (of_decide_eq_true h8) hw
    · rename_i i j l x px y py z pz
      obtain ⟨h5, h6⟩ := and2 h4
      obtain ⟨h6, h7⟩ := and2 h6
      obtain ⟨h6, h8⟩ := and2 h6
      obtain ⟨h8, h9⟩ := and2 h8
      obtain ⟨h7, h10⟩ := and2 h7
      obtain ⟨h10, h11⟩ := and2 h10
      rw [of_decide_eq_true h5] at hw
      have hl : es.length = 3 := by
        have q := hw
        unfold swPar at q
        split at q
        · cases q
        · rename_i c
          simp at c
          omega
      match es, hl, h1, h2, hw with
      | [e1, e2, e3], _, h1, h2, hw =>
        cases h3 with
        | cons a1 _ r =>
          cases r with
          | cons a2 _ r =>
            cases r with
            | cons a3 _ r =>
              exact ss_par3 hN hk h1 a1 a2 a3 (of_decide_eq_true h6) (of_decide_eq_true h8) (of_decide_eq_true h9) (of_decide_eq_true h7) (of_decide_eq_true h10) (of_decide_eq_true h11) hw
    · exact no h4
mutual
theorem sndS : ∀ (s : Stm) (st : Stmt), ckS G.T N sc s st = true → SS G N sc s st
  | .set i x, st, h => by
    cases st with
    | Assign ts e p =>
      match ts, h with
      | [.Name y py], h =>
        obtain ⟨h1, h2⟩ := and2 h
        obtain ⟨h2, h3⟩ := and2 h2
        exact set_of ok hN hk (of_decide_eq_true h1) h2 h3
      | [], h => exact no h
      | [t], h => cases t <;> first | exact no h | (obtain ⟨h1, h2⟩ := and2 h; obtain ⟨h2, h3⟩ := and2 h2; exact set_of ok hN hk (of_decide_eq_true h1) h2 h3)
      | _ :: _ :: _, h => exact no h
    | _ => exact no h
  | .par is xs, st, h => by
    cases st with
    | Assign ts e p =>
      cases e with
      | Tuple es k2 p2 =>
        match ts, h with
        | [t], h =>
          cases t with
          | Tuple ts' kt pt =>
            obtain ⟨h1, h2⟩ := and2 h
            obtain ⟨h1, h3⟩ := and2 h1
            obtain ⟨h3, h4⟩ := and2 h3
            exact par_of ok hN hk (sndEs ok hN xs sc es h1) h3 (ns_of h4) h2
          | _ => exact no h
        | [], h => exact no h
        | _ :: _ :: _, h => exact no h
      | _ => match ts, h with
        | [], h => exact no h
        | [_], h => exact no h
        | _ :: _ :: _, h => exact no h
    | _ => exact no h
  | .unp is x, st, h => by
    cases st with
    | Assign ts e p =>
      match ts, h with
      | [t], h =>
        cases t with
        | Tuple ts' kt pt =>
          obtain ⟨h1, h2⟩ := and2 h
          obtain ⟨h2, h3⟩ := and2 h2
          exact ss_unp hN (sndE ok hN x sc e h3) (ns_of h1) h2
        | _ => exact no h
      | [], h => exact no h
      | _ :: _ :: _, h => exact no h
    | _ => exact no h
  | .put a b c, st, h => by
    cases st with
    | Assign ts e p =>
      match ts, h with
      | [t], h =>
        cases t with
        | Subscript a' b' tp =>
          obtain ⟨h1, h2⟩ := and2 h
          obtain ⟨h2, h3⟩ := and2 h2
          obtain ⟨h3, h4⟩ := and2 h3
          exact ss_put h1 (sndE ok hN a sc a' h2) (sndE ok hN b sc b' h3) (sndE ok hN c sc e h4)
        | _ => exact no h
      | [], h => exact no h
      | _ :: _ :: _, h => exact no h
    | _ => exact no h
  | .expr x, st, h => by
    cases st with
    | Expr e p =>
      obtain ⟨h1, h2⟩ := and2 h
      exact ss_expr (sndE ok hN x sc e h2) h1
    | _ => exact no h
  | .ret x, st, h => by
    cases st with
    | Return v p =>
      cases v with
      | some e => exact ss_ret (sndE ok hN x sc e h)
      | none =>
        have h : isNon x = true := h
        cases x with
        | lit d =>
          cases d with
          | non => exact ss_retN
          | _ => exact no h
        | _ => exact no h
    | _ => exact no h
  | .iff c A B, st, h => by
    cases st with
    | If c' A' B' p =>
      obtain ⟨h1, h2⟩ := and2 h
      obtain ⟨h2, h3⟩ := and2 h2
      exact ss_if (sndT ok hN c sc c' h1) (sndSs A A' h2) (sndSs B B' h3)
    | _ => exact no h
  | .whl k c B, st, h => by
    cases st with
    | While c' B' oe p =>
      obtain ⟨h1, h2⟩ := and2 h
      obtain ⟨h2, h3⟩ := and2 h2
      rw [List.isEmpty_iff.mp h1]
      exact ss_whl (sndT ok hN c sc c' h2) (sndSs B B' h3)
    | _ => exact no h
  | .aug i o x, st, h => by
    cases st with
    | AugAssign t o' e p =>
      cases t with
      | Name y q =>
        obtain ⟨h1, h2⟩ := and2 h
        obtain ⟨h1, h3⟩ := and2 h1
        obtain ⟨h1, h4⟩ := and2 h1
        obtain ⟨h3, h5⟩ := and2 h3
        rw [of_decide_eq_true h1]
        cases o with
        | add => exact ss_augA hN (of_decide_eq_true h3) h5 (sndE ok hN x sc e h2)
        | sub => exact ss_augS hN (of_decide_eq_true h3) h5 (sndE ok hN x sc e h2)
        | _ => exact no h4
      | _ => exact no h
    | _ => exact no h
  | .brk, st, h => by
    cases st with
    | Break p => exact ss_brk
    | _ => exact no h
  | .cnt, st, h => by
    cases st with
    | Continue p => exact ss_cnt
    | _ => exact no h
  | .stop, st, h => ss_stop
  | .for_ tg it B, st, h => by
    cases st with
    | For te ie B' oe p =>
      obtain ⟨h1, h2⟩ := and2 h
      obtain ⟨h1, h3⟩ := and2 h1
      obtain ⟨h3, h4⟩ := and2 h3
      obtain ⟨h4, h5⟩ := and2 h4
      rw [List.isEmpty_iff.mp h1]
      exact ss_for hN (sndI ok hN it sc (isTup' tg) te ie h4 (tup_tg h5)) h3 (tg_of h5) (sndSs B B' h2)
    | _ => exact no h
theorem sndSs : ∀ (ss : Stms) (sts : List Stmt), ckSs G.T N sc ss sts = true → SB G N sc ss sts
  | .nil, sts, h => by
    cases sts with
    | nil => exact sb_nil
    | cons _ _ => exact no h
  | .cons s ss, sts, h => by
    cases sts with
    | nil => exact no h
    | cons st sts =>
      obtain ⟨h1, h2⟩ := and2 h
      exact sb_cons (sndS s st h1) (sndSs ss sts h2)
end
end
end Ev

set_option maxRecDepth 100000
set_option maxHeartbeats 2000000
namespace Ev
open PySem PySem.Spec PyProof.Rows L2
/-! ### a def of the text, by its term -/
theorem start_env {K : PySem.W.Frag} {H : Hp} {f : List Addr} {N : List Str} {ds : List D} {vs : List V} (r : RepL K H f ds vs) : EnvR K H f (ds.map some ++ List.replicate (N.length - ds.length) none) (L2.start N vs) := by
  have hl := r.length
  refine ⟨by unfold L2.start; simp [hl], fun i d h => ?_⟩
  have hi : i < ds.length := by
    by_cases hi : i < ds.length
    · exact hi
    · rw [List.getElem?_append_right (by simpa using hi), List.getElem?_replicate] at h
      split at h <;> cases h
  rw [List.getElem?_append_left (by simpa using hi), List.getElem?_map] at h
  cases e : ds[i]? with
  | none => rw [e] at h; cases h
  | some d' =>
    rw [e] at h
    obtain rfl : d' = d := by simpa using h
    obtain ⟨v, hv, rv⟩ := r.get e
    refine ⟨v, ?_, rv⟩
    unfold L2.start
    rw [List.getElem?_append_left (by rw [List.length_map, ← hl]; exact hi), List.getElem?_map, hv]
    rfl
section
variable {P : Program} {w : World} {K : PySem.W.Frag} {mg : Str → Option Value} {base : Heap} {T : Tab} {cl : Nat → Value} {n k i : Nat} {fn : Fn} {x qual : Str} {params : Arguments} {body : List Stmt} {scope : Scope} {f : Addr} {fd : FuncData}
/-- the body's judgement at the entry -/
theorem body_ok (ok : (Gd.mk P w K mg base T cl k n).Ok) (S : FnScope fn.ns fn.ps scope) (ck : ckSs T fn.ns scope fn.body body = true) (hf : T.at i = some fn) {cdv : Value} {A : Around} {outer : List Env} {s : Shared} {H : Hp} {vs : List V} {Q : VK} {E : XK} (hr : Room k (A.deeper (envOfC qual scope s.heap.objs.size f cdv))) (hg : A.guards = some [])
    (h : spF ⟨P, w, K, mg, base, T, cl, k, n⟩ (n + 1) i vs H Q E) : vs.length = fn.ps.length ∧ ∃ t, PSs (cxOf (L2.CX P w) P w K mg base fn.ns qual scope f cdv A outer s H E) body t ∧ t { nx := fun _ H' => Q .non H', rt := Q } (L2.start fn.ns vs) H := by
  obtain ⟨f0, M, ds, Sm, rl, hs⟩ := h
  have hl := run_len hf hs
  refine ⟨by rw [← rl.length]; exact hl, ?_⟩
  have h2 : sat (match T.at i with
    | some fn => if ds.length = fn.ps.length then
        (exs (run T.at n) fn.body (ds.map some ++ List.replicate (fn.ns.length - ds.length) none) M).bnd fun r M => match r with
          | .rt d => Res.ok d M
          | .nx _ => .ok .non M
          | _ => .bad
      else .bad
    | none => .bad) (okD K f0 H Q) (okX K cl f0 H E) := hs
  rw [hf] at h2
  have h2 : sat (if ds.length = fn.ps.length then
        (exs (run T.at n) fn.body (ds.map some ++ List.replicate (fn.ns.length - ds.length) none) M).bnd fun r M => match r with
          | .rt d => Res.ok d M
          | .nx _ => .ok .non M
          | _ => .bad
      else .bad) (okD K f0 H Q) (okX K cl f0 H E) := h2
  rw [if_pos hl] at h2
  have h3 := sat_bnd.mp h2
  obtain ⟨t, pt, st⟩ := sndSs ok S.nd S.kind fn.body body ck (fun c d _ H' => E c d H')
  refine ⟨t, pt _ ?_, st _ _ H f0 M _ Sm (start_env rl) (sat_mono h3 (fun fl M1 h4 H1 f1 X1 S1 => ?_) fun c d M1 z σ => z)⟩
  · exact { p := rfl, w := rfl, K := rfl, mg := rfl, b := rfl, N := rfl, sc := rfl, calm := rfl, gs := hg, rm := hr, tk := takes_of rfl rfl rfl rfl, fn := fun _ => rfl, po := passes_of rfl }
  · cases fl with
    | nx env => exact fun σ _ => h4 .non H1 f1 X1 S1 .non
    | rt d => exact fun v rv => h4 v H1 f1 X1 S1 rv
    | bk env => exact h4.elim
    | ct env => exact h4.elim
/-- THE RULE of a def by its term -/
theorem fn_term (ok : (Gd.mk P w K mg base T cl k n).Ok) (F : FunD K x qual params body scope [] [] f fd) (S : FnScope fn.ns fn.ps scope) (ck : ckSs T fn.ns scope fn.body body = true) (hf : T.at i = some fn) :
    FnG P w K mg base (k + 1) f fd fn.ps (spF ⟨P, w, K, mg, base, T, cl, k, n⟩ (n + 1) i) := by
  obtain ⟨oc, od, dV, kV, doc, pm, an, cdv, ct, osl, rfl, lk, code, _, _⟩ := F.ex
  constructor
  intro A outer s H args us vs Q E room guards ent vlen bnd rel spec
  have there : K.In s.heap := ent.mod.kin.keeps fun b o z => (ent.bs b o z).1
  have nol : s.heap.NoLimit := ent.mod.nolimit.keeps fun b o z => (ent.bs b o z).1
  have kinds : ∀ q ∈ fn.ps.zip us, scope.names.lookup q.1 = some .local ∨ (scope.names.lookup q.1 = some .cell ∧ ((cellsFrom (s.heap.objs.size + 1) scope.names []).lookup q.1).isSome = true) := by
    rintro ⟨y, v⟩ hy
    exact (S.par y (List.of_mem_zip hy).1).imp id fun z => ⟨z, PySem.W.cellsFrom_some _ _ _ (.inl z)⟩
  apply codeAny_call_function room.depth (there _ _ lk) rfl S.co S.gen rfl (PySem.W.codeRec_of there code)
  apply bnd
  apply wpAny_newFunctionEnv_cells S.kind kinds
  rintro env rfl s1 inC
  refine ⟨nol.keeps inC.toInCall.keep, codeAny_func ?_⟩
  obtain ⟨_, t, pt, st⟩ := body_ok ok S ck hf (room.deeper _) guards spec
  have start := inv_start (CX := L2.CX P w) (E := E) S room.hd ent vlen rel inC
  refine wpAny_mono (pt.run [] s1 _ H _ start st) ?_ fun _ _ z => z
  rintro (_ | _ | _ | u) s' q
  · obtain ⟨σ', H', J, q⟩ := q
    exact ⟨.non, H', J.os, J.bare, J.base, J.hok, rfl, q⟩
  · obtain ⟨_, _, _, q⟩ := q
    exact q.elim
  · obtain ⟨_, _, _, q⟩ := q
    exact q.elim
  · obtain ⟨v, σ', H', J, rv, q⟩ := q
    exact ⟨v, H', J.os, J.bare, J.base, J.hok, rv, q⟩
end
/-! ### all defs of a law -/
/-- what a head says of a law's defs and names -/
structure Says (K : PySem.W.Frag) (mg : Str → Option Value) (T : Tab) : Prop where
  cst : ∀ x d, (x, d) ∈ T.cs → ∃ v u, mg x = some u ∧ RelV v u ∧ ∀ H f, Rep K H f d v
  fn : ∀ i fn, T.at i = some fn → ∃ a fd x qual params body scope, mg fn.name = some (.ref a) ∧ FunD K x qual params body scope [] [] a fd ∧ FnScope fn.ns fn.ps scope ∧ ckSs T fn.ns scope fn.body body = true ∧
    (∀ (s : Shared) (us : List Value), us.length = fn.ps.length → BindsTo s fd ⟨us, []⟩ (fn.ps.zip us)) ∧
    ∀ ks ord, (i, ks, ord) ∈ T.kc → ∀ (s : Shared) (us : List Value), us.length = ks.length → BindsTo s fd ⟨[], ks.zip us⟩ (fn.ps.zip (ord.filterMap fun i => us[i]?))
  blt : ∀ x, x ∈ bNames → mg x = none
section
variable {P : Program} {w : World} {K : PySem.W.Frag} {mg : Str → Option Value} {base : Heap} {T : Tab} {cl : Nat → Value}
theorem def_ok (F0 : ∀ n, n = 0 ∨ (Gd.mk P w K mg base T cl (n - 1) (n - 1)).Ok) {i : Nat} {fn : Fn} {x qual : Str} {params : Arguments} {body : List Stmt} {scope : Scope} {f : Addr} {fd : FuncData}
    (F : FunD K x qual params body scope [] [] f fd) (S : FnScope fn.ns fn.ps scope) (ck : ckSs T fn.ns scope fn.body body = true) (hf : T.at i = some fn) (n : Nat) : FnG P w K mg base n f fd fn.ps (spF ⟨P, w, K, mg, base, T, cl, n, n⟩ n i) := by
  cases n with
  | zero =>
    refine ⟨fun A outer s H args us vs Q E _ _ _ _ _ _ h => ?_⟩
    obtain ⟨_, _, _, _, _, h⟩ := h
    exact h.elim
  | succ n =>
    rcases F0 (n + 1) with z | z
    · cases z
    · exact fn_term z F S ck hf
theorem all_ok (c : Says K mg T) : ∀ n, (Gd.mk P w K mg base T cl n n).Ok
  | 0 => by
    refine ⟨c.cst, fun i fn hf => ?_, c.blt⟩
    obtain ⟨a, fd, x, qual, params, body, scope, h1, F, S, ck, b1, b2⟩ := c.fn i fn hf
    refine ⟨a, fd, h1, F.kp, ⟨fun A outer s H args us vs Q E _ _ _ _ _ _ h => ?_⟩, b1, b2⟩
    obtain ⟨_, _, _, _, _, h⟩ := h
    exact h.elim
  | n + 1 => by
    refine ⟨c.cst, fun i fn hf => ?_, c.blt⟩
    obtain ⟨a, fd, x, qual, params, body, scope, h1, F, S, ck, b1, b2⟩ := c.fn i fn hf
    exact ⟨a, fd, h1, F.kp, fn_term (all_ok c n) F S ck hf, b1, b2⟩
/-- the script: a tree that is never written -/
def scrD (ns : List Int) : D := .scr (ns.map .int)
theorem scr_rep {H : Hp} {f : List Addr} : ∀ ns : List Int, RepL K H f (ns.map .int) (ns.map V.int)
  | [] => .nil
  | i :: ns => .cons (.int i) (scr_rep ns)
theorem only_scr {H : Hp} {a : Addr} {vs : List V} (hO : Only H) (h : SqL K H a vs) : FrzAt K H a vs := by
  rcases h with (h | ⟨o, h⟩) | h
  · rcases hO a with z | ⟨o, xs, z⟩
    · rw [h] at z; cases z
    · rw [h] at z; cases z
  · exact .inl ⟨o, h⟩
  · exact .inr h
/-- a law whose reckoning comes to True -/
theorem law_promise (c : Says K mg T) {n i : Nat} {ns : List Int} {M' : MH} (h : run T.at n i [scrD ns] [] = .ok (.bl true) M') {H : Hp} {a : Addr} (hO : Only H) (hS : SqL K H a (ns.map V.int)) :
    spF (Gd.mk P w K mg base T cl n n) n i [.ref a] H (fun v _ => v = .bl true) fun _ _ _ => False := by
  refine ⟨[], [], [scrD ns], ⟨rfl, List.nodup_nil, fun m o e => by simp at e⟩, .cons (.scr (only_scr hO hS) (scr_rep ns)) .nil, ?_⟩
  have h' : run (Gd.mk P w K mg base T cl n n).T.at n i [scrD ns] [] = .ok (.bl true) M' := h
  rw [h']
  intro v H1 f1 _ _ r
  cases r
  rfl
end
/-! ### from the head to the law -/
section
variable {P : Program} {w : World} {K : PySem.W.Frag} {mg mb : Str → Option Value} {k : Nat} {fa a : Addr} {fd : FuncData} {x : Str} {sp : Sp} {z : Shared} {vs : List Value} {ns : List Int}
theorem hid_ns {h : Heap} {H : Hp} {b : Addr} {m : Str → Option Value} (hH : ∀ o es ep, h.get? b = some o → o.data = .dict es ep → H b = none) (q : h.Ns b m) : (hidT h H).Ns b m := by
  obtain ⟨o, es, ep, e, d, r⟩ := q
  exact ⟨o, es, ep, hidT_get e (hH o es ep e d), d, r⟩
theorem law_term (KX : K.In z.heap) (gl : z.heap.Ns mainGlobals mg) (bl : z.heap.Ns builtinsNs mb) (bb : ∀ x : Str, x ≠ "__name__" → mb x = bootBuiltins x) (nl : z.heap.NoLimit) (hg : z.gens = #[])
    (ha : z.heap.get? a = some { cls := .type "list", data := .seq vs.toArray }) (hi : IntsAre vs ns) (hl : ns.length ≤ sizeLine) (hr : Room k callerA)
    (F : ∀ base : Heap, FnG P w K mg base k fa fd [x] sp) (hb : ∀ (s : Shared) (u : Value), BindsTo s fd ⟨[u], []⟩ [(x, u)])
    (hsp : ∀ H : Hp, Only H → SqL K H a (ns.map V.int) → sp [.ref a] H (fun v _ => v = .bl true) fun _ _ _ => False) :
    codeAny (model P w) callerA (.call (.ref fa) ⟨[.ref a], []⟩) (fun r s' => r = .ok (.ret (.bool true)) ∧ OldK z.heap s'.heap ∧ s'.os = z.os ∧ AllBare s'.gens) z := by
  have rv := vals_ints hi
  have len := hi.length
  have main : ∀ H : Hp, Only H → SqL K H a (ns.map V.int) → HOk P w H z.heap → (∀ b, H b ≠ none → b = a ∧ K.lookup a = none) →
      codeAny (model P w) callerA (.call (.ref fa) ⟨[.ref a], []⟩) (fun r s' => r = .ok (.ret (.bool true)) ∧ OldK z.heap s'.heap ∧ s'.os = z.os ∧ AllBare s'.gens) z := by
    intro H only sq hok one
    have dictFree : ∀ (b : Addr) (o : Obj) es ep, z.heap.get? b = some o → o.data = .dict es ep → H b = none := fun b o es ep e d => by
      cases q : H b with
      | none => rfl
      | some u =>
        obtain ⟨rfl, _⟩ := one b (by rw [q]; simp)
        rw [ha] at e
        cases e
        cases d
    have kIn : K.In (hidT z.heap H) := fun b o e => hidT_get (KX b o e) (by
      cases q : H b with
      | none => rfl
      | some u =>
        obtain ⟨rfl, nk⟩ := one b (by rw [q]; simp)
        rw [nk] at e
        cases e)
    have md : Mod K mg (hidT z.heap H) := by
      refine ⟨kIn, hid_ns (dictFree _) gl, ⟨mb, hid_ns (dictFree _) bl, bb⟩, ?_⟩
      obtain ⟨mc, q1, q2⟩ := nl
      exact ⟨mc, hid_ns (dictFree _) q1, q2⟩
    have entry : Env0 P w K mg (hidT z.heap H) callerA [] z H :=
      { frames := rfl, mod := md, bs := fun b o e => of_hidT e, bsz := Nat.le_of_eq (hidT_size _ _), funs := trivial, frf := fun b q => absurd (show b ∈ ([] : List Addr) from q) (by simp), hok := hok, bare := .of_eq hg }
    refine codeAny_mono ((F (hidT z.heap H)).run callerA [] z H ⟨[.ref a], []⟩ [.ref a] [.ref a] _ _ hr rfl entry rfl (hb z (.ref a)) (.cons rfl .nil) (hsp H only sq)) ?_
    rintro (e | (_ | _ | _ | u)) s' q
    · obtain ⟨_, _, _, _, _, _, _, _, _, _, _, _, q⟩ := q
      exact q.elim
    · exact q.elim
    · exact q.elim
    · exact q.elim
    · obtain ⟨v, H', os, bare, un, hok', r, rfl⟩ := q
      obtain rfl : u = Value.bool true := r
      refine ⟨rfl, OldK.of_keep fun b o e => ?_, os, bare⟩
      cases q : H b with
      | none => exact un.keep b o e q (by simp [frs]) (by simp)
      | some u =>
        rcases only b with y | ⟨ob, xs, y⟩
        · rw [q] at y; cases y
        · obtain ⟨e1, _⟩ := hok b _ y
          obtain ⟨e2, _⟩ := hok' b _ (un.frzs b ob _ y)
          rw [e] at e1
          cases e1
          exact e2
  cases hk : K.lookup a with
  | some o =>
    have e := KX a o hk
    rw [ha] at e
    cases e
    exact main (fun _ => none) (fun _ => .inl rfl) (.inr ⟨_, vs.toArray, _, hk, rfl, rfl, rfl, by rw [List.size_toArray, len]; exact hl, by simpa using rv⟩) (fun b u y => nomatch (show (none : Option HO) = some u from y)) fun b y => absurd rfl y
  | none =>
    let ob : Obj := { cls := .type "list", data := .seq vs.toArray }
    have H0 : ∃ H : Hp, H = fun b => if b = a then some (.frz ob (.lst (ns.map V.int))) else none := ⟨_, rfl⟩
    obtain ⟨H, hH⟩ := H0
    have at_a : H a = some (.frz ob (.lst (ns.map V.int))) := by rw [hH]; exact if_pos rfl
    have off : ∀ b, b ≠ a → H b = none := fun b y => by rw [hH]; exact if_neg y
    refine main H (fun b => ?_) (.inl (.inr ⟨ob, at_a⟩)) (fun b u y => ?_) fun b y => ⟨?_, hk⟩
    · by_cases y : b = a
      · rw [y]; exact .inr ⟨_, _, at_a⟩
      · exact .inl (off b y)
    · by_cases q : b = a
      · subst q
        rw [at_a] at y
        cases y
        exact ⟨ha, by rw [List.length_map]; exact hl, vs, _, rv, ha⟩
      · rw [off b q] at y
        cases y
    · by_cases q : b = a
      · exact q
      · exact absurd (off b q) y
end
/-- the walk over a law whose reckoning comes to True at every script -/
theorem walk_term {l : PySem.W.OpenLaw} {n k i : Nat} {q : Program} {loose : List Str} {XP : (Str → Option Value) → Heap → Prop} {YP : World → Heap → Prop} {d : DefRec} {T : Tab} {fn : Fn} {x : Str}
    (hn : l.most = some n) (hn2 : n ≤ sizeLine) (hdf : d.params.defaults = []) (hr : Room k callerA) (hi : T.at i = some fn) (hname : fn.name = d.name) (hps : fn.ps = [x])
    (F : ∀ (w : World) (mg : Str → Option Value) (h : Heap), YP w h → h.Ns mainGlobals mg → ∃ K : PySem.W.Frag, K.In h ∧ Says K mg T)
    (law : ∀ ns : List Int, ns.length ≤ n → ∃ M', run T.at k i [scrD ns] [] = .ok (.bl true) M') :
    PySem.W.WalkO q loose XP YP l.row.toRowW d [] (fun f vs => PySem.call f vs) := by
  refine Att.attach_call hn hdf ?_
  intro w s0 s1 mg mb fa o pm cd doc a vs ns G Y ho hd hcd hmg hobj hints hlen hg
  obtain ⟨K, KX, c⟩ := F w mg _ Y G.T.g
  obtain ⟨fa', fd, y, qual, params, body, scope, h1, FD, S, ck, b1, _⟩ := c.fn i fn hi
  have hfa : fa' = fa := by
    rw [hname, hmg] at h1
    injection h1 with h1
    injection h1 with h1
    exact h1.symm
  subst hfa
  refine law_term (k := k) (fd := fd) (x := x) (sp := spF (Gd.mk l.prog w K mg s1.heap T (fun _ => .none) k k) k i) KX G.T.g G.T.b G.T.builtins G.T.nolimit hg hobj hints (Nat.le_trans hlen hn2) hr (fun base => ?_) (fun s u => ?_) fun H hO hS => ?_
  · have q := def_ok (P := l.prog) (w := w) (mg := mg) (base := base) (cl := fun _ => .none) (fun n => .inr (all_ok c (n - 1))) FD S ck hi k
    rw [hps] at q
    exact q
  · have q := b1 s [u] (by rw [hps]; rfl)
    rw [hps] at q
    exact q
  · obtain ⟨M', hM⟩ := law ns hlen
    exact law_promise c hM hO hS
end Ev

set_option maxRecDepth 100000
set_option maxHeartbeats 2000000
namespace Ev
open PySem PySem.Spec PyProof.Rows L2
/-! ### constants in the module's objects -/
mutual
def repB (K : PySem.W.Frag) : D → Value → Bool
  | .non, u => match u with
    | .none => true
    | _ => false
  | .bl b, u => match u with
    | .bool c => b == c
    | _ => false
  | .int i, u => match u with
    | .int j _ => decide (i = j)
    | _ => false
  | .str x, u => match u with
    | .str y _ => decide (x = y)
    | _ => false
  | .tup ds, u => match u with
    | .ref a => match K.lookup a with
      | some ⟨.type c, none, .seq its _, _⟩ => decide (c = "tuple") && (decide (its.size ≤ sizeLine) && repBs K ds its.toList)
      | _ => false
    | _ => false
  | _, _ => false
def repBs (K : PySem.W.Frag) : List D → List Value → Bool
  | [], us => us.isEmpty
  | d :: ds, us => match us with
    | u :: us => repB K d u && repBs K ds us
    | [] => false
end
mutual
theorem repB_is {K : PySem.W.Frag} : ∀ (d : D) (u : Value), repB K d u = true → ∃ v, RelV v u ∧ ∀ H f, Rep K H f d v
  | .non, u, h => by
    cases u with
    | none => exact ⟨.non, rfl, fun _ _ => .non⟩
    | _ => exact no h
  | .bl b, u, h => by
    cases u with
    | bool c =>
      obtain rfl : b = c := by simpa [repB] using h
      exact ⟨.bl b, rfl, fun _ _ => .bl b⟩
    | _ => exact no h
  | .int i, u, h => by
    cases u with
    | int j t =>
      obtain rfl : i = j := of_decide_eq_true h
      exact ⟨.int i, ⟨t, rfl⟩, fun _ _ => .int i⟩
    | _ => exact no h
  | .str x, u, h => by
    cases u with
    | str y t =>
      obtain rfl : x = y := of_decide_eq_true h
      exact ⟨.str x, ⟨t, rfl⟩, fun _ _ => .str x⟩
    | _ => exact no h
  | .tup ds, u, h => by
    cases u with
    | ref a =>
      have h : (match K.lookup a with
        | some ⟨.type c, none, .seq its _, _⟩ => decide (c = "tuple") && (decide (its.size ≤ sizeLine) && repBs K ds its.toList)
        | _ => false) = true := h
      split at h
      · rename_i c its n sl e
        obtain ⟨h1, h2⟩ := and2 h
        obtain ⟨h2, h3⟩ := and2 h2
        obtain ⟨vs, rv, rr⟩ := repBs_is ds its.toList h3
        refine ⟨.ref a, rfl, fun H f => .tup (.inr ⟨_, its, n, e, ⟨congrArg Value.type (of_decide_eq_true h1), rfl⟩, rfl, of_decide_eq_true h2, rv⟩) (rr H f)⟩
      · exact no h
    | _ => exact no h
  | .scr ds, u, h => by cases u <;> exact no h
  | .ref n, u, h => by cases u <;> exact no h
theorem repBs_is {K : PySem.W.Frag} : ∀ (ds : List D) (us : List Value), repBs K ds us = true → ∃ vs, Vals vs us ∧ ∀ H f, RepL K H f ds vs
  | [], us, h => by
    cases us with
    | nil => exact ⟨[], .nil, fun _ _ => .nil⟩
    | cons _ _ => exact no h
  | d :: ds, us, h => by
    cases us with
    | nil => exact no h
    | cons u us =>
      obtain ⟨h1, h2⟩ := and2 h
      obtain ⟨v, rv, rr⟩ := repB_is d u h1
      obtain ⟨vs, rvs, rrs⟩ := repBs_is ds us h2
      exact ⟨v :: vs, .cons rv rvs, fun H f => .cons (rr H f) (rrs H f)⟩
end
def cstB (K : PySem.W.Frag) (q : Str × D) : Bool := match PySem.W.nsIn K mainGlobals q.1 with
  | some (some u) => repB K q.2 u
  | _ => false
theorem cstB_is {K : PySem.W.Frag} {h : Heap} {mg : Str → Option Value} (X : K.In h) (G : h.Ns mainGlobals mg) {x : Str} {d : D} (c : cstB K (x, d) = true) : ∃ v u, mg x = some u ∧ RelV v u ∧ ∀ H f, Rep K H f d v := by
  unfold cstB at c
  split at c
  · rename_i u e
    obtain ⟨v, rv, rr⟩ := repB_is d u c
    exact ⟨v, u, PySem.W.mg_of X G e, rv, rr⟩
  · exact no c
/-! ### the Hook -/
def obsE (fa : List He.Fa) (fn : List He.DefD) (cs : List (Str × D)) (K : PySem.W.Frag) : He.AlD × Bool := (He.obsD fa fn K, cs.all (cstB K))
def SaysE (fa : List He.Fa) (fn : List He.DefD) (cs : List (Str × D)) (K : PySem.W.Frag) : Prop := obsE fa fn cs K = (He.valD fn, true)
def obsEG (n : Nat) (fa : List He.Fa) (fn : List He.DefD) (cs : List (Str × D)) (g : Addr → Option Obj) : He.AlD × Bool := obsE fa fn cs (He.frG g (He.asD g n))
def hookE (n : Nat) (fa : List He.Fa) (fn : List He.DefD) (cs : List (Str × D)) : PySem.W.Hook where
  α := He.AlD × Bool
  obs := fun s => obsEG n fa fn cs s.heap.get?
  val := fun _ => (He.valD fn, true)
  says := fun _ h => ∃ K : PySem.W.Frag, K.In h ∧ SaysE fa fn cs K
  of := fun _ _ e => ⟨_, He.frG_in, e⟩
  keeps := fun _ _ _ ⟨K, hK, c⟩ k => ⟨K, PySem.W.Frag.In.keeps hK k, c⟩
theorem obsEG_eq {n : Nat} {fa : List He.Fa} {fn : List He.DefD} {cs : List (Str × D)} {g : Addr → Option Obj} {s : Shared} (h : ∀ a, g a = s.heap.get? a) : obsEG n fa fn cs g = (hookE n fa fn cs).obs s := by
  have e : g = s.heap.get? := funext h
  rw [e]
  rfl
/-! ### what the head says, of a law's table -/
def scopeOk (N P : List Str) (sc : Scope) : Bool := decide (sc.kind = .function) && (!sc.isCoroutine && (!sc.isGenerator && (decide N.Nodup && (decide (N.take P.length = P) &&
  ((P.all fun x => decide (sc.names.lookup x = some .local) || decide (sc.names.lookup x = some .cell)) && sc.names.all fun y => decide (y.2 ≠ .free))))))
theorem scopeOk_is {N P : List Str} {sc : Scope} (h : scopeOk N P sc = true) : FnScope N P sc := by
  obtain ⟨h1, h2⟩ := and2 h
  obtain ⟨h2, h3⟩ := and2 h2
  obtain ⟨h3, h4⟩ := and2 h3
  obtain ⟨h4, h5⟩ := and2 h4
  obtain ⟨h5, h6⟩ := and2 h5
  obtain ⟨h6, h7⟩ := and2 h6
  refine ⟨of_decide_eq_true h1, by simpa using h2, by simpa using h3, of_decide_eq_true h4, of_decide_eq_true h5, fun x hx => ?_, fun y hy => of_decide_eq_true (List.all_eq_true.mp h7 y hy)⟩
  rcases Bool.or_eq_true_iff.mp (List.all_eq_true.mp h6 x hx) with z | z
  · exact .inl (of_decide_eq_true z)
  · exact .inr (of_decide_eq_true z)
/-- a def of the text and its term -/
def ckOne (T : Tab) (fn : Fn) (d : He.DefD) : Bool := decide (fn.name = d.name) && (decide (d.at_ = (d.name, none)) && ((d.dfl.isEmpty && d.kwd.isEmpty) && (scopeOk fn.ns fn.ps d.scope && ckSs T fn.ns d.scope fn.body d.body)))
def ckAll (T : Tab) : List (Nat × Fn) → List He.DefD → Bool
  | [], [] => true
  | f :: fs, d :: ds => ckOne T f.2 d && ckAll T fs ds
  | _, _ => false
theorem ckAll_at {T : Tab} : ∀ {fs : List (Nat × Fn)} {ds : List He.DefD} {i : Nat} {fn : Fn}, ckAll T fs ds = true → fs.lookup i = some fn → ∃ (k : Nat) (d : He.DefD), fs[k]? = some (i, fn) ∧ ds[k]? = some d ∧ ckOne T fn d = true
  | [], _, _, _, _, h => by simp at h
  | _ :: _, [], _, _, h, _ => no h
  | f :: fs, d :: ds, i, fn, h, e => by
    obtain ⟨j, g⟩ := f
    rw [List.lookup_cons] at e
    cases hij : (i == j) with
    | true =>
      rw [hij] at e
      obtain rfl : g = fn := by simpa using e
      obtain rfl : i = j := by simpa using hij
      exact ⟨0, d, rfl, rfl, (and2 h).1⟩
    | false =>
      rw [hij] at e
      obtain ⟨k, d', h0, h1, h2⟩ := ckAll_at (and2 h).2 e
      exact ⟨k + 1, d', by simpa using h0, by simpa using h1, h2⟩
/-- how the defs bind: by place, and by the names that the law uses -/
def BindAll (T : Tab) (ds : List He.DefD) : Prop := ∀ (k i : Nat) (fn : Fn) (d : He.DefD), T.fs[k]? = some (i, fn) → ds[k]? = some d → ∀ (kV doc pm : Value) (an : Option Addr) (cdv ct : Value),
  (∀ us : List Value, us.length = fn.ps.length → bindArgs (PySem.W.fnOf d.name d.qual d.params d.body d.scope .none kV doc pm an cdv ct) ⟨us, []⟩ = pure (fn.ps.zip us)) ∧
  ∀ ks ord, (i, ks, ord) ∈ T.kc → ∀ us : List Value, us.length = ks.length → bindArgs (PySem.W.fnOf d.name d.qual d.params d.body d.scope .none kV doc pm an cdv ct) ⟨[], ks.zip us⟩ = pure (fn.ps.zip (ord.filterMap fun i => us[i]?))
def faOf (ds : List He.DefD) : List He.Fa := ds.map (fun d => .glo d.name) ++ bNames.map .free
theorem says_of {T : Tab} {ds : List He.DefD} {K : PySem.W.Frag} {h : Heap} {mg : Str → Option Value} (X : K.In h) (G : h.Ns mainGlobals mg) (c : SaysE (faOf ds) ds T.cs K) (ck : ckAll T T.fs ds = true) (hb : BindAll T ds) : Says K mg T := by
  have c1 : He.SaysD (faOf ds) ds K := congrArg (fun z : He.AlD × Bool => z.1) c
  have c2 : T.cs.all (cstB K) = true := congrArg (fun z : He.AlD × Bool => z.2) c
  have fact : ∀ f, f ∈ faOf ds → f.ok K = true := fun f hf => by
    obtain ⟨i, hi⟩ := List.mem_iff_getElem?.mp hf
    exact c1.fact i hi
  refine ⟨fun x d hx => cstB_is X G (List.all_eq_true.mp c2 _ hx), fun i fn hf => ?_, fun x hx => He.free_ok X G (fact _ (List.mem_append_right _ (List.mem_map_of_mem hx)))⟩
  obtain ⟨kk, d, hk0, hd, h1⟩ := ckAll_at ck hf
  obtain ⟨h1, h2⟩ := and2 h1
  obtain ⟨h2, h3⟩ := and2 h2
  obtain ⟨h3, h4⟩ := and2 h3
  obtain ⟨h3, h5⟩ := and2 h3
  obtain ⟨h4, h6⟩ := and2 h4
  obtain ⟨fd, F⟩ := c1.def_ kk hd
  have e1 : d.dvs K = [] := by
    unfold He.DefD.dvs
    rw [List.isEmpty_iff.mp h3]
    rfl
  have e2 : d.kws K = [] := by
    unfold He.DefD.kws
    rw [List.isEmpty_iff.mp h5]
    rfl
  rw [e1, e2] at F
  have ea : He.fAd K d.at_ = He.ga K d.name := by
    rw [of_decide_eq_true h2]
    rfl
  have g := He.glo_ok X G (fact (.glo d.name) (List.mem_append_left _ (List.mem_map_of_mem (f := fun d : He.DefD => He.Fa.glo d.name) (List.mem_of_getElem? hd))))
  refine ⟨_, fd, _, _, _, _, _, by rw [of_decide_eq_true h1, ea]; exact g, F, scopeOk_is h4, h6, fun s us hl => F.bindsA (fun kV doc pm an cdv ct us hl => (hb kk i fn d hk0 hd kV doc pm an cdv ct).1 us hl) s us hl, fun ks ord hk s us hl => ?_⟩
  obtain ⟨oc, od, dV, kV, doc, pm, an, cdv, ct, osl, rfl, lk, code, dv, _⟩ := F.ex
  rcases dv with ⟨_, rfl⟩ | ⟨z, _⟩
  · exact .of_eq ((hb kk i fn d hk0 hd kV doc pm an cdv ct).2 ks ord hk us hl)
  · exact absurd rfl z
end Ev

set_option maxRecDepth 100000
set_option maxHeartbeats 2000000
namespace Ev
open PySem
/-! ### reckonings that end well -/
def Ok {α : Type} (r : Res α) (P : α → MH → Prop) : Prop := sat r P fun _ _ _ => False
theorem Ok.mono {α : Type} {r : Res α} {P P' : α → MH → Prop} (h : Ok r P) (hP : ∀ a M, P a M → P' a M) : Ok r P' := sat_mono h hP fun _ _ _ z => z
theorem Ok.is {α : Type} {r : Res α} {P : α → MH → Prop} (h : Ok r P) : ∃ a M, r = .ok a M ∧ P a M := by
  cases r with
  | ok a M => exact ⟨a, M, rfl, h⟩
  | exc c d M => exact h.elim
  | bad => exact h.elim
section
variable {α β : Type} {C : Nat → List D → MH → Res D} {σ : Sg} {M : MH}
@[simp] theorem ok_ok {a : α} {P : α → MH → Prop} : Ok (.ok a M) P = P a M := rfl
@[simp] theorem ok_bad {P : α → MH → Prop} : Ok .bad P = False := rfl
@[simp] theorem ok_bnd {r : Res α} {k : α → MH → Res β} {P : β → MH → Prop} : Ok (r.bnd k) P = Ok r (fun a M => Ok (k a M) P) := propext sat_bnd
@[simp] theorem ok_quiet {r : Res α} {P : α → MH → Prop} : Ok r.quiet P = Ok r P := by cases r <;> rfl
@[simp] theorem ok_opt {o : Option α} {P : α → MH → Prop} : Ok (opt o M) P = (∃ z, o = some z ∧ P z M) := by
  cases o with
  | none => exact propext ⟨fun h => h.elim, fun ⟨_, h, _⟩ => by cases h⟩
  | some a => exact propext ⟨fun h => ⟨a, rfl, h⟩, fun ⟨_, h, p⟩ => by cases h; exact p⟩
@[simp] theorem ok_ite {c : Prop} [Decidable c] {r s : Res α} {P : α → MH → Prop} : Ok (if c then r else s) P = (if c then Ok r P else Ok s P) := by split <;> rfl
theorem guard_is {c : Bool} {a z : α} : (guard' c a = some z) = (c = true ∧ a = z) := by
  unfold guard'
  cases c <;> simp
@[simp] theorem ex_guard {c : Bool} {a : α} {P : α → Prop} : (∃ z, guard' c a = some z ∧ P z) = (c = true ∧ P a) := by
  simp only [guard_is]
  apply propext
  constructor
  · rintro ⟨z, ⟨h, rfl⟩, p⟩
    exact ⟨h, p⟩
  · rintro ⟨h, p⟩
    exact ⟨a, ⟨h, rfl⟩, p⟩
@[simp] theorem ex_some {a : α} {P : α → Prop} : (∃ z, some a = some z ∧ P z) = P a := by
  apply propext
  constructor
  · rintro ⟨z, h, p⟩
    cases h
    exact p
  · exact fun h => ⟨a, rfl, h⟩
@[simp] theorem ex_map {γ : Type} {o : Option γ} {f : γ → α} {P : α → Prop} : (∃ z, o.map f = some z ∧ P z) = (∃ y, o = some y ∧ P (f y)) := by
  cases o with
  | none => exact propext ⟨fun ⟨_, h, _⟩ => (by cases h), fun ⟨_, h, _⟩ => (by cases h)⟩
  | some y => exact propext ⟨fun ⟨z, h, p⟩ => ⟨y, rfl, (by cases h; exact p)⟩, fun ⟨z, h, p⟩ => ⟨f y, rfl, (by cases h; exact p)⟩⟩
@[simp] theorem ok_var {i : Nat} {P : TV → MH → Prop} : Ok (ev C (.var i) σ M) P = (match σ[i]? with | some (some d) => P (.d d) M | _ => False) := by
  show Ok (match σ[i]? with | some (some d) => Res.ok (TV.d d) M | _ => .bad) P = _
  cases σ[i]? with
  | none => rfl
  | some o => cases o <;> rfl
@[simp] theorem ok_lit {d : D} {P : TV → MH → Prop} : Ok (ev C (.lit d) σ M) P = P (.d d) M := rfl
@[simp] theorem ok_cst {x : Str} {d : D} {P : TV → MH → Prop} : Ok (ev C (.cst x d) σ M) P = P (.d d) M := rfl
@[simp] theorem ok_tup {es : Exs} {P : TV → MH → Prop} : Ok (ev C (.tup es) σ M) P = Ok (evs C es σ M) (fun ds M => P (.d (.tup ds)) M) := propext sat_bnd
@[simp] theorem ok_lst {es : Exs} {P : TV → MH → Prop} : Ok (ev C (.lst es) σ M) P = Ok (evs C es σ M) (fun ds M => P (.lst ds) M) := propext sat_bnd
@[simp] theorem mat_d {d : D} : mat (.d d) M = (d, M) := rfl
@[simp] theorem mat_l {ds : List D} : mat (.lst ds) M = (.ref M.length, M ++ [.lst ds]) := rfl
@[simp] theorem ok_mat {r : Res TV} {P : D → MH → Prop} : Ok (matR r) P = Ok r (fun x M => P (mat x M).1 (mat x M).2) := propext sat_bnd
@[simp] theorem ok_evs_nil {P : List D → MH → Prop} : Ok (evs C .nil σ M) P = P [] M := rfl
@[simp] theorem ok_evs_cons {e : Ex} {es : Exs} {P : List D → MH → Prop} : Ok (evs C (.cons e es) σ M) P = Ok (ev C e σ M) (fun x M => Ok (evs C es σ (mat x M).2) (fun ds M' => P ((mat x M).1 :: ds) M')) := by
  show Ok ((matR (ev C e σ M)).bnd fun d M => (evs C es σ M).bnd fun ds M => .ok (d :: ds) M) P = _
  simp
@[simp] theorem ok_evT_nil {P : List TV → MH → Prop} : Ok (evT C .nil σ M) P = P [] M := rfl
@[simp] theorem ok_evT_cons {e : Ex} {es : Exs} {P : List TV → MH → Prop} : Ok (evT C (.cons e es) σ M) P = Ok (ev C e σ M) (fun x M => Ok (evT C es σ M) (fun ds M' => P (x :: ds) M')) := by
  show Ok ((ev C e σ M).bnd fun d M => (evT C es σ M).bnd fun ds M => .ok (d :: ds) M) P = _
  simp
@[simp] theorem ok_bin {o : Bop} {a b : Ex} {P : TV → MH → Prop} : Ok (ev C (.bin o a b) σ M) P = Ok (ev C a σ M) (fun x M => Ok (ev C b σ M) (fun y M => ∃ z, binop M o x y = some z ∧ P z M)) := by
  show Ok ((ev C a σ M).bnd fun x M => (ev C b σ M).bnd fun y M => opt (binop M o x y) M) P = _
  simp
@[simp] theorem ok_neg {a : Ex} {P : TV → MH → Prop} : Ok (ev C (.neg a) σ M) P = Ok (ev C a σ M) (fun x M => ∃ i, x = .d (.int i) ∧ P (.d (.int (-i))) M) := by
  show Ok ((ev C a σ M).bnd fun x M => match x with | .d (.int i) => .ok (.d (.int (-i))) M | _ => .bad) P = _
  rw [ok_bnd]
  congr
  funext x M
  apply propext
  constructor
  · intro h
    cases x with
    | lst _ => exact h.elim
    | d d => cases d <;> first | exact h.elim | exact ⟨_, rfl, h⟩
  · rintro ⟨i, rfl, h⟩
    exact h
@[simp] theorem ok_tBl {r : Res TV} {P : Bool → MH → Prop} : Ok (tBl r) P = Ok r (fun x M => ∃ b, x = .d (.bl b) ∧ P b M) := by
  unfold tBl
  rw [ok_bnd]
  congr
  funext x M
  apply propext
  constructor
  · intro h
    cases x with
    | lst _ => exact h.elim
    | d d => cases d <;> first | exact h.elim | exact ⟨_, rfl, h⟩
  · rintro ⟨i, rfl, h⟩
    exact h

@[simp] theorem ok_nt {a : Ex} {P : TV → MH → Prop} : Ok (ev C (.nt a) σ M) P = Ok (ev C a σ M) (fun x M => ∃ b, x = .d (.bl b) ∧ P (.d (.bl (!b))) M) := by
  show Ok ((tBl (ev C a σ M)).bnd fun b M => .ok (.d (.bl (!b))) M) P = _
  simp
@[simp] theorem ok_cmp {o : Cop} {a b : Ex} {P : TV → MH → Prop} : Ok (ev C (.cmp o a b) σ M) P = Ok (ev C a σ M) (fun x M => Ok (ev C b σ M) (fun y M => ∃ k, cmpop M o x y = some k ∧ P (.d (.bl k)) M)) := by
  show Ok ((ev C a σ M).bnd fun x M => (ev C b σ M).bnd fun y M => (opt (cmpop M o x y) M).bnd fun b M => .ok (.d (.bl b)) M) P = _
  simp
@[simp] theorem ok_bop {all : Bool} {es : Exs} {P : TV → MH → Prop} : Ok (ev C (.bop all es) σ M) P = Ok (evB C all es σ M) (fun b M => P (.d (.bl b)) M) := propext sat_bnd
@[simp] theorem ok_evB_nil {all : Bool} {P : Bool → MH → Prop} : Ok (evB C all .nil σ M) P = P all M := rfl
@[simp] theorem ok_evB_cons {all : Bool} {e : Ex} {es : Exs} {P : Bool → MH → Prop} : Ok (evB C all (.cons e es) σ M) P = Ok (ev C e σ M) (fun x M => ∃ b, x = .d (.bl b) ∧ if b = all then Ok (evB C all es σ M) P else P (!all) M) := by
  show Ok ((tBl (ev C e σ M)).bnd fun b M => if b = all then evB C all es σ M else .ok (!all) M) P = _
  simp
@[simp] theorem ok_iteE {c a b : Ex} {P : TV → MH → Prop} : Ok (ev C (.ite c a b) σ M) P = Ok (ev C c σ M) (fun x M => ∃ k, x = .d (.bl k) ∧ if k = true then Ok (ev C a σ M) P else Ok (ev C b σ M) P) := by
  show Ok ((tBl (ev C c σ M)).bnd fun k M => if k = true then ev C a σ M else ev C b σ M) P = _
  simp
@[simp] theorem ok_ix {a i : Ex} {P : TV → MH → Prop} : Ok (ev C (.ix a i) σ M) P = Ok (ev C a σ M) (fun x M => Ok (ev C i σ M) (fun y M => ∃ z, ixop M x y = some z ∧ P z M)) := by
  show Ok ((ev C a σ M).bnd fun x M => (ev C i σ M).bnd fun y M => opt (ixop M x y) M) P = _
  simp
@[simp] theorem ok_slc {a : Ex} {lo hi : Ox} {P : TV → MH → Prop} : Ok (ev C (.slc a lo hi) σ M) P = Ok (ev C a σ M) (fun x M => Ok (evO C lo σ M) (fun l M => Ok (evO C hi σ M) (fun h M => ∃ z, slop M x l h = some z ∧ P z M))) := by
  show Ok ((ev C a σ M).bnd fun x M => (evO C lo σ M).bnd fun l M => (evO C hi σ M).bnd fun h M => opt (slop M x l h) M) P = _
  simp
@[simp] theorem ok_evO_non {P : Option Int → MH → Prop} : Ok (evO C .non σ M) P = P none M := rfl
@[simp] theorem ok_evO_som {e : Ex} {P : Option Int → MH → Prop} : Ok (evO C (.som e) σ M) P = Ok (ev C e σ M) (fun x M => ∃ i, x = .d (.int i) ∧ P (some i) M) := by
  show Ok ((ev C e σ M).bnd fun x M => match x with | .d (.int i) => .ok (some i) M | _ => .bad) P = _
  rw [ok_bnd]
  congr
  funext x M
  apply propext
  constructor
  · intro h
    cases x with
    | lst _ => exact h.elim
    | d d => cases d <;> first | exact h.elim | exact ⟨_, rfl, h⟩
  · rintro ⟨i, rfl, h⟩
    exact h
@[simp] theorem ok_rev {a : Ex} {P : TV → MH → Prop} : Ok (ev C (.rev a) σ M) P = Ok (ev C a σ M) (fun x M => ∃ z, revop M x = some z ∧ P z M) := by
  show Ok ((ev C a σ M).bnd fun x M => opt (revop M x) M) P = _
  simp
@[simp] theorem ok_lrg {a : Ex} {P : TV → MH → Prop} : Ok (ev C (.lrg a) σ M) P = Ok (ev C a σ M) (fun x M => ∃ z, lrgop x = some z ∧ P z M) := by
  show Ok ((ev C a σ M).bnd fun x M => opt (lrgop x) M) P = _
  simp
@[simp] theorem ok_dix {kvs : List (Str × Str)} {a : Ex} {P : TV → MH → Prop} : Ok (ev C (.dix kvs a) σ M) P = Ok (ev C a σ M) (fun x M => ∃ z, dixop kvs x = some z ∧ P z M) := by
  show Ok ((ev C a σ M).bnd fun x M => opt (dixop kvs x) M) P = _
  simp
@[simp] theorem ok_call {f : Nat} {es : Exs} {ks : List Nat} {P : TV → MH → Prop} : Ok (ev C (.call f es ks) σ M) P = Ok (evs C es σ M) (fun ds M => Ok (C f (ks.filterMap fun k => ds[k]?) M) (fun d M => P (.d d) M)) := by
  show Ok ((evs C es σ M).bnd fun ds M => (C f (ks.filterMap fun k => ds[k]?) M).bnd fun d M => .ok (.d d) M) P = _
  simp
@[simp] theorem ok_bf {f : Bfn} {es : Exs} {P : TV → MH → Prop} : Ok (ev C (.bf f es) σ M) P = Ok (evT C es σ M) (fun xs M => ∃ z, bfop M f xs = some z ∧ P z M) := by
  show Ok ((evT C es σ M).bnd fun xs M => opt (bfop M f xs) M) P = _
  simp
@[simp] theorem ok_join {o : Ex} {e : Ex} {P : TV → MH → Prop} : Ok (ev C (.mt .join o (.cons e .nil)) σ M) P = Ok (ev C o σ M) (fun x M => recvOk .join x = true ∧ Ok (ev C e σ M) (fun y M => ∃ z, joinop M x y = some z ∧ P z M)) := by
  show Ok ((ev C o σ M).bnd fun x M => if recvOk .join x = true then (evT C (.cons e .nil) σ M).bnd fun ys M => match ys with
        | [y] => opt (joinop M x y) M
        | _ => .bad
    else .bad) P = _
  rw [ok_bnd]
  congr
  funext x M
  rw [ok_ite]
  apply propext
  constructor
  · intro h
    split at h
    · rename_i c
      refine ⟨c, ?_⟩
      simpa using h
    · exact h.elim
  · rintro ⟨c, h⟩
    rw [if_pos c]
    simpa using h
@[simp] theorem ok_mt {m : Mth} {o : Ex} {es : Exs} {P : TV → MH → Prop} (hm : m = .append ∨ m = .count) : Ok (ev C (.mt m o es) σ M) P = Ok (ev C o σ M) (fun x M => recvOk m x = true ∧ Ok (evs C es σ M) (fun ds M => ∃ r, mtop M m x ds = some r ∧ P r.1 r.2)) := by
  have e : ev C (.mt m o es) σ M = ((ev C o σ M).bnd fun x M => if recvOk m x = true then (evs C es σ M).bnd fun ds M => match mtop M m x ds with
        | some (r, M) => .ok r M
        | none => .bad
    else .bad) := by
    rcases hm with rfl | rfl <;> rfl
  rw [e, ok_bnd]
  congr
  funext x M
  rw [ok_ite]
  apply propext
  have q : ∀ ds M, Ok (match mtop M m x ds with
        | some (r, M) => Res.ok r M
        | none => .bad) P = (∃ r, mtop M m x ds = some r ∧ P r.1 r.2) := fun ds M => by
    apply propext
    cases mtop M m x ds with
    | none => exact ⟨fun h => h.elim, fun ⟨_, h, _⟩ => by cases h⟩
    | some r => exact ⟨fun h => ⟨r, rfl, h⟩, fun ⟨_, h, p⟩ => by cases h; exact p⟩
  constructor
  · intro h
    split at h
    · rename_i c
      refine ⟨c, ?_⟩
      rw [ok_bnd] at h
      simpa only [q] using h
    · exact h.elim
  · rintro ⟨c, h⟩
    rw [if_pos c, ok_bnd]
    simpa only [q] using h
@[simp] theorem ok_fst {ps : Fps} {P : TV → MH → Prop} : Ok (ev C (.fst ps) σ M) P = Ok (evF C ps Str.empty σ M) (fun s M => P (.d (.str s)) M) := propext sat_bnd
@[simp] theorem ok_evF_nil {acc : Str} {P : Str → MH → Prop} : Ok (evF C .nil acc σ M) P = P acc M := rfl
@[simp] theorem ok_evF_txt {s acc : Str} {ps : Fps} {P : Str → MH → Prop} : Ok (evF C (.txt s ps) acc σ M) P = ((acc ++ s).length ≤ sizeLine ∧ Ok (evF C ps (acc ++ s) σ M) P) := by
  show Ok (if (acc ++ s).length ≤ sizeLine then evF C ps (acc ++ s) σ M else .bad) P = _
  rw [ok_ite]
  apply propext
  constructor
  · intro h
    split at h
    · rename_i c; exact ⟨c, h⟩
    · exact h.elim
  · rintro ⟨c, h⟩
    rw [if_pos c]
    exact h
@[simp] theorem ok_evF_val {e : Ex} {acc : Str} {ps : Fps} {P : Str → MH → Prop} : Ok (evF C (.val e ps) acc σ M) P = Ok (ev C e σ M) (fun x M => ∃ s, fmtop x = some s ∧ (acc ++ s).length ≤ sizeLine ∧ Ok (evF C ps (acc ++ s) σ M) P) := by
  show Ok ((ev C e σ M).bnd fun x M => match fmtop x with
    | some s => if (acc ++ s).length ≤ sizeLine then evF C ps (acc ++ s) σ M else .bad
    | none => .bad) P = _
  rw [ok_bnd]
  congr
  funext x M
  apply propext
  cases fmtop x with
  | none => exact ⟨fun h => h.elim, fun ⟨_, h, _⟩ => by cases h⟩
  | some s =>
    constructor
    · intro h
      have h : Ok (if (acc ++ s).length ≤ sizeLine then evF C ps (acc ++ s) σ M else .bad) P := h
      rw [ok_ite] at h
      split at h
      · rename_i c; exact ⟨s, rfl, c, h⟩
      · exact h.elim
    · rintro ⟨w, e, c, h⟩
      cases e
      show Ok (if (acc ++ s).length ≤ sizeLine then evF C ps (acc ++ s) σ M else .bad) P
      rw [ok_ite, if_pos c]
      exact h
/-! ### statements -/
@[simp] theorem ok_set {i : Nat} {e : Ex} {P : Fl → MH → Prop} : Ok (ex C (.set i e) σ M) P = Ok (ev C e σ M) (fun x M => P (.nx (σ.set i (some (mat x M).1))) (mat x M).2) := by
  show Ok ((matR (ev C e σ M)).bnd fun d M => .ok (.nx (σ.set i (some d))) M) P = _
  simp
@[simp] theorem ok_ret {e : Ex} {P : Fl → MH → Prop} : Ok (ex C (.ret e) σ M) P = Ok (ev C e σ M) (fun x M => P (.rt (mat x M).1) (mat x M).2) := by
  show Ok ((matR (ev C e σ M)).bnd fun d M => .ok (.rt d) M) P = _
  simp
@[simp] theorem ok_expr {e : Ex} {P : Fl → MH → Prop} : Ok (ex C (.expr e) σ M) P = Ok (ev C e σ M) (fun _ M => P (.nx σ) M) := propext sat_bnd
@[simp] theorem ok_iff {c : Ex} {a b : Stms} {P : Fl → MH → Prop} : Ok (ex C (.iff c a b) σ M) P = Ok (ev C c σ M) (fun x M => ∃ k, x = .d (.bl k) ∧ if k = true then Ok (exs C a σ M) P else Ok (exs C b σ M) P) := by
  show Ok ((tBl (ev C c σ M)).bnd fun k M => if k = true then exs C a σ M else exs C b σ M) P = _
  simp
@[simp] theorem ok_par {is : List Nat} {es : Exs} {P : Fl → MH → Prop} : Ok (ex C (.par is es) σ M) P = Ok (evs C es σ M) (fun ds M => if ds.length = is.length then P (.nx (setAll is ds σ)) M else False) := by
  show Ok ((evs C es σ M).bnd fun ds M => if ds.length = is.length then .ok (.nx (setAll is ds σ)) M else .bad) P = _
  simp
@[simp] theorem ok_exs_nil {P : Fl → MH → Prop} : Ok (exs C .nil σ M) P = P (.nx σ) M := rfl
@[simp] theorem ok_exs_cons {s : Stm} {ss : Stms} {P : Fl → MH → Prop} : Ok (exs C (.cons s ss) σ M) P = Ok (ex C s σ M) (fun f M => match f with
    | .nx σ => Ok (exs C ss σ M) P
    | f => P f M) := by
  show Ok ((ex C s σ M).bnd fun f M => match f with
    | .nx σ => exs C ss σ M
    | f => .ok f M) P = _
  rw [ok_bnd]
  congr
  funext f M
  cases f <;> rfl
@[simp] theorem ok_put {o i e : Ex} {P : Fl → MH → Prop} : Ok (ex C (.put o i e) σ M) P = Ok (ev C e σ M) (fun d M' => Ok (ev C o σ (mat d M').2) (fun x M => Ok (ev C i σ M) (fun y M => ∃ n k ds j, x = .d (.ref n) ∧ y = .d (.int k) ∧ M[n]? = some (.lst ds) ∧ L2.ixN ds.length k = some j ∧ P (.nx σ) (M.set n (.lst (ds.set j (mat d M').1)))))) := by
  have key : ∀ (d : D) (x y : TV) (M : MH), Ok (match x, y with
      | .d (.ref n), .d (.int k) => match M[n]? with
        | some (.lst ds) => match L2.ixN ds.length k with
          | some j => Res.ok (Fl.nx σ) (M.set n (.lst (ds.set j d)))
          | none => .bad
        | _ => .bad
      | _, _ => .bad) P = (∃ n k ds j, x = .d (.ref n) ∧ y = .d (.int k) ∧ M[n]? = some (.lst ds) ∧ L2.ixN ds.length k = some j ∧ P (.nx σ) (M.set n (.lst (ds.set j d)))) := fun d x y M => by
    apply propext
    constructor
    · intro h
      cases x with
      | lst _ => cases y <;> exact h.elim
      | d dx =>
        cases y with
        | lst _ => cases dx <;> exact h.elim
        | d dy =>
          cases dx with
          | ref n =>
            cases dy with
            | int k =>
              have h : Ok (match M[n]? with
                | some (.lst ds) => match L2.ixN ds.length k with
                  | some j => Res.ok (Fl.nx σ) (M.set n (.lst (ds.set j d)))
                  | none => .bad
                | _ => .bad) P := h
              cases e1 : M[n]? with
              | none => rw [e1] at h; exact h.elim
              | some o =>
                cases o with
                | lst ds =>
                  rw [e1] at h
                  have h : Ok (match L2.ixN ds.length k with
                    | some j => Res.ok (Fl.nx σ) (M.set n (.lst (ds.set j d)))
                    | none => .bad) P := h
                  cases e2 : L2.ixN ds.length k with
                  | none => rw [e2] at h; exact h.elim
                  | some j =>
                    rw [e2] at h
                    exact ⟨n, k, ds, j, rfl, rfl, e1, e2, h⟩
            | _ => exact h.elim
          | _ => cases dy <;> exact h.elim
    · rintro ⟨n, k, ds, j, rfl, rfl, h1, h2, h3⟩
      show Ok (match M[n]? with
        | some (.lst ds) => match L2.ixN ds.length k with
          | some j => Res.ok (Fl.nx σ) (M.set n (.lst (ds.set j d)))
          | none => .bad
        | _ => .bad) P
      rw [h1]
      show Ok (match L2.ixN ds.length k with
          | some j => Res.ok (Fl.nx σ) (M.set n (.lst (ds.set j d)))
          | none => .bad) P
      rw [h2]
      exact h3
  show Ok ((matR (ev C e σ M)).bnd fun d M => (ev C o σ M).bnd fun x M => (ev C i σ M).bnd fun y M => _) P = _
  rw [ok_bnd, ok_mat]
  congr
  funext x M
  rw [ok_bnd]
  congr
  funext y M2
  rw [ok_bnd]
  congr
  funext z M3
  exact key _ _ _ _
end
/-! ### a def's run -/
theorem run_eq {fs : Nat → Option Fn} {n f : Nat} {fn : Fn} {ds : List D} {M : MH} {P : D → MH → Prop} (hf : fs f = some fn) (hl : ds.length = fn.ps.length)
    (h : Ok (exs (run fs n) fn.body (ds.map some ++ List.replicate (fn.ns.length - ds.length) none) M) (fun r M => match r with
      | .rt d => P d M
      | .nx _ => P .non M
      | _ => False)) : Ok (run fs (n + 1) f ds M) P := by
  have e : run fs (n + 1) f ds M = (exs (run fs n) fn.body (ds.map some ++ List.replicate (fn.ns.length - ds.length) none) M).bnd fun r M => match r with
          | .rt d => .ok d M
          | .nx _ => .ok .non M
          | _ => .bad := by
    show (match fs f with
      | some fn => if ds.length = fn.ps.length then
          (exs (run fs n) fn.body (ds.map some ++ List.replicate (fn.ns.length - ds.length) none) M).bnd fun r M => match r with
            | .rt d => .ok d M
            | .nx _ => .ok .non M
            | _ => .bad
        else .bad
      | none => .bad) = _
    rw [hf]
    exact if_pos hl
  rw [e, ok_bnd]
  refine h.mono fun r M q => ?_
  cases r <;> exact q
/-! ### operators on plain values -/
section
variable {M : MH}
@[simp] theorem add_i {i j : Int} : binop M .add (.d (.int i)) (.d (.int j)) = some (.d (.int (i + j))) := rfl
@[simp] theorem sub_i {i j : Int} : binop M .sub (.d (.int i)) (.d (.int j)) = some (.d (.int (i - j))) := rfl
@[simp] theorem mul_i {i j : Int} : binop M .mul (.d (.int i)) (.d (.int j)) = guard' (bigOk i j) (.d (.int (i * j))) := rfl
@[simp] theorem fdiv_i {i j : Int} : binop M .fdiv (.d (.int i)) (.d (.int j)) = guard' (decide (0 < j) && decide (j.natAbs < 2 ^ 2000)) (.d (.int (i / j))) := by
  show (guard' _ _).map _ = _
  unfold guard'
  split <;> rfl
@[simp] theorem mod_i {i j : Int} : binop M .mod (.d (.int i)) (.d (.int j)) = guard' (decide (0 < j)) (.d (.int (i % j))) := by
  show (guard' _ _).map _ = _
  unfold guard'
  split <;> rfl
@[simp] theorem pow_i {i j : Int} : binop M .pow (.d (.int i)) (.d (.int j)) = guard' (decide (0 ≤ j) && decide (j ≤ 1000) && decide (i.natAbs < 2 ^ 1000)) (.d (.int (i ^ j.toNat))) := by
  show (guard' _ _).map _ = _
  unfold guard'
  split <;> rfl
@[simp] theorem add_s {a b : Str} : binop M .add (.d (.str a)) (.d (.str b)) = guard' (decide (a.length + b.length ≤ sizeLine)) (.d (.str (a ++ b))) := rfl
@[simp] theorem add_t {a b : List D} : binop M .add (.d (.tup a)) (.d (.tup b)) = guard' (decide (a.length + b.length ≤ sizeLine)) (.d (.tup (a ++ b))) := rfl
@[simp] theorem pd_i {i : Int} : pdT M deep (.d (.int i)) = some (.int i) := rfl
@[simp] theorem pd_s {s : Str} : pdT M deep (.d (.str s)) = some (.str s) := rfl
theorem lt_ints {i j : Int} : W.dataLt (.int i) (.int j) = decide (i < j) := PySem.W.dataLt_int i j
@[simp] theorem cmp_eq {i j : Int} : cmpop M .eq (.d (.int i)) (.d (.int j)) = some (decide (i = j)) := by
  show some (PyData.eqv (.int i) (.int j)) = _
  rfl
@[simp] theorem cmp_gt {i j : Int} : cmpop M .gt (.d (.int i)) (.d (.int j)) = some (decide (j < i)) := by
  show guard' _ (W.dataLt (.int j) (.int i)) = _
  rw [lt_ints]
  rfl
@[simp] theorem cmp_lt {i j : Int} : cmpop M .lt (.d (.int i)) (.d (.int j)) = some (decide (i < j)) := by
  show guard' _ (W.dataLt (.int i) (.int j)) = _
  rw [lt_ints]
  rfl
@[simp] theorem cmp_ge {i j : Int} : cmpop M .ge (.d (.int i)) (.d (.int j)) = some (!decide (i < j)) := by
  show guard' _ (!W.dataLt (.int i) (.int j)) = _
  rw [lt_ints]
  rfl
@[simp] theorem cmp_le {i j : Int} : cmpop M .le (.d (.int i)) (.d (.int j)) = some (!decide (j < i)) := by
  show guard' _ (!W.dataLt (.int j) (.int i)) = _
  rw [lt_ints]
  rfl
@[simp] theorem ix_ref {p : Nat} {i : Int} : ixop M (.d (.ref p)) (.d (.int i)) = (match M[p]? with | some (.lst ds) => (L2.atI ds i).map .d | none => none) := by
  show (match rd M p with
    | some ds => (L2.atI ds i).map TV.d
    | none => ixStr i (.d (.ref p))) = _
  unfold rd
  cases M[p]? with
  | none => rfl
  | some o => cases o; rfl
@[simp] theorem ix_tup {ds : List D} {i : Int} : ixop M (.d (.tup ds)) (.d (.int i)) = (L2.atI ds i).map .d := rfl
@[simp] theorem ix_lst {ds : List D} {i : Int} : ixop M (.lst ds) (.d (.int i)) = (L2.atI ds i).map .d := rfl
@[simp] theorem ix_scr {ds : List D} {i : Int} : ixop M (.d (.scr ds)) (.d (.int i)) = (L2.atI ds i).map .d := rfl
end
end Ev

set_option maxRecDepth 100000
set_option maxHeartbeats 2000000
namespace Ev
open PySem
/-! 0 -/
abbrev t_law_draw_0 : Stms :=
  (.cons (.put (.var 0) (.lit (.int 0)) (.bin .fdiv (.ix (.var 0) (.lit (.int 0))) (.var 1))) (.cons (.ret (.var 2)) .nil))
abbrev t_law_draw_1 : Stms :=
  (.cons (.set 2 (.bin .mod (.bf .int (.cons (.ix (.var 0) (.lit (.int 0))) .nil)) (.var 1))) t_law_draw_0)
abbrev t_law_draw_2 : Stms :=
  (.cons (.ret (.bin .mod (.bf .int (.cons (.bin .fdiv (.var 3) (.lit (.int 15485863))) .nil)) (.var 1))) .nil)
abbrev t_law_draw_3 : Stms :=
  (.cons (.set 3 (.bin .mod (.bf .int (.cons (.bin .add (.bin .add (.bin .mul (.var 3) (.var 3)) (.ix (.var 0) (.lit (.int 1)))) (.bin .mul (.lit (.int 7)) (.ix (.var 0) (.lit (.int 2))))) .nil)) (.bin .add (.bin .pow (.lit (.int 10)) (.lit (.int 28))) (.lit (.int 331))))) t_law_draw_2)
abbrev t_law_draw_4 : Stms :=
  (.cons (.set 3 (.bin .mod (.bf .int (.cons (.bin .add (.bin .pow (.bin .add (.ix (.var 0) (.lit (.int 1))) (.bin .mul (.lit (.int 32452843)) (.ix (.var 0) (.lit (.int 2))))) (.lit (.int 3))) (.ix (.var 0) (.lit (.int 2)))) .nil)) (.bin .add (.bin .pow (.lit (.int 10)) (.lit (.int 30))) (.lit (.int 57))))) t_law_draw_3)
abbrev t_law_draw_5 : Stms :=
  (.cons (.put (.var 0) (.lit (.int 2)) (.bin .add (.ix (.var 0) (.lit (.int 2))) (.lit (.int 1)))) t_law_draw_4)
def b_law_draw : Stms :=
  (.cons (.iff (.cmp .gt (.ix (.var 0) (.lit (.int 0))) (.lit (.int 0))) t_law_draw_1 .nil) t_law_draw_5)
def fn_law_draw : Fn := ⟨"_law_draw", ["pot", "many"], ["pot", "many", "found", "mixed"], b_law_draw⟩
/-! 1 -/
abbrev t_law_house_0 : Stms :=
  (.cons (.set 5 (.bf .tuple (.cons (.comp [6] (.call 0 (.cons (.var 0) (.cons (.lit (.int 3)) .nil)) [0, 1]) (.name 6) (.rng1 (.var 4)) .nil) .nil))) .nil)
abbrev t_law_house_1 : Stms :=
  (.cons (.set 5 (.bf .tuple (.cons (.comp [6] (.bin .mod (.bf .int (.cons (.bin .add (.ix (.var 5) (.lit (.int 0))) (.var 6)) .nil)) (.lit (.int 3))) (.name 6) (.rng1 (.var 4)) .nil) .nil))) .nil)
abbrev t_law_house_2 : Stms :=
  (.cons (.ret (.tup (.cons (.var 3) (.cons (.var 5) (.cons (.bf .tuple (.cons (.comp [6] (.call 0 (.cons (.var 0) (.cons (.lit (.int 4)) .nil)) [0, 1]) (.name 6) (.rng1 (.var 4)) .nil) .nil)) .nil))))) .nil)
abbrev t_law_house_3 : Stms :=
  (.cons (.iff (.cmp .ge (.bf .max1 (.cons (.comp [7] (.mt .count (.var 5) (.cons (.var 7) .nil)) (.name 7) (.seq (.var 5)) .nil) .nil)) (.var 3)) t_law_house_1 .nil) t_law_house_2)
abbrev t_law_house_4 : Stms :=
  (.cons (.iff (.cmp .eq (.call 0 (.cons (.var 0) (.cons (.lit (.int 2)) .nil)) [0, 1]) (.lit (.int 0))) t_law_house_0 .nil) t_law_house_3)
abbrev t_law_house_5 : Stms :=
  (.cons (.set 5 (.bin .mul (.tup (.cons (.call 0 (.cons (.var 0) (.cons (.lit (.int 3)) .nil)) [0, 1]) .nil)) (.var 4))) t_law_house_4)
def b_law_house : Stms :=
  (.cons (.par [3, 4] (.cons (.bin .add (.lit (.int 2)) (.call 0 (.cons (.var 0) (.cons (.bin .sub (.var 1) (.lit (.int 1))) .nil)) [0, 1])) (.cons (.bin .add (.lit (.int 1)) (.call 0 (.cons (.var 0) (.cons (.var 2) .nil)) [0, 1])) .nil))) t_law_house_5)
def fn_law_house : Fn := ⟨"_law_house", ["pot", "most_floors", "most_cars"], ["pot", "most_floors", "most_cars", "floors", "many", "shafts", "car", "shaft"], b_law_house⟩
/-! 2 -/
abbrev t_law_calls_0 : Stms :=
  (.cons (.expr (.mt .append (.var 1) (.cons (.tup (.cons (.var 2) (.cons (.lit (.str "down")) .nil))) .nil))) .nil)
abbrev t_law_calls_1 : Stms :=
  (.cons (.expr (.mt .append (.var 1) (.cons (.tup (.cons (.var 2) (.cons (.lit (.str "up")) .nil))) .nil))) .nil)
abbrev t_law_calls_2 : Stms :=
  (.cons (.iff (.cmp .lt (.var 2) (.bin .sub (.ix (.var 0) (.lit (.int 0))) (.lit (.int 1)))) t_law_calls_1 .nil) .nil)
abbrev t_law_calls_3 : Stms :=
  (.cons (.for_ (.name 2) (.rng1 (.ix (.var 0) (.lit (.int 0)))) (.cons (.iff (.cmp .gt (.var 2) (.lit (.int 0))) t_law_calls_0 .nil) t_law_calls_2)) (.cons (.ret (.var 1)) .nil))
def b_law_calls : Stms :=
  (.cons (.set 1 (.lst .nil)) t_law_calls_3)
def fn_law_calls : Fn := ⟨"_law_calls", ["house"], ["house", "found", "floor"], b_law_calls⟩
/-! 3 -/
abbrev t_law_plain_0 : Stms :=
  (.cons (.ret (.bin .add (.tup (.cons (.lit (.str "call")) .nil)) (.ix (.var 6) (.call 0 (.cons (.var 0) (.cons (.bf .len (.cons (.var 6) .nil)) .nil)) [0, 1])))) .nil)
abbrev t_law_plain_1 : Stms :=
  (.cons (.ret (.tup (.cons (.ix (.lst (.cons (.lit (.str "above")) (.cons (.lit (.str "below")) (.cons (.lit (.str "here")) .nil)))) (.bin .sub (.var 5) (.lit (.int 3)))) (.cons (.var 3) .nil)))) .nil)
abbrev t_law_plain_2 : Stms :=
  (.cons (.ret (.tup (.cons (.lit (.str "note")) (.cons (.var 3) (.cons (.call 0 (.cons (.var 0) (.cons (.ix (.ix (.var 1) (.lit (.int 2))) (.var 3)) .nil)) [0, 1]) (.cons (.call 0 (.cons (.var 0) (.cons (.lit (.int 10)) .nil)) [0, 1]) .nil)))))) .nil)
abbrev t_law_plain_3 : Stms :=
  (.cons (.ret (.tup (.cons (.lit (.str "near")) (.cons (.var 3) (.cons (.bin .mod (.bf .int (.cons (.bin .add (.bin .add (.var 3) (.lit (.int 1))) (.call 0 (.cons (.var 0) (.cons (.bin .sub (.var 2) (.lit (.int 1))) .nil)) [0, 1])) .nil)) (.var 2)) .nil))))) .nil)
abbrev t_law_plain_4 : Stms :=
  (.cons (.ret (.tup (.cons (.ix (.lst (.cons (.lit (.str "fire")) (.cons (.lit (.str "harm")) .nil))) (.bin .sub (.var 5) (.lit (.int 8)))) .nil))) .nil)
abbrev t_law_plain_5 : Stms :=
  (.cons (.iff (.bop false (.cons (.cmp .eq (.var 5) (.lit (.int 8))) (.cons (.cmp .eq (.var 5) (.lit (.int 9))) .nil))) t_law_plain_4 .nil) (.cons (.ret (.tup (.cons (.lit (.str "at")) (.cons (.var 3) (.cons (.var 4) .nil))))) .nil))
abbrev t_law_plain_6 : Stms :=
  (.cons (.iff (.bop true (.cons (.cmp .eq (.var 5) (.lit (.int 7))) (.cons (.cmp .gt (.var 2) (.lit (.int 1))) .nil))) t_law_plain_3 .nil) t_law_plain_5)
abbrev t_law_plain_7 : Stms :=
  (.cons (.iff (.bop true (.cons (.cmp .eq (.var 5) (.lit (.int 6))) (.cons (.cmp .gt (.ix (.ix (.var 1) (.lit (.int 2))) (.var 3)) (.lit (.int 0))) .nil))) t_law_plain_2 .nil) t_law_plain_6)
abbrev t_law_plain_8 : Stms :=
  (.cons (.iff (.cmp .eq (.var 5) (.lit (.int 2))) (.cons (.ret (.tup (.cons (.lit (.str "panel")) (.cons (.var 3) (.cons (.var 4) .nil))))) .nil) .nil) (.cons (.iff (.cmp .lt (.var 5) (.lit (.int 6))) t_law_plain_1 .nil) t_law_plain_7))
abbrev t_law_plain_9 : Stms :=
  (.cons (.iff (.cmp .eq (.var 5) (.lit (.int 1))) (.cons (.set 6 (.call 2 (.cons (.var 1) .nil) [0])) t_law_plain_0) .nil) t_law_plain_8)
abbrev t_law_plain_10 : Stms :=
  (.cons (.iff (.cmp .eq (.var 5) (.lit (.int 0))) (.cons (.ret (.tup (.cons (.lit (.str "open")) (.cons (.var 3) .nil)))) .nil) .nil) t_law_plain_9)
abbrev t_law_plain_11 : Stms :=
  (.cons (.par [3, 4, 5] (.cons (.call 0 (.cons (.var 0) (.cons (.var 2) .nil)) [0, 1]) (.cons (.call 0 (.cons (.var 0) (.cons (.ix (.var 1) (.lit (.int 0))) .nil)) [0, 1]) (.cons (.call 0 (.cons (.var 0) (.cons (.lit (.int 11)) .nil)) [0, 1]) .nil)))) t_law_plain_10)
def b_law_plain : Stms :=
  (.cons (.set 2 (.bf .len (.cons (.ix (.var 1) (.lit (.int 1))) .nil))) t_law_plain_11)
def fn_law_plain : Fn := ⟨"_law_plain", ["pot", "house"], ["pot", "house", "many", "c", "floor", "way", "calls"], b_law_plain⟩
/-! 4 -/
abbrev t_law_condition_0 : Stms :=
  (.cons (.ret (.ite (.bop false (.cons (.cmp .gt (.var 4) (.lit (.int 0))) (.cons (.cmp .gt (.call 0 (.cons (.var 0) (.cons (.lit (.int 4)) .nil)) [0, 1]) (.lit (.int 0))) .nil))) (.call 3 (.cons (.var 0) (.cons (.var 1) .nil)) [0, 1]) (.tup (.cons (.ix (.lst (.cons (.lit (.str "all")) (.cons (.lit (.str "some")) .nil))) (.call 0 (.cons (.var 0) (.cons (.lit (.int 2)) .nil)) [0, 1])) .nil)))) .nil)
abbrev t_law_condition_1 : Stms :=
  (.cons (.ret (.tup (.cons (.lit (.str "not")) (.cons (.call 4 (.cons (.var 0) (.cons (.var 1) (.cons (.bin .sub (.var 2) (.lit (.int 1))) (.cons (.bin .sub (.var 3) (.lit (.int 1))) .nil)))) [0, 1, 2, 3]) .nil)))) .nil)
abbrev t_law_condition_2 : Stms :=
  (.cons (.ret (.bin .add (.tup (.cons (.ix (.lst (.cons (.lit (.str "all")) (.cons (.lit (.str "some")) .nil))) (.call 0 (.cons (.var 0) (.cons (.lit (.int 2)) .nil)) [0, 1])) .nil)) (.bf .tuple (.cons (.var 6) .nil)))) .nil)
abbrev t_law_condition_3 : Stms :=
  (.cons (.set 6 (.comp [7] (.call 4 (.cons (.var 0) (.cons (.var 1) (.cons (.bin .fdiv (.bin .sub (.var 2) (.lit (.int 1))) (.var 5)) (.cons (.bin .sub (.var 3) (.lit (.int 1))) .nil)))) [0, 1, 2, 3]) (.name 7) (.rng1 (.var 5)) .nil)) t_law_condition_2)
abbrev t_law_condition_4 : Stms :=
  (.cons (.set 5 (.bf .min2 (.cons (.bin .sub (.var 2) (.lit (.int 1))) (.cons (.ix (.lst (.cons (.lit (.int 1)) (.cons (.lit (.int 2)) (.cons (.lit (.int 3)) (.cons (.lit (.int 59)) .nil))))) (.call 0 (.cons (.var 0) (.cons (.lit (.int 4)) .nil)) [0, 1])) .nil)))) t_law_condition_3)
abbrev t_law_condition_5 : Stms :=
  (.cons (.iff (.bop false (.cons (.cmp .eq (.var 3) (.lit (.int 1))) (.cons (.cmp .lt (.var 2) (.lit (.int 2))) (.cons (.cmp .lt (.var 4) (.lit (.int 2))) .nil)))) t_law_condition_0 .nil) (.cons (.iff (.cmp .eq (.var 4) (.lit (.int 2))) t_law_condition_1 .nil) t_law_condition_4))
def b_law_condition : Stms :=
  (.cons (.set 4 (.call 0 (.cons (.var 0) (.cons (.lit (.int 6)) .nil)) [0, 1])) t_law_condition_5)
def fn_law_condition : Fn := ⟨"_law_condition", ["pot", "house", "room", "levels"], ["pot", "house", "room", "levels", "way", "many", "parts", "turn"], b_law_condition⟩
/-! 15 -/
abbrev t_law_pot_0 : Stms :=
  (.cons (.set 2 (.bin .mod (.bf .int (.cons (.bin .add (.bin .add (.bin .mul (.var 2) (.lit (.int 7919))) (.bin .mul (.var 3) (.lit (.int 611953)))) (.lit (.int 3))) .nil)) (.bin .add (.bin .pow (.lit (.int 10)) (.lit (.int 27))) (.lit (.int 103))))) .nil)
abbrev t_law_pot_1 : Stms :=
  (.cons (.ret (.lst (.cons (.bf .max2 (.cons (.lit (.int 0)) (.cons (.bin .sub (.var 4) (.bin .pow (.lit (.int 10)) (.lit (.int 18)))) .nil))) (.cons (.bin .mod (.bf .int (.cons (.bin .add (.bin .mul (.var 2) (.lit (.int 5))) (.bin .mul (.var 4) (.lit (.int 9)))) .nil)) (.bin .add (.bin .pow (.lit (.int 10)) (.lit (.int 29))) (.lit (.int 319)))) (.cons (.lit (.int 0)) .nil))))) .nil)
abbrev t_law_pot_2 : Stms :=
  (.cons (.set 4 (.ite (.cmp .lt (.var 1) (.bf .len (.cons (.var 0) .nil))) (.ix (.var 0) (.var 1)) (.var 2))) t_law_pot_1)
def b_law_pot : Stms :=
  (.cons (.set 2 (.bin .add (.bin .mul (.lit (.int 31)) (.var 1)) (.lit (.int 11)))) (.cons (.for_ (.name 3) (.seq (.var 0)) t_law_pot_0) t_law_pot_2))
def fn_law_pot : Fn := ⟨"_law_pot", ["script", "k"], ["script", "k", "total", "number", "cell"], b_law_pot⟩
/-! 17 -/
abbrev t_law_places_0 : Stms :=
  (.cons (.set 5 (.bin .mod (.bf .int (.cons (.bin .add (.var 5) (.lit (.int 1))) .nil)) (.ix (.var 1) (.lit (.int 0))))) .nil)
abbrev t_law_places_1 : Stms :=
  (.cons (.set 7 (.comp [8] (.ix (.var 2) (.var 8)) (.name 8) (.rng1 (.var 3)) (.cons (.cmp .eq (.ix (.ix (.var 1) (.lit (.int 1))) (.var 8)) (.var 4)) .nil))) (.cons (.iff (.cmp .isin (.var 5) (.var 7)) t_law_places_0 .nil) .nil))
abbrev t_law_places_2 : Stms :=
  (.cons (.for_ (.name 6) (.rng1 (.ix (.var 1) (.lit (.int 0)))) t_law_places_1) (.cons (.expr (.mt .append (.var 2) (.cons (.var 5) .nil))) .nil))
abbrev t_law_places_3 : Stms :=
  (.cons (.set 5 (.call 0 (.cons (.var 0) (.cons (.ix (.var 1) (.lit (.int 0))) .nil)) [0, 1])) t_law_places_2)
abbrev t_law_places_4 : Stms :=
  (.cons (.for_ (.tup [3, 4]) (.enum (.ix (.var 1) (.lit (.int 1)))) t_law_places_3) (.cons (.ret (.bf .tuple (.cons (.var 2) .nil))) .nil))
def b_law_places : Stms :=
  (.cons (.set 2 (.lst .nil)) t_law_places_4)
def fn_law_places : Fn := ⟨"_law_places", ["pot", "house"], ["pot", "house", "found", "c", "shaft", "floor", "turn", "taken", "d"], b_law_places⟩
/-! 18 -/
def b_law_notes : Stms :=
  (.cons (.ret (.bf .tuple (.cons (.comp [3] (.bf .tuple (.cons (.comp [2] (.call 0 (.cons (.var 0) (.cons (.lit (.int 10)) .nil)) [0, 1]) (.name 2) (.rng1 (.var 3)) .nil) .nil)) (.name 3) (.seq (.ix (.var 1) (.lit (.int 2)))) .nil) .nil))) .nil)
def fn_law_notes : Fn := ⟨"_law_notes", ["pot", "house"], ["pot", "house", "note", "count"], b_law_notes⟩
/-! 19 -/
def b_law_some : Stms :=
  (.cons (.ret (.bf .tuple (.cons (.comp [3] (.var 3) (.name 3) (.seq (.var 1)) (.cons (.cmp .eq (.call 0 (.cons (.var 0) (.cons (.var 2) .nil)) [0, 1]) (.lit (.int 0))) .nil)) .nil))) .nil)
def fn_law_some : Fn := ⟨"_law_some", ["pot", "items", "share"], ["pot", "items", "share", "item"], b_law_some⟩
/-! 20 -/
abbrev t_law_harms_0 : Stms :=
  (.cons (.expr (.mt .append (.var 2) (.cons (.tup (.cons (.lit (.str "crash")) (.cons (.var 3) (.cons (.var 4) .nil)))) .nil))) .nil)
abbrev t_law_harms_1 : Stms :=
  (.cons (.for_ (.name 4) (.rng2 (.bin .add (.var 3) (.lit (.int 1))) (.bf .len (.cons (.var 1) .nil))) (.cons (.iff (.cmp .eq (.ix (.var 1) (.var 3)) (.ix (.var 1) (.var 4))) t_law_harms_0 .nil) .nil)) .nil)
abbrev t_law_harms_2 : Stms :=
  (.cons (.ret (.bin .add (.bin .add (.var 2) (.comp [3] (.tup (.cons (.lit (.str "end")) (.cons (.var 3) .nil))) (.name 3) (.rng1 (.bf .len (.cons (.var 1) .nil))) .nil)) (.comp [3] (.tup (.cons (.lit (.str "torn")) (.cons (.var 3) .nil))) (.name 3) (.rng1 (.bf .len (.cons (.var 1) .nil))) .nil))) .nil)
def b_law_harms : Stms :=
  (.cons (.par [1, 2] (.cons (.ix (.var 0) (.lit (.int 1))) (.cons (.lst .nil) .nil))) (.cons (.for_ (.name 3) (.rng1 (.bf .len (.cons (.var 1) .nil))) t_law_harms_1) t_law_harms_2))
def fn_law_harms : Fn := ⟨"_law_harms", ["house"], ["house", "shafts", "found", "c", "d"], b_law_harms⟩
/-! 21 -/
abbrev t_law_stand_0 : Stms :=
  (.cons (.ret (.tup (.cons (.var 4) (.cons (.tup .nil) (.cons (.bin .mul (.tup (.cons (.tup .nil) .nil)) (.bf .len (.cons (.var 4) .nil))) (.cons (.lit (.bl true)) (.cons (.var 7) .nil))))))) .nil)
abbrev t_law_stand_1 : Stms :=
  (.cons (.ret (.tup (.cons (.var 4) (.cons (.call 19 (.cons (.var 0) (.cons (.call 2 (.cons (.var 1) .nil) [0]) (.cons (.var 8) .nil))) [0, 1, 2]) (.cons (.var 9) (.cons (.lit (.bl false)) (.cons (.var 7) .nil))))))) .nil)
abbrev t_law_stand_2 : Stms :=
  (.cons (.set 9 (.bf .tuple (.cons (.comp [10] (.call 19 (.cons (.var 0) (.cons (.lrg (.ix (.var 1) (.lit (.int 0)))) (.cons (.var 8) .nil))) [0, 1, 2]) (.name 10) (.seq (.var 4)) .nil) .nil))) t_law_stand_1)
abbrev t_law_stand_3 : Stms :=
  (.cons (.set 8 (.bin .add (.lit (.int 1)) (.call 0 (.cons (.var 0) (.cons (.lit (.int 4)) .nil)) [0, 1]))) t_law_stand_2)
abbrev t_law_stand_4 : Stms :=
  (.cons (.iff (.cmp .eq (.call 0 (.cons (.var 0) (.cons (.lit (.int 6)) .nil)) [0, 1]) (.lit (.int 0))) t_law_stand_0 .nil) t_law_stand_3)
abbrev t_law_stand_5 : Stms :=
  (.cons (.set 7 (.ite (.cmp .eq (.call 0 (.cons (.var 0) (.cons (.lit (.int 4)) .nil)) [0, 1]) (.lit (.int 0))) (.call 19 (.cons (.var 0) (.cons (.call 20 (.cons (.var 1) .nil) [0]) (.cons (.lit (.int 3)) .nil))) [0, 1, 2]) (.tup .nil))) t_law_stand_4)
abbrev t_law_stand_6 : Stms :=
  (.cons (.set 4 (.bf .tuple (.cons (.comp [5, 6] (.tup (.cons (.var 5) (.cons (.cmp .eq (.call 0 (.cons (.var 0) (.cons (.lit (.int 3)) .nil)) [0, 1]) (.lit (.int 0))) (.cons (.var 6) .nil)))) (.tup [5, 6]) (.zip (.var 2) (.var 3)) .nil) .nil))) t_law_stand_5)
def b_law_stand : Stms :=
  (.cons (.par [2, 3] (.cons (.call 17 (.cons (.var 0) (.cons (.var 1) .nil)) [0, 1]) (.cons (.call 18 (.cons (.var 0) (.cons (.var 1) .nil)) [0, 1]) .nil))) t_law_stand_6)
def fn_law_stand : Fn := ⟨"_law_stand", ["pot", "house"], ["pot", "house", "places", "notes", "cars", "floor", "own", "harms", "share", "panels", "car"], b_law_stand⟩
/-! 22 -/
abbrev t_law_presses_0 : Stms :=
  (.cons (.set 1 (.bin .add (.var 1) (.comp [4] (.tup (.cons (.lit (.str "panel")) (.cons (.var 2) (.cons (.var 4) .nil)))) (.name 4) (.rng1 (.ix (.var 0) (.lit (.int 0)))) .nil))) .nil)
abbrev t_law_presses_1 : Stms :=
  (.cons (.ret (.bin .add (.var 1) (.comp [2] (.tup (.cons (.lit (.str "stuck")) (.cons (.var 2) .nil))) (.name 2) (.rng1 (.bf .len (.cons (.ix (.var 0) (.lit (.int 1))) .nil))) .nil))) .nil)
abbrev t_law_presses_2 : Stms :=
  (.cons (.for_ (.name 2) (.rng1 (.bf .len (.cons (.ix (.var 0) (.lit (.int 1))) .nil))) t_law_presses_0) t_law_presses_1)
def b_law_presses : Stms :=
  (.cons (.set 1 (.bin .add (.bin .add (.comp [2] (.tup (.cons (.lit (.str "beam")) (.cons (.var 2) .nil))) (.name 2) (.rng1 (.bf .len (.cons (.ix (.var 0) (.lit (.int 1))) .nil))) .nil) (.comp [3] (.bin .add (.tup (.cons (.lit (.str "call")) .nil)) (.var 3)) (.name 3) (.seq (.call 2 (.cons (.var 0) .nil) [0])) .nil)) (.lst (.cons (.tup (.cons (.lit (.str "key")) .nil)) .nil)))) t_law_presses_2)
def fn_law_presses : Fn := ⟨"_law_presses", ["house"], ["house", "found", "c", "call", "floor"], b_law_presses⟩
/-! 33 -/
abbrev t_law_all_plain_0 : Stms :=
  (.cons (.set 1 (.bin .add (.var 1) (.comp [8] (.tup (.cons (.lit (.str "note")) (.cons (.var 3) (.cons (.var 7) (.cons (.var 8) .nil))))) (.name 8) (.rng1 (.lit (.int 10))) .nil))) .nil)
abbrev t_law_all_plain_1 : Stms :=
  (.cons (.for_ (.name 7) (.rng1 (.ix (.ix (.var 0) (.lit (.int 2))) (.var 3))) t_law_all_plain_0) .nil)
abbrev t_law_all_plain_2 : Stms :=
  (.cons (.set 1 (.bin .add (.var 1) (.comp [6] (.tup (.cons (.lit (.str "near")) (.cons (.var 3) (.cons (.var 6) .nil)))) (.name 6) (.rng1 (.bf .len (.cons (.ix (.var 0) (.lit (.int 1))) .nil))) (.cons (.cmp .ne (.var 6) (.var 3)) .nil)))) t_law_all_plain_1)
abbrev t_law_all_plain_3 : Stms :=
  (.cons (.set 1 (.bin .add (.var 1) (.comp [5] (.tup (.cons (.lit (.str "panel")) (.cons (.var 3) (.cons (.var 5) .nil)))) (.name 5) (.rng1 (.ix (.var 0) (.lit (.int 0)))) .nil))) t_law_all_plain_2)
abbrev t_law_all_plain_4 : Stms :=
  (.cons (.set 1 (.bin .add (.var 1) (.comp [5] (.tup (.cons (.lit (.str "at")) (.cons (.var 3) (.cons (.var 5) .nil)))) (.name 5) (.rng1 (.ix (.var 0) (.lit (.int 0)))) .nil))) t_law_all_plain_3)
abbrev t_law_all_plain_5 : Stms :=
  (.cons (.set 1 (.bin .add (.var 1) (.comp [4] (.tup (.cons (.var 4) (.cons (.var 3) .nil))) (.name 4) (.seq (.lst (.cons (.lit (.str "open")) (.cons (.lit (.str "above")) (.cons (.lit (.str "below")) (.cons (.lit (.str "here")) .nil)))))) .nil))) t_law_all_plain_4)
abbrev t_law_all_plain_6 : Stms :=
  (.cons (.for_ (.name 3) (.rng1 (.bf .len (.cons (.ix (.var 0) (.lit (.int 1))) .nil))) t_law_all_plain_5) (.cons (.ret (.var 1)) .nil))
def b_law_all_plain : Stms :=
  (.cons (.set 1 (.bin .add (.lst (.cons (.tup (.cons (.lit (.str "fire")) .nil)) (.cons (.tup (.cons (.lit (.str "harm")) .nil)) .nil))) (.comp [2] (.bin .add (.tup (.cons (.lit (.str "call")) .nil)) (.var 2)) (.name 2) (.seq (.call 2 (.cons (.var 0) .nil) [0])) .nil))) t_law_all_plain_6)
def fn_law_all_plain : Fn := ⟨"_law_all_plain", ["house"], ["house", "found", "call", "c", "name", "floor", "d", "note", "number"], b_law_all_plain⟩
/-! 34 -/
def b_is_integer : Stms :=
  (.cons (.ret (.bop true (.cons (.x1 (.isi .int) (.var 0)) (.cons (.nt (.x1 (.isi .bool) (.var 0))) .nil)))) .nil)
def fn_is_integer : Fn := ⟨"is_integer", ["value"], ["value"], b_is_integer⟩
/-! 35 -/
def b_is_between : Stms :=
  (.cons (.ret (.bop true (.cons (.call 34 (.cons (.var 0) .nil) [0]) (.cons (.chain .le .le (.var 1) (.var 0) (.var 2)) .nil)))) .nil)
def fn_is_between : Fn := ⟨"is_between", ["value", "low", "high"], ["value", "low", "high"], b_is_between⟩
/-! 36 -/
abbrev t_are_integers_0 : Stms :=
  (.cons (.ret (.bf .all (.cons (.comp [4] (.call 35 (.cons (.var 4) (.cons (.var 2) (.cons (.var 3) .nil))) [0, 1, 2]) (.name 4) (.seq (.var 0)) .nil) .nil))) .nil)
def b_are_integers : Stms :=
  (.cons (.iff (.bop false (.cons (.nt (.x1 (.isi .tuple) (.var 0))) (.cons (.cmp .ne (.bf .len (.cons (.var 0) .nil)) (.var 1)) .nil))) (.cons (.ret (.lit (.bl false))) .nil) .nil) t_are_integers_0)
def fn_are_integers : Fn := ⟨"are_integers", ["value", "many", "low", "high"], ["value", "many", "low", "high", "part"], b_are_integers⟩
/-! 37 -/
abbrev t_is_a_house_0 : Stms :=
  (.cons (.ret (.bf .all (.cons (.comp [4] (.cmp .lt (.mt .count (.var 2) (.cons (.var 4) .nil)) (.var 1)) (.name 4) (.seq (.var 2)) .nil) .nil))) .nil)
abbrev t_is_a_house_1 : Stms :=
  (.cons (.iff (.nt (.call 36 (.cons (.var 3) (.cons (.bf .len (.cons (.var 2) .nil)) (.cons (.lit (.int 0)) (.cons (.cst "MOST_NOTES" (.int 3)) .nil)))) [0, 1, 2, 3])) (.cons (.ret (.lit (.bl false))) .nil) .nil) t_is_a_house_0)
abbrev t_is_a_house_2 : Stms :=
  (.cons (.iff (.nt (.call 36 (.cons (.var 2) (.cons (.bf .len (.cons (.var 2) .nil)) (.cons (.lit (.int 0)) (.cons (.cst "MOST_SHAFT" (.int 2)) .nil)))) [0, 1, 2, 3])) (.cons (.ret (.lit (.bl false))) .nil) .nil) t_is_a_house_1)
abbrev t_is_a_house_3 : Stms :=
  (.cons (.iff (.bop false (.cons (.nt (.x1 (.isi .tuple) (.var 2))) (.cons (.nt (.chain .le .le (.lit (.int 1)) (.bf .len (.cons (.var 2) .nil)) (.cst "MOST_CARS" (.int 3)))) .nil))) (.cons (.ret (.lit (.bl false))) .nil) .nil) t_is_a_house_2)
def b_is_a_house : Stms :=
  (.cons (.iff (.bop false (.cons (.nt (.x1 (.isi .tuple) (.var 0))) (.cons (.cmp .ne (.bf .len (.cons (.var 0) .nil)) (.lit (.int 3))) (.cons (.nt (.call 35 (.cons (.ix (.var 0) (.lit (.int 0))) (.cons (.lit (.int 2)) (.cons (.cst "MOST_FLOORS" (.int 8)) .nil))) [0, 1, 2])) .nil)))) (.cons (.ret (.lit (.bl false))) .nil) .nil) (.cons (.unp [1, 2, 3] (.var 0)) t_is_a_house_3))
def fn_is_a_house : Fn := ⟨"is_a_house", ["value"], ["value", "floors", "shafts", "note_counts", "shaft"], b_is_a_house⟩
/-! 38 -/
def b_need_house : Stms :=
  (.cons (.iff (.nt (.call 37 (.cons (.var 0) .nil) [0])) (.cons .stop .nil) .nil) .nil)
def fn_need_house : Fn := ⟨"need_house", ["house"], ["house"], b_need_house⟩
/-! 39 -/
def b_are_apart : Stms :=
  (.cons (.ret (.cmp .eq (.x1 .lset (.comp [2, 3] (.tup (.cons (.var 2) (.cons (.var 3) .nil))) (.tup [2, 3]) (.zip (.ix (.var 0) (.lit (.int 1))) (.var 1)) .nil)) (.bf .len (.cons (.var 1) .nil)))) .nil)
def fn_are_apart : Fn := ⟨"are_apart", ["house", "floors"], ["house", "floors", "shaft", "floor"], b_are_apart⟩
/-! 40 -/
def b_are_places : Stms :=
  (.cons (.ret (.bop true (.cons (.call 36 (.cons (.var 1) (.cons (.bf .len (.cons (.ix (.var 0) (.lit (.int 1))) .nil)) (.cons (.lit (.int 0)) (.cons (.bin .sub (.ix (.var 0) (.lit (.int 0))) (.lit (.int 1))) .nil)))) [0, 1, 2, 3]) (.cons (.call 39 (.cons (.var 0) (.cons (.var 1) .nil)) [0, 1]) .nil)))) .nil)
def fn_are_places : Fn := ⟨"are_places", ["house", "value"], ["house", "value"], b_are_places⟩
/-! 41 -/
abbrev t_are_notes_0 : Stms :=
  (.cons (.ret (.bf .all (.cons (.comp [2, 3] (.call 36 (.cons (.var 2) (.cons (.var 3) (.cons (.lit (.int 0)) (.cons (.cst "MOST_NOTE" (.int 9)) .nil)))) [0, 1, 2, 3]) (.tup [2, 3]) (.zip (.var 1) (.ix (.var 0) (.lit (.int 2)))) .nil) .nil))) .nil)
def b_are_notes : Stms :=
  (.cons (.iff (.bop false (.cons (.nt (.x1 (.isi .tuple) (.var 1))) (.cons (.cmp .ne (.bf .len (.cons (.var 1) .nil)) (.bf .len (.cons (.ix (.var 0) (.lit (.int 1))) .nil))) .nil))) (.cons (.ret (.lit (.bl false))) .nil) .nil) t_are_notes_0)
def fn_are_notes : Fn := ⟨"are_notes", ["house", "value"], ["house", "value", "own", "count"], b_are_notes⟩
/-! 42 -/
abbrev t_are_cars_0 : Stms :=
  (.cons (.iff (.bop false (.cons (.nt (.x1 (.isi .tuple) (.var 2))) (.cons (.cmp .ne (.bf .len (.cons (.var 2) .nil)) (.lit (.int 3))) (.cons (.nt (.x1 (.isi .bool) (.ix (.var 2) (.lit (.int 1))))) .nil)))) (.cons (.ret (.lit (.bl false))) .nil) .nil) .nil)
abbrev t_are_cars_1 : Stms :=
  (.cons (.ret (.call 41 (.cons (.var 0) (.cons (.bf .tuple (.cons (.comp [2] (.ix (.var 2) (.lit (.int 2))) (.name 2) (.seq (.var 1)) .nil) .nil)) .nil)) [0, 1])) .nil)
abbrev t_are_cars_2 : Stms :=
  (.cons (.iff (.nt (.call 40 (.cons (.var 0) (.cons (.bf .tuple (.cons (.comp [2] (.ix (.var 2) (.lit (.int 0))) (.name 2) (.seq (.var 1)) .nil) .nil)) .nil)) [0, 1])) (.cons (.ret (.lit (.bl false))) .nil) .nil) t_are_cars_1)
def b_are_cars : Stms :=
  (.cons (.iff (.bop false (.cons (.nt (.x1 (.isi .tuple) (.var 1))) (.cons (.cmp .ne (.bf .len (.cons (.var 1) .nil)) (.bf .len (.cons (.ix (.var 0) (.lit (.int 1))) .nil))) .nil))) (.cons (.ret (.lit (.bl false))) .nil) .nil) (.cons (.for_ (.name 2) (.seq (.var 1)) t_are_cars_0) t_are_cars_2))
def fn_are_cars : Fn := ⟨"are_cars", ["house", "value"], ["house", "value", "car"], b_are_cars⟩
/-! 43 -/
def b_is_a_floor : Stms :=
  (.cons (.ret (.call 35 (.cons (.var 1) (.cons (.lit (.int 0)) (.cons (.bin .sub (.ix (.var 0) (.lit (.int 0))) (.lit (.int 1))) .nil))) [0, 1, 2])) .nil)
def fn_is_a_floor : Fn := ⟨"is_a_floor", ["house", "value"], ["house", "value"], b_is_a_floor⟩
/-! 44 -/
abbrev t_is_a_call_0 : Stms :=
  (.cons (.ret (.ite (.cmp .eq (.var 2) (.lit (.str "up"))) (.cmp .lt (.var 1) (.bin .sub (.ix (.var 0) (.lit (.int 0))) (.lit (.int 1)))) (.cmp .gt (.var 1) (.lit (.int 0))))) .nil)
def b_is_a_call : Stms :=
  (.cons (.iff (.bop false (.cons (.nt (.call 43 (.cons (.var 0) (.cons (.var 1) .nil)) [0, 1])) (.cons (.nt (.x1 (.isi .str) (.var 2))) (.cons (.cmp .notin (.var 2) (.cst "WAYS" (.tup [ (.str "down") , (.str "up") ]))) .nil)))) (.cons (.ret (.lit (.bl false))) .nil) .nil) t_is_a_call_0)
def fn_is_a_call : Fn := ⟨"is_a_call", ["house", "floor", "way"], ["house", "floor", "way"], b_is_a_call⟩
/-! 45 -/
def b_is_rising : Stms :=
  (.cons (.ret (.bf .all (.cons (.comp [1] (.cmp .lt (.ix (.var 0) (.var 1)) (.ix (.var 0) (.bin .add (.var 1) (.lit (.int 1))))) (.name 1) (.rng1 (.bin .sub (.bf .len (.cons (.var 0) .nil)) (.lit (.int 1)))) .nil) .nil))) .nil)
def fn_is_rising : Fn := ⟨"is_rising", ["items"], ["items", "at"], b_is_rising⟩
/-! 46 -/
abbrev t_are_calls_0 : Stms :=
  (.cons (.iff (.bop false (.cons (.nt (.x1 (.isi .tuple) (.var 2))) (.cons (.cmp .ne (.bf .len (.cons (.var 2) .nil)) (.lit (.int 2))) (.cons (.nt (.call 44 (.cons (.var 0) (.cons (.ix (.var 2) (.lit (.int 0))) (.cons (.ix (.var 2) (.lit (.int 1))) .nil))) [0, 1, 2])) .nil)))) (.cons (.ret (.lit (.bl false))) .nil) .nil) .nil)
abbrev t_are_calls_1 : Stms :=
  (.cons (.for_ (.name 2) (.seq (.var 1)) t_are_calls_0) (.cons (.ret (.call 45 (.cons (.var 1) .nil) [0])) .nil))
def b_are_calls : Stms :=
  (.cons (.iff (.nt (.x1 (.isi .tuple) (.var 1))) (.cons (.ret (.lit (.bl false))) .nil) .nil) t_are_calls_1)
def fn_are_calls : Fn := ⟨"are_calls", ["house", "value"], ["house", "value", "call"], b_are_calls⟩
/-! 47 -/
abbrev t_are_rising_integers_0 : Stms :=
  (.cons (.ret (.bop true (.cons (.call 36 (.cons (.var 0) (.cons (.bf .len (.cons (.var 0) .nil)) (.cons (.lit (.int 0)) (.cons (.var 1) .nil)))) [0, 1, 2, 3]) (.cons (.call 45 (.cons (.var 0) .nil) [0]) .nil)))) .nil)
def b_are_rising_integers : Stms :=
  (.cons (.iff (.nt (.x1 (.isi .tuple) (.var 0))) (.cons (.ret (.lit (.bl false))) .nil) .nil) t_are_rising_integers_0)
def fn_are_rising_integers : Fn := ⟨"are_rising_integers", ["value", "high"], ["value", "high"], b_are_rising_integers⟩
/-! 48 -/
abbrev t_are_panels_0 : Stms :=
  (.cons (.ret (.bf .all (.cons (.comp [2] (.call 47 (.cons (.var 2) (.cons (.bin .sub (.ix (.var 0) (.lit (.int 0))) (.lit (.int 1))) .nil)) [0, 1]) (.name 2) (.seq (.var 1)) .nil) .nil))) .nil)
def b_are_panels : Stms :=
  (.cons (.iff (.bop false (.cons (.nt (.x1 (.isi .tuple) (.var 1))) (.cons (.cmp .ne (.bf .len (.cons (.var 1) .nil)) (.bf .len (.cons (.ix (.var 0) (.lit (.int 1))) .nil))) .nil))) (.cons (.ret (.lit (.bl false))) .nil) .nil) t_are_panels_0)
def fn_are_panels : Fn := ⟨"are_panels", ["house", "value"], ["house", "value", "panel"], b_are_panels⟩
/-! 49 -/
def b_is_a_car : Stms :=
  (.cons (.ret (.call 35 (.cons (.var 1) (.cons (.lit (.int 0)) (.cons (.bin .sub (.bf .len (.cons (.ix (.var 0) (.lit (.int 1))) .nil)) (.lit (.int 1))) .nil))) [0, 1, 2])) .nil)
def fn_is_a_car : Fn := ⟨"is_a_car", ["house", "value"], ["house", "value"], b_is_a_car⟩
/-! 50 -/
abbrev t_is_a_harm_0 : Stms :=
  (.cons (.ret (.cmp .isin (.ix (.var 1) (.lit (.int 0))) (.tup (.cons (.lit (.str "end")) (.cons (.lit (.str "torn")) .nil))))) .nil)
abbrev t_is_a_harm_1 : Stms :=
  (.cons (.ret (.bop true (.cons (.cmp .eq (.ix (.var 1) (.lit (.int 0))) (.lit (.str "crash"))) (.cons (.cmp .lt (.ix (.var 1) (.lit (.int 1))) (.ix (.var 1) (.lit (.int 2)))) (.cons (.cmp .eq (.ix (.ix (.var 0) (.lit (.int 1))) (.ix (.var 1) (.lit (.int 1)))) (.ix (.ix (.var 0) (.lit (.int 1))) (.ix (.var 1) (.lit (.int 2))))) .nil))))) .nil)
abbrev t_is_a_harm_2 : Stms :=
  (.cons (.iff (.cmp .eq (.bf .len (.cons (.var 1) .nil)) (.lit (.int 2))) t_is_a_harm_0 .nil) t_is_a_harm_1)
abbrev t_is_a_harm_3 : Stms :=
  (.cons (.iff (.nt (.bf .all (.cons (.comp [2] (.call 49 (.cons (.var 0) (.cons (.var 2) .nil)) [0, 1]) (.name 2) (.seq (.slc (.var 1) (.som (.lit (.int 1))) .non)) .nil) .nil))) (.cons (.ret (.lit (.bl false))) .nil) .nil) t_is_a_harm_2)
def b_is_a_harm : Stms :=
  (.cons (.iff (.bop false (.cons (.nt (.x1 (.isi .tuple) (.var 1))) (.cons (.cmp .notin (.bf .len (.cons (.var 1) .nil)) (.tup (.cons (.lit (.int 2)) (.cons (.lit (.int 3)) .nil)))) (.cons (.nt (.x1 (.isi .str) (.ix (.var 1) (.lit (.int 0))))) .nil)))) (.cons (.ret (.lit (.bl false))) .nil) .nil) t_is_a_harm_3)
def fn_is_a_harm : Fn := ⟨"is_a_harm", ["house", "value"], ["house", "value", "car"], b_is_a_harm⟩
/-! 51 -/
def b_are_harms : Stms :=
  (.cons (.ret (.bop true (.cons (.x1 (.isi .tuple) (.var 1)) (.cons (.bf .all (.cons (.comp [2] (.call 50 (.cons (.var 0) (.cons (.var 2) .nil)) [0, 1]) (.name 2) (.seq (.var 1)) .nil) .nil)) (.cons (.call 45 (.cons (.var 1) .nil) [0]) .nil))))) .nil)
def fn_are_harms : Fn := ⟨"are_harms", ["house", "value"], ["house", "value", "harm"], b_are_harms⟩
/-! 52 -/
abbrev t_is_a_stand_0 : Stms :=
  (.cons (.iff (.bop false (.cons (.nt (.x1 (.isi .bool) (.var 5))) (.cons (.bop true (.cons (.var 5) (.cons (.bop false (.cons (.cmp .ne (.var 3) (.tup .nil)) (.cons (.nt (.bf .all (.cons (.comp [7] (.cmp .eq (.var 7) (.tup .nil)) (.name 7) (.seq (.var 4)) .nil) .nil))) .nil))) .nil))) .nil))) (.cons (.ret (.lit (.bl false))) .nil) .nil) (.cons (.ret (.call 51 (.cons (.var 0) (.cons (.var 6) .nil)) [0, 1])) .nil))
abbrev t_is_a_stand_1 : Stms :=
  (.cons (.iff (.bop false (.cons (.nt (.call 42 (.cons (.var 0) (.cons (.var 2) .nil)) [0, 1])) (.cons (.nt (.call 46 (.cons (.var 0) (.cons (.var 3) .nil)) [0, 1])) (.cons (.nt (.call 48 (.cons (.var 0) (.cons (.var 4) .nil)) [0, 1])) .nil)))) (.cons (.ret (.lit (.bl false))) .nil) .nil) t_is_a_stand_0)
def b_is_a_stand : Stms :=
  (.cons (.iff (.bop false (.cons (.nt (.x1 (.isi .tuple) (.var 1))) (.cons (.cmp .ne (.bf .len (.cons (.var 1) .nil)) (.lit (.int 5))) .nil))) (.cons (.ret (.lit (.bl false))) .nil) .nil) (.cons (.unp [2, 3, 4, 5, 6] (.var 1)) t_is_a_stand_1))
def fn_is_a_stand : Fn := ⟨"is_a_stand", ["house", "value"], ["house", "value", "cars", "calls", "panels", "fire", "harms", "panel"], b_is_a_stand⟩
/-! 53 -/
def b_need_stand : Stms :=
  (.cons (.iff (.nt (.call 52 (.cons (.var 0) (.cons (.var 1) .nil)) [0, 1])) (.cons .stop .nil) .nil) .nil)
def fn_need_stand : Fn := ⟨"need_stand", ["house", "stand"], ["house", "stand"], b_need_stand⟩
/-! 54 -/
def b_is_composed : Stms :=
  (.cons (.ret (.bop false (.cons (.cmp .isin (.ix (.var 0) (.lit (.int 0))) (.tup (.cons (.lit (.str "all")) (.cons (.lit (.str "some")) .nil)))) (.cons (.bop true (.cons (.cmp .eq (.ix (.var 0) (.lit (.int 0))) (.lit (.str "not"))) (.cons (.cmp .eq (.bf .len (.cons (.var 0) .nil)) (.lit (.int 2))) .nil))) .nil)))) .nil)
def fn_is_composed : Fn := ⟨"is_composed", ["value"], ["value"], b_is_composed⟩
/-! 55 -/
abbrev t_is_plain_0 : Stms :=
  (.cons (.ret (.bop true (.cons (.cmp .eq (.bf .len (.cons (.var 3) .nil)) (.lit (.int 2))) (.cons (.call 44 (.cons (.var 0) (.cons (.ix (.var 3) (.lit (.int 0))) (.cons (.ix (.var 3) (.lit (.int 1))) .nil))) [0, 1, 2]) .nil)))) .nil)
abbrev t_is_plain_1 : Stms :=
  (.cons (.ret (.bop true (.cons (.cmp .eq (.bf .len (.cons (.var 3) .nil)) (.lit (.int 2))) (.cons (.call 43 (.cons (.var 0) (.cons (.ix (.var 3) (.lit (.int 1))) .nil)) [0, 1]) .nil)))) .nil)
abbrev t_is_plain_2 : Stms :=
  (.cons (.ret (.bop true (.cons (.cmp .eq (.bf .len (.cons (.var 3) .nil)) (.lit (.int 2))) (.cons (.call 49 (.cons (.var 0) (.cons (.ix (.var 3) (.lit (.int 1))) .nil)) [0, 1]) (.cons (.cmp .ne (.ix (.var 3) (.lit (.int 0))) (.ix (.var 3) (.lit (.int 1)))) .nil))))) .nil)
abbrev t_is_plain_3 : Stms :=
  (.cons (.ret (.bop true (.cons (.call 35 (.cons (.ix (.var 3) (.lit (.int 1))) (.cons (.lit (.int 0)) (.cons (.bin .sub (.ix (.ix (.var 0) (.lit (.int 2))) (.ix (.var 3) (.lit (.int 0)))) (.lit (.int 1))) .nil))) [0, 1, 2]) (.cons (.call 35 (.cons (.ix (.var 3) (.lit (.int 2))) (.cons (.lit (.int 0)) (.cons (.cst "MOST_NOTE" (.int 9)) .nil))) [0, 1, 2]) .nil)))) .nil)
abbrev t_is_plain_4 : Stms :=
  (.cons (.iff (.bop false (.cons (.cmp .ne (.var 2) (.lit (.str "note"))) (.cons (.cmp .ne (.bf .len (.cons (.var 3) .nil)) (.lit (.int 3))) .nil))) (.cons (.ret (.lit (.bl false))) .nil) .nil) t_is_plain_3)
abbrev t_is_plain_5 : Stms :=
  (.cons (.iff (.cmp .isin (.var 2) (.tup (.cons (.lit (.str "at")) (.cons (.lit (.str "panel")) .nil)))) t_is_plain_1 .nil) (.cons (.iff (.cmp .eq (.var 2) (.lit (.str "near"))) t_is_plain_2 .nil) t_is_plain_4))
abbrev t_is_plain_6 : Stms :=
  (.cons (.iff (.cmp .isin (.var 2) (.tup (.cons (.lit (.str "above")) (.cons (.lit (.str "below")) (.cons (.lit (.str "here")) (.cons (.lit (.str "open")) .nil)))))) (.cons (.ret (.cmp .eq (.bf .len (.cons (.var 3) .nil)) (.lit (.int 1)))) .nil) .nil) t_is_plain_5)
abbrev t_is_plain_7 : Stms :=
  (.cons (.iff (.bop false (.cons (.cmp .eq (.bf .len (.cons (.var 3) .nil)) (.lit (.int 0))) (.cons (.nt (.call 49 (.cons (.var 0) (.cons (.ix (.var 3) (.lit (.int 0))) .nil)) [0, 1])) .nil))) (.cons (.ret (.lit (.bl false))) .nil) .nil) t_is_plain_6)
abbrev t_is_plain_8 : Stms :=
  (.cons (.iff (.cmp .isin (.var 2) (.tup (.cons (.lit (.str "fire")) (.cons (.lit (.str "harm")) .nil)))) (.cons (.ret (.cmp .eq (.bf .len (.cons (.var 3) .nil)) (.lit (.int 0)))) .nil) .nil) (.cons (.iff (.cmp .eq (.var 2) (.lit (.str "call"))) t_is_plain_0 .nil) t_is_plain_7))
def b_is_plain : Stms :=
  (.cons (.par [2, 3] (.cons (.ix (.var 1) (.lit (.int 0))) (.cons (.slc (.var 1) (.som (.lit (.int 1))) .non) .nil))) t_is_plain_8)
def fn_is_plain : Fn := ⟨"is_plain", ["house", "value"], ["house", "value", "name", "rest"], b_is_plain⟩
/-! 56 -/
abbrev t_is_a_condition_0 : Stms :=
  (.cons (.expr (.mt .extend (.var 2) (.cons (.comp [6] (.tup (.cons (.var 6) (.cons (.bin .add (.var 5) (.lit (.int 1))) .nil))) (.name 6) (.seq (.slc (.var 4) (.som (.lit (.int 1))) .non)) .nil) .nil))) .nil)
abbrev t_is_a_condition_1 : Stms :=
  (.cons (.iff (.nt (.call 55 (.cons (.var 0) (.cons (.var 4) .nil)) [0, 1])) (.cons (.ret (.lit (.bl false))) .nil) .nil) .nil)
abbrev t_is_a_condition_2 : Stms :=
  (.cons (.iff (.bop false (.cons (.nt (.x1 (.isi .tuple) (.var 4))) (.cons (.cmp .eq (.bf .len (.cons (.var 4) .nil)) (.lit (.int 0))) (.cons (.nt (.x1 (.isi .str) (.ix (.var 4) (.lit (.int 0))))) .nil)))) (.cons (.ret (.lit (.bl false))) .nil) .nil) (.cons (.iff (.call 54 (.cons (.var 4) .nil) [0]) t_is_a_condition_0 t_is_a_condition_1) .nil))
abbrev t_is_a_condition_3 : Stms :=
  (.cons (.iff (.bop false (.cons (.cmp .gt (.var 3) (.cst "MOST_TUPLES" (.int 60))) (.cons (.cmp .gt (.var 5) (.cst "MOST_LEVELS" (.int 6))) .nil))) (.cons (.ret (.lit (.bl false))) .nil) .nil) t_is_a_condition_2)
abbrev t_is_a_condition_4 : Stms :=
  (.cons (.unp [4, 5] (.mt .pop (.var 2) .nil)) (.cons (.aug 3 .add (.lit (.int 1))) t_is_a_condition_3))
abbrev t_is_a_condition_5 : Stms :=
  (.cons (.whl 1000000 (.cmp .gt (.bf .len (.cons (.var 2) .nil)) (.lit (.int 0))) t_is_a_condition_4) (.cons (.ret (.lit (.bl true))) .nil))
def b_is_a_condition : Stms :=
  (.cons (.par [2, 3] (.cons (.lst (.cons (.tup (.cons (.var 1) (.cons (.lit (.int 1)) .nil))) .nil)) (.cons (.lit (.int 0)) .nil))) t_is_a_condition_5)
def fn_is_a_condition : Fn := ⟨"is_a_condition", ["house", "value"], ["house", "value", "waiting", "count", "part", "level", "inner"], b_is_a_condition⟩
/-! 57 -/
def b_need_condition : Stms :=
  (.cons (.iff (.nt (.call 56 (.cons (.var 0) (.cons (.var 1) .nil)) [0, 1])) (.cons .stop .nil) .nil) .nil)
def fn_need_condition : Fn := ⟨"need_condition", ["house", "condition"], ["house", "condition"], b_need_condition⟩
/-! 58 -/
def b_parts_of : Stms :=
  (.cons (.ret (.ite (.cmp .isin (.ix (.var 0) (.lit (.int 0))) (.cst "COMPOSED" (.tup [ (.str "all") , (.str "not") , (.str "some") ]))) (.bf .list (.cons (.slc (.var 0) (.som (.lit (.int 1))) .non) .nil)) (.lst .nil))) .nil)
def fn_parts_of : Fn := ⟨"parts_of", ["condition"], ["condition"], b_parts_of⟩
/-! 59 -/
def b_lit_floors : Stms :=
  (.cons (.ret (.bin .add (.comp [2] (.ix (.var 2) (.lit (.int 0))) (.name 2) (.seq (.ix (.var 0) (.lit (.int 1)))) .nil) (.bf .list (.cons (.ix (.ix (.var 0) (.lit (.int 2))) (.var 1)) .nil)))) .nil)
def fn_lit_floors : Fn := ⟨"lit_floors", ["stand", "car"], ["stand", "car", "call"], b_lit_floors⟩
/-! 60 -/
abbrev t_plain_of_car_0 : Stms :=
  (.cons (.ret (.cmp .le (.bf .abs (.cons (.bin .sub (.var 4) (.ix (.ix (.ix (.var 0) (.lit (.int 0))) (.ix (.var 1) (.lit (.int 2)))) (.lit (.int 0)))) .nil)) (.lit (.int 1)))) .nil)
abbrev t_plain_of_car_1 : Stms :=
  (.cons (.ret (.cmp .isin (.ix (.var 1) (.lit (.int 2))) (.ix (.ix (.var 0) (.lit (.int 2))) (.var 3)))) .nil)
abbrev t_plain_of_car_2 : Stms :=
  (.cons (.ret (.cmp .eq (.ix (.var 6) (.ix (.var 1) (.lit (.int 2)))) (.ix (.var 1) (.lit (.int 3))))) .nil)
abbrev t_plain_of_car_3 : Stms :=
  (.cons (.ret (.bf .any (.cons (.comp [7] (.cmp .gt (.var 7) (.var 4)) (.name 7) (.seq (.call 59 (.cons (.var 0) (.cons (.var 3) .nil)) [0, 1])) .nil) .nil))) .nil)
abbrev t_plain_of_car_4 : Stms :=
  (.cons (.ret (.bf .any (.cons (.comp [7] (.cmp .lt (.var 7) (.var 4)) (.name 7) (.seq (.call 59 (.cons (.var 0) (.cons (.var 3) .nil)) [0, 1])) .nil) .nil))) .nil)
abbrev t_plain_of_car_5 : Stms :=
  (.cons (.iff (.cmp .eq (.var 2) (.lit (.str "below"))) t_plain_of_car_4 .nil) (.cons (.ret (.cmp .isin (.var 4) (.call 59 (.cons (.var 0) (.cons (.var 3) .nil)) [0, 1]))) .nil))
abbrev t_plain_of_car_6 : Stms :=
  (.cons (.iff (.cmp .eq (.var 2) (.lit (.str "note"))) t_plain_of_car_2 .nil) (.cons (.iff (.cmp .eq (.var 2) (.lit (.str "above"))) t_plain_of_car_3 .nil) t_plain_of_car_5))
abbrev t_plain_of_car_7 : Stms :=
  (.cons (.iff (.cmp .eq (.var 2) (.lit (.str "near"))) t_plain_of_car_0 .nil) (.cons (.iff (.cmp .eq (.var 2) (.lit (.str "panel"))) t_plain_of_car_1 .nil) t_plain_of_car_6))
abbrev t_plain_of_car_8 : Stms :=
  (.cons (.iff (.cmp .eq (.var 2) (.lit (.str "open"))) (.cons (.ret (.var 5)) .nil) .nil) t_plain_of_car_7)
abbrev t_plain_of_car_9 : Stms :=
  (.cons (.iff (.cmp .eq (.var 2) (.lit (.str "at"))) (.cons (.ret (.cmp .eq (.var 4) (.ix (.var 1) (.lit (.int 2))))) .nil) .nil) t_plain_of_car_8)
def b_plain_of_car : Stms :=
  (.cons (.par [2, 3] (.cons (.ix (.var 1) (.lit (.int 0))) (.cons (.ix (.var 1) (.lit (.int 1))) .nil))) (.cons (.unp [4, 5, 6] (.ix (.ix (.var 0) (.lit (.int 0))) (.var 3))) t_plain_of_car_9))
def fn_plain_of_car : Fn := ⟨"plain_of_car", ["stand", "condition"], ["stand", "condition", "name", "car", "floor", "is_open", "notes", "lit"], b_plain_of_car⟩
/-! 61 -/
abbrev t_true_at_0 : Stms :=
  (.cons (.ret (.nt (.call 61 (.cons (.var 0) (.cons (.ix (.var 1) (.lit (.int 1))) .nil)) [0, 1]))) .nil)
abbrev t_true_at_1 : Stms :=
  (.cons (.ret (.bf .all (.cons (.comp [3] (.call 61 (.cons (.var 0) (.cons (.var 3) .nil)) [0, 1]) (.name 3) (.seq (.call 58 (.cons (.var 1) .nil) [0])) .nil) .nil))) .nil)
abbrev t_true_at_2 : Stms :=
  (.cons (.ret (.bf .any (.cons (.comp [3] (.call 61 (.cons (.var 0) (.cons (.var 3) .nil)) [0, 1]) (.name 3) (.seq (.call 58 (.cons (.var 1) .nil) [0])) .nil) .nil))) .nil)
abbrev t_true_at_3 : Stms :=
  (.cons (.ret (.cmp .isin (.slc (.var 1) (.som (.lit (.int 1))) .non) (.ix (.var 0) (.lit (.int 1))))) .nil)
abbrev t_true_at_4 : Stms :=
  (.cons (.iff (.cmp .eq (.var 2) (.lit (.str "call"))) t_true_at_3 .nil) (.cons (.ret (.call 60 (.cons (.var 0) (.cons (.var 1) .nil)) [0, 1])) .nil))
abbrev t_true_at_5 : Stms :=
  (.cons (.iff (.cmp .eq (.var 2) (.lit (.str "harm"))) (.cons (.ret (.cmp .ne (.ix (.var 0) (.lit (.int 4))) (.tup .nil))) .nil) .nil) t_true_at_4)
abbrev t_true_at_6 : Stms :=
  (.cons (.iff (.cmp .eq (.var 2) (.lit (.str "fire"))) (.cons (.ret (.ix (.var 0) (.lit (.int 3)))) .nil) .nil) t_true_at_5)
abbrev t_true_at_7 : Stms :=
  (.cons (.iff (.cmp .eq (.var 2) (.lit (.str "all"))) t_true_at_1 .nil) (.cons (.iff (.cmp .eq (.var 2) (.lit (.str "some"))) t_true_at_2 .nil) t_true_at_6))
def b_true_at : Stms :=
  (.cons (.set 2 (.ix (.var 1) (.lit (.int 0)))) (.cons (.iff (.cmp .eq (.var 2) (.lit (.str "not"))) t_true_at_0 .nil) t_true_at_7))
def fn_true_at : Fn := ⟨"true_at", ["stand", "condition"], ["stand", "condition", "name", "part"], b_true_at⟩
/-! 62 -/
abbrev t_holds_0 : Stms :=
  (.cons (.expr (.call 57 (.cons (.var 0) (.cons (.var 2) .nil)) [0, 1])) (.cons (.ret (.call 61 (.cons (.var 1) (.cons (.var 2) .nil)) [0, 1])) .nil))
def b_holds : Stms :=
  (.cons (.expr (.call 38 (.cons (.var 0) .nil) [0])) (.cons (.expr (.call 53 (.cons (.var 0) (.cons (.var 1) .nil)) [0, 1])) t_holds_0))
def fn_holds : Fn := ⟨"holds", ["house", "stand", "condition"], ["house", "stand", "condition"], b_holds⟩
/-! 63 -/
abbrev t_law_true_0 : Stms :=
  (.cons (.ret (.nt (.call 63 (.cons (.var 0) (.cons (.ix (.var 1) (.lit (.int 1))) .nil)) [0, 1]))) .nil)
abbrev t_law_true_1 : Stms :=
  (.cons (.ret (.ite (.cmp .eq (.var 2) (.lit (.str "all"))) (.cmp .notin (.lit (.bl false)) (.var 3)) (.cmp .isin (.lit (.bl true)) (.var 3)))) .nil)
abbrev t_law_true_2 : Stms :=
  (.cons (.set 3 (.comp [4] (.call 63 (.cons (.var 0) (.cons (.var 4) .nil)) [0, 1]) (.name 4) (.seq (.slc (.var 1) (.som (.lit (.int 1))) .non)) .nil)) t_law_true_1)
abbrev t_law_true_3 : Stms :=
  (.cons (.ret (.cmp .gt (.bf .len (.cons (.ix (.var 0) (.lit (.int 4))) .nil)) (.lit (.int 0)))) .nil)
abbrev t_law_true_4 : Stms :=
  (.cons (.ret (.cmp .isin (.tup (.cons (.ix (.var 1) (.lit (.int 1))) (.cons (.ix (.var 1) (.lit (.int 2))) .nil))) (.ix (.var 0) (.lit (.int 1))))) .nil)
abbrev t_law_true_5 : Stms :=
  (.cons (.ret (.cmp .eq (.ix (.var 7) (.ix (.var 1) (.lit (.int 2)))) (.ix (.var 1) (.lit (.int 3))))) .nil)
abbrev t_law_true_6 : Stms :=
  (.cons (.ret (.cmp .lt (.bf .abs (.cons (.bin .sub (.var 5) (.ix (.ix (.ix (.var 0) (.lit (.int 0))) (.ix (.var 1) (.lit (.int 2)))) (.lit (.int 0)))) .nil)) (.lit (.int 2)))) .nil)
abbrev t_law_true_7 : Stms :=
  (.cons (.ret (.cmp .isin (.ix (.var 1) (.lit (.int 2))) (.ix (.ix (.var 0) (.lit (.int 2))) (.ix (.var 1) (.lit (.int 1)))))) .nil)
abbrev t_law_true_8 : Stms :=
  (.cons (.ret (.cmp .isin (.lit (.bl true)) (.comp [10] (.ite (.cmp .eq (.var 2) (.lit (.str "above"))) (.cmp .gt (.var 10) (.var 5)) (.cmp .lt (.var 10) (.var 5))) (.name 10) (.seq (.var 8)) .nil))) .nil)
abbrev t_law_true_9 : Stms :=
  (.cons (.iff (.cmp .eq (.var 2) (.lit (.str "here"))) (.cons (.ret (.cmp .isin (.var 5) (.var 8))) .nil) .nil) t_law_true_8)
abbrev t_law_true_10 : Stms :=
  (.cons (.set 8 (.bin .add (.comp [9] (.ix (.var 9) (.lit (.int 0))) (.name 9) (.seq (.ix (.var 0) (.lit (.int 1)))) .nil) (.bf .list (.cons (.ix (.ix (.var 0) (.lit (.int 2))) (.ix (.var 1) (.lit (.int 1)))) .nil)))) t_law_true_9)
abbrev t_law_true_11 : Stms :=
  (.cons (.iff (.cmp .eq (.var 2) (.lit (.str "near"))) t_law_true_6 .nil) (.cons (.iff (.cmp .eq (.var 2) (.lit (.str "panel"))) t_law_true_7 .nil) t_law_true_10))
abbrev t_law_true_12 : Stms :=
  (.cons (.iff (.cmp .eq (.var 2) (.lit (.str "open"))) (.cons (.ret (.var 6)) .nil) .nil) (.cons (.iff (.cmp .eq (.var 2) (.lit (.str "note"))) t_law_true_5 .nil) t_law_true_11))
abbrev t_law_true_13 : Stms :=
  (.cons (.iff (.cmp .eq (.var 2) (.lit (.str "at"))) (.cons (.ret (.cmp .eq (.var 5) (.ix (.var 1) (.lit (.int 2))))) .nil) .nil) t_law_true_12)
abbrev t_law_true_14 : Stms :=
  (.cons (.unp [5, 6, 7] (.ix (.ix (.var 0) (.lit (.int 0))) (.ix (.var 1) (.lit (.int 1))))) t_law_true_13)
abbrev t_law_true_15 : Stms :=
  (.cons (.iff (.cmp .eq (.var 2) (.lit (.str "harm"))) t_law_true_3 .nil) (.cons (.iff (.cmp .eq (.var 2) (.lit (.str "call"))) t_law_true_4 .nil) t_law_true_14))
abbrev t_law_true_16 : Stms :=
  (.cons (.iff (.cmp .eq (.var 2) (.lit (.str "fire"))) (.cons (.ret (.ix (.var 0) (.lit (.int 3)))) .nil) .nil) t_law_true_15)
abbrev t_law_true_17 : Stms :=
  (.cons (.iff (.cmp .isin (.var 2) (.tup (.cons (.lit (.str "all")) (.cons (.lit (.str "some")) .nil)))) t_law_true_2 .nil) t_law_true_16)
def b_law_true : Stms :=
  (.cons (.set 2 (.ix (.var 1) (.lit (.int 0)))) (.cons (.iff (.cmp .eq (.var 2) (.lit (.str "not"))) t_law_true_0 .nil) t_law_true_17))
def fn_law_true : Fn := ⟨"_law_true", ["stand", "x"], ["stand", "x", "name", "parts", "part", "floor", "is_open", "own", "lit", "call", "goal"], b_law_true⟩
/-! 64 -/
abbrev t_law_right_k11_0 : Stms :=
  (.cons (.expr (.mt .append (.var 4) (.cons (.call 4 (.cons (.var 0) (.cons (.var 1) (.cons (.var 5) (.cons (.var 6) .nil)))) [0, 1, 2, 3]) .nil))) .nil)
abbrev t_law_right_k11_1 : Stms :=
  (.cons (.par [5, 6] (.cons (.ix (.lst (.cons (.lit (.int 3)) (.cons (.lit (.int 9)) (.cons (.lit (.int 30)) (.cons (.lit (.int 60)) .nil))))) (.call 0 (.cons (.var 0) (.cons (.lit (.int 4)) .nil)) [0, 1])) (.cons (.bin .add (.lit (.int 2)) (.call 0 (.cons (.var 0) (.cons (.lit (.int 5)) .nil)) [0, 1])) .nil))) t_law_right_k11_0)
abbrev t_law_right_k11_2 : Stms :=
  (.cons (.iff (.cmp .ne (.bf .repr (.cons (.call 62 (.cons (.var 1) (.cons (.var 9) (.cons (.var 8) .nil))) [0, 1, 2]) .nil)) (.bf .repr (.cons (.call 63 (.cons (.var 9) (.cons (.var 8) .nil)) [0, 1]) .nil))) (.cons (.ret (.lit (.bl false))) .nil) .nil) .nil)
abbrev t_law_right_k11_3 : Stms :=
  (.cons (.iff (.cmp .ne (.bf .repr (.cons (.call 62 (.cons (.var 10) (.cons (.var 9) (.cons (.var 1) .nil))) [2, 1, 0]) .nil)) (.bf .repr (.cons (.call 63 (.cons (.var 9) (.cons (.var 10) .nil)) [0, 1]) .nil))) (.cons (.ret (.lit (.bl false))) .nil) .nil) .nil)
abbrev t_law_right_k11_4 : Stms :=
  (.cons (.ret (.cmp .eq (.bf .repr (.cons (.lst (.cons (.var 1) (.cons (.var 2) (.cons (.var 4) .nil)))) .nil)) (.var 7))) .nil)
abbrev t_law_right_k11_5 : Stms :=
  (.cons (.set 10 (.ix (.var 4) (.neg (.lit (.int 1))))) (.cons (.for_ (.name 9) (.seq (.var 2)) t_law_right_k11_3) t_law_right_k11_4))
abbrev t_law_right_k11_6 : Stms :=
  (.cons (.for_ (.name 8) (.seq (.bin .add (.call 33 (.cons (.var 1) .nil) [0]) (.var 4))) (.cons (.for_ (.name 9) (.seq (.var 2)) t_law_right_k11_2) .nil)) t_law_right_k11_5)
abbrev t_law_right_k11_7 : Stms :=
  (.cons (.set 7 (.bf .repr (.cons (.lst (.cons (.var 1) (.cons (.var 2) (.cons (.var 4) .nil)))) .nil))) t_law_right_k11_6)
abbrev t_law_right_k11_8 : Stms :=
  (.cons (.set 4 (.lst (.cons (.tup (.cons (.lit (.str "all")) .nil)) (.cons (.tup (.cons (.lit (.str "some")) .nil)) (.cons (.tup (.cons (.lit (.str "not")) (.cons (.tup (.cons (.lit (.str "all")) .nil)) .nil))) (.cons (.tup (.cons (.lit (.str "some")) (.cons (.tup (.cons (.lit (.str "some")) .nil)) (.cons (.tup (.cons (.lit (.str "all")) .nil)) .nil)))) (.cons (.tup (.cons (.lit (.str "all")) (.cons (.tup (.cons (.lit (.str "all")) .nil)) (.cons (.tup (.cons (.lit (.str "some")) .nil)) .nil)))) .nil))))))) (.cons (.for_ (.name 3) (.rng1 (.lit (.int 8))) t_law_right_k11_1) t_law_right_k11_7))
abbrev t_law_right_k11_9 : Stms :=
  (.cons (.set 2 (.comp [3] (.call 21 (.cons (.var 0) (.cons (.var 1) .nil)) [0, 1]) (.name 3) (.rng1 (.lit (.int 3))) .nil)) t_law_right_k11_8)
def b_law_right_k11 : Stms :=
  (.cons (.set 1 (.call 1 (.cons (.var 0) (.cons (.lit (.int 8)) (.cons (.lit (.int 3)) .nil))) [0, 1, 2])) t_law_right_k11_9)
def fn_law_right_k11 : Fn := ⟨"_law_right", ["pot"], ["pot", "house", "stands", "turn", "asked", "room", "levels", "kept", "condition", "stand", "last"], b_law_right_k11⟩
/-! 65 -/
def b_law_k11 : Stms :=
  (.cons (.ret (.call 64 (.cons (.call 15 (.cons (.var 0) (.cons (.lit (.int 0)) .nil)) [0, 1]) .nil) [0])) .nil)
def fn_law_k11 : Fn := ⟨"law", ["script"], ["script"], b_law_k11⟩
/-! 66 -/
abbrev t_law_near_0 : Stms :=
  (.cons (.set 3 (.bin .add (.bin .add (.slc (.var 3) .non (.som (.var 9))) (.tup (.cons (.tup (.cons (.var 10) (.cons (.nt (.var 11)) (.cons (.var 12) .nil)))) .nil))) (.slc (.var 3) (.som (.bin .add (.var 9) (.lit (.int 1)))) .non))) .nil)
abbrev t_law_near_1 : Stms :=
  (.cons (.set 3 (.bin .add (.bin .add (.slc (.var 3) .non (.som (.var 9))) (.tup (.cons (.tup (.cons (.var 10) (.cons (.var 11) (.cons (.bf .tuple (.cons (.comp [13] (.bin .sub (.lit (.int 9)) (.var 13)) (.name 13) (.seq (.var 12)) .nil) .nil)) .nil)))) .nil))) (.slc (.var 3) (.som (.bin .add (.var 9) (.lit (.int 1)))) .non))) .nil)
abbrev t_law_near_2 : Stms :=
  (.cons (.set 4 (.call 19 (.cons (.var 0) (.cons (.call 2 (.cons (.var 1) .nil) [0]) (.cons (.lit (.int 2)) .nil))) [0, 1, 2])) .nil)
abbrev t_law_near_3 : Stms :=
  (.cons (.set 5 (.bin .add (.bin .add (.slc (.var 5) .non (.som (.var 9))) (.tup (.cons (.call 19 (.cons (.var 0) (.cons (.lrg (.ix (.var 1) (.lit (.int 0)))) (.cons (.lit (.int 2)) .nil))) [0, 1, 2]) .nil))) (.slc (.var 5) (.som (.bin .add (.var 9) (.lit (.int 1)))) .non))) .nil)
abbrev t_law_near_4 : Stms :=
  (.cons (.set 7 (.ite (.cmp .eq (.var 7) (.tup .nil)) (.tup (.cons (.tup (.cons (.lit (.str "end")) (.cons (.var 9) .nil))) .nil)) (.tup .nil))) .nil)
abbrev t_law_near_5 : Stms :=
  (.cons (.par [4, 5, 6] (.cons (.tup .nil) (.cons (.bin .mul (.tup (.cons (.tup .nil) .nil)) (.bf .len (.cons (.var 3) .nil))) (.cons (.nt (.var 6)) .nil)))) .nil)
abbrev t_law_near_6 : Stms :=
  (.cons (.iff (.bop true (.cons (.cmp .eq (.var 8) (.lit (.int 3))) (.cons (.nt (.var 6)) .nil))) t_law_near_3 (.cons (.iff (.cmp .eq (.var 8) (.lit (.int 4))) t_law_near_4 t_law_near_5) .nil)) .nil)
abbrev t_law_near_7 : Stms :=
  (.cons (.iff (.bop true (.cons (.cmp .eq (.var 8) (.lit (.int 2))) (.cons (.nt (.var 6)) .nil))) t_law_near_2 t_law_near_6) .nil)
abbrev t_law_near_8 : Stms :=
  (.cons (.ret (.tup (.cons (.var 3) (.cons (.var 4) (.cons (.var 5) (.cons (.var 6) (.cons (.var 7) .nil))))))) .nil)
abbrev t_law_near_9 : Stms :=
  (.cons (.iff (.cmp .eq (.var 8) (.lit (.int 0))) t_law_near_0 (.cons (.iff (.cmp .eq (.var 8) (.lit (.int 1))) t_law_near_1 t_law_near_7) .nil)) t_law_near_8)
abbrev t_law_near_10 : Stms :=
  (.cons (.par [8, 9] (.cons (.call 0 (.cons (.var 0) (.cons (.lit (.int 6)) .nil)) [0, 1]) (.cons (.call 0 (.cons (.var 0) (.cons (.bf .len (.cons (.var 3) .nil)) .nil)) [0, 1]) .nil))) (.cons (.unp [10, 11, 12] (.ix (.var 3) (.var 9))) t_law_near_9))
def b_law_near : Stms :=
  (.cons (.unp [3, 4, 5, 6, 7] (.var 2)) t_law_near_10)
def fn_law_near : Fn := ⟨"_law_near", ["pot", "house", "stand"], ["pot", "house", "stand", "cars", "calls", "panels", "fire", "harms", "way", "c", "floor", "is_open", "own", "number"], b_law_near⟩
/-! 67 -/
abbrev t_pushed_in_0 : Stms :=
  (.cons (.ret (.call 67 (.cons (.ix (.var 0) (.lit (.int 1))) (.cons (.nt (.var 1)) .nil)) [0, 1])) .nil)
abbrev t_pushed_in_1 : Stms :=
  (.cons (.set 2 (.ite (.cmp .eq (.var 2) (.lit (.str "all"))) (.lit (.str "some")) (.lit (.str "all")))) .nil)
abbrev t_pushed_in_2 : Stms :=
  (.cons (.iff (.var 1) t_pushed_in_1 .nil) (.cons (.ret (.bin .add (.tup (.cons (.var 2) .nil)) (.var 3))) .nil))
abbrev t_pushed_in_3 : Stms :=
  (.cons (.set 3 (.bf .tuple (.cons (.comp [4] (.call 67 (.cons (.var 4) (.cons (.var 1) .nil)) [0, 1]) (.name 4) (.seq (.call 58 (.cons (.var 0) .nil) [0])) .nil) .nil))) t_pushed_in_2)
abbrev t_pushed_in_4 : Stms :=
  (.cons (.ret (.ite (.var 1) (.tup (.cons (.lit (.str "not")) (.cons (.var 0) .nil))) (.var 0))) .nil)
abbrev t_pushed_in_5 : Stms :=
  (.cons (.iff (.cmp .isin (.var 2) (.tup (.cons (.lit (.str "all")) (.cons (.lit (.str "some")) .nil)))) t_pushed_in_3 .nil) t_pushed_in_4)
def b_pushed_in : Stms :=
  (.cons (.set 2 (.ix (.var 0) (.lit (.int 0)))) (.cons (.iff (.cmp .eq (.var 2) (.lit (.str "not"))) t_pushed_in_0 .nil) t_pushed_in_5))
def fn_pushed_in : Fn := ⟨"pushed_in", ["condition", "opposed"], ["condition", "opposed", "name", "parts", "part"], b_pushed_in⟩
/-! 68 -/
abbrev t_opposite_0 : Stms :=
  (.cons (.expr (.call 57 (.cons (.var 0) (.cons (.var 1) .nil)) [0, 1])) (.cons (.ret (.call 67 (.cons (.var 1) (.cons (.lit (.bl true)) .nil)) [0, 1])) .nil))
def b_opposite : Stms :=
  (.cons (.expr (.call 38 (.cons (.var 0) .nil) [0])) t_opposite_0)
def fn_opposite : Fn := ⟨"opposite", ["house", "condition"], ["house", "condition"], b_opposite⟩
/-! 69 -/
def b_law_integer : Stms :=
  (.cons (.ret (.bop true (.cons (.x1 (.isi .int) (.var 0)) (.cons (.nt (.x1 (.isi .bool) (.var 0))) (.cons (.chain .le .le (.var 1) (.var 0) (.var 2)) .nil))))) .nil)
def fn_law_integer : Fn := ⟨"_law_integer", ["value", "low", "high"], ["value", "low", "high"], b_law_integer⟩
/-! 70 -/
abbrev t_law_is_plain_0 : Stms :=
  (.cons (.ret (.bop false (.cons (.bop true (.cons (.cmp .eq (.ix (.var 4) (.lit (.int 1))) (.lit (.str "up"))) (.cons (.cmp .lt (.ix (.var 4) (.lit (.int 0))) (.var 3)) .nil))) (.cons (.bop true (.cons (.cmp .eq (.ix (.var 4) (.lit (.int 1))) (.lit (.str "down"))) (.cons (.cmp .gt (.ix (.var 4) (.lit (.int 0))) (.lit (.int 0))) .nil))) .nil)))) .nil)
abbrev t_law_is_plain_1 : Stms :=
  (.cons (.iff (.bop false (.cons (.cmp .ne (.bf .len (.cons (.var 4) .nil)) (.lit (.int 2))) (.cons (.nt (.call 69 (.cons (.ix (.var 4) (.lit (.int 0))) (.cons (.lit (.int 0)) (.cons (.var 3) .nil))) [0, 1, 2])) (.cons (.nt (.x1 (.isi .str) (.ix (.var 4) (.lit (.int 1))))) .nil)))) (.cons (.ret (.lit (.bl false))) .nil) .nil) t_law_is_plain_0)
abbrev t_law_is_plain_2 : Stms :=
  (.cons (.ret (.bop true (.cons (.cmp .eq (.bf .len (.cons (.var 4) .nil)) (.lit (.int 2))) (.cons (.call 69 (.cons (.ix (.var 4) (.lit (.int 1))) (.cons (.lit (.int 0)) (.cons (.var 3) .nil))) [0, 1, 2]) .nil)))) .nil)
abbrev t_law_is_plain_3 : Stms :=
  (.cons (.ret (.bop true (.cons (.cmp .eq (.bf .len (.cons (.var 4) .nil)) (.lit (.int 2))) (.cons (.call 69 (.cons (.ix (.var 4) (.lit (.int 1))) (.cons (.lit (.int 0)) (.cons (.bin .sub (.var 2) (.lit (.int 1))) .nil))) [0, 1, 2]) (.cons (.cmp .ne (.ix (.var 4) (.lit (.int 0))) (.ix (.var 4) (.lit (.int 1)))) .nil))))) .nil)
abbrev t_law_is_plain_4 : Stms :=
  (.cons (.ret (.bop true (.cons (.call 69 (.cons (.ix (.var 4) (.lit (.int 1))) (.cons (.lit (.int 0)) (.cons (.bin .sub (.ix (.ix (.var 0) (.lit (.int 2))) (.ix (.var 4) (.lit (.int 0)))) (.lit (.int 1))) .nil))) [0, 1, 2]) (.cons (.call 69 (.cons (.ix (.var 4) (.lit (.int 2))) (.cons (.lit (.int 0)) (.cons (.lit (.int 9)) .nil))) [0, 1, 2]) .nil)))) .nil)
abbrev t_law_is_plain_5 : Stms :=
  (.cons (.iff (.bop true (.cons (.cmp .eq (.ix (.var 1) (.lit (.int 0))) (.lit (.str "note"))) (.cons (.cmp .eq (.bf .len (.cons (.var 4) .nil)) (.lit (.int 3))) .nil))) t_law_is_plain_4 .nil) (.cons (.ret (.lit (.bl false))) .nil))
abbrev t_law_is_plain_6 : Stms :=
  (.cons (.iff (.cmp .eq (.ix (.var 1) (.lit (.int 0))) (.lit (.str "near"))) t_law_is_plain_3 .nil) t_law_is_plain_5)
abbrev t_law_is_plain_7 : Stms :=
  (.cons (.iff (.cmp .isin (.ix (.var 1) (.lit (.int 0))) (.tup (.cons (.lit (.str "at")) (.cons (.lit (.str "panel")) .nil)))) t_law_is_plain_2 .nil) t_law_is_plain_6)
abbrev t_law_is_plain_8 : Stms :=
  (.cons (.iff (.cmp .isin (.ix (.var 1) (.lit (.int 0))) (.tup (.cons (.lit (.str "open")) (.cons (.lit (.str "above")) (.cons (.lit (.str "below")) (.cons (.lit (.str "here")) .nil)))))) (.cons (.ret (.cmp .eq (.bf .len (.cons (.var 4) .nil)) (.lit (.int 1)))) .nil) .nil) t_law_is_plain_7)
abbrev t_law_is_plain_9 : Stms :=
  (.cons (.iff (.bop false (.cons (.cmp .eq (.bf .len (.cons (.var 4) .nil)) (.lit (.int 0))) (.cons (.nt (.call 69 (.cons (.ix (.var 4) (.lit (.int 0))) (.cons (.lit (.int 0)) (.cons (.bin .sub (.var 2) (.lit (.int 1))) .nil))) [0, 1, 2])) .nil))) (.cons (.ret (.lit (.bl false))) .nil) .nil) t_law_is_plain_8)
abbrev t_law_is_plain_10 : Stms :=
  (.cons (.iff (.cmp .eq (.ix (.var 1) (.lit (.int 0))) (.lit (.str "call"))) t_law_is_plain_1 .nil) t_law_is_plain_9)
abbrev t_law_is_plain_11 : Stms :=
  (.cons (.iff (.cmp .isin (.ix (.var 1) (.lit (.int 0))) (.tup (.cons (.lit (.str "fire")) (.cons (.lit (.str "harm")) .nil)))) (.cons (.ret (.cmp .eq (.var 4) (.tup .nil))) .nil) .nil) t_law_is_plain_10)
def b_law_is_plain : Stms :=
  (.cons (.par [2, 3, 4] (.cons (.bf .len (.cons (.ix (.var 0) (.lit (.int 1))) .nil)) (.cons (.bin .sub (.ix (.var 0) (.lit (.int 0))) (.lit (.int 1))) (.cons (.slc (.var 1) (.som (.lit (.int 1))) .non) .nil)))) t_law_is_plain_11)
def fn_law_is_plain : Fn := ⟨"_law_is_plain", ["house", "x"], ["house", "x", "many", "top", "rest"], b_law_is_plain⟩
/-! 71 -/
abbrev t_law_size_0 : Stms :=
  (.cons (.ret (.bin .add (.lit (.int 1)) (.bf .sum (.cons (.comp [3] (.call 71 (.cons (.var 0) (.cons (.var 3) (.cons (.bin .sub (.var 2) (.lit (.int 1))) .nil))) [0, 1, 2]) (.name 3) (.seq (.slc (.var 1) (.som (.lit (.int 1))) .non)) .nil) .nil)))) .nil)
abbrev t_law_size_1 : Stms :=
  (.cons (.set 5 (.bop true (.cons (.x1 (.isi .tuple) (.var 4)) (.cons (.cmp .gt (.bf .len (.cons (.var 4) .nil)) (.lit (.int 0))) (.cons (.x1 (.isi .str) (.ix (.var 4) (.lit (.int 0)))) (.cons (.call 70 (.cons (.var 0) (.cons (.var 4) .nil)) [0, 1]) .nil)))))) (.cons (.ret (.ite (.var 5) (.lit (.int 2)) (.lit (.int 1000)))) .nil))
abbrev t_law_size_2 : Stms :=
  (.cons (.ret (.ite (.call 70 (.cons (.var 0) (.cons (.var 1) .nil)) [0, 1]) (.lit (.int 1)) (.lit (.int 1000)))) .nil)
abbrev t_law_size_3 : Stms :=
  (.cons (.iff (.bop true (.cons (.cmp .eq (.ix (.var 1) (.lit (.int 0))) (.lit (.str "not"))) (.cons (.cmp .eq (.bf .len (.cons (.var 1) .nil)) (.lit (.int 2))) (.cons (.cmp .gt (.var 2) (.lit (.int 1))) .nil)))) (.cons (.set 4 (.ix (.var 1) (.lit (.int 1)))) t_law_size_1) .nil) t_law_size_2)
abbrev t_law_size_4 : Stms :=
  (.cons (.iff (.cmp .isin (.ix (.var 1) (.lit (.int 0))) (.tup (.cons (.lit (.str "all")) (.cons (.lit (.str "some")) .nil)))) t_law_size_0 .nil) t_law_size_3)
def b_law_size : Stms :=
  (.cons (.iff (.bop false (.cons (.cmp .eq (.var 2) (.lit (.int 0))) (.cons (.nt (.x1 (.isi .tuple) (.var 1))) (.cons (.cmp .eq (.bf .len (.cons (.var 1) .nil)) (.lit (.int 0))) (.cons (.nt (.x1 (.isi .str) (.ix (.var 1) (.lit (.int 0))))) .nil))))) (.cons (.ret (.lit (.int 1000))) .nil) .nil) t_law_size_4)
def fn_law_size : Fn := ⟨"_law_size", ["house", "value", "levels"], ["house", "value", "levels", "part", "inner", "fits"], b_law_size⟩
/-! 72 -/
abbrev t_law_right_k12_0 : Stms :=
  (.cons (.expr (.mt .append (.var 3) (.cons (.call 66 (.cons (.var 0) (.cons (.var 1) (.cons (.ix (.var 3) (.neg (.lit (.int 1)))) .nil))) [0, 1, 2]) .nil))) .nil)
abbrev t_law_right_k12_1 : Stms :=
  (.cons (.expr (.mt .append (.var 3) (.cons (.call 21 (.cons (.var 0) (.cons (.var 1) .nil)) [0, 1]) .nil))) t_law_right_k12_0)
abbrev t_law_right_k12_2 : Stms :=
  (.cons (.iff (.bop false (.cons (.cmp .ne (.bf .repr (.cons (.call 63 (.cons (.var 7) (.cons (.var 6) .nil)) [0, 1]) .nil)) (.bf .repr (.cons (.var 8) .nil))) (.cons (.cmp .ne (.bf .repr (.cons (.call 62 (.cons (.var 1) (.cons (.var 7) (.cons (.var 6) .nil))) [0, 1, 2]) .nil)) (.bf .repr (.cons (.var 8) .nil))) .nil))) (.cons (.ret (.lit (.bl false))) .nil) .nil) .nil)
abbrev t_law_right_k12_3 : Stms :=
  (.cons (.ret (.cmp .eq (.bf .repr (.cons (.call 68 (.cons (.var 2) (.cons (.var 1) .nil)) [1, 0]) .nil)) (.bf .repr (.cons (.var 6) .nil)))) .nil)
abbrev t_law_right_k12_4 : Stms :=
  (.cons (.for_ (.name 7) (.seq (.var 3)) (.cons (.set 8 (.nt (.call 63 (.cons (.var 7) (.cons (.var 2) .nil)) [0, 1]))) t_law_right_k12_2)) t_law_right_k12_3)
abbrev t_law_right_k12_5 : Stms :=
  (.cons (.iff (.bop false (.cons (.cmp .gt (.call 71 (.cons (.var 1) (.cons (.var 6) (.cons (.lit (.int 6)) .nil))) [0, 1, 2]) (.lit (.int 60))) (.cons (.cmp .ne (.bf .repr (.cons (.lst (.cons (.var 1) (.cons (.var 2) .nil))) .nil)) (.var 5)) .nil))) (.cons (.ret (.lit (.bl false))) .nil) .nil) t_law_right_k12_4)
abbrev t_law_right_k12_6 : Stms :=
  (.cons (.set 5 (.bf .repr (.cons (.lst (.cons (.var 1) (.cons (.var 2) .nil))) .nil))) (.cons (.set 6 (.call 68 (.cons (.var 1) (.cons (.var 2) .nil)) [0, 1])) t_law_right_k12_5))
abbrev t_law_right_k12_7 : Stms :=
  (.cons (.set 3 (.lst .nil)) (.cons (.for_ (.name 4) (.rng1 (.lit (.int 8))) t_law_right_k12_1) t_law_right_k12_6))
abbrev t_law_right_k12_8 : Stms :=
  (.cons (.set 2 (.call 4 (.cons (.var 0) (.cons (.var 1) (.cons (.ix (.lst (.cons (.lit (.int 2)) (.cons (.lit (.int 6)) (.cons (.lit (.int 14)) (.cons (.lit (.int 30)) .nil))))) (.call 0 (.cons (.var 0) (.cons (.lit (.int 4)) .nil)) [0, 1])) (.cons (.bin .add (.lit (.int 1)) (.call 0 (.cons (.var 0) (.cons (.lit (.int 5)) .nil)) [0, 1])) .nil)))) [0, 1, 2, 3])) t_law_right_k12_7)
def b_law_right_k12 : Stms :=
  (.cons (.set 1 (.call 1 (.cons (.var 0) (.cons (.lit (.int 8)) (.cons (.lit (.int 3)) .nil))) [0, 1, 2])) t_law_right_k12_8)
def fn_law_right_k12 : Fn := ⟨"_law_right", ["pot"], ["pot", "house", "condition", "stands", "turn", "kept", "found", "stand", "due"], b_law_right_k12⟩
/-! 73 -/
abbrev t_law_k12_0 : Stms :=
  (.cons (.iff (.nt (.call 72 (.cons (.call 15 (.cons (.var 0) (.cons (.var 1) .nil)) [0, 1]) .nil) [0])) (.cons (.ret (.lit (.bl false))) .nil) .nil) .nil)
def b_law_k12 : Stms :=
  (.cons (.for_ (.name 1) (.rng1 (.bf .max2 (.cons (.lit (.int 1)) (.cons (.bf .min2 (.cons (.lit (.int 3)) (.cons (.bf .len (.cons (.var 0) .nil)) .nil))) .nil)))) t_law_k12_0) (.cons (.ret (.lit (.bl true))) .nil))
def fn_law_k12 : Fn := ⟨"law", ["script"], ["script", "k"], b_law_k12⟩
end Ev

set_option maxRecDepth 100000
set_option maxHeartbeats 0
namespace K12
open Ev PySem PySem.Spec PyProof.Rows L2
def fsL : List (Nat × Fn) := [(0, Ev.fn_law_draw), (1, Ev.fn_law_house), (2, Ev.fn_law_calls), (3, Ev.fn_law_plain), (4, Ev.fn_law_condition), (17, Ev.fn_law_places), (18, Ev.fn_law_notes), (19, Ev.fn_law_some), (20, Ev.fn_law_harms), (21, Ev.fn_law_stand), (66, Ev.fn_law_near), (34, Ev.fn_is_integer), (35, Ev.fn_is_between), (36, Ev.fn_are_integers), (37, Ev.fn_is_a_house), (38, Ev.fn_need_house), (54, Ev.fn_is_composed), (43, Ev.fn_is_a_floor), (44, Ev.fn_is_a_call), (49, Ev.fn_is_a_car), (55, Ev.fn_is_plain), (56, Ev.fn_is_a_condition), (57, Ev.fn_need_condition), (58, Ev.fn_parts_of), (67, Ev.fn_pushed_in), (68, Ev.fn_opposite), (69, Ev.fn_law_integer), (70, Ev.fn_law_is_plain), (71, Ev.fn_law_size), (63, Ev.fn_law_true), (39, Ev.fn_are_apart), (40, Ev.fn_are_places), (41, Ev.fn_are_notes), (42, Ev.fn_are_cars), (45, Ev.fn_is_rising), (46, Ev.fn_are_calls), (47, Ev.fn_are_rising_integers), (48, Ev.fn_are_panels), (50, Ev.fn_is_a_harm), (51, Ev.fn_are_harms), (52, Ev.fn_is_a_stand), (53, Ev.fn_need_stand), (59, Ev.fn_lit_floors), (60, Ev.fn_plain_of_car), (61, Ev.fn_true_at), (62, Ev.fn_holds), (72, Ev.fn_law_right_k12), (15, Ev.fn_law_pot), (73, Ev.fn_law_k12)]
abbrev law : PySem.W.OpenLaw := PySem.Challenge.rw_hoistsure_k12_opposite_conditions
def top (i : Nat) : Stmt := PySem.Challenge.pw_hoistsure_k12_opposite_conditions.main.body.getD i (.Pass ⟨0, 0, 0, 0⟩)
def dd (x : Str) (i : Nat) : He.DefD := ⟨(x, none), x, x, defArgs (top i), defBody (top i), defScope (top i), [], []⟩
def ds : List He.DefD := [dd "_law_draw" 52, dd "_law_house" 53, dd "_law_calls" 54, dd "_law_plain" 60, dd "_law_condition" 61, dd "_law_places" 57, dd "_law_notes" 56, dd "_law_some" 58, dd "_law_harms" 55, dd "_law_stand" 59, dd "_law_near" 68, dd "is_integer" 1, dd "is_between" 2, dd "are_integers" 17, dd "is_a_house" 18, dd "need_house" 32, dd "is_composed" 39, dd "is_a_floor" 20, dd "is_a_call" 21, dd "is_a_car" 19, dd "is_plain" 38, dd "is_a_condition" 40, dd "need_condition" 41, dd "parts_of" 42, dd "pushed_in" 48, dd "opposite" 49, dd "_law_integer" 63, dd "_law_is_plain" 66, dd "_law_size" 67, dd "_law_true" 62, dd "are_apart" 26, dd "are_places" 27, dd "are_notes" 25, dd "are_cars" 28, dd "is_rising" 3, dd "are_calls" 22, dd "are_rising_integers" 23, dd "are_panels" 24, dd "is_a_harm" 29, dd "are_harms" 30, dd "is_a_stand" 31, dd "need_stand" 33, dd "lit_floors" 43, dd "plain_of_car" 44, dd "true_at" 45, dd "holds" 47, dd "_law_right" 69, dd "_law_pot" 51, dd "law" 70]
def T : Tab := ⟨fsL, [("MOST_NOTES", (.int 3)), ("MOST_SHAFT", (.int 2)), ("MOST_CARS", (.int 3)), ("MOST_FLOORS", (.int 8)), ("WAYS", (.tup [(.str "down"), (.str "up")])), ("MOST_NOTE", (.int 9)), ("MOST_LEVELS", (.int 6)), ("MOST_TUPLES", (.int 60)), ("COMPOSED", (.tup [(.str "all"), (.str "not"), (.str "some")]))], [(68, ["condition", "house"], [1, 0])]⟩
theorem ck : ckAll T T.fs ds = true := by kernel_rfl
theorem bnd : BindAll T ds := by
  intro k i fn d hf hd kV doc pm an cdv ct
  match k, hf, hd with
  | 0, hf, hd =>
    cases hf; cases hd
    exact ⟨fun us hl => match us, hl with | [_, _], _ => rfl, fun ks ord hk => absurd hk (by simp [T])⟩
  | 1, hf, hd =>
    cases hf; cases hd
    exact ⟨fun us hl => match us, hl with | [_, _, _], _ => rfl, fun ks ord hk => absurd hk (by simp [T])⟩
  | 2, hf, hd =>
    cases hf; cases hd
    exact ⟨fun us hl => match us, hl with | [_], _ => rfl, fun ks ord hk => absurd hk (by simp [T])⟩
  | 3, hf, hd =>
    cases hf; cases hd
    exact ⟨fun us hl => match us, hl with | [_, _], _ => rfl, fun ks ord hk => absurd hk (by simp [T])⟩
  | 4, hf, hd =>
    cases hf; cases hd
    exact ⟨fun us hl => match us, hl with | [_, _, _, _], _ => rfl, fun ks ord hk => absurd hk (by simp [T])⟩
  | 5, hf, hd =>
    cases hf; cases hd
    exact ⟨fun us hl => match us, hl with | [_, _], _ => rfl, fun ks ord hk => absurd hk (by simp [T])⟩
  | 6, hf, hd =>
    cases hf; cases hd
    exact ⟨fun us hl => match us, hl with | [_, _], _ => rfl, fun ks ord hk => absurd hk (by simp [T])⟩
  | 7, hf, hd =>
    cases hf; cases hd
    exact ⟨fun us hl => match us, hl with | [_, _, _], _ => rfl, fun ks ord hk => absurd hk (by simp [T])⟩
  | 8, hf, hd =>
    cases hf; cases hd
    exact ⟨fun us hl => match us, hl with | [_], _ => rfl, fun ks ord hk => absurd hk (by simp [T])⟩
  | 9, hf, hd =>
    cases hf; cases hd
    exact ⟨fun us hl => match us, hl with | [_, _], _ => rfl, fun ks ord hk => absurd hk (by simp [T])⟩
  | 10, hf, hd =>
    cases hf; cases hd
    exact ⟨fun us hl => match us, hl with | [_, _, _], _ => rfl, fun ks ord hk => absurd hk (by simp [T])⟩
  | 11, hf, hd =>
    cases hf; cases hd
    exact ⟨fun us hl => match us, hl with | [_], _ => rfl, fun ks ord hk => absurd hk (by simp [T])⟩
  | 12, hf, hd =>
    cases hf; cases hd
    exact ⟨fun us hl => match us, hl with | [_, _, _], _ => rfl, fun ks ord hk => absurd hk (by simp [T])⟩
  | 13, hf, hd =>
    cases hf; cases hd
    exact ⟨fun us hl => match us, hl with | [_, _, _, _], _ => rfl, fun ks ord hk => absurd hk (by simp [T])⟩
  | 14, hf, hd =>
    cases hf; cases hd
    exact ⟨fun us hl => match us, hl with | [_], _ => rfl, fun ks ord hk => absurd hk (by simp [T])⟩
  | 15, hf, hd =>
    cases hf; cases hd
    exact ⟨fun us hl => match us, hl with | [_], _ => rfl, fun ks ord hk => absurd hk (by simp [T])⟩
  | 16, hf, hd =>
    cases hf; cases hd
    exact ⟨fun us hl => match us, hl with | [_], _ => rfl, fun ks ord hk => absurd hk (by simp [T])⟩
  | 17, hf, hd =>
    cases hf; cases hd
    exact ⟨fun us hl => match us, hl with | [_, _], _ => rfl, fun ks ord hk => absurd hk (by simp [T])⟩
  | 18, hf, hd =>
    cases hf; cases hd
    exact ⟨fun us hl => match us, hl with | [_, _, _], _ => rfl, fun ks ord hk => absurd hk (by simp [T])⟩
  | 19, hf, hd =>
    cases hf; cases hd
    exact ⟨fun us hl => match us, hl with | [_, _], _ => rfl, fun ks ord hk => absurd hk (by simp [T])⟩
  | 20, hf, hd =>
    cases hf; cases hd
    exact ⟨fun us hl => match us, hl with | [_, _], _ => rfl, fun ks ord hk => absurd hk (by simp [T])⟩
  | 21, hf, hd =>
    cases hf; cases hd
    exact ⟨fun us hl => match us, hl with | [_, _], _ => rfl, fun ks ord hk => absurd hk (by simp [T])⟩
  | 22, hf, hd =>
    cases hf; cases hd
    exact ⟨fun us hl => match us, hl with | [_, _], _ => rfl, fun ks ord hk => absurd hk (by simp [T])⟩
  | 23, hf, hd =>
    cases hf; cases hd
    exact ⟨fun us hl => match us, hl with | [_], _ => rfl, fun ks ord hk => absurd hk (by simp [T])⟩
  | 24, hf, hd =>
    cases hf; cases hd
    exact ⟨fun us hl => match us, hl with | [_, _], _ => rfl, fun ks ord hk => absurd hk (by simp [T])⟩
  | 25, hf, hd =>
    cases hf; cases hd
    refine ⟨fun us hl => match us, hl with | [_, _], _ => rfl, fun ks ord hk us hl => ?_⟩
    simp [T] at hk
    obtain ⟨rfl, rfl⟩ := hk
    exact match us, hl with | [_, _], _ => rfl
  | 26, hf, hd =>
    cases hf; cases hd
    exact ⟨fun us hl => match us, hl with | [_, _, _], _ => rfl, fun ks ord hk => absurd hk (by simp [T])⟩
  | 27, hf, hd =>
    cases hf; cases hd
    exact ⟨fun us hl => match us, hl with | [_, _], _ => rfl, fun ks ord hk => absurd hk (by simp [T])⟩
  | 28, hf, hd =>
    cases hf; cases hd
    exact ⟨fun us hl => match us, hl with | [_, _, _], _ => rfl, fun ks ord hk => absurd hk (by simp [T])⟩
  | 29, hf, hd =>
    cases hf; cases hd
    exact ⟨fun us hl => match us, hl with | [_, _], _ => rfl, fun ks ord hk => absurd hk (by simp [T])⟩
  | 30, hf, hd =>
    cases hf; cases hd
    exact ⟨fun us hl => match us, hl with | [_, _], _ => rfl, fun ks ord hk => absurd hk (by simp [T])⟩
  | 31, hf, hd =>
    cases hf; cases hd
    exact ⟨fun us hl => match us, hl with | [_, _], _ => rfl, fun ks ord hk => absurd hk (by simp [T])⟩
  | 32, hf, hd =>
    cases hf; cases hd
    exact ⟨fun us hl => match us, hl with | [_, _], _ => rfl, fun ks ord hk => absurd hk (by simp [T])⟩
  | 33, hf, hd =>
    cases hf; cases hd
    exact ⟨fun us hl => match us, hl with | [_, _], _ => rfl, fun ks ord hk => absurd hk (by simp [T])⟩
  | 34, hf, hd =>
    cases hf; cases hd
    exact ⟨fun us hl => match us, hl with | [_], _ => rfl, fun ks ord hk => absurd hk (by simp [T])⟩
  | 35, hf, hd =>
    cases hf; cases hd
    exact ⟨fun us hl => match us, hl with | [_, _], _ => rfl, fun ks ord hk => absurd hk (by simp [T])⟩
  | 36, hf, hd =>
    cases hf; cases hd
    exact ⟨fun us hl => match us, hl with | [_, _], _ => rfl, fun ks ord hk => absurd hk (by simp [T])⟩
  | 37, hf, hd =>
    cases hf; cases hd
    exact ⟨fun us hl => match us, hl with | [_, _], _ => rfl, fun ks ord hk => absurd hk (by simp [T])⟩
  | 38, hf, hd =>
    cases hf; cases hd
    exact ⟨fun us hl => match us, hl with | [_, _], _ => rfl, fun ks ord hk => absurd hk (by simp [T])⟩
  | 39, hf, hd =>
    cases hf; cases hd
    exact ⟨fun us hl => match us, hl with | [_, _], _ => rfl, fun ks ord hk => absurd hk (by simp [T])⟩
  | 40, hf, hd =>
    cases hf; cases hd
    exact ⟨fun us hl => match us, hl with | [_, _], _ => rfl, fun ks ord hk => absurd hk (by simp [T])⟩
  | 41, hf, hd =>
    cases hf; cases hd
    exact ⟨fun us hl => match us, hl with | [_, _], _ => rfl, fun ks ord hk => absurd hk (by simp [T])⟩
  | 42, hf, hd =>
    cases hf; cases hd
    exact ⟨fun us hl => match us, hl with | [_, _], _ => rfl, fun ks ord hk => absurd hk (by simp [T])⟩
  | 43, hf, hd =>
    cases hf; cases hd
    exact ⟨fun us hl => match us, hl with | [_, _], _ => rfl, fun ks ord hk => absurd hk (by simp [T])⟩
  | 44, hf, hd =>
    cases hf; cases hd
    exact ⟨fun us hl => match us, hl with | [_, _], _ => rfl, fun ks ord hk => absurd hk (by simp [T])⟩
  | 45, hf, hd =>
    cases hf; cases hd
    exact ⟨fun us hl => match us, hl with | [_, _, _], _ => rfl, fun ks ord hk => absurd hk (by simp [T])⟩
  | 46, hf, hd =>
    cases hf; cases hd
    exact ⟨fun us hl => match us, hl with | [_], _ => rfl, fun ks ord hk => absurd hk (by simp [T])⟩
  | 47, hf, hd =>
    cases hf; cases hd
    exact ⟨fun us hl => match us, hl with | [_, _], _ => rfl, fun ks ord hk => absurd hk (by simp [T])⟩
  | 48, hf, hd =>
    cases hf; cases hd
    exact ⟨fun us hl => match us, hl with | [_], _ => rfl, fun ks ord hk => absurd hk (by simp [T])⟩
  | _ + 49, hf, _ => exact nomatch hf
abbrev hk : PySem.W.Hook := hookE 4 (faOf ds) ds T.cs
def ob (s : PySem.W.SharedT) : He.AlD × Bool := obsEG 4 (faOf ds) ds T.cs (HandSHeadRun.getT s)
theorem ob_eq (s : PySem.W.SharedT) : ob s = hk.obs s.abs := obsEG_eq (HandSHeadRun.getT_eq s)
def loose : List Str := (["is_integer", "is_between", "is_rising", "anew", "LiftError", "InvalidHouse", "InvalidStand", "InvalidCondition", "WAYS", "MOST_FLOORS", "MOST_CARS", "MOST_SHAFT", "MOST_NOTES", "MOST_NOTE", "are_integers", "is_a_house", "is_a_car", "is_a_floor", "is_a_call", "are_calls"] : List Str) ++ (["are_rising_integers", "are_panels", "are_notes", "are_apart", "are_places", "are_cars", "is_a_harm", "are_harms", "is_a_stand", "need_house", "need_stand", "COMPOSED", "MOST_TUPLES", "MOST_LEVELS", "is_plain", "is_composed", "is_a_condition", "need_condition", "parts_of", "lit_floors"] : List Str) ++ (["plain_of_car", "true_at", "holds", "pushed_in", "opposite", "_law_pot", "_law_draw", "_law_house", "_law_calls", "_law_harms", "_law_notes", "_law_places", "_law_some", "_law_stand", "_law_plain", "_law_condition", "_law_true", "_law_integer", "_law_integers", "_law_ascends"] : List Str) ++ (["_law_is_plain", "_law_size", "_law_near", "_law_right"] : List Str)
theorem run1 (w : World) : HandSHeadRun.RunEq (PySem.W.OpenLaw.row law) (PySem.W.view (PySem.W.OpenLaw.row law).prog [70]) hk ob 7500 loose w := by
  intro os
  kernel_rfl
abbrev fuel : Nat := 40
end K12
open PySem PySem.W PySem.Calls PyProof.Rows
theorem K12.given (holds : ∀ ns : List Int, ns.length ≤ 63 → ∃ M', Ev.run K12.T.at K12.fuel 73 [Ev.scrD ns] [] = .ok (.bl true) M') : PySem.Challenge.rw_hoistsure_k12_opposite_conditions.Holds := by
  w_on; o_law
  refine HandSHeadRun.head_any (r := PySem.W.OpenLaw.row K12.law) (q := PySem.W.view (PySem.W.OpenLaw.row K12.law).prog [70]) (H := K12.hk) (ob := K12.ob) (M := 7500) (loose := K12.loose) (d := HandSHeadRun.topDef (PySem.W.OpenLaw.row K12.law).prog 70) (kwd := []) K12.ob_eq
    (by kernel_rfl) (fun s => by kernel_rfl) K12.run1 (by kernel_rfl) (by kernel_rfl) (by kernel_rfl) (by rfl) (by first | assumption | decide +kernel) (by decide +kernel) ⟨rfl, rfl, rfl, rfl, rfl, by decide +kernel⟩ ?hw ?hc
  case hw => w_witness2
  case hc =>
    exact Ev.walk_term (l := K12.law) (n := 63) (k := K12.fuel) (i := 73) (T := K12.T) (fn := Ev.fn_law_k12) (x := "script") rfl (by decide) (by kernel_rfl) ⟨rfl, by decide, by decide⟩ rfl (by kernel_rfl) rfl
      (fun w mg h Y G => by
        obtain ⟨K, KX, c⟩ := Y
        exact ⟨K, KX, Ev.says_of KX G c K12.ck K12.bnd⟩) holds

set_option maxRecDepth 100000
set_option maxHeartbeats 2000000
namespace Ev
open PySem
/-! ### step by step: rules for a reckoning -/
def Op {α : Type} (o : Option α) (P : α → Prop) : Prop := ∃ z, o = some z ∧ P z
def Cont (C : Nat → List D → MH → Res D) (ss : Stms) (P : Fl → MH → Prop) : Fl → MH → Prop
  | .nx σ, M => Ok (exs C ss σ M) P
  | f, M => P f M
def Ends (P : D → MH → Prop) : Fl → MH → Prop
  | .rt d, M => P d M
  | .nx _, M => P .non M
  | _, _ => False
def IsI (x : TV) (P : Int → Prop) : Prop := ∃ i, x = .d (.int i) ∧ P i
def IsB (x : TV) (P : Bool → Prop) : Prop := ∃ b, x = .d (.bl b) ∧ P b
section
variable {α : Type} {C : Nat → List D → MH → Res D} {σ : Sg} {M : MH}
theorem op_some {a : α} {P : α → Prop} (h : P a) : Op (some a) P := ⟨a, rfl, h⟩
theorem op_guard {c : Bool} {a : α} {P : α → Prop} (hc : c = true) (h : P a) : Op (guard' c a) P := ⟨a, by unfold guard'; rw [if_pos hc], h⟩
theorem isI {i : Int} {P : Int → Prop} (h : P i) : IsI (.d (.int i)) P := ⟨i, rfl, h⟩
theorem isB {b : Bool} {P : Bool → Prop} (h : P b) : IsB (.d (.bl b)) P := ⟨b, rfl, h⟩
theorem w_nx {ss : Stms} {P : Fl → MH → Prop} (h : Ok (exs C ss σ M) P) : Cont C ss P (.nx σ) M := h
theorem w_rt {ss : Stms} {P : Fl → MH → Prop} {d : D} (h : P (.rt d) M) : Cont C ss P (.rt d) M := h
theorem w_end {P : D → MH → Prop} {d : D} (h : P d M) : Ends P (.rt d) M := h
theorem w_var {i : Nat} {d : D} {P : TV → MH → Prop} (e : σ[i]? = some (some d)) (h : P (.d d) M) : Ok (ev C (.var i) σ M) P := by
  rw [ok_var, e]
  exact h
theorem w_lit {d : D} {P : TV → MH → Prop} (h : P (.d d) M) : Ok (ev C (.lit d) σ M) P := h
theorem w_cst {x : Str} {d : D} {P : TV → MH → Prop} (h : P (.d d) M) : Ok (ev C (.cst x d) σ M) P := h
theorem w_tup {es : Exs} {P : TV → MH → Prop} (h : Ok (evs C es σ M) (fun ds M => P (.d (.tup ds)) M)) : Ok (ev C (.tup es) σ M) P := by rw [ok_tup]; exact h
theorem w_lst {es : Exs} {P : TV → MH → Prop} (h : Ok (evs C es σ M) (fun ds M => P (.lst ds) M)) : Ok (ev C (.lst es) σ M) P := by rw [ok_lst]; exact h
/-- a value goes on -/
def Mat (x : TV) (M : MH) (P : D → MH → Prop) : Prop := P (mat x M).1 (mat x M).2
theorem m_d {d : D} {P : D → MH → Prop} (h : P d M) : Mat (.d d) M P := h
theorem m_l {ds : List D} {P : D → MH → Prop} (h : P (.ref M.length) (M ++ [.lst ds])) : Mat (.lst ds) M P := h
theorem w_evs0 {P : List D → MH → Prop} (h : P [] M) : Ok (evs C .nil σ M) P := h
theorem w_evs {e : Ex} {es : Exs} {P : List D → MH → Prop} (h : Ok (ev C e σ M) (fun x M => Mat x M fun d M => Ok (evs C es σ M) (fun ds M => P (d :: ds) M))) : Ok (evs C (.cons e es) σ M) P := by rw [ok_evs_cons]; exact h
theorem w_evT0 {P : List TV → MH → Prop} (h : P [] M) : Ok (evT C .nil σ M) P := h
theorem w_evT {e : Ex} {es : Exs} {P : List TV → MH → Prop} (h : Ok (ev C e σ M) (fun x M => Ok (evT C es σ M) (fun ds M => P (x :: ds) M))) : Ok (evT C (.cons e es) σ M) P := by rw [ok_evT_cons]; exact h
theorem w_bin {o : Bop} {a b : Ex} {P : TV → MH → Prop} (h : Ok (ev C a σ M) (fun x M => Ok (ev C b σ M) (fun y M => Op (binop M o x y) fun z => P z M))) : Ok (ev C (.bin o a b) σ M) P := by rw [ok_bin]; exact h
theorem w_neg {a : Ex} {P : TV → MH → Prop} (h : Ok (ev C a σ M) (fun x M => IsI x fun i => P (.d (.int (-i))) M)) : Ok (ev C (.neg a) σ M) P := by rw [ok_neg]; exact h
theorem w_nt {a : Ex} {P : TV → MH → Prop} (h : Ok (ev C a σ M) (fun x M => IsB x fun b => P (.d (.bl (!b))) M)) : Ok (ev C (.nt a) σ M) P := by rw [ok_nt]; exact h
theorem w_cmp {o : Cop} {a b : Ex} {P : TV → MH → Prop} (h : Ok (ev C a σ M) (fun x M => Ok (ev C b σ M) (fun y M => Op (cmpop M o x y) fun k => P (.d (.bl k)) M))) : Ok (ev C (.cmp o a b) σ M) P := by rw [ok_cmp]; exact h
theorem w_bop {all : Bool} {es : Exs} {P : TV → MH → Prop} (h : Ok (evB C all es σ M) (fun b M => P (.d (.bl b)) M)) : Ok (ev C (.bop all es) σ M) P := by rw [ok_bop]; exact h
theorem w_evB0 {all : Bool} {P : Bool → MH → Prop} (h : P all M) : Ok (evB C all .nil σ M) P := h
theorem w_evB {all : Bool} {e : Ex} {es : Exs} {P : Bool → MH → Prop} (h : Ok (ev C e σ M) (fun x M => IsB x fun b => (b = all → Ok (evB C all es σ M) P) ∧ (b = !all → P (!all) M))) : Ok (evB C all (.cons e es) σ M) P := by
  rw [ok_evB_cons]
  refine h.mono fun x M q => ?_
  obtain ⟨b, hb, q1, q2⟩ := q
  refine ⟨b, hb, ?_⟩
  split
  · rename_i e; exact q1 e
  · rename_i e
    exact q2 (by cases b <;> cases all <;> simp_all)
/-- a choice -/
def Br (k : Bool) (p q : Prop) : Prop := (k = true → p) ∧ (k = false → q)
theorem w_ite {c a b : Ex} {P : TV → MH → Prop} (h : Ok (ev C c σ M) (fun x M => IsB x fun k => Br k (Ok (ev C a σ M) P) (Ok (ev C b σ M) P))) : Ok (ev C (.ite c a b) σ M) P := by
  rw [ok_iteE]
  refine h.mono fun x M q => ?_
  obtain ⟨k, hk, q1, q2⟩ := q
  refine ⟨k, hk, ?_⟩
  cases k with
  | true => exact q1 rfl
  | false => exact q2 rfl
theorem w_ix {a i : Ex} {P : TV → MH → Prop} (h : Ok (ev C a σ M) (fun x M => Ok (ev C i σ M) (fun y M => Op (ixop M x y) fun z => P z M))) : Ok (ev C (.ix a i) σ M) P := by rw [ok_ix]; exact h
theorem w_slc {a : Ex} {lo hi : Ox} {P : TV → MH → Prop} (h : Ok (ev C a σ M) (fun x M => Ok (evO C lo σ M) (fun l M => Ok (evO C hi σ M) (fun u M => Op (slop M x l u) fun z => P z M)))) : Ok (ev C (.slc a lo hi) σ M) P := by rw [ok_slc]; exact h
theorem w_evO0 {P : Option Int → MH → Prop} (h : P none M) : Ok (evO C .non σ M) P := h
theorem w_evO {e : Ex} {P : Option Int → MH → Prop} (h : Ok (ev C e σ M) (fun x M => IsI x fun i => P (some i) M)) : Ok (evO C (.som e) σ M) P := by rw [ok_evO_som]; exact h
theorem w_rev {a : Ex} {P : TV → MH → Prop} (h : Ok (ev C a σ M) (fun x M => Op (revop M x) fun z => P z M)) : Ok (ev C (.rev a) σ M) P := by rw [ok_rev]; exact h
theorem w_lrg {a : Ex} {P : TV → MH → Prop} (h : Ok (ev C a σ M) (fun x M => IsI x fun j => (-(2 ^ 62) ≤ j ∧ j ≤ 16777216) ∧ P (.lst ((List.range j.toNat).map fun (i : Nat) => D.int i)) M)) : Ok (ev C (.lrg a) σ M) P := by
  rw [ok_lrg]
  refine h.mono fun x M q => ?_
  obtain ⟨j, rfl, ⟨h1, h2⟩, q⟩ := q
  refine ⟨_, ?_, q⟩
  show guard' (decide (-(2 ^ 62) ≤ j) && decide (j ≤ 16777216)) _ = _
  rw [decide_eq_true h1, decide_eq_true h2]
  rfl
theorem w_dix {kvs : List (Str × Str)} {a : Ex} {P : TV → MH → Prop} (h : Ok (ev C a σ M) (fun x M => Op (dixop kvs x) fun z => P z M)) : Ok (ev C (.dix kvs a) σ M) P := by rw [ok_dix]; exact h
theorem w_call {f : Nat} {es : Exs} {ks : List Nat} {P : TV → MH → Prop} (h : Ok (evs C es σ M) (fun ds M => Ok (C f (ks.filterMap fun k => ds[k]?) M) (fun d M => P (.d d) M))) : Ok (ev C (.call f es ks) σ M) P := by rw [ok_call]; exact h
theorem w_bf {f : Bfn} {es : Exs} {P : TV → MH → Prop} (h : Ok (evT C es σ M) (fun xs M => Op (bfop M f xs) fun z => P z M)) : Ok (ev C (.bf f es) σ M) P := by rw [ok_bf]; exact h
theorem w_join {o e : Ex} {P : TV → MH → Prop} (h : Ok (ev C o σ M) (fun x M => recvOk .join x = true ∧ Ok (ev C e σ M) (fun y M => Op (joinop M x y) fun z => P z M))) : Ok (ev C (.mt .join o (.cons e .nil)) σ M) P := by rw [ok_join]; exact h
theorem w_append {o : Ex} {es : Exs} {P : TV → MH → Prop} (h : Ok (ev C o σ M) (fun x M => recvOk .append x = true ∧ Ok (evs C es σ M) (fun ds M => Op (mtop M .append x ds) fun r => P r.1 r.2))) : Ok (ev C (.mt .append o es) σ M) P := by rw [ok_mt (.inl rfl)]; exact h
theorem w_count {o : Ex} {es : Exs} {P : TV → MH → Prop} (h : Ok (ev C o σ M) (fun x M => recvOk .count x = true ∧ Ok (evs C es σ M) (fun ds M => Op (mtop M .count x ds) fun r => P r.1 r.2))) : Ok (ev C (.mt .count o es) σ M) P := by rw [ok_mt (.inr rfl)]; exact h
theorem w_fst {ps : Fps} {P : TV → MH → Prop} (h : Ok (evF C ps Str.empty σ M) (fun s M => P (.d (.str s)) M)) : Ok (ev C (.fst ps) σ M) P := by rw [ok_fst]; exact h
theorem w_evF0 {acc : Str} {P : Str → MH → Prop} (h : P acc M) : Ok (evF C .nil acc σ M) P := h
theorem w_txt {s acc : Str} {ps : Fps} {P : Str → MH → Prop} (hz : (acc ++ s).length ≤ sizeLine) (h : Ok (evF C ps (acc ++ s) σ M) P) : Ok (evF C (.txt s ps) acc σ M) P := by rw [ok_evF_txt]; exact ⟨hz, h⟩
theorem w_val {e : Ex} {acc : Str} {ps : Fps} {P : Str → MH → Prop} (h : Ok (ev C e σ M) (fun x M => Op (fmtop x) fun s => (acc ++ s).length ≤ sizeLine ∧ Ok (evF C ps (acc ++ s) σ M) P)) : Ok (evF C (.val e ps) acc σ M) P := by rw [ok_evF_val]; exact h
theorem w_set {i : Nat} {e : Ex} {P : Fl → MH → Prop} (h : Ok (ev C e σ M) (fun x M => Mat x M fun d M => P (.nx (σ.set i (some d))) M)) : Ok (ex C (.set i e) σ M) P := by rw [ok_set]; exact h
theorem w_ret {e : Ex} {P : Fl → MH → Prop} (h : Ok (ev C e σ M) (fun x M => Mat x M fun d M => P (.rt d) M)) : Ok (ex C (.ret e) σ M) P := by rw [ok_ret]; exact h
theorem w_expr {e : Ex} {P : Fl → MH → Prop} (h : Ok (ev C e σ M) (fun _ M => P (.nx σ) M)) : Ok (ex C (.expr e) σ M) P := by rw [ok_expr]; exact h
theorem w_iff {c : Ex} {a b : Stms} {P : Fl → MH → Prop} (h : Ok (ev C c σ M) (fun x M => IsB x fun k => Br k (Ok (exs C a σ M) P) (Ok (exs C b σ M) P))) : Ok (ex C (.iff c a b) σ M) P := by
  rw [ok_iff]
  refine h.mono fun x M q => ?_
  obtain ⟨k, hk, q1, q2⟩ := q
  refine ⟨k, hk, ?_⟩
  cases k with
  | true => exact q1 rfl
  | false => exact q2 rfl
theorem w_par {is : List Nat} {es : Exs} {P : Fl → MH → Prop} (h : Ok (evs C es σ M) (fun ds M => ds.length = is.length ∧ P (.nx (setAll is ds σ)) M)) : Ok (ex C (.par is es) σ M) P := by
  rw [ok_par]
  refine h.mono fun ds M q => ?_
  rw [if_pos q.1]
  exact q.2
theorem w_unp {is : List Nat} {e : Ex} {P : Fl → MH → Prop} (h : Ok (ev C e σ M) (fun x M => ∃ ds, x = .d (.tup ds) ∧ ds.length = is.length ∧ P (.nx (setAll is ds σ)) M)) : Ok (ex C (.unp is e) σ M) P := by
  show Ok ((ev C e σ M).bnd fun x M => match x with
    | .d (.tup ds) => if ds.length = is.length then .ok (.nx (setAll is ds σ)) M else .bad
    | _ => .bad) P
  rw [ok_bnd]
  refine h.mono fun x M q => ?_
  obtain ⟨ds, rfl, hl, q⟩ := q
  show Ok (if ds.length = is.length then .ok (.nx (setAll is ds σ)) M else .bad) P
  rw [if_pos hl]
  exact q
theorem w_put {o i e : Ex} {P : Fl → MH → Prop} (h : Ok (ev C e σ M) (fun d M => Mat d M fun d M => Ok (ev C o σ M) (fun x M => Ok (ev C i σ M) (fun y M => ∃ n k ds j, x = .d (.ref n) ∧ y = .d (.int k) ∧ M[n]? = some (.lst ds) ∧ L2.ixN ds.length k = some j ∧ P (.nx σ) (M.set n (.lst (ds.set j d)))))) ) : Ok (ex C (.put o i e) σ M) P := by rw [ok_put]; exact h
theorem w_exs0 {P : Fl → MH → Prop} (h : P (.nx σ) M) : Ok (exs C .nil σ M) P := h
theorem w_exs {s : Stm} {ss : Stms} {P : Fl → MH → Prop} (h : Ok (ex C s σ M) (Cont C ss P)) : Ok (exs C (.cons s ss) σ M) P := by
  rw [ok_exs_cons]
  refine h.mono fun f M q => ?_
  cases f <;> exact q
theorem w_run {fs : Nat → Option Fn} {n f : Nat} {fn : Fn} {ds : List D} {P : D → MH → Prop} (hf : fs f = some fn) (hl : ds.length = fn.ps.length)
    (h : Ok (exs (run fs n) fn.body (ds.map some ++ List.replicate (fn.ns.length - ds.length) none) M) (Ends P)) : Ok (run fs (n + 1) f ds M) P :=
  run_eq hf hl (h.mono fun f M q => by cases f <;> exact q)
/-! operators -/
theorem o_mod {i j : Int} {P : TV → Prop} (hc : 0 < j) (h : P (.d (.int (i % j)))) : Op (binop M .mod (.d (.int i)) (.d (.int j))) P := by
  rw [mod_i]
  exact op_guard (by simpa using hc) h
theorem o_fdiv {i j : Int} {P : TV → Prop} (hc : 0 < j) (hj : j.natAbs < 2 ^ 2000) (h : P (.d (.int (i / j)))) : Op (binop M .fdiv (.d (.int i)) (.d (.int j))) P := by
  rw [fdiv_i]
  exact op_guard (by rw [Bool.and_eq_true, decide_eq_true_eq, decide_eq_true_eq]; exact ⟨hc, hj⟩) h
theorem o_pow {i j : Int} {P : TV → Prop} (hc : 0 ≤ j) (hj : j ≤ 1000) (hi : i.natAbs < 2 ^ 1000) (h : P (.d (.int (i ^ j.toNat)))) : Op (binop M .pow (.d (.int i)) (.d (.int j))) P := by
  rw [pow_i]
  exact op_guard (by rw [Bool.and_eq_true, Bool.and_eq_true, decide_eq_true_eq, decide_eq_true_eq, decide_eq_true_eq]; exact ⟨⟨hc, hj⟩, hi⟩) h
theorem o_mul {i j : Int} {P : TV → Prop} (hc : bigOk i j = true) (h : P (.d (.int (i * j)))) : Op (binop M .mul (.d (.int i)) (.d (.int j))) P := op_guard hc h
theorem o_add {i j : Int} {P : TV → Prop} (h : P (.d (.int (i + j)))) : Op (binop M .add (.d (.int i)) (.d (.int j))) P := op_some h
theorem o_sub {i j : Int} {P : TV → Prop} (h : P (.d (.int (i - j)))) : Op (binop M .sub (.d (.int i)) (.d (.int j))) P := op_some h
theorem o_adds {a b : Str} {P : TV → Prop} (hc : a.length + b.length ≤ sizeLine) (h : P (.d (.str (a ++ b)))) : Op (binop M .add (.d (.str a)) (.d (.str b))) P := op_guard (decide_eq_true hc) h
theorem o_addt {a b : List D} {P : TV → Prop} (hc : a.length + b.length ≤ sizeLine) (h : P (.d (.tup (a ++ b)))) : Op (binop M .add (.d (.tup a)) (.d (.tup b))) P := op_guard (decide_eq_true hc) h
theorem o_eq {i j : Int} {P : Bool → Prop} (h : P (decide (i = j))) : Op (cmpop M .eq (.d (.int i)) (.d (.int j))) P := by rw [cmp_eq]; exact op_some h
theorem o_gt {i j : Int} {P : Bool → Prop} (h : P (decide (j < i))) : Op (cmpop M .gt (.d (.int i)) (.d (.int j))) P := by rw [cmp_gt]; exact op_some h
theorem o_lt {i j : Int} {P : Bool → Prop} (h : P (decide (i < j))) : Op (cmpop M .lt (.d (.int i)) (.d (.int j))) P := by rw [cmp_lt]; exact op_some h
theorem o_ge {i j : Int} {P : Bool → Prop} (h : P (!decide (i < j))) : Op (cmpop M .ge (.d (.int i)) (.d (.int j))) P := by rw [cmp_ge]; exact op_some h
theorem o_le {i j : Int} {P : Bool → Prop} (h : P (!decide (j < i))) : Op (cmpop M .le (.d (.int i)) (.d (.int j))) P := by rw [cmp_le]; exact op_some h
theorem o_ixr {p : Nat} {i : Int} {ds : List D} {d : D} {P : TV → Prop} (hp : M[p]? = some (.lst ds)) (hi : L2.atI ds i = some d) (h : P (.d d)) : Op (ixop M (.d (.ref p)) (.d (.int i))) P := by
  refine ⟨_, ?_, h⟩
  rw [ix_ref, hp]
  show (L2.atI ds i).map _ = _
  rw [hi]
  rfl
theorem o_ixt {i : Int} {ds : List D} {d : D} {P : TV → Prop} (hi : L2.atI ds i = some d) (h : P (.d d)) : Op (ixop M (.d (.tup ds)) (.d (.int i))) P := ⟨_, by rw [ix_tup, hi]; rfl, h⟩
theorem o_ixl {i : Int} {ds : List D} {d : D} {P : TV → Prop} (hi : L2.atI ds i = some d) (h : P (.d d)) : Op (ixop M (.lst ds) (.d (.int i))) P := ⟨_, by rw [ix_lst, hi]; rfl, h⟩
theorem o_ixc {i : Int} {ds : List D} {d : D} {P : TV → Prop} (hi : L2.atI ds i = some d) (h : P (.d d)) : Op (ixop M (.d (.scr ds)) (.d (.int i))) P := ⟨_, by rw [ix_scr, hi]; rfl, h⟩
/-! comprehensions and loops over what stays -/
theorem compL_stay {s : Src} {ds : List D} (hs : ∀ M, s.cur M = some ds) {step : D → MH → Res (Option D)} (I : Nat → List D → MH → Prop)
    (h : ∀ i d acc M, ds[i]? = some d → I i acc M → Ok (step d M) (fun r M' => match r with
      | some x => acc.length < sizeLine ∧ I (i + 1) (acc ++ [x]) M'
      | none => I (i + 1) acc M')) : ∀ n i acc M, n + i = ds.length → I i acc M → Ok (compL s ds.length step n i acc M) (fun xs M' => I ds.length xs M')
  | 0, i, acc, M, hn, hi => by
    show Ok (match s.cur M with
      | some ds' => if ds'.length = ds.length then .ok acc M else .bad
      | none => .bad) _
    rw [hs M]
    show Ok (if ds.length = ds.length then .ok acc M else .bad) _
    rw [if_pos rfl]
    have e : i = ds.length := by omega
    rw [e] at hi
    exact hi
  | n + 1, i, acc, M, hn, hi => by
    have hlt : i < ds.length := by omega
    show Ok (match s.cur M with
      | some ds' => if ds'.length = ds.length then match ds'[i]? with
          | some d => (step d M).bnd fun r M => match r with
            | some x => if acc.length < sizeLine then compL s ds.length step n (i + 1) (acc ++ [x]) M else .bad
            | none => compL s ds.length step n (i + 1) acc M
          | none => .bad
        else .bad
      | none => .bad) _
    rw [hs M]
    show Ok (if ds.length = ds.length then match ds[i]? with
          | some d => (step d M).bnd fun r M => match r with
            | some x => if acc.length < sizeLine then compL s ds.length step n (i + 1) (acc ++ [x]) M else .bad
            | none => compL s ds.length step n (i + 1) acc M
          | none => .bad
        else .bad) _
    rw [if_pos rfl, List.getElem?_eq_getElem hlt]
    show Ok ((step ds[i] M).bnd _) _
    rw [ok_bnd]
    refine (h i ds[i] acc M (List.getElem?_eq_getElem hlt) hi).mono fun r M' q => ?_
    cases r with
    | none => exact compL_stay hs I h n (i + 1) acc M' (by omega) q
    | some x =>
      show Ok (if acc.length < sizeLine then compL s ds.length step n (i + 1) (acc ++ [x]) M' else .bad) _
      rw [if_pos q.1]
      exact compL_stay hs I h n (i + 1) (acc ++ [x]) M' (by omega) q.2
/-- a comprehension without tests -/
theorem w_comp {own : List Nat} {elt : Ex} {tg : Tg} {it : It} {P : TV → MH → Prop} (h : Ok (evI C it σ M) (fun s M => ∃ ds, (∀ M, s.cur M = some ds) ∧ ∃ I : Nat → List D → MH → Prop, I 0 [] M ∧
    (∀ i d acc M, ds[i]? = some d → I i acc M → ∃ σ', putTg tg d (wipeS σ own) = some σ' ∧ Ok (ev C elt σ' M) (fun x M => Mat x M fun y M => acc.length < sizeLine ∧ I (i + 1) (acc ++ [y]) M)) ∧ ∀ acc M, I ds.length acc M → P (.lst acc) M)) :
    Ok (ev C (.comp own elt tg it .nil) σ M) P := by
  show Ok ((evI C it σ M).bnd fun s M => match s.cur M with
    | some ds => (compL s ds.length (fun d M => match putTg tg d (wipeS σ own) with
        | some σ => (evB C true .nil σ M).quiet.bnd fun b M => if b = true then (matR (ev C elt σ M)).quiet.bnd fun x M => .ok (some x) M else .ok none M
        | none => .bad) ds.length 0 [] M).bnd fun xs M => .ok (.lst xs) M
    | none => .bad) P
  rw [ok_bnd]
  refine h.mono fun s M1 q => ?_
  obtain ⟨ds, hs, I, h0, hi, he⟩ := q
  show Ok (match s.cur M1 with
    | some ds => (compL s ds.length _ ds.length 0 [] M1).bnd fun xs M => .ok (.lst xs) M
    | none => .bad) P
  rw [hs M1]
  show Ok ((compL s ds.length _ ds.length 0 [] M1).bnd fun xs M => .ok (.lst xs) M) P
  rw [ok_bnd]
  refine (compL_stay hs I (fun i d acc M hd q => ?_) ds.length 0 [] M1 rfl h0).mono fun xs M q => he xs M q
  obtain ⟨σ', hp, hk⟩ := hi i d acc M hd q
  rw [hp]
  show Ok ((evB C true .nil σ' M).quiet.bnd fun b M => if b = true then (matR (ev C elt σ' M)).quiet.bnd fun x M => .ok (some x) M else .ok none M) _
  show Ok (if true = true then (matR (ev C elt σ' M)).quiet.bnd fun x M => .ok (some x) M else .ok none M) _
  rw [if_pos rfl, ok_bnd, ok_quiet, ok_mat]
  exact hk
theorem forL_stay {s : Src} {ds : List D} (hs : ∀ M, s.cur M = some ds) {tg : Tg} {body : Sg → MH → Res Fl} {P : Fl → MH → Prop} (I : Nat → Sg → MH → Prop)
    (h : ∀ i d σ M, ds[i]? = some d → I i σ M → ∃ σ', putTg tg d σ = some σ' ∧ Ok (body σ' M) (fun f M => match f with
      | .nx σ => I (i + 1) σ M
      | .ct σ => I (i + 1) σ M
      | .bk σ => P (.nx σ) M
      | .rt d => P (.rt d) M)) (he : ∀ σ M, I ds.length σ M → P (.nx σ) M) : ∀ n i σ M, n + i = ds.length → I i σ M → Ok (forL s ds.length tg body n i σ M) P
  | 0, i, σ, M, hn, hi => by
    show Ok (match s.cur M with
      | some ds' => if ds'.length = ds.length then Res.ok (Fl.nx σ) M else .bad
      | none => .bad) _
    rw [hs M]
    show Ok (if ds.length = ds.length then Res.ok (Fl.nx σ) M else .bad) _
    rw [if_pos rfl]
    have e : i = ds.length := by omega
    rw [e] at hi
    exact he σ M hi
  | n + 1, i, σ, M, hn, hi => by
    have hlt : i < ds.length := by omega
    obtain ⟨σ', hp, hk⟩ := h i ds[i] σ M (List.getElem?_eq_getElem hlt) hi
    show Ok (match s.cur M with
      | some ds' => if ds'.length = ds.length then match ds'[i]? with
          | some d => match putTg tg d σ with
            | some σ => (body σ M).bnd fun f M => match f with
              | .nx σ => forL s ds.length tg body n (i + 1) σ M
              | .ct σ => forL s ds.length tg body n (i + 1) σ M
              | .bk σ => .ok (.nx σ) M
              | .rt d => .ok (.rt d) M
            | none => .bad
          | none => .bad
        else .bad
      | none => .bad) _
    rw [hs M]
    show Ok (if ds.length = ds.length then match ds[i]? with
          | some d => match putTg tg d σ with
            | some σ => (body σ M).bnd fun f M => match f with
              | .nx σ => forL s ds.length tg body n (i + 1) σ M
              | .ct σ => forL s ds.length tg body n (i + 1) σ M
              | .bk σ => .ok (.nx σ) M
              | .rt d => .ok (.rt d) M
            | none => .bad
          | none => .bad
        else .bad) _
    rw [if_pos rfl, List.getElem?_eq_getElem hlt]
    show Ok (match putTg tg ds[i] σ with
            | some σ => (body σ M).bnd fun f M => match f with
              | .nx σ => forL s ds.length tg body n (i + 1) σ M
              | .ct σ => forL s ds.length tg body n (i + 1) σ M
              | .bk σ => .ok (.nx σ) M
              | .rt d => .ok (.rt d) M
            | none => .bad) _
    rw [hp]
    show Ok ((body σ' M).bnd _) _
    rw [ok_bnd]
    refine hk.mono fun f M' q => ?_
    cases f with
    | nx σ1 => exact forL_stay hs I h he n (i + 1) σ1 M' (by omega) q
    | ct σ1 => exact forL_stay hs I h he n (i + 1) σ1 M' (by omega) q
    | bk σ1 => exact q
    | rt d => exact q
theorem w_for {tg : Tg} {it : It} {B : Stms} {P : Fl → MH → Prop} (h : Ok (evI C it σ M) (fun s M => ∃ ds, (∀ M, s.cur M = some ds) ∧ ∃ I : Nat → Sg → MH → Prop, I 0 σ M ∧
    (∀ i d σ M, ds[i]? = some d → I i σ M → ∃ σ', putTg tg d σ = some σ' ∧ Ok (exs C B σ' M) (fun f M => match f with
      | .nx σ => I (i + 1) σ M
      | .ct σ => I (i + 1) σ M
      | .bk σ => P (.nx σ) M
      | .rt d => P (.rt d) M)) ∧ ∀ σ M, I ds.length σ M → P (.nx σ) M)) : Ok (ex C (.for_ tg it B) σ M) P := by
  show Ok ((evI C it σ M).bnd fun s M => match s.cur M with
    | some ds => forL s ds.length tg (exs C B) ds.length 0 σ M
    | none => .bad) P
  rw [ok_bnd]
  refine h.mono fun s M1 q => ?_
  obtain ⟨ds, hs, I, h0, hi, he⟩ := q
  show Ok (match s.cur M1 with
    | some ds => forL s ds.length tg (exs C B) ds.length 0 σ M1
    | none => .bad) P
  rw [hs M1]
  exact forL_stay hs I hi he ds.length 0 σ M1 rfl h0
theorem w_seq {e : Ex} {P : Src → MH → Prop} (h : Ok (ev C e σ M) (fun x M => Op (srcOf M x) fun s => P s M)) : Ok (evI C (.seq e) σ M) P := by
  show Ok ((ev C e σ M).bnd fun x M => opt (srcOf M x) M) P
  rw [ok_bnd]
  refine h.mono fun x M q => ?_
  rw [ok_opt]
  exact q
theorem w_enum {e : Ex} {P : Src → MH → Prop} (h : Ok (ev C e σ M) (fun x M => Op (srcOf M x) fun s => P (.enum s) M)) : Ok (evI C (.enum e) σ M) P := by
  show Ok ((ev C e σ M).bnd fun x M => (opt (srcOf M x) M).bnd fun s M => .ok (.enum s) M) P
  rw [ok_bnd]
  refine h.mono fun x M q => ?_
  rw [ok_bnd, ok_opt]
  exact q
theorem w_rng1 {a : Ex} {P : Src → MH → Prop} (h : Ok (ev C a σ M) (fun x M => IsI x fun j => small j = true ∧ P (.vals (rng 0 j.toNat 1)) M)) : Ok (evI C (.rng1 a) σ M) P := by
  show Ok ((ev C a σ M).bnd fun x M => match x with
    | .d (.int j) => if small j = true then .ok (.vals (rng 0 j.toNat 1)) M else .bad
    | _ => .bad) P
  rw [ok_bnd]
  refine h.mono fun x M q => ?_
  obtain ⟨j, rfl, hs, q⟩ := q
  show Ok (if small j = true then .ok (.vals (rng 0 j.toNat 1)) M else .bad) P
  rw [if_pos hs]
  exact q
theorem w_rng3 {a b c : Ex} {P : Src → MH → Prop} (h : Ok (ev C a σ M) (fun x M => Ok (ev C b σ M) (fun y M => Ok (ev C c σ M) (fun z M => IsI x fun i => IsI y fun j => IsI z fun k => (small i = true ∧ small j = true ∧ k = -1) ∧ P (.vals (rng i (i - j).toNat (-1))) M)))) : Ok (evI C (.rng3 a b c) σ M) P := by
  show Ok ((ev C a σ M).bnd fun x M => (ev C b σ M).bnd fun y M => (ev C c σ M).bnd fun z M => match x, y, z with
    | .d (.int i), .d (.int j), .d (.int c) => if (small i && small j && decide (c = -1)) = true then .ok (.vals (rng i (i - j).toNat (-1))) M else .bad
    | _, _, _ => .bad) P
  rw [ok_bnd]
  refine h.mono fun x M q => ?_
  rw [ok_bnd]
  refine q.mono fun y M q => ?_
  rw [ok_bnd]
  refine q.mono fun z M q => ?_
  obtain ⟨i, rfl, j, rfl, k, rfl, ⟨h1, h2, rfl⟩, q⟩ := q
  show Ok (if (small i && small j && decide (-1 = (-1 : Int))) = true then .ok (.vals (rng i (i - j).toNat (-1))) M else .bad) P
  rw [if_pos (by rw [h1, h2]; rfl)]
  exact q
theorem rng_at {lo c : Int} {n i : Nat} {d : D} (h : (rng lo n c)[i]? = some d) : i < n ∧ d = .int (lo + (i : Nat) * c) := by
  have hi : i < n := by
    have := (List.getElem?_eq_some_iff.mp h).1
    rwa [rng_len] at this
  rw [rng_get hi] at h
  exact ⟨hi, (Option.some.inj h).symm⟩
theorem small_is {i : Int} (h : -(2 ^ 62) ≤ i) (h2 : i < 2 ^ 62) : small i = true := by
  unfold small
  rw [decide_eq_true h, decide_eq_true h2]
  rfl
/-! built-ins -/
theorem b_int {i : Int} {P : TV → Prop} (h : P (.d (.int i))) : Op (bfop M .int [.d (.int i)]) P := op_some h
theorem b_tuple {ds : List D} {P : TV → Prop} (h : P (.d (.tup ds))) : Op (bfop M .tuple [.lst ds]) P := op_some h
theorem b_tupr {ds : List D} {p : Nat} {P : TV → Prop} (hp : M[p]? = some (.lst ds)) (h : P (.d (.tup ds))) : Op (bfop M .tuple [.d (.ref p)]) P := by
  refine ⟨_, ?_, h⟩
  show (rd M p).map _ = _
  unfold rd
  rw [hp]
  rfl
theorem b_lent {ds : List D} {P : TV → Prop} (h : P (.d (.int ds.length))) : Op (bfop M .len [.d (.tup ds)]) P := op_some h
theorem b_lenr {ds : List D} {p : Nat} {P : TV → Prop} (hp : M[p]? = some (.lst ds)) (h : P (.d (.int ds.length))) : Op (bfop M .len [.d (.ref p)]) P := by
  refine ⟨_, ?_, h⟩
  show (match rd M p with
    | some ds => some (TV.d (.int ds.length))
    | none => _) = _
  unfold rd
  rw [hp]
  rfl
theorem b_lenc {ds : List D} {P : TV → Prop} (h : P (.d (.int ds.length))) : Op (bfop M .len [.d (.scr ds)]) P := op_some h
theorem b_min {i j : Int} {P : TV → Prop} (h : P (.d (.int (if j < i then j else i)))) : Op (bfop M .min2 [.d (.int i), .d (.int j)]) P := op_some h
theorem b_max {i j : Int} {P : TV → Prop} (h : P (.d (.int (if j > i then j else i)))) : Op (bfop M .max2 [.d (.int i), .d (.int j)]) P := op_some h
theorem b_strs {s : Str} {P : TV → Prop} (h : P (.d (.str s))) : Op (bfop M .str [.d (.str s)]) P := op_some h
theorem b_stri {i : Int} {P : TV → Prop} (hi : i.natAbs.log2 < 1920) (h : P (.d (.str ((toString i : String) : Str)))) : Op (bfop M .str [.d (.int i)]) P := by
  refine ⟨_, ?_, h⟩
  show (showInt i).map _ = _
  unfold showInt guard'
  rw [if_pos (decide_eq_true hi)]
  rfl
theorem b_repr {x : TV} {p : PyData} {P : TV → Prop} (hp : pdT M deep x = some p) (hs : p.showable = true) (hl : p.shown.length ≤ sizeLine) (h : P (.d (.str p.shown))) : Op (bfop M .repr [x]) P := by
  refine ⟨_, ?_, h⟩
  show (match pdT M deep x with
    | some p => guard' (p.showable && decide (p.shown.length ≤ sizeLine)) (TV.d (.str p.shown))
    | none => none) = _
  rw [hp]
  show guard' _ _ = _
  unfold guard'
  rw [hs, decide_eq_true hl]
  rfl
theorem intsOf_map : ∀ is : List Int, intsOf (is.map .int) = some is
  | [] => rfl
  | i :: is => by
    show (intsOf (is.map .int)).map (i :: ·) = _
    rw [intsOf_map is]
    rfl
theorem b_max1 {is : List Int} {P : TV → Prop} (hn : is ≠ []) (h : ∀ m, P (.d (.int m))) : Op (bfop M .max1 [.lst (is.map .int)]) P := by
  cases is with
  | nil => exact absurd rfl hn
  | cons a r =>
    refine ⟨_, ?_, h ((a :: r).tail.foldl (fun m x => if m < x then x else m) a)⟩
    show (match intsOf ((a :: r).map .int) with
      | some is => (maxL is).map fun i => TV.d (.int i)
      | none => none) = _
    rw [intsOf_map]
    rfl
theorem o_app {p : Nat} {ds : List D} {d : D} {P : TV × MH → Prop} (hp : M[p]? = some (.lst ds)) (hl : ds.length < sizeLine) (h : P (.d .non, M.set p (.lst (ds ++ [d])))) : Op (mtop M .append (.d (.ref p)) [d]) P := by
  refine ⟨_, ?_, h⟩
  show (match M[p]? with
    | some (.lst ds) => guard' (decide (ds.length < sizeLine)) (TV.d .non, M.set p (.lst (ds ++ [d])))
    | _ => none) = _
  rw [hp]
  show guard' _ _ = _
  unfold guard'
  rw [if_pos (decide_eq_true hl)]
theorem pdAll_ints {f : D → Option PyData} (hf : ∀ i, f (.int i) = some (.int i)) : ∀ is : List Int, pdAll f (is.map .int) = some (is.map .int)
  | [] => rfl
  | i :: is => by
    show (match f (.int i), pdAll f (is.map .int) with
      | some x, some xs => some (x :: xs)
      | _, _ => none) = _
    rw [hf, pdAll_ints hf is]
    rfl
theorem o_count {is : List Int} {i : Int} {P : TV × MH → Prop} (h : ∀ m : Nat, P (.d (.int m), M)) : Op (mtop M .count (.d (.tup (is.map .int))) [.int i]) P := by
  refine ⟨_, ?_, h ((is.map PyData.int).countP fun z => PyData.eqv z (.int i))⟩
  show (match (pdAll (pd M 39) (is.map .int)).map PyData.tuple, some (PyData.int i) with
    | some (.tuple bs), some a => some (TV.d (.int (bs.countP fun z => PyData.eqv z a)), M)
    | _, _ => none) = _
  rw [pdAll_ints (fun i => rfl)]
  rfl
theorem o_rep {ds : List D} {k : Int} {P : TV → Prop} (h0 : 0 ≤ k) (h1 : k ≤ 1000) (hl : ds.length ≤ 1000) (h : P (.d (.tup (copies k.toNat ds)))) : Op (binop M .mul (.d (.tup ds)) (.d (.int k))) P := op_guard (by rw [decide_eq_true h0, decide_eq_true h1, decide_eq_true hl]; rfl) h
end
end Ev

set_option maxRecDepth 100000
set_option maxHeartbeats 2000000
/-! walks over what the turns leave as it is -/
namespace Ev
open PySem
section
variable {α : Type} {C : Nat → List D → MH → Res D} {σ : Sg} {M : MH}
theorem compL_inv {s : Src} {ds : List D} {step : D → MH → Res (Option D)} (I : Nat → List D → MH → Prop) (hs : ∀ i acc M, I i acc M → s.cur M = some ds)
    (h : ∀ i d acc M, ds[i]? = some d → I i acc M → Ok (step d M) (fun r M' => match r with
      | some x => acc.length < sizeLine ∧ I (i + 1) (acc ++ [x]) M'
      | none => I (i + 1) acc M')) : ∀ n i acc M, n + i = ds.length → I i acc M → Ok (compL s ds.length step n i acc M) (fun xs M' => I ds.length xs M')
  | 0, i, acc, M, hn, hi => by
    show Ok (match s.cur M with
      | some ds' => if ds'.length = ds.length then .ok acc M else .bad
      | none => .bad) _
    rw [hs _ _ M hi]
    show Ok (if ds.length = ds.length then .ok acc M else .bad) _
    rw [if_pos rfl]
    have e : i = ds.length := by omega
    rw [e] at hi
    exact hi
  | n + 1, i, acc, M, hn, hi => by
    have hlt : i < ds.length := by omega
    show Ok (match s.cur M with
      | some ds' => if ds'.length = ds.length then match ds'[i]? with
          | some d => (step d M).bnd fun r M => match r with
            | some x => if acc.length < sizeLine then compL s ds.length step n (i + 1) (acc ++ [x]) M else .bad
            | none => compL s ds.length step n (i + 1) acc M
          | none => .bad
        else .bad
      | none => .bad) _
    rw [hs _ _ M hi]
    show Ok (if ds.length = ds.length then match ds[i]? with
          | some d => (step d M).bnd fun r M => match r with
            | some x => if acc.length < sizeLine then compL s ds.length step n (i + 1) (acc ++ [x]) M else .bad
            | none => compL s ds.length step n (i + 1) acc M
          | none => .bad
        else .bad) _
    rw [if_pos rfl, List.getElem?_eq_getElem hlt]
    show Ok ((step ds[i] M).bnd _) _
    rw [ok_bnd]
    refine (h i ds[i] acc M (List.getElem?_eq_getElem hlt) hi).mono fun r M' q => ?_
    cases r with
    | none => exact compL_inv I hs h n (i + 1) acc M' (by omega) q
    | some x =>
      show Ok (if acc.length < sizeLine then compL s ds.length step n (i + 1) (acc ++ [x]) M' else .bad) _
      rw [if_pos q.1]
      exact compL_inv I hs h n (i + 1) (acc ++ [x]) M' (by omega) q.2
/-- a comprehension, its tests too, over what the turns leave as it is -/
theorem w_compI {own : List Nat} {elt : Ex} {tg : Tg} {it : It} {ifs : Exs} {P : TV → MH → Prop} (h : Ok (evI C it σ M) (fun s M => ∃ ds, ∃ I : Nat → List D → MH → Prop, (∀ i acc M, I i acc M → s.cur M = some ds) ∧ I 0 [] M ∧
    (∀ i d acc M, ds[i]? = some d → I i acc M → ∃ σ', putTg tg d (wipeS σ own) = some σ' ∧ Ok (evB C true ifs σ' M) (fun b M => (b = true → Ok (ev C elt σ' M) (fun x M => Mat x M fun y M => acc.length < sizeLine ∧ I (i + 1) (acc ++ [y]) M)) ∧ (b = false → I (i + 1) acc M))) ∧ ∀ acc M, I ds.length acc M → P (.lst acc) M)) :
    Ok (ev C (.comp own elt tg it ifs) σ M) P := by
  show Ok ((evI C it σ M).bnd fun s M => match s.cur M with
    | some ds => (compL s ds.length (fun d M => match putTg tg d (wipeS σ own) with
        | some σ => (evB C true ifs σ M).quiet.bnd fun b M => if b = true then (matR (ev C elt σ M)).quiet.bnd fun x M => .ok (some x) M else .ok none M
        | none => .bad) ds.length 0 [] M).bnd fun xs M => .ok (.lst xs) M
    | none => .bad) P
  rw [ok_bnd]
  refine h.mono fun s M1 q => ?_
  obtain ⟨ds, I, hs, h0, hi, he⟩ := q
  show Ok (match s.cur M1 with
    | some ds => (compL s ds.length _ ds.length 0 [] M1).bnd fun xs M => .ok (.lst xs) M
    | none => .bad) P
  rw [hs _ _ M1 h0]
  show Ok ((compL s ds.length _ ds.length 0 [] M1).bnd fun xs M => .ok (.lst xs) M) P
  rw [ok_bnd]
  refine (compL_inv I hs (fun i d acc M hd q => ?_) ds.length 0 [] M1 rfl h0).mono fun xs M q => he xs M q
  obtain ⟨σ', hp, hk⟩ := hi i d acc M hd q
  rw [hp]
  show Ok ((evB C true ifs σ' M).quiet.bnd fun b M => if b = true then (matR (ev C elt σ' M)).quiet.bnd fun x M => .ok (some x) M else .ok none M) _
  rw [ok_bnd, ok_quiet]
  refine hk.mono fun b M2 q2 => ?_
  cases b with
  | false => exact q2.2 rfl
  | true =>
    show Ok (if true = true then (matR (ev C elt σ' M2)).quiet.bnd fun x M => .ok (some x) M else .ok none M2) _
    rw [if_pos rfl, ok_bnd, ok_quiet, ok_mat]
    exact q2.1 rfl
theorem forL_inv {s : Src} {ds : List D} {tg : Tg} {body : Sg → MH → Res Fl} {P : Fl → MH → Prop} (I : Nat → Sg → MH → Prop) (hs : ∀ i σ M, I i σ M → s.cur M = some ds)
    (h : ∀ i d σ M, ds[i]? = some d → I i σ M → ∃ σ', putTg tg d σ = some σ' ∧ Ok (body σ' M) (fun f M => match f with
      | .nx σ => I (i + 1) σ M
      | .ct σ => I (i + 1) σ M
      | .bk σ => P (.nx σ) M
      | .rt d => P (.rt d) M)) (he : ∀ σ M, I ds.length σ M → P (.nx σ) M) : ∀ n i σ M, n + i = ds.length → I i σ M → Ok (forL s ds.length tg body n i σ M) P
  | 0, i, σ, M, hn, hi => by
    show Ok (match s.cur M with
      | some ds' => if ds'.length = ds.length then Res.ok (Fl.nx σ) M else .bad
      | none => .bad) _
    rw [hs _ _ M hi]
    show Ok (if ds.length = ds.length then Res.ok (Fl.nx σ) M else .bad) _
    rw [if_pos rfl]
    have e : i = ds.length := by omega
    rw [e] at hi
    exact he σ M hi
  | n + 1, i, σ, M, hn, hi => by
    have hlt : i < ds.length := by omega
    obtain ⟨σ', hp, hk⟩ := h i ds[i] σ M (List.getElem?_eq_getElem hlt) hi
    show Ok (match s.cur M with
      | some ds' => if ds'.length = ds.length then match ds'[i]? with
          | some d => match putTg tg d σ with
            | some σ => (body σ M).bnd fun f M => match f with
              | .nx σ => forL s ds.length tg body n (i + 1) σ M
              | .ct σ => forL s ds.length tg body n (i + 1) σ M
              | .bk σ => .ok (.nx σ) M
              | .rt d => .ok (.rt d) M
            | none => .bad
          | none => .bad
        else .bad
      | none => .bad) _
    rw [hs _ _ M hi]
    show Ok (if ds.length = ds.length then match ds[i]? with
          | some d => match putTg tg d σ with
            | some σ => (body σ M).bnd fun f M => match f with
              | .nx σ => forL s ds.length tg body n (i + 1) σ M
              | .ct σ => forL s ds.length tg body n (i + 1) σ M
              | .bk σ => .ok (.nx σ) M
              | .rt d => .ok (.rt d) M
            | none => .bad
          | none => .bad
        else .bad) _
    rw [if_pos rfl, List.getElem?_eq_getElem hlt]
    show Ok (match putTg tg ds[i] σ with
            | some σ => (body σ M).bnd fun f M => match f with
              | .nx σ => forL s ds.length tg body n (i + 1) σ M
              | .ct σ => forL s ds.length tg body n (i + 1) σ M
              | .bk σ => .ok (.nx σ) M
              | .rt d => .ok (.rt d) M
            | none => .bad) _
    rw [hp]
    show Ok ((body σ' M).bnd _) _
    rw [ok_bnd]
    refine hk.mono fun f M' q => ?_
    cases f with
    | nx σ1 => exact forL_inv I hs h he n (i + 1) σ1 M' (by omega) q
    | ct σ1 => exact forL_inv I hs h he n (i + 1) σ1 M' (by omega) q
    | bk σ1 => exact q
    | rt d => exact q
theorem w_forI {tg : Tg} {it : It} {B : Stms} {P : Fl → MH → Prop} (h : Ok (evI C it σ M) (fun s M => ∃ ds, ∃ I : Nat → Sg → MH → Prop, (∀ i σ M, I i σ M → s.cur M = some ds) ∧ I 0 σ M ∧
    (∀ i d σ M, ds[i]? = some d → I i σ M → ∃ σ', putTg tg d σ = some σ' ∧ Ok (exs C B σ' M) (fun f M => match f with
      | .nx σ => I (i + 1) σ M
      | .ct σ => I (i + 1) σ M
      | .bk σ => P (.nx σ) M
      | .rt d => P (.rt d) M)) ∧ ∀ σ M, I ds.length σ M → P (.nx σ) M)) : Ok (ex C (.for_ tg it B) σ M) P := by
  show Ok ((evI C it σ M).bnd fun s M => match s.cur M with
    | some ds => forL s ds.length tg (exs C B) ds.length 0 σ M
    | none => .bad) P
  rw [ok_bnd]
  refine h.mono fun s M1 q => ?_
  obtain ⟨ds, I, hs, h0, hi, he⟩ := q
  show Ok (match s.cur M1 with
    | some ds => forL s ds.length tg (exs C B) ds.length 0 σ M1
    | none => .bad) P
  rw [hs _ _ M1 h0]
  exact forL_inv I hs hi he ds.length 0 σ M1 rfl h0
theorem w_rng2 {a b : Ex} {P : Src → MH → Prop} (h : Ok (ev C a σ M) (fun x M => Ok (ev C b σ M) fun y M => IsI x fun i => IsI y fun j => (small i = true ∧ small j = true) ∧ P (.vals (rng i (j - i).toNat 1)) M)) : Ok (evI C (.rng2 a b) σ M) P := by
  show Ok ((ev C a σ M).bnd fun x M => (ev C b σ M).bnd fun y M => match x, y with
    | .d (.int i), .d (.int j) => if (small i && small j) = true then .ok (.vals (rng i (j - i).toNat 1)) M else .bad
    | _, _ => .bad) P
  rw [ok_bnd]
  refine h.mono fun x M q => ?_
  rw [ok_bnd]
  refine q.mono fun y M q => ?_
  obtain ⟨i, rfl, j, rfl, ⟨h1, h2⟩, q⟩ := q
  show Ok (if (small i && small j) = true then .ok (.vals (rng i (j - i).toNat 1)) M else .bad) P
  rw [h1, h2]
  exact q
theorem w_zip {a b : Ex} {P : Src → MH → Prop} (h : Ok (ev C a σ M) (fun x M => Ok (ev C b σ M) fun y M => isTup x = isTup y ∧ Op (srcOf M x) fun s => Op (srcOf M y) fun t => P (.zip s t) M)) : Ok (evI C (.zip a b) σ M) P := by
  show Ok ((ev C a σ M).bnd fun x M => (ev C b σ M).bnd fun y M => if (isTup x == isTup y) = true then match srcOf M x, srcOf M y with
      | some s, some t => .ok (.zip s t) M
      | _, _ => .bad
    else .bad) P
  rw [ok_bnd]
  refine h.mono fun x M q => ?_
  rw [ok_bnd]
  refine q.mono fun y M q => ?_
  obtain ⟨e, s, hs, t, ht, q⟩ := q
  rw [e, hs, ht, beq_self_eq_true]
  exact q
theorem o_isinr {is : List Int} {i : Int} {t : Nat} {P : Bool → Prop} (ht : M[t]? = some (.lst (is.map .int))) (h : ∀ b, P b) : Op (cmpop M .isin (.d (.int i)) (.d (.ref t))) P := by
  refine ⟨(is.map PyData.int).any fun z => PyData.eqv z (.int i), ?_, h _⟩
  show (match some (PyData.int i), pd M 40 (.ref t) with
    | some a, some b => (memOf b).map fun (bs : List PyData) => bs.any fun z => PyData.eqv z a
    | _, _ => none) = _
  have e : pd M 40 (.ref t) = (pdAll (pd M 39) (is.map .int)).map PyData.list := by
    have r : rd M t = some (is.map .int) := by
      unfold rd
      rw [ht]
      rfl
    show (match rd M t with
      | some ds => (pdAll (pd M 39) ds).map PyData.list
      | none => none) = _
    rw [r]
  rw [e, pdAll_ints (fun i => rfl)]
  rfl
end
end Ev

set_option maxRecDepth 100000
set_option maxHeartbeats 2000000
/-! further rules for reckonings -/
namespace Ev
open PySem
/-- a def of the table -/
class Has (fs : Nat → Option Fn) (i : Nat) (fn : outParam Fn) : Prop where
  h : fs i = some fn
section
variable {α : Type} {C : Nat → List D → MH → Res D} {σ : Sg} {M : MH}
theorem w_fn {fs : Nat → Option Fn} {n i : Nat} {fn : Fn} [g : Has fs i fn] {ds : List D} {P : D → MH → Prop} (hl : ds.length = fn.ps.length)
    (h : Ok (exs (run fs n) fn.body (ds.map some ++ List.replicate (fn.ns.length - ds.length) none) M) (Ends P)) : Ok (run fs (n + 1) i ds M) P := w_run g.h hl h
/-! choices whose way is known -/
theorem br_t {k : Bool} {p q : Prop} (e : k = true) (h : p) : Br k p q := ⟨fun _ => h, fun z => absurd (e.symm.trans z) (by decide)⟩
theorem br_f {k : Bool} {p q : Prop} (e : k = false) (h : q) : Br k p q := ⟨fun z => absurd (e.symm.trans z) (by decide), fun _ => h⟩
theorem br_tt {p q : Prop} (h : p) : Br true p q := br_t rfl h
theorem br_ff {p q : Prop} (h : q) : Br false p q := br_f rfl h
theorem br_nt {k : Bool} {p q : Prop} (h : Br k q p) : Br (!k) p q := by
  cases k with
  | true => exact ⟨fun z => (nomatch z), fun _ => h.1 rfl⟩
  | false => exact ⟨fun _ => h.2 rfl, fun z => (nomatch z)⟩
theorem br_isiT {t : Ity} {x : TV} {p q : Prop} (e : isop t x = true) (h : p) : Br (isop t x) p q := br_t e h
theorem br_isiF {t : Ity} {x : TV} {p q : Prop} (e : isop t x = false) (h : q) : Br (isop t x) p q := br_f e h
theorem br_strT {a b : Str} {p q : Prop} (e : (a == b) = true) (h : p) : Br (a == b) p q := br_t e h
theorem br_strF {a b : Str} {p q : Prop} (e : (a == b) = false) (h : q) : Br (a == b) p q := br_f e h
theorem br_anyT {ss : List Str} {f : Str → Bool} {p q : Prop} (e : ss.any f = true) (h : p) : Br (ss.any f) p q := br_t e h
theorem br_anyF {ss : List Str} {f : Str → Bool} {p q : Prop} (e : ss.any f = false) (h : q) : Br (ss.any f) p q := br_f e h
/-- both ways come to one value -/
theorem br_same {k : Bool} {p q r : Prop} (h1 : r → p) (h2 : r → q) (h : r) : Br k p q := ⟨fun _ => h1 h, fun _ => h2 h⟩
/-! and, or -/
theorem w_evBo {e : Ex} {es : Exs} {P : Bool → MH → Prop} (h : Ok (ev C e σ M) (fun x M => IsB x fun b => Br b (P true M) (Ok (evB C false es σ M) P))) : Ok (evB C false (.cons e es) σ M) P :=
  w_evB (h.mono fun _ _ ⟨b, hb, q⟩ => ⟨b, hb, fun z => q.2 z, fun z => q.1 z⟩)
theorem w_evBa {e : Ex} {es : Exs} {P : Bool → MH → Prop} (h : Ok (ev C e σ M) (fun x M => IsB x fun b => Br b (Ok (evB C true es σ M) P) (P false M))) : Ok (evB C true (.cons e es) σ M) P :=
  w_evB (h.mono fun _ _ ⟨b, hb, q⟩ => ⟨b, hb, fun z => q.1 z, fun z => q.2 z⟩)
/-! calls by place -/
theorem w_call1 {f : Nat} {e1 : Ex} {P : TV → MH → Prop} (h : Ok (ev C e1 σ M) fun x M => Mat x M fun a M => Ok (C f [a] M) fun d M => P (.d d) M) : Ok (ev C (.call f (.cons e1 .nil) [0]) σ M) P :=
  w_call (w_evs (h.mono fun _ _ q => w_evs0 q))
theorem w_call2 {f : Nat} {e1 e2 : Ex} {P : TV → MH → Prop} (h : Ok (ev C e1 σ M) fun x M => Mat x M fun a M => Ok (ev C e2 σ M) fun x M => Mat x M fun b M => Ok (C f [a, b] M) fun d M => P (.d d) M) : Ok (ev C (.call f (.cons e1 (.cons e2 .nil)) [0, 1]) σ M) P :=
  w_call (w_evs (h.mono fun _ _ q => w_evs (Ok.mono q fun _ _ q => w_evs0 q)))
theorem w_call3 {f : Nat} {e1 e2 e3 : Ex} {P : TV → MH → Prop} (h : Ok (ev C e1 σ M) fun x M => Mat x M fun a M => Ok (ev C e2 σ M) fun x M => Mat x M fun b M => Ok (ev C e3 σ M) fun x M => Mat x M fun c M => Ok (C f [a, b, c] M) fun d M => P (.d d) M) :
    Ok (ev C (.call f (.cons e1 (.cons e2 (.cons e3 .nil))) [0, 1, 2]) σ M) P :=
  w_call (w_evs (h.mono fun _ _ q => w_evs (Ok.mono q fun _ _ q => w_evs (Ok.mono q fun _ _ q => w_evs0 q))))
theorem w_call4 {f : Nat} {e1 e2 e3 e4 : Ex} {P : TV → MH → Prop} (h : Ok (ev C e1 σ M) fun x M => Mat x M fun a M => Ok (ev C e2 σ M) fun x M => Mat x M fun b M => Ok (ev C e3 σ M) fun x M => Mat x M fun c M => Ok (ev C e4 σ M) fun x M => Mat x M fun d M => Ok (C f [a, b, c, d] M) fun d M => P (.d d) M) :
    Ok (ev C (.call f (.cons e1 (.cons e2 (.cons e3 (.cons e4 .nil)))) [0, 1, 2, 3]) σ M) P :=
  w_call (w_evs (h.mono fun _ _ q => w_evs (Ok.mono q fun _ _ q => w_evs (Ok.mono q fun _ _ q => w_evs (Ok.mono q fun _ _ q => w_evs0 q)))))
/-! terms of one part, of two -/
theorem w_x1 {o : Op1} {a : Ex} {P : TV → MH → Prop} (h : Ok (ev C a σ M) (fun x M => Op (op1 M o x) fun z => P z M)) : Ok (ev C (.x1 o a) σ M) P := by
  show Ok ((ev C a σ M).bnd fun x M => opt (op1 M o x) M) P
  rw [ok_bnd]
  refine h.mono fun x M q => ?_
  rw [ok_opt]
  exact q
theorem w_x2 {o : Op2} {a b : Ex} {P : TV → MH → Prop} (h : Ok (ev C a σ M) (fun x M => Ok (ev C b σ M) fun y M => Op (op2 M o x y) fun z => P z M)) : Ok (ev C (.x2 o a b) σ M) P := by
  show Ok ((ev C a σ M).bnd fun x M => (ev C b σ M).bnd fun y M => opt (op2 M o x y) M) P
  rw [ok_bnd]
  refine h.mono fun x M q => ?_
  rw [ok_bnd]
  refine q.mono fun y M q => ?_
  rw [ok_opt]
  exact q
theorem o_isi {t : Ity} {x : TV} {P : TV → Prop} (h : P (.d (.bl (isop t x)))) : Op (op1 M (.isi t) x) P := op_some h
theorem w_chain {o o2 : Cop} {a b c : Ex} {P : TV → MH → Prop} (h : Ok (ev C a σ M) fun x M => Ok (ev C b σ M) fun y M => Op (cmpop M o x y) fun k => Br k (Ok (ev C c σ M) fun z M => Op (cmpop M o2 y z) fun b => P (.d (.bl b)) M) (P (.d (.bl false)) M)) :
    Ok (ev C (.chain o o2 a b c) σ M) P := by
  show Ok ((ev C a σ M).bnd fun x M => (ev C b σ M).bnd fun y M => (opt (cmpop M o x y) M).bnd fun k M =>
    if k = true then (ev C c σ M).bnd fun z M => (opt (cmpop M o2 y z) M).bnd fun b M => .ok (.d (.bl b)) M else .ok (.d (.bl false)) M) P
  rw [ok_bnd]
  refine h.mono fun x M q => ?_
  rw [ok_bnd]
  refine q.mono fun y M q => ?_
  rw [ok_bnd, ok_opt]
  obtain ⟨k, hk, q⟩ := q
  refine ⟨k, hk, ?_⟩
  cases k with
  | false => exact q.2 rfl
  | true =>
    show Ok ((ev C c σ M).bnd fun z M => (opt (cmpop M o2 y z) M).bnd fun b M => .ok (.d (.bl b)) M) P
    rw [ok_bnd]
    refine (q.1 rfl).mono fun z M q => ?_
    rw [ok_bnd, ok_opt]
    exact q
/-! comparisons -/
theorem o_lei {i j : Int} {P : Bool → Prop} (h : P (decide (i ≤ j))) : Op (cmpop M .le (.d (.int i)) (.d (.int j))) P := o_le (by
  have e : (!decide (j < i)) = decide (i ≤ j) := by by_cases z : j < i <;> simp [z] <;> omega
  rw [e]
  exact h)
theorem o_gei {i j : Int} {P : Bool → Prop} (h : P (decide (j ≤ i))) : Op (cmpop M .ge (.d (.int i)) (.d (.int j))) P := o_ge (by
  have e : (!decide (i < j)) = decide (j ≤ i) := by by_cases z : i < j <;> simp [z] <;> omega
  rw [e]
  exact h)
theorem o_nei {i j : Int} {P : Bool → Prop} (h : P (!decide (i = j))) : Op (cmpop M .ne (.d (.int i)) (.d (.int j))) P := ⟨_, by
  show some (!PyData.eqv (.int i) (.int j)) = some (!decide (i = j))
  congr 2, h⟩
theorem o_nes {a b : Str} {P : Bool → Prop} (h : P (!(a == b))) : Op (cmpop M .ne (.d (.str a)) (.d (.str b))) P := op_some h
theorem o_eqs {a b : Str} {P : Bool → Prop} (h : P (a == b)) : Op (cmpop M .eq (.d (.str a)) (.d (.str b))) P := op_some h
theorem pdAll_strs {f : D → Option PyData} (hf : ∀ i, f (.str i) = some (.str i)) : ∀ {ds : List D} {ss : List Str}, strsOf ds = some ss → pdAll f ds = some (ss.map .str)
  | [], _, h => by cases h; rfl
  | .str s :: r, ss, h => by
    obtain ⟨l, hl, rfl⟩ := Option.map_eq_some_iff.mp (show (strsOf r).map (s :: ·) = some ss from h)
    show (match f (.str s), pdAll f r with
      | some x, some xs => some (x :: xs)
      | _, _ => none) = _
    rw [hf, pdAll_strs hf hl]
    rfl
  | .non :: _, _, h => by cases h
  | .bl _ :: _, _, h => by cases h
  | .int _ :: _, _, h => by cases h
  | .tup _ :: _, _, h => by cases h
  | .scr _ :: _, _, h => by cases h
  | .ref _ :: _, _, h => by cases h
theorem any_strs (s : Str) (ss : List Str) : ((ss.map PyData.str).any fun z => PyData.eqv z (.str s)) = ss.any (· == s) := by
  rw [List.any_map]
  rfl
/-- s in ("..", ..) -/
theorem o_ins {s : Str} {ds : List D} {ss : List Str} {P : Bool → Prop} (e : strsOf ds = some ss) (h : P (ss.any (· == s))) : Op (cmpop M .isin (.d (.str s)) (.d (.tup ds))) P := by
  refine ⟨_, ?_, h⟩
  show (match some (PyData.str s), (pdAll (pd M 39) ds).map PyData.tuple with
    | some a, some b => (memOf b).map fun (bs : List PyData) => bs.any fun z => PyData.eqv z a
    | _, _ => none) = _
  rw [pdAll_strs (fun _ => rfl) e]
  show some ((ss.map PyData.str).any fun z => PyData.eqv z (.str s)) = _
  rw [any_strs]
theorem o_nins {s : Str} {ds : List D} {ss : List Str} {P : Bool → Prop} (e : strsOf ds = some ss) (h : P (!ss.any (· == s))) : Op (cmpop M .notin (.d (.str s)) (.d (.tup ds))) P := by
  refine ⟨_, ?_, h⟩
  show (match some (PyData.str s), (pdAll (pd M 39) ds).map PyData.tuple with
    | some a, some b => (memOf b).map fun (bs : List PyData) => !bs.any fun z => PyData.eqv z a
    | _, _ => none) = _
  rw [pdAll_strs (fun _ => rfl) e]
  show some (!(ss.map PyData.str).any fun z => PyData.eqv z (.str s)) = _
  rw [any_strs]
theorem any_ints (i : Int) (is : List Int) : ((is.map PyData.int).any fun z => PyData.eqv z (.int i)) = decide (i ∈ is) := by
  rw [List.any_map]
  induction is with
  | nil => rfl
  | cons a r ih =>
    rw [List.any_cons, ih]
    show ((a == i) || decide (i ∈ r)) = decide (i ∈ a :: r)
    by_cases z : a = i
    · subst z; simp
    · have z' : ¬ i = a := fun e => z e.symm
      simp [z, z']
/-- i in (1, ..) -/
theorem o_ini {i : Int} {ds : List D} {is : List Int} {P : Bool → Prop} (e : ds = is.map .int) (h : P (decide (i ∈ is))) : Op (cmpop M .isin (.d (.int i)) (.d (.tup ds))) P := by
  subst e
  refine ⟨_, ?_, h⟩
  show (match some (PyData.int i), (pdAll (pd M 39) (is.map .int)).map PyData.tuple with
    | some a, some b => (memOf b).map fun (bs : List PyData) => bs.any fun z => PyData.eqv z a
    | _, _ => none) = _
  rw [pdAll_ints fun _ => rfl]
  show some ((is.map PyData.int).any fun z => PyData.eqv z (.int i)) = _
  rw [any_ints]
theorem o_nini {i : Int} {ds : List D} {is : List Int} {P : Bool → Prop} (e : ds = is.map .int) (h : P (!decide (i ∈ is))) : Op (cmpop M .notin (.d (.int i)) (.d (.tup ds))) P := by
  subst e
  refine ⟨_, ?_, h⟩
  show (match some (PyData.int i), (pdAll (pd M 39) (is.map .int)).map PyData.tuple with
    | some a, some b => (memOf b).map fun (bs : List PyData) => !bs.any fun z => PyData.eqv z a
    | _, _ => none) = _
  rw [pdAll_ints fun _ => rfl]
  show some (!(is.map PyData.int).any fun z => PyData.eqv z (.int i)) = _
  rw [any_ints]
/-- i in [..] -/
theorem o_inil {i : Int} {ds : List D} {is : List Int} {P : Bool → Prop} (e : ds = is.map .int) (h : P (decide (i ∈ is))) : Op (cmpop M .isin (.d (.int i)) (.lst ds)) P := by
  subst e
  refine ⟨_, ?_, h⟩
  show (match some (PyData.int i), (pdAll (pd M 39) (is.map .int)).map PyData.list with
    | some a, some b => (memOf b).map fun (bs : List PyData) => bs.any fun z => PyData.eqv z a
    | _, _ => none) = _
  rw [pdAll_ints fun _ => rfl]
  show some ((is.map PyData.int).any fun z => PyData.eqv z (.int i)) = _
  rw [any_ints]
/-! methods -/
theorem w_mt {m : Mth} {o : Ex} {es : Exs} {P : TV → MH → Prop} (hm : m ≠ .join) (h : Ok (ev C o σ M) fun x M => recvOk m x = true ∧ Ok (evs C es σ M) fun ds M => Op (mtop M m x ds) fun r => P r.1 r.2) : Ok (ev C (.mt m o es) σ M) P := by
  have e : ev C (.mt m o es) σ M = ((ev C o σ M).bnd fun x M => if recvOk m x = true then (evs C es σ M).bnd fun ds M => match mtop M m x ds with
        | some (r, M) => .ok r M
        | none => .bad
    else .bad) := by cases m <;> first | rfl | exact absurd rfl hm
  rw [e, ok_bnd]
  refine h.mono fun x M q => ?_
  rw [if_pos q.1, ok_bnd]
  refine q.2.mono fun ds M q => ?_
  obtain ⟨r, hr, q⟩ := q
  rw [hr]
  exact q
theorem o_pop {p : Nat} {ds : List D} {d : D} {P : TV × MH → Prop} (hp : M[p]? = some (.lst (ds ++ [d]))) (h : P (.d d, M.set p (.lst ds))) : Op (mtop M .pop (.d (.ref p)) []) P := by
  refine ⟨_, ?_, h⟩
  show (match M[p]? with
    | some (.lst ds) => match ds[ds.length - 1]? with
      | some d => some (TV.d d, M.set p (.lst ds.dropLast))
      | none => none
    | _ => none) = _
  rw [hp]
  show (match (ds ++ [d])[(ds ++ [d]).length - 1]? with
      | some d' => some (TV.d d', M.set p (.lst (ds ++ [d]).dropLast))
      | none => none) = _
  have e : (ds ++ [d])[(ds ++ [d]).length - 1]? = some d := by simp
  rw [e]
  show some (TV.d d, M.set p (.lst (ds ++ [d]).dropLast)) = _
  rw [List.dropLast_concat]
theorem o_ext {p q : Nat} {ds es : List D} {P : TV × MH → Prop} (hp : M[p]? = some (.lst ds)) (hq : M[q]? = some (.lst es)) (hne : p ≠ q) (hl : ds.length + es.length ≤ sizeLine) (h : P (.d .non, M.set p (.lst (ds ++ es)))) : Op (mtop M .extend (.d (.ref p)) [.ref q]) P := by
  refine ⟨_, ?_, h⟩
  show (match M[p]?, rd M q with
    | some (.lst ds), some es => guard' (decide (ds.length + es.length ≤ sizeLine) && decide (p ≠ q)) (TV.d .non, M.set p (.lst (ds ++ es)))
    | _, _ => none) = _
  have e : rd M q = some es := by
    unfold rd
    rw [hq]
    rfl
  rw [hp, e]
  show guard' _ _ = _
  unfold guard'
  rw [decide_eq_true hl, decide_eq_true hne]
  rfl
/-! statements -/
theorem w_augA {i : Nat} {e : Ex} {a : Int} {P : Fl → MH → Prop} (hi : σ[i]? = some (some (.int a))) (h : Ok (ev C e σ M) fun x M => IsI x fun j => P (.nx (σ.set i (some (.int (a + j))))) M) : Ok (ex C (.aug i .add e) σ M) P := by
  show Ok (match σ[i]? with
    | some (some (.int a)) => (ev C e σ M).bnd fun x M => match Bop.add, x with
      | .add, .d (.int j) => Res.ok (Fl.nx (σ.set i (some (.int (a + j))))) M
      | .sub, .d (.int j) => .ok (.nx (σ.set i (some (.int (a - j))))) M
      | _, _ => .bad
    | _ => .bad) P
  rw [hi]
  show Ok ((ev C e σ M).bnd fun x M => match Bop.add, x with
      | .add, .d (.int j) => Res.ok (Fl.nx (σ.set i (some (.int (a + j))))) M
      | .sub, .d (.int j) => .ok (.nx (σ.set i (some (.int (a - j))))) M
      | _, _ => .bad) P
  rw [ok_bnd]
  refine h.mono fun x M q => ?_
  obtain ⟨j, rfl, q⟩ := q
  exact q
/-- while, by an invariant and a measure -/
theorem w_whl {k : Nat} {c : Ex} {B : Stms} {P : Fl → MH → Prop} (I : Nat → Sg → MH → Prop) (m0 : Nat) (hm : m0 < k) (h0 : I m0 σ M)
    (h : ∀ m σ M, I m σ M → Ok (ev C c σ M) fun x M => IsB x fun b => Br b (Ok (exs C B σ M) fun f M => match f with
      | .nx σ => ∃ m', m' < m ∧ I m' σ M
      | .ct σ => ∃ m', m' < m ∧ I m' σ M
      | .bk σ => P (.nx σ) M
      | .rt d => P (.rt d) M) (P (.nx σ) M)) : Ok (ex C (.whl k c B) σ M) P := by
  show Ok (whlL (fun σ M => tBl (ev C c σ M)) (exs C B) k σ M) P
  have go : ∀ k m σ M, m < k → I m σ M → Ok (whlL (fun σ M => tBl (ev C c σ M)) (exs C B) k σ M) P := by
    intro k
    induction k with
    | zero => intro m σ M hm; omega
    | succ k ih =>
      intro m σ M hm hi
      show Ok ((tBl (ev C c σ M)).bnd fun b M => if b = true then (exs C B σ M).bnd fun f M => match f with
        | .nx σ => whlL (fun σ M => tBl (ev C c σ M)) (exs C B) k σ M
        | .ct σ => whlL (fun σ M => tBl (ev C c σ M)) (exs C B) k σ M
        | .bk σ => .ok (.nx σ) M
        | .rt d => .ok (.rt d) M
      else .ok (.nx σ) M) P
      rw [ok_bnd, ok_tBl]
      refine (h m σ M hi).mono fun x M q => ?_
      obtain ⟨b, rfl, q⟩ := q
      refine ⟨b, rfl, ?_⟩
      cases b with
      | false => exact q.2 rfl
      | true =>
        show Ok ((exs C B σ M).bnd fun f M => match f with
          | .nx σ => whlL (fun σ M => tBl (ev C c σ M)) (exs C B) k σ M
          | .ct σ => whlL (fun σ M => tBl (ev C c σ M)) (exs C B) k σ M
          | .bk σ => .ok (.nx σ) M
          | .rt d => .ok (.rt d) M) P
        rw [ok_bnd]
        refine (q.1 rfl).mono fun f M q => ?_
        cases f with
        | nx σ => obtain ⟨m', h1, h2⟩ := q; exact ih m' σ M (by omega) h2
        | ct σ => obtain ⟨m', h1, h2⟩ := q; exact ih m' σ M (by omega) h2
        | bk σ => exact q
        | rt d => exact q
  exact go k m0 σ M hm h0
/-! comprehensions that leave the store -/
theorem w_compP {own : List Nat} {elt : Ex} {tg : Tg} {it : It} {ifs : Exs} {P : TV → MH → Prop} {ds : List D} (p : D → Bool) (g : D → D) (hit : Ok (evI C it σ M) fun s M' => M = M' ∧ s.cur M = some ds) (hl : ds.length ≤ sizeLine)
    (h : ∀ d ∈ ds, ∃ σ', putTg tg d (wipeS σ own) = some σ' ∧ Ok (evB C true ifs σ' M) fun b M' => M = M' ∧ b = p d ∧ (p d = true → Ok (ev C elt σ' M) fun x M' => x = .d (g d) ∧ M = M')) (k : P (.lst ((ds.filter p).map g)) M) :
    Ok (ev C (.comp own elt tg it ifs) σ M) P := by
  refine w_compI (hit.mono ?_)
  rintro s _ ⟨rfl, hs⟩
  refine ⟨ds, fun i acc M' => M = M' ∧ acc = ((ds.take i).filter p).map g, ?_, ⟨rfl, by simp⟩, ?_, ?_⟩
  · rintro i acc _ ⟨rfl, _⟩
    exact hs
  · rintro i d acc _ hd ⟨rfl, rfl⟩
    have hi := (List.getElem?_eq_some_iff.mp hd).1
    obtain ⟨σ', h1, h2⟩ := h d (List.mem_of_getElem? hd)
    refine ⟨σ', h1, h2.mono ?_⟩
    rintro b _ ⟨rfl, rfl, h3⟩
    have e : (ds.take (i + 1)).filter p = (ds.take i).filter p ++ (if p d = true then [d] else []) := by
      rw [List.take_add_one, hd, List.filter_append]
      congr 1
      show List.filter p [d] = _
      by_cases z : p d = true
      · rw [if_pos z]; simp [z]
      · rw [if_neg z]; simp [z]
    refine ⟨fun z => ?_, fun z => ?_⟩
    · refine (h3 z).mono ?_
      rintro _ _ ⟨rfl, rfl⟩
      refine m_d ⟨?_, rfl, ?_⟩
      · have : ((List.take i ds).filter p).length ≤ (List.take i ds).length := List.length_filter_le _ _
        rw [List.length_map]
        rw [List.length_take] at this
        omega
      · rw [e, if_pos z, List.map_append]
        rfl
    · refine ⟨rfl, ?_⟩
      rw [e, if_neg (by rw [z]; decide), List.append_nil]
  · rintro acc _ ⟨rfl, rfl⟩
    rw [List.take_length]
    exact k
/-- without tests -/
theorem w_compG {own : List Nat} {elt : Ex} {tg : Tg} {it : It} {P : TV → MH → Prop} {ds : List D} (g : D → D) (hit : Ok (evI C it σ M) fun s M' => M = M' ∧ s.cur M = some ds) (hl : ds.length ≤ sizeLine)
    (h : ∀ d ∈ ds, ∃ σ', putTg tg d (wipeS σ own) = some σ' ∧ Ok (ev C elt σ' M) fun x M' => x = .d (g d) ∧ M = M') (k : P (.lst (ds.map g)) M) :
    Ok (ev C (.comp own elt tg it .nil) σ M) P := by
  refine w_compP (fun _ => true) g hit hl (fun d hd => ?_) ?_
  · obtain ⟨σ', h1, h2⟩ := h d hd
    exact ⟨σ', h1, w_evB0 ⟨rfl, rfl, fun _ => h2⟩⟩
  · rw [List.filter_eq_self.mpr fun _ _ => rfl]
    exact k
theorem blsOf_map {g : D → Bool} : ∀ ds : List D, blsOf (ds.map fun d => .bl (g d)) = some (ds.map g)
  | [] => rfl
  | d :: ds => by
    show (blsOf (ds.map fun d => .bl (g d))).map (g d :: ·) = _
    rw [blsOf_map ds]
    rfl
theorem b_all {ds : List D} {g : D → Bool} {P : TV → Prop} (h : P (.d (.bl (ds.all g)))) : Op (bfop M .all [.lst (ds.map fun d => .bl (g d))]) P := by
  refine ⟨_, ?_, h⟩
  show (blsOf (ds.map fun d => D.bl (g d))).map (fun bs => TV.d (.bl (bs.all id))) = _
  rw [blsOf_map, List.all_eq]
  show some (TV.d (.bl ((ds.map g).all id))) = _
  rw [List.all_map]
  congr 3
  rw [← List.all_eq]
  rfl
theorem b_any {ds : List D} {g : D → Bool} {P : TV → Prop} (h : P (.d (.bl (ds.any g)))) : Op (bfop M .any [.lst (ds.map fun d => .bl (g d))]) P := by
  refine ⟨_, ?_, h⟩
  show (blsOf (ds.map fun d => D.bl (g d))).map (fun bs => TV.d (.bl (bs.any id))) = _
  rw [blsOf_map]
  show some (TV.d (.bl ((ds.map g).any id))) = _
  rw [List.any_map]
  rfl
/-- all([t for x in xs]) -/
theorem w_all {own : List Nat} {elt : Ex} {tg : Tg} {it : It} {P : TV → MH → Prop} {ds : List D} (g : D → Bool) (hit : Ok (evI C it σ M) fun s M' => M = M' ∧ s.cur M = some ds) (hl : ds.length ≤ sizeLine)
    (h : ∀ d ∈ ds, ∃ σ', putTg tg d (wipeS σ own) = some σ' ∧ Ok (ev C elt σ' M) fun x M' => x = .d (.bl (g d)) ∧ M = M') (k : P (.d (.bl (ds.all g))) M) :
    Ok (ev C (.bf .all (.cons (.comp own elt tg it .nil) .nil)) σ M) P :=
  w_bf (w_evT (w_compG (fun d => .bl (g d)) hit hl h (w_evT0 (b_all k))))
theorem w_any {own : List Nat} {elt : Ex} {tg : Tg} {it : It} {P : TV → MH → Prop} {ds : List D} (g : D → Bool) (hit : Ok (evI C it σ M) fun s M' => M = M' ∧ s.cur M = some ds) (hl : ds.length ≤ sizeLine)
    (h : ∀ d ∈ ds, ∃ σ', putTg tg d (wipeS σ own) = some σ' ∧ Ok (ev C elt σ' M) fun x M' => x = .d (.bl (g d)) ∧ M = M') (k : P (.d (.bl (ds.any g))) M) :
    Ok (ev C (.bf .any (.cons (.comp own elt tg it .nil) .nil)) σ M) P :=
  w_bf (w_evT (w_compG (fun d => .bl (g d)) hit hl h (w_evT0 (b_any k))))
/-- an if whose way out is a return, or is never taken -/
theorem w_if1 {c e : Ex} {P : Fl → MH → Prop} (h : Ok (ev C c σ M) (fun x M => IsB x fun k => Br k (Ok (ev C e σ M) (fun x M => Mat x M fun d M => P (.rt d) M)) (P (.nx σ) M))) : Ok (ex C (.iff c (.cons (.ret e) .nil) .nil) σ M) P :=
  w_iff (h.mono fun _ _ ⟨k, hk, q⟩ => ⟨k, hk, fun z => w_exs (w_ret ((q.1 z).mono fun _ _ q => q)), fun z => w_exs0 (q.2 z)⟩)
theorem w_if2 {c : Ex} {P : Fl → MH → Prop} (h : Ok (ev C c σ M) (fun x M => x = .d (.bl false) ∧ P (.nx σ) M)) : Ok (ex C (.iff c (.cons .stop .nil) .nil) σ M) P :=
  w_iff (h.mono fun _ _ ⟨hx, q⟩ => ⟨false, hx, fun z => (nomatch z), fun _ => w_exs0 q⟩)
/-- a name for the place: all([..]) -/
theorem w_all0 {own : List Nat} {elt : Ex} {tg : Tg} {it : It} {P : TV → MH → Prop} (h : ∃ ds, ∃ g : D → Bool, Ok (evI C it σ M) (fun s M' => M = M' ∧ s.cur M = some ds) ∧ ds.length ≤ sizeLine ∧
    (∀ d ∈ ds, ∃ σ', putTg tg d (wipeS σ own) = some σ' ∧ Ok (ev C elt σ' M) fun x M' => x = .d (.bl (g d)) ∧ M = M') ∧ P (.d (.bl (ds.all g))) M) :
    Ok (ev C (.bf .all (.cons (.comp own elt tg it .nil) .nil)) σ M) P := by
  obtain ⟨ds, g, h1, h2, h3, h4⟩ := h
  exact w_all g h1 h2 h3 h4
/-! what is walked, the store as it is -/
theorem s_tup {ds : List D} : Op (srcOf M (.d (.tup ds))) fun s => M = M ∧ s.cur M = some ds := op_some ⟨rfl, rfl⟩
theorem s_lst {ds : List D} : Op (srcOf M (.lst ds)) fun s => M = M ∧ s.cur M = some ds := op_some ⟨rfl, rfl⟩
theorem s_ref {p : Nat} {ds : List D} (hp : M[p]? = some (.lst ds)) : Op (srcOf M (.d (.ref p))) fun s => M = M ∧ s.cur M = some ds := by
  have e : rd M p = some ds := by
    unfold rd
    rw [hp]
    rfl
  refine ⟨.live p, ?_, rfl, e⟩
  show (rd M p).map _ = _
  rw [e]
  rfl
end
/-! what kind of goal it is -/
theorem g_exs {ss : Stms} {P : Fl → MH → Prop} (h : Ok (exs C ss σ M) P) : Ok (exs C ss σ M) P := h
theorem g_ex {s : Stm} {P : Fl → MH → Prop} (h : Ok (ex C s σ M) P) : Ok (ex C s σ M) P := h
theorem g_ev {e : Ex} {P : TV → MH → Prop} (h : Ok (ev C e σ M) P) : Ok (ev C e σ M) P := h
theorem g_evI {e : It} {P : Src → MH → Prop} (h : Ok (evI C e σ M) P) : Ok (evI C e σ M) P := h
theorem g_evs {e : Exs} {P : List D → MH → Prop} (h : Ok (evs C e σ M) P) : Ok (evs C e σ M) P := h
theorem g_evT {e : Exs} {P : List TV → MH → Prop} (h : Ok (evT C e σ M) P) : Ok (evT C e σ M) P := h
theorem g_evB {a : Bool} {e : Exs} {P : Bool → MH → Prop} (h : Ok (evB C a e σ M) P) : Ok (evB C a e σ M) P := h
theorem g_evO {e : Ox} {P : Option Int → MH → Prop} (h : Ok (evO C e σ M) P) : Ok (evO C e σ M) P := h
theorem g_evF {e : Fps} {acc : Str} {P : Str → MH → Prop} (h : Ok (evF C e acc σ M) P) : Ok (evF C e acc σ M) P := h
theorem g_op {α : Type} {o : Option α} {P : α → Prop} (h : Op o P) : Op o P := h
theorem g_br {k : Bool} {p q : Prop} (h : Br k p q) : Br k p q := h
end Ev

set_option maxRecDepth 100000
set_option maxHeartbeats 2000000
namespace Ev
open PySem
variable {fs : Nat → Option Fn} 
/-! ### the pot of draws -/
/-- the pot at p: its counter is at most k -/
def Pot (M : MH) (p k : Nat) : Prop := ∃ a b c : Int, M[p]? = some (.lst [.int a, .int b, .int c]) ∧ 0 ≤ b ∧ b < 10 ^ 30 ∧ 0 ≤ c ∧ c ≤ k
/-- the store has grown; but for p it is as it was -/
structure Later (p : Nat) (M M' : MH) : Prop where
  len : M.length ≤ M'.length
  at_ : ∀ q, q < M.length → q ≠ p → M'[q]? = M[q]?
theorem Later.refl {p : Nat} {M : MH} : Later p M M := ⟨Nat.le_refl _, fun _ _ _ => rfl⟩
theorem Later.trans {p : Nat} {M M1 M2 : MH} (a : Later p M M1) (b : Later p M1 M2) : Later p M M2 := ⟨Nat.le_trans a.len b.len, fun q h n => (b.at_ q (Nat.lt_of_lt_of_le h a.len) n).trans (a.at_ q h n)⟩
theorem Later.set {p : Nat} {M : MH} {o : MO} : Later p M (M.set p o) := ⟨by simp, fun q _ n => List.getElem?_set_ne (Ne.symm n)⟩
theorem Pot.mono {M : MH} {p k k' : Nat} (h : Pot M p k) (l : k ≤ k') : Pot M p k' := by
  obtain ⟨a, b, c, h1, h2, h3, h4, h5⟩ := h
  exact ⟨a, b, c, h1, h2, h3, h4, by omega⟩
local macro_rules
  | `(tactic| trivial) => `(tactic| repeat with_reducible first
    | refine w_exs ?_ | refine w_nx ?_ | refine w_rt ?_ | refine w_end ?_ | refine w_exs0 ?_
    | refine w_set ?_ | refine w_ret ?_ | refine w_iff ?_ | refine w_put ?_ | refine w_par ?_ | refine w_unp ?_ | refine w_expr ?_
    | refine w_bin ?_ | refine w_lit ?_ | refine w_var (by with_unfolding_all rfl) ?_ | refine w_call ?_ | refine w_ix ?_ | refine w_bf ?_ | refine w_tup ?_ | refine w_lst ?_
    | refine w_cmp ?_ | refine w_ite ?_ | refine w_bop ?_ | refine w_nt ?_ | refine w_neg ?_ | refine w_slc ?_ | refine w_rev ?_ | refine w_join ?_ | refine w_append ?_ | refine w_count ?_ | refine w_fst ?_ | refine w_cst ?_
    | refine w_evs ?_ | refine w_evs0 ?_ | refine w_evT ?_ | refine w_evT0 ?_ | refine w_evB ?_ | refine w_evB0 ?_ | refine w_evO ?_ | refine w_evO0 ?_ | refine w_evF0 ?_ | refine w_txt ?_ ?_ | refine w_val ?_
    | refine m_d ?_ | refine m_l ?_ | refine isI ?_ | refine isB ?_
    | refine b_int ?_ | refine o_add ?_ | refine o_sub ?_ | refine o_eq ?_ | refine o_gt ?_ | refine o_lt ?_ | refine o_ge ?_ | refine o_le ?_)
theorem big_left {i j : Int} (h : i.natAbs < 2 ^ 64) : bigOk i j = true := by
  unfold bigOk
  rw [decide_eq_true h]
  rfl
theorem big_both {i j : Int} (h : i.natAbs < 2 ^ 2000) (h2 : j.natAbs < 2 ^ 2000) : bigOk i j = true := by
  unfold bigOk
  rw [decide_eq_true h, decide_eq_true h2]
  simp
theorem set_at {M : MH} {p : Nat} {o : MO} (h : p < M.length) : (M.set p o)[p]? = some o := List.getElem?_set_self h
theorem abs_lt {i : Int} {n : Nat} (h0 : 0 ≤ i) (h : i < n) : i.natAbs < n := by omega
variable [Has fs 0 fn_law_draw]
theorem draw_ok {n : Nat} {M : MH} {p k : Nat} {many : Int} (hp : Pot M p k) (h1 : 0 < many) (h2 : many < 2 ^ 64) (hk : k < 2 ^ 500) :
    Ok (run fs (n + 1) 0 [.ref p, .int many] M) (fun d M' => ∃ r, d = .int r ∧ 0 ≤ r ∧ r < many ∧ Pot M' p (k + 1) ∧ Later p M M') := by
  obtain ⟨a, b, c, h, b0, b1, c0, c1⟩ := hp
  have hpl : p < M.length := (List.getElem?_eq_some_iff.mp h).1
  have hm : many.natAbs < 2 ^ 2000 := Nat.lt_of_lt_of_le (abs_lt (n := 2 ^ 64) (Int.le_of_lt h1) (by simpa using h2)) (Nat.pow_le_pow_right (by decide) (by decide))
  refine w_fn (fn := fn_law_draw) rfl ?_
  simp only [fn_law_draw, b_law_draw]
  trivial
  refine o_ixr h rfl ?_
  trivial
  refine ⟨fun q => ?_, fun q => ?_⟩
  · have ha : 0 < a := of_decide_eq_true q
    trivial
    refine o_ixr h rfl ?_
    trivial
    refine o_mod h1 ?_
    trivial
    refine o_ixr h rfl ?_
    trivial
    refine o_fdiv h1 hm ?_
    trivial
    refine ⟨p, 0, _, 0, rfl, rfl, h, rfl, ?_⟩
    trivial
    exact ⟨_, rfl, Int.emod_nonneg _ (by omega), Int.emod_lt_of_pos _ h1, ⟨_, b, c, set_at hpl, b0, b1, c0, by omega⟩, Later.set⟩
  · trivial
    refine o_ixr h rfl ?_
    trivial
    refine ⟨p, 2, _, 2, rfl, rfl, h, rfl, ?_⟩
    have h' := set_at (o := .lst [.int a, .int b, .int (c + 1)]) hpl
    trivial
    refine o_ixr h' rfl ?_
    trivial
    refine o_ixr h' rfl ?_
    trivial
    refine o_mul (big_left (by decide)) ?_
    trivial
    have hk' : (k : Int) < 2 ^ 500 := by exact_mod_cast hk
    have e500 : (2 : Int) ^ 500 = 3273390607896141870013189696827599152216642046043064789483291368096133796404674554883270092325904157150886684127560071009217256545885393053328527589376 := by decide +kernel
    have hx0 : 0 ≤ b + 32452843 * (c + 1) := by omega
    have hx1 : b + 32452843 * (c + 1) < 2 ^ 600 := by
      have e600 : (2 : Int) ^ 600 = 2 ^ 500 * 2 ^ 100 := by decide +kernel
      have e100 : (2 : Int) ^ 100 = 1267650600228229401496703205376 := by decide +kernel
      rw [e600, e100]
      omega
    refine o_pow (by decide) (by decide) (Nat.lt_of_lt_of_le (abs_lt (n := 2 ^ 600) hx0 (by simpa using hx1)) (Nat.pow_le_pow_right (by decide) (by decide))) ?_
    trivial
    refine o_ixr h' rfl ?_
    trivial
    refine o_pow (by decide) (by decide) (by decide +kernel) ?_
    trivial
    refine o_mod (by decide +kernel) ?_
    trivial
    generalize hmx : ((b + 32452843 * (c + 1)) ^ (3 : Int).toNat + (c + 1)) % ((10 : Int) ^ (30 : Int).toNat + 57) = mx
    have m0 : 0 ≤ mx := by
      rw [← hmx]
      exact Int.emod_nonneg _ (by decide +kernel)
    have m1 : mx < 2 ^ 200 := by
      rw [← hmx]
      exact Int.lt_trans (Int.emod_lt_of_pos _ (by decide +kernel)) (by decide +kernel)
    have m2 : mx.natAbs < 2 ^ 2000 := Nat.lt_of_lt_of_le (abs_lt (n := 2 ^ 200) m0 (by simpa using m1)) (Nat.pow_le_pow_right (by decide) (by decide))
    refine o_mul (big_both m2 m2) ?_
    trivial
    refine o_ixr h' rfl ?_
    trivial
    refine o_ixr h' rfl ?_
    trivial
    refine o_mul (big_left (by decide)) ?_
    trivial
    refine o_pow (by decide) (by decide) (by decide +kernel) ?_
    trivial
    refine o_mod (by decide +kernel) ?_
    trivial
    refine o_fdiv (by decide) (by decide +kernel) ?_
    trivial
    refine o_mod h1 ?_
    trivial
    exact ⟨_, rfl, Int.emod_nonneg _ (by omega), Int.emod_lt_of_pos _ h1, ⟨_, b, c + 1, h', b0, b1, by omega, by omega⟩, Later.set⟩
end Ev

set_option maxRecDepth 100000
set_option maxHeartbeats 2000000
namespace Ev
open PySem
variable {fs : Nat → Option Fn} [Has fs 0 fn_law_draw]
local macro_rules
  | `(tactic| trivial) => `(tactic| repeat with_reducible first
    | refine w_exs ?_ | refine w_nx ?_ | refine w_rt ?_ | refine w_end ?_ | refine w_exs0 ?_
    | refine w_set ?_ | refine w_ret ?_ | refine w_put ?_ | refine w_par ?_ | refine w_unp ?_ | refine w_expr ?_
    | refine w_bin ?_ | refine w_lit ?_ | refine w_var (by with_unfolding_all rfl) ?_ | refine w_call ?_ | refine w_ix ?_ | refine w_bf ?_ | refine w_tup ?_ | refine w_lst ?_
    | refine w_cmp ?_ | refine w_ite ?_ | refine w_bop ?_ | refine w_nt ?_ | refine w_neg ?_ | refine w_slc ?_ | refine w_rev ?_ | refine w_join ?_ | refine w_append ?_ | refine w_count ?_ | refine w_fst ?_ | refine w_cst ?_
    | refine w_for ?_ | refine w_seq ?_ | refine w_enum ?_ | refine w_rng1 ?_ | refine w_rng3 ?_
    | refine w_evs ?_ | refine w_evs0 ?_ | refine w_evT ?_ | refine w_evT0 ?_ | refine w_evB ?_ | refine w_evB0 ?_ | refine w_evO ?_ | refine w_evO0 ?_ | refine w_evF0 ?_ | refine w_txt ?_ ?_ | refine w_val ?_
    | refine w_lrg ?_ | refine w_dix ?_ | refine m_d ?_ | refine m_l ?_ | refine isI ?_ | refine isB ?_
    | refine b_int ?_ | refine b_tuple ?_ | refine b_lent ?_ | refine b_min ?_ | refine b_max ?_ | refine o_add ?_ | refine o_sub ?_ | refine o_eq ?_ | refine o_gt ?_ | refine o_lt ?_ | refine o_ge ?_ | refine o_le ?_)
/-- two branches that meet -/
theorem w_ifj {C : Nat → List D → MH → Res D} {σ : Sg} {M : MH} {c : Ex} {a b : Stms} {P : Fl → MH → Prop} (Q : Sg → MH → Prop) (h : Ok (ev C c σ M) (fun x M => IsB x fun k => Br k (Ok (exs C a σ M) fun f M => ∃ σ', f = .nx σ' ∧ Q σ' M) (Ok (exs C b σ M) fun f M => ∃ σ', f = .nx σ' ∧ Q σ' M)))
    (hQ : ∀ σ' M, Q σ' M → P (.nx σ') M) : Ok (ex C (.iff c a b) σ M) P := by
  refine w_iff (h.mono fun x M q => ?_)
  obtain ⟨k, hk, q1, q2⟩ := q
  refine ⟨k, hk, fun z => (q1 z).mono fun f M q => ?_, fun z => (q2 z).mono fun f M q => ?_⟩ <;>
  · obtain ⟨σ', rfl, q⟩ := q
    exact hQ σ' M q
/-- a draw's number within a term -/
theorem draw' {n : Nat} {M : MH} {p k : Nat} {many : Int} {P : D → MH → Prop} (hp : Pot M p k) (h1 : 0 < many) (h2 : many < 2 ^ 64) (hk : k < 2 ^ 500)
    (h : ∀ r M', 0 ≤ r → r < many → Pot M' p (k + 1) → Later p M M' → P (.int r) M') : Ok (run fs (n + 1) 0 [.ref p, .int many] M) P := by
  refine (draw_ok hp h1 h2 hk).mono ?_
  rintro _ M' ⟨r, rfl, q1, q2, q3, q4⟩
  exact h r M' q1 q2 q3 q4
/-- whole numbers within bounds -/
def Ints (lo hi : Int) (l : List D) : Prop := ∃ is : List Int, l = is.map .int ∧ ∀ i ∈ is, lo ≤ i ∧ i < hi
theorem Ints.snoc {lo hi : Int} {l : List D} {i : Int} (h : Ints lo hi l) (h1 : lo ≤ i) (h2 : i < hi) : Ints lo hi (l ++ [.int i]) := by
  obtain ⟨is, rfl, q⟩ := h
  refine ⟨is ++ [i], by simp, fun j hj => ?_⟩
  rcases List.mem_append.mp hj with z | z
  · exact q j z
  · rw [List.mem_singleton.mp z]
    exact ⟨h1, h2⟩
theorem Ints.copies {lo hi : Int} {l : List D} (h : Ints lo hi l) : ∀ n, Ints lo hi (copies n l) ∧ (copies n l).length = n * l.length
  | 0 => ⟨⟨[], rfl, by simp⟩, by simp [Ev.copies]⟩
  | n + 1 => by
    obtain ⟨⟨js, e, q⟩, hl⟩ := Ints.copies h n
    obtain ⟨is, rfl, q2⟩ := h
    have e2 : Ev.copies (n + 1) (is.map D.int) = is.map D.int ++ Ev.copies n (is.map D.int) := by
      unfold Ev.copies
      rw [List.replicate_succ, List.flatten_cons]
    rw [e2]
    refine ⟨⟨is ++ js, by rw [e, List.map_append], fun j hj => (List.mem_append.mp hj).elim (q2 j) (q j)⟩, ?_⟩
    rw [List.length_append, hl, Nat.succ_mul, Nat.add_comm]
theorem Ints.at {lo hi : Int} {l : List D} (h : Ints lo hi l) {i : Int} (h0 : 0 ≤ i) (h1 : i < l.length) : ∃ j, L2.atI l i = some (.int j) ∧ lo ≤ j ∧ j < hi := by
  obtain ⟨is, rfl, q⟩ := h
  have hl : i.toNat < is.length := by simp at h1; omega
  refine ⟨is[i.toNat], ?_, q _ (List.getElem_mem hl)⟩
  unfold L2.atI L2.ixN
  rw [if_pos h0, if_pos h1]
  simp [hl]
/-- a house -/
structure House (d : D) (F : Int) (ss ns : List D) : Prop where
  is : d = .tup [.int F, .tup ss, .tup ns]
  f0 : 2 ≤ F
  f1 : F ≤ 8
  s : Ints 0 3 ss
  n : Ints 0 4 ns
  len : ns.length = ss.length
  l0 : 1 ≤ ss.length
  l1 : ss.length ≤ 3
theorem big : (20 : Nat) < 2 ^ 500 := by decide +kernel
/-- [draw(pot, b) for car in range(many)] -/
theorem draws {n : Nat} {p k : Nat} {b : Int} {own : List Nat} {v : Nat} {σ : Sg} {M : MH} {many : Int} {P : TV → MH → Prop} {cs : Ex} (hk : k + 10 < 2 ^ 500) (hb : 0 < b) (hb2 : b < 2 ^ 64) (hp : Pot M p k) (hm0 : 0 ≤ many) (hm1 : many ≤ 3)
    (hmany : Ok (ev (run fs (n + 1)) cs σ M) (fun x M' => x = .d (.int many) ∧ M' = M))
    (hpot : ∀ i : Int, ((wipeS σ own).set v (some (.int i)))[0]? = some (some (.ref p)))
    (h : ∀ ds M', Ints 0 b ds → ds.length = many.toNat → Pot M' p (k + 3) → Later p M M' → P (.lst ds) M') :
    Ok (ev (run fs (n + 1)) (.comp own (.call 0 (.cons (.var 0) (.cons (.lit (.int b)) .nil)) [0, 1]) (.name v) (.rng1 cs) .nil) σ M) P := by
  refine w_comp (w_rng1 (hmany.mono ?_))
  rintro _ M0 ⟨rfl, eM⟩
  rw [eM]
  refine isI ⟨small_is (by omega) (by omega), rng 0 many.toNat 1, fun _ => rfl, fun i acc M' => i ≤ many.toNat ∧ acc.length = i ∧ Ints 0 b acc ∧ Pot M' p (k + i) ∧ Later p M M', ⟨by omega, rfl, ⟨[], rfl, by simp⟩, hp, Later.refl⟩, ?_, ?_⟩
  · rintro i d acc M1 hd ⟨hi, hl, ha, hp1, l1⟩
    obtain ⟨hi2, rfl⟩ := rng_at hd
    refine ⟨_, rfl, ?_⟩
    refine w_call (w_evs (w_var (hpot _) (m_d ?_)))
    trivial
    refine draw' hp1 hb hb2 (by omega) ?_
    intro r M2 r0 r1 hp2 l2
    trivial
    have e : sizeLine = 16777216 := sizeLine_eq
    exact ⟨by omega, by omega, by simp [hl], ha.snoc r0 r1, hp2, l1.trans l2⟩
  · rintro acc M1 ⟨hi, hl, ha, hp1, l1⟩
    rw [rng_len] at hl hp1
    exact h acc M1 ha hl (hp1.mono (by omega)) l1
variable [Has fs 1 fn_law_house]
end Ev


set_option maxRecDepth 100000
set_option maxHeartbeats 2000000
namespace Ev
open PySem
variable {fs : Nat → Option Fn} 
local macro_rules
  | `(tactic| trivial) => `(tactic| repeat with_reducible first
    | refine w_exs ?_ | refine w_nx ?_ | refine w_rt ?_ | refine w_end ?_ | refine w_exs0 ?_
    | refine w_set ?_ | refine w_ret ?_ | refine w_put ?_ | refine w_par ?_ | refine w_unp ?_ | refine w_expr ?_
    | refine w_bin ?_ | refine w_lit ?_ | refine w_var (by with_unfolding_all rfl) ?_ | refine w_call ?_ | refine w_ix ?_ | refine w_bf ?_ | refine w_tup ?_ | refine w_lst ?_
    | refine w_cmp ?_ | refine w_ite ?_ | refine w_bop ?_ | refine w_nt ?_ | refine w_neg ?_ | refine w_slc ?_ | refine w_rev ?_ | refine w_join ?_ | refine w_append ?_ | refine w_count ?_ | refine w_fst ?_ | refine w_cst ?_
    | refine w_for ?_ | refine w_seq ?_ | refine w_enum ?_ | refine w_rng1 ?_ | refine w_rng3 ?_
    | refine w_evs ?_ | refine w_evs0 ?_ | refine w_evT ?_ | refine w_evT0 ?_ | refine w_evB ?_ | refine w_evB0 ?_ | refine w_evO ?_ | refine w_evO0 ?_ | refine w_evF0 ?_ | refine w_txt ?_ ?_ | refine w_val ?_
    | refine w_lrg ?_ | refine w_dix ?_ | refine m_d ?_ | refine m_l ?_ | refine isI ?_ | refine isB ?_
    | refine b_int ?_ | refine b_tuple ?_ | refine b_lent ?_ | refine b_min ?_ | refine b_max ?_ | refine o_add ?_ | refine o_sub ?_ | refine o_eq ?_ | refine o_gt ?_ | refine o_lt ?_ | refine o_ge ?_ | refine o_le ?_)
/-! ### a choice of items -/
theorem sl : sizeLine = 16777216 := sizeLine_eq
theorem rd_at {M : MH} {m : Nat} {ds : List D} (hm : M[m]? = some (.lst ds)) : rd M m = some ds := by
  unfold rd
  rw [hm]
  rfl
theorem o_srcr {M : MH} {m : Nat} {ds : List D} {P : Src → Prop} (hm : M[m]? = some (.lst ds)) (h : P (.live m)) : Op (srcOf M (.d (.ref m))) P := ⟨.live m, by
  show (rd M m).map _ = _
  rw [rd_at hm]
  rfl, h⟩
theorem sub_take {α : Type} {acc ds : List α} {i : Nat} {d : α} (h : acc.Sublist (ds.take i)) (hd : ds[i]? = some d) : (acc ++ [d]).Sublist (ds.take (i + 1)) := by
  rw [List.take_add_one, hd]
  exact h.append (List.Sublist.refl _)
theorem sub_skip {α : Type} {acc ds : List α} {i : Nat} (h : acc.Sublist (ds.take i)) : acc.Sublist (ds.take (i + 1)) :=
  h.trans (List.take_sublist_take_left (by omega))
variable [Has fs 0 fn_law_draw] [Has fs 19 fn_law_some]
theorem some_ok {n : Nat} {M : MH} {p k m : Nat} {share : Int} {ds : List D} (hp : Pot M p k) (hm : M[m]? = some (.lst ds)) (hne : m ≠ p) (hs : 0 < share) (hs2 : share < 2 ^ 64) (hk : k + ds.length < 2 ^ 500) (hl : ds.length ≤ 100000) :
    Ok (run fs (n + 2) 19 [.ref p, .ref m, .int share] M) (fun r M' => ∃ es, r = .tup es ∧ es.Sublist ds ∧ Pot M' p (k + ds.length) ∧ Later p M M') := by
  refine w_fn (fn := fn_law_some) rfl ?_
  simp only [fn_law_some, b_law_some]
  trivial
  have hlt : m < M.length := (List.getElem?_eq_some_iff.mp hm).1
  refine w_compI ?_
  trivial
  refine o_srcr hm ⟨ds, fun i acc M' => i ≤ ds.length ∧ acc.Sublist (ds.take i) ∧ Pot M' p (k + i) ∧ Later p M M', ?_, ⟨by omega, List.Sublist.refl _, hp, Later.refl⟩, ?_, ?_⟩
  · rintro i acc M' ⟨_, _, _, l⟩
    exact rd_at ((l.at_ m hlt hne).trans hm)
  · rintro i d acc M' hd ⟨hi, ha, hp1, l1⟩
    have hil := (List.getElem?_eq_some_iff.mp hd).1
    refine ⟨_, rfl, ?_⟩
    trivial
    refine draw' hp1 hs hs2 (by omega) ?_
    intro r M2 r0 r1 hp2 l2
    trivial
    refine ⟨fun z => ?_, fun z => ?_⟩
    · trivial
      refine ⟨fun _ => ?_, fun z => by cases z⟩
      trivial
      have hal := ha.length_le
      rw [List.length_take] at hal
      exact ⟨by rw [sl]; omega, by omega, sub_take ha hd, hp2, l1.trans l2⟩
    · exact ⟨fun z => (by cases z), fun _ => ⟨by omega, sub_skip ha, hp2, l1.trans l2⟩⟩
  · rintro acc M' ⟨_, ha, hp1, l1⟩
    trivial
    rw [List.take_length] at ha
    exact ⟨acc, rfl, ha, hp1, l1⟩
end Ev

set_option maxRecDepth 100000
set_option maxHeartbeats 2000000
namespace Ev
open PySem
variable {fs : Nat → Option Fn} 
local macro_rules
  | `(tactic| trivial) => `(tactic| repeat with_reducible first
    | refine w_exs ?_ | refine w_nx ?_ | refine w_rt ?_ | refine w_end ?_ | refine w_exs0 ?_
    | refine w_set ?_ | refine w_ret ?_ | refine w_put ?_ | refine w_par ?_ | refine w_unp ?_ | refine w_expr ?_
    | refine w_bin ?_ | refine w_lit ?_ | refine w_var (by with_unfolding_all rfl) ?_ | refine w_call ?_ | refine w_ix ?_ | refine w_bf ?_ | refine w_tup ?_ | refine w_lst ?_
    | refine w_cmp ?_ | refine w_ite ?_ | refine w_bop ?_ | refine w_nt ?_ | refine w_neg ?_ | refine w_slc ?_ | refine w_rev ?_ | refine w_join ?_ | refine w_append ?_ | refine w_count ?_ | refine w_fst ?_ | refine w_cst ?_
    | refine w_for ?_ | refine w_seq ?_ | refine w_enum ?_ | refine w_rng1 ?_ | refine w_rng3 ?_ | refine w_rng2 ?_ | refine w_zip ?_
    | refine w_evs ?_ | refine w_evs0 ?_ | refine w_evT ?_ | refine w_evT0 ?_ | refine w_evB ?_ | refine w_evB0 ?_ | refine w_evO ?_ | refine w_evO0 ?_ | refine w_evF0 ?_ | refine w_txt ?_ ?_ | refine w_val ?_
    | refine w_lrg ?_ | refine w_dix ?_ | refine m_d ?_ | refine m_l ?_ | refine isI ?_ | refine isB ?_
    | refine b_int ?_ | refine b_tuple ?_ | refine b_lent ?_ | refine b_min ?_ | refine b_max ?_ | refine o_add ?_ | refine o_sub ?_ | refine o_eq ?_ | refine o_gt ?_ | refine o_lt ?_ | refine o_ge ?_ | refine o_le ?_)
/-! ### places, notes -/
theorem Later.pot_set {p k q : Nat} {M : MH} {o : MO} (hp : Pot M p k) (h : q ≠ p) : Pot (M.set q o) p k := by
  obtain ⟨a, b, c, e, r⟩ := hp
  exact ⟨a, b, c, by rw [List.getElem?_set_ne h]; exact e, r⟩
theorem Later.push {p : Nat} {M : MH} {o : MO} : Later p M (M ++ [o]) := ⟨by simp, fun q h _ => List.getElem?_append_left h⟩
theorem Later.set_new {p q : Nat} {M M1 : MH} {o : MO} (l : Later p M M1) (h : M.length ≤ q) : Later p M (M1.set q o) := ⟨by rw [List.length_set]; exact l.len, fun r hr n => by rw [List.getElem?_set_ne (by omega)]; exact l.at_ r hr n⟩
theorem Pot.push {p k : Nat} {M : MH} {o : MO} (hp : Pot M p k) : Pot (M ++ [o]) p k := by
  obtain ⟨a, b, c, e, r⟩ := hp
  exact ⟨a, b, c, by rw [List.getElem?_append_left (List.getElem?_eq_some_iff.mp e).1]; exact e, r⟩
theorem Pot.lt {p k : Nat} {M : MH} (hp : Pot M p k) : p < M.length := by
  obtain ⟨a, b, c, e, r⟩ := hp
  exact (List.getElem?_eq_some_iff.mp e).1
variable [Has fs 0 fn_law_draw] [Has fs 18 fn_law_notes]
end Ev

set_option maxRecDepth 100000
set_option maxHeartbeats 2000000
namespace Ev
open PySem
variable {fs : Nat → Option Fn} 
local macro_rules
  | `(tactic| trivial) => `(tactic| repeat with_reducible first
    | refine w_exs ?_ | refine w_nx ?_ | refine w_rt ?_ | refine w_end ?_ | refine w_exs0 ?_
    | refine w_set ?_ | refine w_ret ?_ | refine w_put ?_ | refine w_par ?_ | refine w_unp ?_ | refine w_expr ?_
    | refine w_bin ?_ | refine w_lit ?_ | refine w_var (by with_unfolding_all rfl) ?_ | refine w_call ?_ | refine w_ix ?_ | refine w_bf ?_ | refine w_tup ?_ | refine w_lst ?_
    | refine w_cmp ?_ | refine w_ite ?_ | refine w_bop ?_ | refine w_nt ?_ | refine w_neg ?_ | refine w_slc ?_ | refine w_rev ?_ | refine w_join ?_ | refine w_append ?_ | refine w_count ?_ | refine w_fst ?_ | refine w_cst ?_
    | refine w_for ?_ | refine w_seq ?_ | refine w_enum ?_ | refine w_rng1 ?_ | refine w_rng3 ?_ | refine w_rng2 ?_ | refine w_zip ?_
    | refine w_evs ?_ | refine w_evs0 ?_ | refine w_evT ?_ | refine w_evT0 ?_ | refine w_evB ?_ | refine w_evB0 ?_ | refine w_evO ?_ | refine w_evO0 ?_ | refine w_evF0 ?_ | refine w_txt ?_ ?_ | refine w_val ?_
    | refine w_lrg ?_ | refine w_dix ?_ | refine m_d ?_ | refine m_l ?_ | refine isI ?_ | refine isB ?_
    | refine b_int ?_ | refine b_tuple ?_ | refine b_lent ?_ | refine b_min ?_ | refine b_max ?_ | refine o_add ?_ | refine o_sub ?_ | refine o_eq ?_ | refine o_gt ?_ | refine o_lt ?_ | refine o_ge ?_ | refine o_le ?_)
theorem enum_cur {ds : List D} {M : MH} : Src.cur M (.enum (.vals ds)) = some ((List.range ds.length).zipWith (fun (i : Nat) d => D.tup [.int i, d]) ds) := rfl
theorem enum_at {ds : List D} {i : Nat} {x : D} (h : ((List.range ds.length).zipWith (fun (i : Nat) d => D.tup [.int i, d]) ds)[i]? = some x) : ∃ d, ds[i]? = some d ∧ x = .tup [.int i, d] := by
  rw [List.getElem?_zipWith] at h
  cases e : ds[i]? with
  | none => rw [e] at h; cases hh : (List.range ds.length)[i]? <;> rw [hh] at h <;> cases h
  | some d =>
    have hi := (List.getElem?_eq_some_iff.mp e).1
    rw [e, List.getElem?_range hi] at h
    exact ⟨d, rfl, (Option.some.inj h).symm⟩

theorem last_at {M : MH} {o : MO} : (M ++ [o])[M.length]? = some o := by simp
variable [Has fs 0 fn_law_draw] [Has fs 17 fn_law_places]
end Ev

set_option maxRecDepth 100000
set_option maxHeartbeats 2000000
namespace Ev
open PySem
variable {fs : Nat → Option Fn} 
local macro_rules
  | `(tactic| trivial) => `(tactic| repeat with_reducible first
    | refine w_exs ?_ | refine w_nx ?_ | refine w_rt ?_ | refine w_end ?_ | refine w_exs0 ?_
    | refine w_set ?_ | refine w_ret ?_ | refine w_put ?_ | refine w_par ?_ | refine w_unp ?_ | refine w_expr ?_
    | refine w_bin ?_ | refine w_lit ?_ | refine w_var (by with_unfolding_all rfl) ?_ | refine w_call ?_ | refine w_ix ?_ | refine w_bf ?_ | refine w_tup ?_ | refine w_lst ?_
    | refine w_cmp ?_ | refine w_ite ?_ | refine w_bop ?_ | refine w_nt ?_ | refine w_neg ?_ | refine w_slc ?_ | refine w_rev ?_ | refine w_join ?_ | refine w_append ?_ | refine w_count ?_ | refine w_fst ?_ | refine w_cst ?_
    | refine w_for ?_ | refine w_seq ?_ | refine w_enum ?_ | refine w_rng1 ?_ | refine w_rng3 ?_ | refine w_rng2 ?_ | refine w_zip ?_
    | refine w_evs ?_ | refine w_evs0 ?_ | refine w_evT ?_ | refine w_evT0 ?_ | refine w_evB ?_ | refine w_evB0 ?_ | refine w_evO ?_ | refine w_evO0 ?_ | refine w_evF0 ?_ | refine w_txt ?_ ?_ | refine w_val ?_
    | refine w_lrg ?_ | refine w_dix ?_ | refine m_d ?_ | refine m_l ?_ | refine isI ?_ | refine isB ?_
    | refine b_int ?_ | refine b_tuple ?_ | refine b_lent ?_ | refine b_min ?_ | refine b_max ?_ | refine o_add ?_ | refine o_sub ?_ | refine o_eq ?_ | refine o_gt ?_ | refine o_lt ?_ | refine o_ge ?_ | refine o_le ?_)
/-! ### calls, harms -/
def Call (d : D) : Prop := ∃ (f : Nat) (s : Str), d = .tup [.int f, .str s] ∧ f < 16 ∧ (s = "up" ∨ s = "down")
structure Only (M M' : MH) : Prop where
  len : M.length ≤ M'.length
  at_ : ∀ q, q < M.length → M'[q]? = M[q]?
theorem Only.refl {M : MH} : Only M M := ⟨Nat.le_refl _, fun _ _ => rfl⟩
theorem Only.trans {M M1 M2 : MH} (a : Only M M1) (b : Only M1 M2) : Only M M2 := ⟨Nat.le_trans a.len b.len, fun q h => (b.at_ q (Nat.lt_of_lt_of_le h a.len)).trans (a.at_ q h)⟩
theorem Only.later {p : Nat} {M M' : MH} (a : Only M M') : Later p M M' := ⟨a.len, fun q h _ => a.at_ q h⟩
theorem Only.pot {M M' : MH} {p k : Nat} (a : Only M M') (h : Pot M p k) : Pot M' p k := by
  obtain ⟨x, y, z, h1, r⟩ := h
  exact ⟨x, y, z, by rw [a.at_ p (List.getElem?_eq_some_iff.mp h1).1]; exact h1, r⟩
theorem Only.push {M : MH} {o : MO} : Only M (M ++ [o]) := ⟨by simp, fun q h => List.getElem?_append_left h⟩
theorem in_at {l : List D} {i : Int} (h0 : 0 ≤ i) (h1 : i < l.length) : ∃ d, d ∈ l ∧ L2.atI l i = some d := by
  have hl : i.toNat < l.length := by omega
  refine ⟨l[i.toNat], List.getElem_mem hl, ?_⟩
  unfold L2.atI L2.ixN
  rw [if_pos h0, if_pos h1]
  simp [hl]
variable [Has fs 2 fn_law_calls]
/-- a choice whose test leaves the store -/
theorem w_iffc {C : Nat → List D → MH → Res D} {σ : Sg} {M : MH} {c : Ex} {a b : Stms} {P : Fl → MH → Prop} (F : Bool → Prop) (hc : Ok (ev C c σ M) fun x M' => M = M' ∧ IsB x F) (ht : F true → Ok (exs C a σ M) P) (hf : F false → Ok (exs C b σ M) P) : Ok (ex C (.iff c a b) σ M) P := by
  refine w_iff (hc.mono ?_)
  rintro x M' ⟨rfl, k, rfl, q⟩
  exact ⟨k, rfl, fun z => ht (by rw [← z]; exact q), fun z => hf (by rw [← z]; exact q)⟩

def Wd (d : D) : Prop := (∃ i : Nat, i < 16 ∧ d = .int i) ∨ (∃ s, d = .str s ∧ s ∈ (["up", "down", "crash", "end", "torn", "beam", "call", "key", "panel", "stuck"] : List Str))
/-- a tuple of one to four words -/
def Words (d : D) : Prop := ∃ ds, d = .tup ds ∧ ds ≠ [] ∧ ds.length ≤ 4 ∧ ∀ w ∈ ds, Wd w
theorem wd_i {i : Int} (h0 : 0 ≤ i) (h1 : i < 16) : Wd (.int i) := .inl ⟨i.toNat, by omega, by congr; omega⟩
theorem wd_s {s : Str} (h : s ∈ (["up", "down", "crash", "end", "torn", "beam", "call", "key", "panel", "stuck"] : List Str)) : Wd (.str s) := .inr ⟨s, rfl, h⟩
theorem words1 {a : D} (ha : Wd a) : Words (.tup [a]) := ⟨_, rfl, by simp, by simp, by simpa using ha⟩
theorem words2 {a b : D} (ha : Wd a) (hb : Wd b) : Words (.tup [a, b]) := ⟨_, rfl, by simp, by simp, by simpa using ⟨ha, hb⟩⟩
theorem words3 {a b c : D} (ha : Wd a) (hb : Wd b) (hc : Wd c) : Words (.tup [a, b, c]) := ⟨_, rfl, by simp, by simp, by simpa using ⟨ha, hb, hc⟩⟩
theorem all_snoc {l : List D} {d : D} {P : D → Prop} (h : ∀ x ∈ l, P x) (hd : P d) : ∀ x ∈ l ++ [d], P x := fun x hx => (List.mem_append.mp hx).elim (h x) fun z => by rw [List.mem_singleton.mp z]; exact hd
theorem all_app {l m : List D} {P : D → Prop} (h : ∀ x ∈ l, P x) (hm : ∀ x ∈ m, P x) : ∀ x ∈ l ++ m, P x := fun x hx => (List.mem_append.mp hx).elim (h x) (hm x)
end Ev

set_option maxRecDepth 100000
set_option maxHeartbeats 2000000
namespace Ev
open PySem
variable {fs : Nat → Option Fn} 
local macro_rules
  | `(tactic| trivial) => `(tactic| repeat with_reducible first
    | refine w_exs ?_ | refine w_nx ?_ | refine w_rt ?_ | refine w_end ?_ | refine w_exs0 ?_
    | refine w_set ?_ | refine w_ret ?_ | refine w_put ?_ | refine w_par ?_ | refine w_unp ?_ | refine w_expr ?_
    | refine w_bin ?_ | refine w_lit ?_ | refine w_var (by with_unfolding_all rfl) ?_ | refine w_call ?_ | refine w_ix ?_ | refine w_bf ?_ | refine w_tup ?_ | refine w_lst ?_
    | refine w_cmp ?_ | refine w_ite ?_ | refine w_bop ?_ | refine w_nt ?_ | refine w_neg ?_ | refine w_slc ?_ | refine w_rev ?_ | refine w_join ?_ | refine w_append ?_ | refine w_count ?_ | refine w_fst ?_ | refine w_cst ?_
    | refine w_for ?_ | refine w_seq ?_ | refine w_enum ?_ | refine w_rng1 ?_ | refine w_rng3 ?_ | refine w_rng2 ?_ | refine w_zip ?_
    | refine w_evs ?_ | refine w_evs0 ?_ | refine w_evT ?_ | refine w_evT0 ?_ | refine w_evB ?_ | refine w_evB0 ?_ | refine w_evO ?_ | refine w_evO0 ?_ | refine w_evF0 ?_ | refine w_txt ?_ ?_ | refine w_val ?_
    | refine w_lrg ?_ | refine w_dix ?_ | refine m_d ?_ | refine m_l ?_ | refine isI ?_ | refine isB ?_
    | refine b_int ?_ | refine b_tuple ?_ | refine b_lent ?_ | refine b_min ?_ | refine b_max ?_ | refine o_add ?_ | refine o_sub ?_ | refine o_eq ?_ | refine o_gt ?_ | refine o_lt ?_ | refine o_ge ?_ | refine o_le ?_)

theorem o_addrl {M : MH} {q : Nat} {a b : List D} {P : TV → Prop} (hq : M[q]? = some (.lst a)) (hc : a.length + b.length ≤ sizeLine) (h : P (.lst (a ++ b))) : Op (binop M .add (.d (.ref q)) (.lst b)) P := by
  refine ⟨_, ?_, h⟩
  show (match sqW M (.d (.ref q)), sqW M (.lst b) with
    | some a, some b => guard' (decide (a.length + b.length ≤ sizeLine)) (TV.lst (a ++ b))
    | _, _ => none) = _
  have e : sqW M (.d (.ref q)) = some a := by
    show (match M[q]? with
      | some (.lst ds) => some ds
      | _ => none) = _
    rw [hq]
  rw [e]
  show guard' _ _ = _
  unfold guard'
  rw [if_pos (decide_eq_true hc)]
theorem o_addll {M : MH} {a b : List D} {P : TV → Prop} (hc : a.length + b.length ≤ sizeLine) (h : P (.lst (a ++ b))) : Op (binop M .add (.lst a) (.lst b)) P := op_guard (decide_eq_true hc) h
theorem Only.set_new {M M1 : MH} {q : Nat} {o : MO} (l : Only M M1) (h : M.length ≤ q) : Only M (M1.set q o) := ⟨by rw [List.length_set]; exact l.len, fun r hr => by rw [List.getElem?_set_ne (by omega)]; exact l.at_ r hr⟩
variable [Has fs 20 fn_law_harms]
end Ev

set_option maxRecDepth 100000
set_option maxHeartbeats 2000000
namespace Ev
open PySem
variable {fs : Nat → Option Fn} 
local macro_rules
  | `(tactic| trivial) => `(tactic| repeat with_reducible first
    | refine w_exs ?_ | refine w_nx ?_ | refine w_rt ?_ | refine w_end ?_ | refine w_exs0 ?_
    | refine w_set ?_ | refine w_ret ?_ | refine w_put ?_ | refine w_par ?_ | refine w_unp ?_ | refine w_expr ?_
    | refine w_bin ?_ | refine w_lit ?_ | refine w_var (by with_unfolding_all rfl) ?_ | refine w_call ?_ | refine w_ix ?_ | refine w_bf ?_ | refine w_tup ?_ | refine w_lst ?_
    | refine w_cmp ?_ | refine w_ite ?_ | refine w_bop ?_ | refine w_nt ?_ | refine w_neg ?_ | refine w_slc ?_ | refine w_rev ?_ | refine w_join ?_ | refine w_append ?_ | refine w_count ?_ | refine w_fst ?_ | refine w_cst ?_
    | refine w_for ?_ | refine w_seq ?_ | refine w_enum ?_ | refine w_rng1 ?_ | refine w_rng3 ?_ | refine w_rng2 ?_ | refine w_zip ?_
    | refine w_evs ?_ | refine w_evs0 ?_ | refine w_evT ?_ | refine w_evT0 ?_ | refine w_evB ?_ | refine w_evB0 ?_ | refine w_evO ?_ | refine w_evO0 ?_ | refine w_evF0 ?_ | refine w_txt ?_ ?_ | refine w_val ?_
    | refine w_lrg ?_ | refine w_dix ?_ | refine m_d ?_ | refine m_l ?_ | refine isI ?_ | refine isB ?_
    | refine b_int ?_ | refine b_tuple ?_ | refine b_lent ?_ | refine b_min ?_ | refine b_max ?_ | refine o_add ?_ | refine o_sub ?_ | refine o_eq ?_ | refine o_gt ?_ | refine o_lt ?_ | refine o_ge ?_ | refine o_le ?_)

def Car (c : D) : Prop := ∃ (f : Int) (b : Bool) (own : List D), c = .tup [.int f, .bl b, .tup own] ∧ 0 ≤ f ∧ f < 8 ∧ Ints 0 10 own ∧ own.length ≤ 3
def Panel (x : D) : Prop := ∃ is, x = .tup is ∧ Ints 0 8 is ∧ is.length ≤ 8
structure Stand (cars calls panels : List D) (fire : Bool) (harms : List D) : Prop where
  c : ∀ x ∈ cars, Car x
  c0 : 1 ≤ cars.length
  c1 : cars.length ≤ 3
  k : ∀ x ∈ calls, Call x
  k1 : calls.length ≤ 16
  p : ∀ x ∈ panels, Panel x
  p1 : panels.length = cars.length
  h : ∀ x ∈ harms, Words x
  h1 : harms.length ≤ 15
def stD (cars calls panels : List D) (fire : Bool) (harms : List D) : D := .tup [.tup cars, .tup calls, .tup panels, .bl fire, .tup harms]
theorem zip_cur {a b : List D} {M : MH} : Src.cur M (.zip (.vals a) (.vals b)) = some (List.zipWith (fun x y => D.tup [x, y]) a b) := rfl
theorem zip_at {a b : List D} {i : Nat} {x : D} (h : (List.zipWith (fun x y => D.tup [x, y]) a b)[i]? = some x) : ∃ u v, a[i]? = some u ∧ b[i]? = some v ∧ x = .tup [u, v] := by
  rw [List.getElem?_zipWith] at h
  cases e : a[i]? with
  | none => rw [e] at h; cases hh : b[i]? <;> rw [hh] at h <;> cases h
  | some u =>
    cases e2 : b[i]? with
    | none => rw [e, e2] at h; cases h
    | some v => rw [e, e2] at h; exact ⟨u, v, rfl, rfl, (Option.some.inj h).symm⟩
theorem Ints.sub {lo hi : Int} {l m : List D} (h : Ints lo hi l) (s : m.Sublist l) : Ints lo hi m := by
  obtain ⟨is, rfl, q⟩ := h
  obtain ⟨js, hj, rfl⟩ := List.sublist_map_iff.mp s
  exact ⟨js, rfl, fun i hi => q i (hj.subset hi)⟩
theorem Ints.wide {lo hi hi' : Int} {l : List D} (h : Ints lo hi l) (hh : hi ≤ hi') : Ints lo hi' l := by
  obtain ⟨is, rfl, q⟩ := h
  exact ⟨is, rfl, fun i hi => ⟨(q i hi).1, by have := (q i hi).2; omega⟩⟩
theorem lrg_ints {F : Int} (h : 0 ≤ F) : Ints 0 F ((List.range F.toNat).map fun (i : Nat) => D.int i) := ⟨(List.range F.toNat).map fun (i : Nat) => (i : Int), by rw [List.map_map]; rfl, fun i hi => by
  obtain ⟨j, hj, rfl⟩ := List.mem_map.mp hi
  have := List.mem_range.mp hj
  omega⟩
theorem empties {n : Nat} : ∀ x ∈ copies n [D.tup []], Panel x := fun x hx => by
  unfold Ev.copies at hx
  obtain ⟨l, hl, hx⟩ := List.mem_flatten.mp hx
  rw [(List.mem_replicate.mp hl).2] at hx
  rw [List.mem_singleton.mp hx]
  exact ⟨[], rfl, ⟨[], rfl, by simp⟩, by simp⟩
theorem empties_len (n : Nat) : (copies n [D.tup []]).length = n := by
  unfold Ev.copies
  induction n with
  | zero => rfl
  | succ n ih => rw [List.replicate_succ, List.flatten_cons, List.length_append, ih, List.length_singleton]; omega
theorem br_join {C : Nat → List D → MH → Res D} {σ : Sg} {M : MH} {k : Bool} {a b : Ex} {P : TV → MH → Prop} (Q : TV → MH → Prop) (h1 : k = true → Ok (ev C a σ M) Q) (h2 : k = false → Ok (ev C b σ M) Q) (h : ∀ x M, Q x M → P x M) : Br k (Ok (ev C a σ M) P) (Ok (ev C b σ M) P) :=
  ⟨fun z => (h1 z).mono h, fun z => (h2 z).mono h⟩
variable [Has fs 0 fn_law_draw] [Has fs 2 fn_law_calls] [Has fs 17 fn_law_places] [Has fs 18 fn_law_notes] [Has fs 19 fn_law_some] [Has fs 20 fn_law_harms] [Has fs 21 fn_law_stand]
end Ev

set_option maxRecDepth 100000
set_option maxHeartbeats 2000000
namespace Ev
open PySem
variable {fs : Nat → Option Fn} 
local macro_rules
  | `(tactic| trivial) => `(tactic| repeat with_reducible first
    | refine w_exs ?_ | refine w_nx ?_ | refine w_rt ?_ | refine w_end ?_ | refine w_exs0 ?_
    | refine w_set ?_ | refine w_ret ?_ | refine w_put ?_ | refine w_par ?_ | refine w_unp ?_ | refine w_expr ?_
    | refine w_bin ?_ | refine w_lit ?_ | refine w_var (by with_unfolding_all rfl) ?_ | refine w_call ?_ | refine w_ix ?_ | refine w_bf ?_ | refine w_tup ?_ | refine w_lst ?_
    | refine w_cmp ?_ | refine w_ite ?_ | refine w_bop ?_ | refine w_nt ?_ | refine w_neg ?_ | refine w_slc ?_ | refine w_rev ?_ | refine w_join ?_ | refine w_append ?_ | refine w_count ?_ | refine w_fst ?_ | refine w_cst ?_
    | refine w_for ?_ | refine w_seq ?_ | refine w_enum ?_ | refine w_rng1 ?_ | refine w_rng3 ?_ | refine w_rng2 ?_ | refine w_zip ?_
    | refine w_evs ?_ | refine w_evs0 ?_ | refine w_evT ?_ | refine w_evT0 ?_ | refine w_evB ?_ | refine w_evB0 ?_ | refine w_evO ?_ | refine w_evO0 ?_ | refine w_evF0 ?_ | refine w_txt ?_ ?_ | refine w_val ?_
    | refine w_lrg ?_ | refine w_dix ?_ | refine m_d ?_ | refine m_l ?_ | refine isI ?_ | refine isB ?_
    | refine b_int ?_ | refine b_tuple ?_ | refine b_lent ?_ | refine b_min ?_ | refine b_max ?_ | refine o_add ?_ | refine o_sub ?_ | refine o_eq ?_ | refine o_gt ?_ | refine o_lt ?_ | refine o_ge ?_ | refine o_le ?_)

variable [Has fs 2 fn_law_calls] [Has fs 22 fn_law_presses]
end Ev

set_option maxRecDepth 100000
set_option maxHeartbeats 2000000
namespace Ev
open PySem
local macro_rules
  | `(tactic| trivial) => `(tactic| repeat with_reducible first
    | (refine g_ev ?_; first | refine w_var (by with_unfolding_all rfl) ?_ | refine w_lit ?_ | refine w_ix ?_ | refine w_cmp ?_ | refine w_tup ?_ | refine w_bin ?_ | refine w_call1 ?_ | refine w_call2 ?_ | refine w_call3 ?_ | refine w_call4 ?_ | refine w_call ?_ | refine w_all0 ?_ | refine w_bf ?_ | refine w_lst ?_ | refine w_bop ?_ | refine w_nt ?_ | refine w_x1 ?_ | refine w_ite ?_ | refine w_slc ?_ | refine w_cst ?_ | refine w_neg ?_ | refine w_append ?_ | refine w_lrg ?_ | refine w_chain ?_ | refine w_x2 ?_ | refine w_fst ?_ | refine w_join ?_ | refine w_count ?_ | refine w_rev ?_ | refine w_dix ?_)
    | refine m_d ?_ | refine m_l ?_ | refine isB ?_ | refine isI ?_ | refine w_nx ?_
    | (refine g_evs ?_; first | refine w_evs ?_ | refine w_evs0 ?_)
    | (refine g_exs ?_; first | refine w_exs ?_ | refine w_exs0 ?_)
    | (refine g_ex ?_; first | refine w_if1 ?_ | refine w_if2 ?_ | refine w_set ?_ | refine w_ret ?_ | refine w_expr ?_ | refine w_par ?_ | refine w_unp ?_ | refine w_put ?_)
    | refine w_rt ?_ | refine w_end ?_
    | (refine g_evB ?_; first | refine w_evBo ?_ | refine w_evBa ?_ | refine w_evB0 ?_)
    | (refine g_evT ?_; first | refine w_evT ?_ | refine w_evT0 ?_)
    | (refine g_op ?_; first | refine o_add ?_ | refine o_eq ?_ | refine o_isi ?_ | refine o_sub ?_ | refine b_lent ?_ | refine o_gt ?_ | refine o_lt ?_ | refine o_eqs ?_ | refine o_nes ?_ | refine b_tuple ?_ | refine b_int ?_ | refine o_gei ?_ | refine o_lei ?_ | refine o_nei ?_ | refine b_min ?_ | refine b_max ?_ )
    | (refine g_br ?_; first | refine br_nt ?_ | refine br_tt ?_ | refine br_ff ?_ | refine br_isiT (by with_unfolding_all rfl) ?_ | refine br_isiF (by with_unfolding_all rfl) ?_ )
    | (refine g_evI ?_; first | refine w_seq ?_ | refine w_rng1 ?_ | refine w_rng2 ?_ | refine w_rng3 ?_ | refine w_enum ?_ | refine w_zip ?_)
    | (refine g_evO ?_; first | refine w_evO ?_ | refine w_evO0 ?_)
    | (refine g_evF ?_; first | refine w_evF0 ?_ | refine w_txt ?_ ?_ | refine w_val ?_)
    | refine w_lit ?_)
/-! ### sizes -/
mutual
def sz : D → Nat
  | .tup ds => szs ds + 1
  | .scr ds => szs ds + 1
  | .str s => s.length + 1
  | .int i => i.natAbs.log2 + 1
  | _ => 1
def szs : List D → Nat
  | [] => 0
  | d :: ds => sz d + szs ds
end
theorem sz_pos (d : D) : 1 ≤ sz d := by cases d <;> simp [sz]
theorem sz_mem {d : D} : ∀ {ds : List D}, d ∈ ds → sz d ≤ szs ds
  | e :: ds, h => by
    rcases List.mem_cons.mp h with rfl | h
    · show sz d ≤ sz d + szs ds
      omega
    · have := sz_mem h
      show sz d ≤ sz e + szs ds
      omega
theorem len_szs : ∀ ds : List D, ds.length ≤ szs ds
  | [] => Nat.le_refl _
  | d :: ds => by
    have := len_szs ds
    have := sz_pos d
    show ds.length + 1 ≤ sz d + szs ds
    omega
theorem szs_cons (d : D) (ds : List D) : szs (d :: ds) = sz d + szs ds := rfl
theorem sz_tup (ds : List D) : sz (.tup ds) = szs ds + 1 := rfl
abbrev lim : Nat := 1000000
theorem len_lim {ds : List D} (h : sz (.tup ds) ≤ lim) : ds.length ≤ sizeLine := by
  have := len_szs ds
  rw [sz_tup] at h
  rw [sl]
  show ds.length ≤ 16777216
  have : lim = 1000000 := rfl
  omega
theorem mem_lim {d : D} {ds : List D} (hd : d ∈ ds) (h : sz (.tup ds) ≤ lim) : sz d ≤ lim := by
  have := sz_mem hd
  rw [sz_tup] at h
  omega
/-! ### integers -/
def isInt : D → Bool
  | .int _ => true
  | _ => false
def btw (d : D) (lo hi : Int) : Bool := match d with
  | .int i => decide (lo ≤ i) && decide (i ≤ hi)
  | _ => false
theorem fin_b {P : D → MH → Prop} {M : MH} {a b : Bool} (h : P (.bl a) M) (e : a = b) : P (.bl b) M := e ▸ h
theorem btw_i {i lo hi : Int} : btw (.int i) lo hi = (decide (lo ≤ i) && decide (i ≤ hi)) := rfl
section
variable {fs : Nat → Option Fn} {n : Nat} {M : MH} {P : D → MH → Prop} {d : D}
variable [Has fs 34 fn_is_integer]
theorem is_integer_ok (h : P (.bl (isInt d)) M) : Ok (run fs (n + 1) 34 [d] M) P := by
  refine w_fn (fn := fn_is_integer) rfl ?_
  simp only [fn_is_integer, b_is_integer]
  cases d <;> trivial <;> exact h
variable [Has fs 35 fn_is_between]
theorem is_between_ok {lo hi : Int} (h : P (.bl (btw d lo hi)) M) : Ok (run fs (n + 2) 35 [d, .int lo, .int hi] M) P := by
  refine w_fn (fn := fn_is_between) rfl ?_
  simp only [fn_is_between, b_is_between]
  trivial
  refine is_integer_ok ?_
  trivial
  cases d with
  | int i =>
    refine br_t rfl ?_
    trivial
    refine ⟨fun z => ?_, fun z => ?_⟩
    · trivial
      refine ⟨fun z2 => ?_, fun z2 => ?_⟩
      · trivial
        exact fin_b h (by rw [btw_i, z, z2]; rfl)
      · trivial
        exact fin_b h (by rw [btw_i, z, z2]; rfl)
    · trivial
      exact fin_b h (by rw [btw_i, z]; rfl)
  | _ => exact br_f rfl (by trivial; exact h)
/-- a tuple of so many integers -/
def intsB (d : D) (many lo hi : Int) : Bool := match d with
  | .tup ds => decide ((ds.length : Int) = many) && ds.all fun x => btw x lo hi
  | _ => false
variable [Has fs 36 fn_are_integers]
theorem are_integers_ok {many lo hi : Int} (hz : sz d ≤ lim) (h : P (.bl (intsB d many lo hi)) M) : Ok (run fs (n + 3) 36 [d, .int many, .int lo, .int hi] M) P := by
  refine w_fn (fn := fn_are_integers) rfl ?_
  simp only [fn_are_integers, b_are_integers]
  cases d with
  | tup ds =>
    trivial
    refine ⟨fun z => ?_, fun z => ?_⟩
    · have z := of_decide_eq_true z
      trivial
      refine ⟨ds, fun x => btw x lo hi, ?_, len_lim hz, ?_, ?_⟩
      · trivial
        exact s_tup
      · intro x hx
        refine ⟨_, rfl, ?_⟩
        trivial
        refine is_between_ok ?_
        exact ⟨rfl, rfl⟩
      · trivial
        exact fin_b h (by unfold intsB; simp [z])
    · have z := of_decide_eq_false z
      trivial
      exact fin_b h (by unfold intsB; simp [z])
  | _ => trivial <;> exact h
end

end Ev

set_option maxRecDepth 100000
set_option maxHeartbeats 2000000
namespace Ev
open PySem
local macro_rules
  | `(tactic| trivial) => `(tactic| repeat with_reducible first
    | (refine g_ev ?_; first | refine w_var (by with_unfolding_all rfl) ?_ | refine w_lit ?_ | refine w_ix ?_ | refine w_cmp ?_ | refine w_tup ?_ | refine w_bin ?_ | refine w_call1 ?_ | refine w_call2 ?_ | refine w_call3 ?_ | refine w_call4 ?_ | refine w_call ?_ | refine w_all0 ?_ | refine w_bf ?_ | refine w_lst ?_ | refine w_bop ?_ | refine w_nt ?_ | refine w_x1 ?_ | refine w_ite ?_ | refine w_slc ?_ | refine w_cst ?_ | refine w_neg ?_ | refine w_append ?_ | refine w_lrg ?_ | refine w_chain ?_ | refine w_x2 ?_ | refine w_fst ?_ | refine w_join ?_ | refine w_count ?_ | refine w_rev ?_ | refine w_dix ?_)
    | refine m_d ?_ | refine m_l ?_ | refine isB ?_ | refine isI ?_ | refine w_nx ?_
    | (refine g_evs ?_; first | refine w_evs ?_ | refine w_evs0 ?_)
    | (refine g_exs ?_; first | refine w_exs ?_ | refine w_exs0 ?_)
    | (refine g_ex ?_; first | refine w_if1 ?_ | refine w_if2 ?_ | refine w_set ?_ | refine w_ret ?_ | refine w_expr ?_ | refine w_par ?_ | refine w_unp ?_ | refine w_put ?_)
    | refine w_rt ?_ | refine w_end ?_
    | (refine g_evB ?_; first | refine w_evBo ?_ | refine w_evBa ?_ | refine w_evB0 ?_)
    | (refine g_evT ?_; first | refine w_evT ?_ | refine w_evT0 ?_)
    | (refine g_op ?_; first | refine o_add ?_ | refine o_eq ?_ | refine o_isi ?_ | refine o_sub ?_ | refine b_lent ?_ | refine o_gt ?_ | refine o_lt ?_ | refine o_eqs ?_ | refine o_nes ?_ | refine b_tuple ?_ | refine b_int ?_ | refine o_gei ?_ | refine o_lei ?_ | refine o_nei ?_ | refine b_min ?_ | refine b_max ?_ )
    | (refine g_br ?_; first | refine br_nt ?_ | refine br_tt ?_ | refine br_ff ?_ | refine br_isiT (by with_unfolding_all rfl) ?_ | refine br_isiF (by with_unfolding_all rfl) ?_ )
    | (refine g_evI ?_; first | refine w_seq ?_ | refine w_rng1 ?_ | refine w_rng2 ?_ | refine w_rng3 ?_ | refine w_enum ?_ | refine w_zip ?_)
    | (refine g_evO ?_; first | refine w_evO ?_ | refine w_evO0 ?_)
    | (refine g_evF ?_; first | refine w_evF0 ?_ | refine w_txt ?_ ?_ | refine w_val ?_)
    | refine is_between_ok ?_)
/-! ### houses -/
def cntD (ss : List D) (x : D) : Nat := ss.countP fun y => sameD y x
def ltF (k : Nat) : D → Bool
  | .int f => decide ((k : Int) < f)
  | _ => false
def isHouse : D → Bool
  | .tup [a, .tup ss, c] => btw a 2 8 && (decide (1 ≤ (ss.length : Int)) && (decide ((ss.length : Int) ≤ 3) && (intsB (.tup ss) ss.length 0 2 && (intsB c ss.length 0 3 && ss.all fun x => ltF (cntD ss x) a))))
  | _ => false
theorem isHouse_is {a c : D} {ss : List D} : isHouse (.tup [a, .tup ss, c]) = (btw a 2 8 && (decide (1 ≤ (ss.length : Int)) && (decide ((ss.length : Int) ≤ 3) && (intsB (.tup ss) ss.length 0 2 && (intsB c ss.length 0 3 && ss.all fun x => ltF (cntD ss x) a))))) := rfl
theorem at0 {α : Type} {a : α} {l : List α} : L2.atI (a :: l) 0 = some a := by
  unfold L2.atI L2.ixN
  rw [if_pos (by decide), if_pos (by simp)]
  rfl
theorem at1 {α : Type} {a b : α} {l : List α} : L2.atI (a :: b :: l) 1 = some b := by
  unfold L2.atI L2.ixN
  rw [if_pos (by decide), if_pos (by simp; omega)]
  rfl
theorem at2 {α : Type} {a b c : α} {l : List α} : L2.atI (a :: b :: c :: l) 2 = some c := by
  unfold L2.atI L2.ixN
  rw [if_pos (by decide), if_pos (by simp; omega)]
  rfl
theorem at3 {α : Type} {a b c d : α} {l : List α} : L2.atI (a :: b :: c :: d :: l) 3 = some d := by
  unfold L2.atI L2.ixN
  rw [if_pos (by decide), if_pos (by simp; omega)]
  rfl
theorem at4 {α : Type} {a b c d e : α} {l : List α} : L2.atI (a :: b :: c :: d :: e :: l) 4 = some e := by
  unfold L2.atI L2.ixN
  rw [if_pos (by decide), if_pos (by simp; omega)]
  rfl
theorem len3 {ds : List D} (h : (ds.length : Int) = 3) : ∃ a b c, ds = [a, b, c] := by
  match ds, h with
  | [a, b, c], _ => exact ⟨a, b, c, rfl⟩
  | [], h => simp at h
  | [_], h => simp at h
  | [_, _], h => simp at h
  | _ :: _ :: _ :: _ :: _, h => simp at h; omega
theorem len2 {ds : List D} (h : (ds.length : Int) = 2) : ∃ a b, ds = [a, b] := by
  match ds, h with
  | [a, b], _ => exact ⟨a, b, rfl⟩
  | [], h => simp at h
  | [_], h => simp at h
  | _ :: _ :: _ :: _, h => simp at h; omega
theorem len5 {ds : List D} (h : (ds.length : Int) = 5) : ∃ a b c d e, ds = [a, b, c, d, e] := by
  match ds, h with
  | [a, b, c, d, e], _ => exact ⟨a, b, c, d, e, rfl⟩
  | [], h => simp at h
  | [_], h => simp at h
  | [_, _], h => simp at h
  | [_, _, _], h => simp at h
  | [_, _, _, _], h => simp at h
  | _ :: _ :: _ :: _ :: _ :: _ :: _, h => simp at h; omega
theorem all_btw {lo hi : Int} : ∀ {ss : List D}, (ss.all fun x => btw x lo hi) = true → ∃ is : List Int, ss = is.map .int ∧ ∀ i ∈ is, lo ≤ i ∧ i ≤ hi
  | [], _ => ⟨[], rfl, by simp⟩
  | d :: ss, h => by
    rw [List.all_cons, Bool.and_eq_true] at h
    obtain ⟨is, rfl, q⟩ := all_btw h.2
    cases d with
    | int i =>
      have h1 := h.1
      rw [btw_i, Bool.and_eq_true, decide_eq_true_eq, decide_eq_true_eq] at h1
      exact ⟨i :: is, rfl, fun j hj => (List.mem_cons.mp hj).elim (fun e => e ▸ h1) (q j)⟩
    | _ => exact nomatch h.1
theorem cntD_ints (is : List Int) (i : Int) : cntD (is.map .int) (.int i) = is.count i := by
  unfold cntD
  rw [List.countP_map]
  rfl
theorem o_countE {M : MH} {is : List Int} {i : Int} {P : TV × MH → Prop} (h : P (.d (.int (is.count i)), M)) : Op (mtop M .count (.d (.tup (is.map .int))) [.int i]) P := by
  refine ⟨_, ?_, h⟩
  show (match (pdAll (pd M 39) (is.map .int)).map PyData.tuple, some (PyData.int i) with
    | some (.tuple bs), some a => some (TV.d (.int (bs.countP fun z => PyData.eqv z a)), M)
    | _, _ => none) = _
  rw [pdAll_ints (fun i => rfl)]
  show some (TV.d (.int ((is.map PyData.int).countP fun z => PyData.eqv z (.int i))), M) = _
  rw [List.countP_map]
  rfl
section
variable {fs : Nat → Option Fn} {n : Nat} {M : MH} {P : D → MH → Prop} {d : D}
variable [Has fs 34 fn_is_integer] [Has fs 35 fn_is_between] [Has fs 36 fn_are_integers] [Has fs 37 fn_is_a_house]
theorem is_a_house_ok (hz : sz d ≤ lim) (h : P (.bl (isHouse d)) M) : Ok (run fs (n + 4) 37 [d] M) P := by
  refine w_fn (fn := fn_is_a_house) rfl ?_
  simp only [fn_is_a_house, b_is_a_house]
  cases d with
  | tup ds =>
    trivial
    refine ⟨fun z => ?_, fun z => ?_⟩
    · obtain ⟨a, s, c, rfl⟩ := len3 (of_decide_eq_true z)
      trivial
      refine o_ixt at0 ?_
      trivial
      refine ⟨fun z1 => ?_, fun z1 => ?_⟩
      · trivial
        refine ⟨_, rfl, rfl, ?_⟩
        have hs : sz s ≤ lim := mem_lim (by simp) hz
        have hc : sz c ≤ lim := mem_lim (by simp) hz
        cases s with
        | tup ss =>
          trivial
          refine ⟨fun z2 => ?_, fun z2 => ?_⟩
          · trivial
            refine ⟨fun z3 => ?_, fun z3 => ?_⟩
            · trivial
              refine are_integers_ok hs ?_
              trivial
              refine ⟨fun z4 => ?_, fun z4 => ?_⟩
              · trivial
                refine are_integers_ok hc ?_
                trivial
                refine ⟨fun z5 => ?_, fun z5 => ?_⟩
                · trivial
                  have q := z4
                  unfold intsB at q
                  rw [Bool.and_eq_true] at q
                  obtain ⟨is, rfl, _⟩ := all_btw q.2
                  refine ⟨is.map .int, fun x => ltF (cntD (is.map .int) x) a, ?_, len_lim hs, ?_, ?_⟩
                  · trivial
                    exact s_tup
                  · intro x hx
                    obtain ⟨i, hi, rfl⟩ := List.mem_map.mp hx
                    refine ⟨_, rfl, ?_⟩
                    trivial
                    refine ⟨rfl, ?_⟩
                    trivial
                    refine o_countE ?_
                    trivial
                    cases a with
                    | int F =>
                      trivial
                      refine ⟨?_, rfl⟩
                      show _ = TV.d (.bl (decide ((cntD (is.map .int) (.int i) : Int) < F)))
                      rw [cntD_ints]
                    | _ => exact nomatch z1
                  · trivial
                    refine fin_b h ?_
                    rw [isHouse_is, z1, z2, z3, z4, z5]
                    rfl
                · trivial
                  refine fin_b h ?_
                  rw [isHouse_is, z5]
                  simp
              · trivial
                refine fin_b h ?_
                rw [isHouse_is, z4]
                simp
            · trivial
              refine fin_b h ?_
              rw [isHouse_is, z3]
              simp
          · trivial
            refine fin_b h ?_
            rw [isHouse_is, z2]
            simp
        | _ => trivial <;> exact h
      · trivial
        refine fin_b h ?_
        unfold isHouse
        split <;> simp_all
    · trivial
      refine fin_b h ?_
      unfold isHouse
      split
      · rename_i e
        cases e
        simp at z
      · rfl
  | _ => trivial <;> exact h
variable [Has fs 38 fn_need_house]
theorem need_house_ok (hz : sz d ≤ lim) (hd : isHouse d = true) (h : P .non M) : Ok (run fs (n + 5) 38 [d] M) P := by
  refine w_fn (fn := fn_need_house) rfl ?_
  simp only [fn_need_house, b_need_house]
  trivial
  refine is_a_house_ok hz ?_
  trivial
  refine ⟨by rw [hd]; rfl, ?_⟩
  trivial
  exact h
end

end Ev

set_option maxRecDepth 100000
set_option maxHeartbeats 2000000
namespace Ev
open PySem
local macro_rules
  | `(tactic| trivial) => `(tactic| repeat with_reducible first
    | (refine g_ev ?_; first | refine w_var (by with_unfolding_all rfl) ?_ | refine w_lit ?_ | refine w_ix ?_ | refine w_cmp ?_ | refine w_tup ?_ | refine w_bin ?_ | refine w_call1 ?_ | refine w_call2 ?_ | refine w_call3 ?_ | refine w_call4 ?_ | refine w_call ?_ | refine w_all0 ?_ | refine w_bf ?_ | refine w_lst ?_ | refine w_bop ?_ | refine w_nt ?_ | refine w_x1 ?_ | refine w_ite ?_ | refine w_slc ?_ | refine w_cst ?_ | refine w_neg ?_ | refine w_append ?_ | refine w_lrg ?_ | refine w_chain ?_ | refine w_x2 ?_ | refine w_fst ?_ | refine w_join ?_ | refine w_count ?_ | refine w_rev ?_ | refine w_dix ?_)
    | refine m_d ?_ | refine m_l ?_ | refine isB ?_ | refine isI ?_ | refine w_nx ?_
    | (refine g_evs ?_; first | refine w_evs ?_ | refine w_evs0 ?_)
    | (refine g_exs ?_; first | refine w_exs ?_ | refine w_exs0 ?_)
    | (refine g_ex ?_; first | refine w_if1 ?_ | refine w_if2 ?_ | refine w_set ?_ | refine w_ret ?_ | refine w_expr ?_ | refine w_par ?_ | refine w_unp ?_ | refine w_put ?_)
    | refine w_rt ?_ | refine w_end ?_
    | (refine g_evB ?_; first | refine w_evBo ?_ | refine w_evBa ?_ | refine w_evB0 ?_)
    | (refine g_evT ?_; first | refine w_evT ?_ | refine w_evT0 ?_)
    | (refine g_op ?_; first | refine o_add ?_ | refine o_eq ?_ | refine o_isi ?_ | refine o_sub ?_ | refine b_lent ?_ | refine o_gt ?_ | refine o_lt ?_ | refine o_eqs ?_ | refine o_nes ?_ | refine b_tuple ?_ | refine b_int ?_ | refine o_gei ?_ | refine o_lei ?_ | refine o_nei ?_ | refine b_min ?_ | refine b_max ?_ )
    | (refine g_br ?_; first | refine br_nt ?_ | refine br_tt ?_ | refine br_ff ?_ | refine br_isiT (by with_unfolding_all rfl) ?_ | refine br_isiF (by with_unfolding_all rfl) ?_ )
    | (refine g_evI ?_; first | refine w_seq ?_ | refine w_rng1 ?_ | refine w_rng2 ?_ | refine w_rng3 ?_ | refine w_enum ?_ | refine w_zip ?_)
    | (refine g_evO ?_; first | refine w_evO ?_ | refine w_evO0 ?_)
    | (refine g_evF ?_; first | refine w_evF0 ?_ | refine w_txt ?_ ?_ | refine w_val ?_)
    | refine is_between_ok ?_)
/-! ### data as trees, without lists -/
mutual
def val : D → PyData
  | .non => .none
  | .bl b => .bool b
  | .int i => .int i
  | .str s => .str s
  | .tup ds => .tuple (vals ds)
  | .scr ds => .list (vals ds)
  | .ref _ => .none
def vals : List D → List PyData
  | [] => []
  | d :: ds => val d :: vals ds
end
mutual
/-- so deep at most, no list in it -/
def pl : Nat → D → Bool
  | 0, _ => false
  | n + 1, .tup ds => pls n ds
  | _ + 1, .scr _ => false
  | _ + 1, .ref _ => false
  | _ + 1, _ => true
def pls : Nat → List D → Bool
  | _, [] => true
  | n, d :: ds => pl n d && pls n ds
end
theorem pd_val {M : MH} : ∀ {n m : Nat} {d : D}, pl n d = true → n ≤ m → pd M m d = some (val d)
  | 0, _, _, h, _ => by simp [pl] at h
  | n + 1, m, d, h, hm => by
    obtain ⟨k, rfl⟩ : ∃ k, m = k + 1 := ⟨m - 1, by omega⟩
    cases d with
    | tup ds =>
      have all : ∀ ds : List D, pls n ds = true → pdAll (pd M k) ds = some (vals ds) := by
        intro ds
        induction ds with
        | nil => intro _; rfl
        | cons d ds ih =>
          intro h
          have h : (pl n d && pls n ds) = true := h
          rw [Bool.and_eq_true] at h
          show (match pd M k d, pdAll (pd M k) ds with
            | some x, some xs => some (x :: xs)
            | _, _ => none) = _
          rw [pd_val h.1 (by omega), ih h.2]
          rfl
      show (pdAll (pd M k) ds).map PyData.tuple = some (.tuple (vals ds))
      rw [all ds h]
      rfl
    | scr ds => exact absurd (show false = true from h) (by decide)
    | ref k => exact absurd (show false = true from h) (by decide)
    | _ => rfl
/-- a < b -/
def ltD (a b : D) : Bool := W.dataLt (val a) (val b)
theorem o_ltd {M : MH} {a b : D} {P : Bool → Prop} (ha : pl 40 a = true) (hb : pl 40 b = true) (hal : (W.alike (val a) (val b) && noNone (val a)) = true) (h : P (ltD a b)) : Op (cmpop M .lt (.d a) (.d b)) P := by
  refine ⟨_, ?_, h⟩
  show (match pd M 40 a, pd M 40 b with
    | some a, some b => guard' (W.alike a b && noNone a) (W.dataLt a b)
    | _, _ => none) = _
  rw [pd_val ha (Nat.le_refl _), pd_val hb (Nat.le_refl _)]
  show guard' _ _ = _
  unfold guard'
  rw [hal]
  rfl
/-- items that compare -/
def Alk (ds : List D) : Prop := ∀ a ∈ ds, ∀ b ∈ ds, pl 40 a = true ∧ (W.alike (val a) (val b) && noNone (val a)) = true
def rising (ds : List D) : Bool := (List.range (ds.length - 1)).all fun i => match ds[i]?, ds[i + 1]? with
  | some a, some b => ltD a b
  | _, _ => false
theorem atN {α : Type} {l : List α} {i : Nat} (h : i < l.length) : L2.atI l (i : Int) = l[i]? := by
  unfold L2.atI L2.ixN
  rw [if_pos (by omega), if_pos (by omega)]
  rfl
theorem rng_map (n : Nat) : rng 0 n 1 = (List.range n).map fun (i : Nat) => D.int i := by
  unfold rng
  apply List.map_congr_left
  intro i _
  show D.int (0 + (i : Int) * 1) = _
  congr 1
  omega
section
variable {fs : Nat → Option Fn} {n : Nat} {M : MH} {P : D → MH → Prop} {d : D}
section
variable [Has fs 45 fn_is_rising]
theorem is_rising_ok {ds : List D} (hz : ds.length ≤ lim) (hk : Alk ds) (h : P (.bl (rising ds)) M) : Ok (run fs (n + 1) 45 [.tup ds] M) P := by
  refine w_fn (fn := fn_is_rising) rfl ?_
  simp only [fn_is_rising, b_is_rising]
  trivial
  have hl : lim = 1000000 := rfl
  refine ⟨rng 0 (((ds.length : Int) - 1).toNat) 1, fun x => match x with
    | .int i => match ds[i.toNat]?, ds[i.toNat + 1]? with
      | some a, some b => ltD a b
      | _, _ => false
    | _ => false, ?_, by rw [rng_len, sl]; omega, ?_, ?_⟩
  · trivial
    exact ⟨small_is (by omega) (by omega), rfl, rfl⟩
  · intro x hx
    rw [rng_map] at hx
    obtain ⟨i, hi, rfl⟩ := List.mem_map.mp hx
    have hi := List.mem_range.mp hi
    have h1 : i < ds.length := by omega
    have h2 : i + 1 < ds.length := by omega
    refine ⟨_, rfl, ?_⟩
    trivial
    refine o_ixt (d := ds[i]) (by rw [atN h1]; simp [h1]) ?_
    trivial
    refine o_ixt (d := ds[i + 1]) (by
      have : ((i : Int) + 1) = ((i + 1 : Nat) : Int) := by push_cast; rfl
      rw [this, atN h2]; simp [h2]) ?_
    have k1 := hk ds[i] (List.getElem_mem h1) ds[i + 1] (List.getElem_mem h2)
    have k2 := hk ds[i + 1] (List.getElem_mem h2) ds[i] (List.getElem_mem h1)
    refine o_ltd k1.1 k2.1 k1.2 ?_
    refine ⟨?_, rfl⟩
    show _ = TV.d (.bl (match ds[((i : Nat) : Int).toNat]?, ds[((i : Nat) : Int).toNat + 1]? with
      | some a, some b => ltD a b
      | _, _ => false))
    rw [Int.toNat_natCast, List.getElem?_eq_getElem h1, List.getElem?_eq_getElem h2]
  · trivial
    refine fin_b h ?_
    unfold rising
    rw [rng_map, List.all_map]
    have e : ((ds.length : Int) - 1).toNat = ds.length - 1 := by omega
    rw [e]
    rfl
end
/-! ### cars, floors, calls -/
def hD (F : Int) (ss ns : List Int) : D := .tup [.int F, .tup (ss.map .int), .tup (ns.map .int)]
theorem hD0 {M : MH} {F : Int} {ss ns : List Int} {P : TV → Prop} (h : P (.d (.int F))) : Op (ixop M (.d (hD F ss ns)) (.d (.int 0))) P := o_ixt at0 h
theorem hD1 {M : MH} {F : Int} {ss ns : List Int} {P : TV → Prop} (h : P (.d (.tup (ss.map .int)))) : Op (ixop M (.d (hD F ss ns)) (.d (.int 1))) P := o_ixt at1 h
theorem hD2 {M : MH} {F : Int} {ss ns : List Int} {P : TV → Prop} (h : P (.d (.tup (ns.map .int)))) : Op (ixop M (.d (hD F ss ns)) (.d (.int 2))) P := o_ixt at2 h
theorem b_lenM {M : MH} {is : List Int} {P : TV → Prop} (h : P (.d (.int is.length))) : Op (bfop M .len [.d (.tup (is.map .int))]) P := by
  refine b_lent ?_
  rw [List.length_map]
  exact h
variable [Has fs 34 fn_is_integer] [Has fs 35 fn_is_between]
variable {F : Int} {ss ns : List Int}
section
variable [Has fs 49 fn_is_a_car]
theorem is_a_car_ok (h : P (.bl (btw d 0 (ss.length - 1))) M) : Ok (run fs (n + 3) 49 [hD F ss ns, d] M) P := by
  refine w_fn (fn := fn_is_a_car) rfl ?_
  simp only [fn_is_a_car, b_is_a_car]
  trivial
  refine hD1 ?_
  refine w_evT0 (b_lenM ?_)
  trivial
  exact h
end
variable [Has fs 43 fn_is_a_floor]
theorem is_a_floor_ok (h : P (.bl (btw d 0 (F - 1))) M) : Ok (run fs (n + 3) 43 [hD F ss ns, d] M) P := by
  refine w_fn (fn := fn_is_a_floor) rfl ?_
  simp only [fn_is_a_floor, b_is_a_floor]
  trivial
  refine hD0 ?_
  trivial
  exact h
def isCall (F : Int) (a w : D) : Bool := match a, w with
  | .int f, .str s => (decide (0 ≤ f) && decide (f ≤ F - 1)) && (if s == "up" then decide (f < F - 1) else if s == "down" then decide (0 < f) else false)
  | _, _ => false
variable [Has fs 44 fn_is_a_call]
theorem is_a_call_ok {w : D} (h : P (.bl (isCall F d w)) M) : Ok (run fs (n + 4) 44 [hD F ss ns, d, w] M) P := by
  refine w_fn (fn := fn_is_a_call) rfl ?_
  simp only [fn_is_a_call, b_is_a_call]
  trivial
  refine is_a_floor_ok ?_
  trivial
  cases d with
  | int f =>
    refine ⟨fun z => ?_, fun z => ?_⟩
    · trivial
      cases w with
      | str s =>
        trivial
        refine o_nins rfl ?_
        trivial
        by_cases e1 : s = "up"
        · subst e1
          refine br_anyT (by decide +kernel) ?_
          trivial
          refine br_strT (by decide +kernel) ?_
          trivial
          refine hD0 ?_
          trivial
          refine fin_b h ?_
          show ((decide (0 ≤ f) && decide (f ≤ F - 1)) && _) = _
          rw [show (decide (0 ≤ f) && decide (f ≤ F - 1)) = true from z, if_pos (by decide +kernel)]
          rfl
        · by_cases e2 : s = "down"
          · subst e2
            refine br_anyT (by decide +kernel) ?_
            trivial
            refine br_strF (by decide +kernel) ?_
            trivial
            refine fin_b h ?_
            show ((decide (0 ≤ f) && decide (f ≤ F - 1)) && _) = _
            rw [show (decide (0 ≤ f) && decide (f ≤ F - 1)) = true from z, if_neg (by decide +kernel), if_pos (by decide +kernel)]
            rfl
          · refine br_anyF ?_ ?_
            · have n1 : ("up" : Str) ≠ s := fun e => e1 e.symm
              have n2 : ("down" : Str) ≠ s := fun e => e2 e.symm
              simp [n1, n2]
            · trivial
              refine fin_b h ?_
              show (_ && _) = _
              rw [if_neg (by simpa using e1), if_neg (by simpa using e2), Bool.and_false]
      | _ => trivial <;> exact h
    · trivial
      refine fin_b h ?_
      cases w with
      | str s =>
        show ((decide (0 ≤ f) && decide (f ≤ F - 1)) && _) = _
        rw [show (decide (0 ≤ f) && decide (f ≤ F - 1)) = false from z]
        rfl
      | _ => rfl
  | _ => exact br_f rfl (by trivial; exact h)
end

end Ev

set_option maxRecDepth 100000
set_option maxHeartbeats 2000000
namespace Ev
open PySem
local macro_rules
  | `(tactic| trivial) => `(tactic| repeat with_reducible first
    | (refine g_ev ?_; first | refine w_var (by with_unfolding_all rfl) ?_ | refine w_lit ?_ | refine w_ix ?_ | refine w_cmp ?_ | refine w_tup ?_ | refine w_bin ?_ | refine w_call1 ?_ | refine w_call2 ?_ | refine w_call3 ?_ | refine w_call4 ?_ | refine w_call ?_ | refine w_all0 ?_ | refine w_bf ?_ | refine w_lst ?_ | refine w_bop ?_ | refine w_nt ?_ | refine w_x1 ?_ | refine w_ite ?_ | refine w_slc ?_ | refine w_cst ?_ | refine w_neg ?_ | refine w_append ?_ | refine w_lrg ?_ | refine w_chain ?_ | refine w_x2 ?_ | refine w_fst ?_ | refine w_join ?_ | refine w_count ?_ | refine w_rev ?_ | refine w_dix ?_)
    | refine m_d ?_ | refine m_l ?_ | refine isB ?_ | refine isI ?_ | refine w_nx ?_
    | (refine g_evs ?_; first | refine w_evs ?_ | refine w_evs0 ?_)
    | (refine g_exs ?_; first | refine w_exs ?_ | refine w_exs0 ?_)
    | (refine g_ex ?_; first | refine w_if1 ?_ | refine w_if2 ?_ | refine w_set ?_ | refine w_ret ?_ | refine w_expr ?_ | refine w_par ?_ | refine w_unp ?_ | refine w_put ?_)
    | refine w_rt ?_ | refine w_end ?_
    | (refine g_evB ?_; first | refine w_evBo ?_ | refine w_evBa ?_ | refine w_evB0 ?_)
    | (refine g_evT ?_; first | refine w_evT ?_ | refine w_evT0 ?_)
    | (refine g_op ?_; first | refine o_add ?_ | refine o_eq ?_ | refine o_isi ?_ | refine o_sub ?_ | refine b_lent ?_ | refine o_gt ?_ | refine o_lt ?_ | refine o_eqs ?_ | refine o_nes ?_ | refine b_tuple ?_ | refine b_int ?_ | refine o_gei ?_ | refine o_lei ?_ | refine o_nei ?_ | refine b_min ?_ | refine b_max ?_ )
    | (refine g_br ?_; first | refine br_nt ?_ | refine br_tt ?_ | refine br_ff ?_ | refine br_isiT (by with_unfolding_all rfl) ?_ | refine br_isiF (by with_unfolding_all rfl) ?_ )
    | (refine g_evI ?_; first | refine w_seq ?_ | refine w_rng1 ?_ | refine w_rng2 ?_ | refine w_rng3 ?_ | refine w_enum ?_ | refine w_zip ?_)
    | (refine g_evO ?_; first | refine w_evO ?_ | refine w_evO0 ?_)
    | (refine g_evF ?_; first | refine w_evF0 ?_ | refine w_txt ?_ ?_ | refine w_val ?_)
    | refine is_between_ok ?_)
/-! ### lights, notes -/
def isCallD (F : Int) : D → Bool
  | .tup [a, w] => isCall F a w
  | _ => false
theorem isCallD_shape {F : Int} {d : D} (h : isCallD F d = true) : ∃ (f : Int) (s : Str), d = .tup [.int f, .str s] := by
  unfold isCallD at h
  split at h
  · unfold isCall at h
    split at h
    · exact ⟨_, _, rfl⟩
    · cases h
  · cases h
theorem alk_calls {F : Int} {ds : List D} (h : ds.all (isCallD F) = true) : Alk ds := fun a ha b hb => by
  obtain ⟨f, s, rfl⟩ := isCallD_shape (List.all_eq_true.mp h a ha)
  obtain ⟨g, t, rfl⟩ := isCallD_shape (List.all_eq_true.mp h b hb)
  exact ⟨rfl, rfl⟩
theorem alk_ints {is : List Int} : Alk (is.map .int) := fun a ha b hb => by
  obtain ⟨i, _, rfl⟩ := List.mem_map.mp ha
  obtain ⟨j, _, rfl⟩ := List.mem_map.mp hb
  exact ⟨rfl, rfl⟩
def areCalls (F : Int) : D → Bool
  | .tup ds => ds.all (isCallD F) && rising ds
  | _ => false
theorem take_all {α : Type} {ds : List α} {i : Nat} {d : α} {g : α → Bool} (h : (ds.take i).all g = true) (hd : ds[i]? = some d) (hg : g d = true) : (ds.take (i + 1)).all g = true := by
  rw [List.take_add_one, hd, List.all_append, h]
  simp [hg]
theorem not_all {α : Type} {ds : List α} {i : Nat} {d : α} {g : α → Bool} (hd : ds[i]? = some d) (hg : g d = false) : ds.all g = false := by
  rw [List.all_eq_false]
  exact ⟨d, List.mem_of_getElem? hd, by rw [hg]; decide⟩
section
variable {fs : Nat → Option Fn} {n : Nat} {M : MH} {P : D → MH → Prop} {d : D} {F : Int} {ss ns : List Int}
variable [Has fs 34 fn_is_integer] [Has fs 35 fn_is_between]
section
variable [Has fs 45 fn_is_rising] [Has fs 43 fn_is_a_floor] [Has fs 44 fn_is_a_call] [Has fs 46 fn_are_calls]
theorem are_calls_ok (hz : sz d ≤ lim) (h : P (.bl (areCalls F d)) M) : Ok (run fs (n + 5) 46 [hD F ss ns, d] M) P := by
  refine w_fn (fn := fn_are_calls) rfl ?_
  simp only [fn_are_calls, b_are_calls]
  cases d with
  | tup ds =>
    trivial
    refine w_for ?_
    trivial
    refine op_some ⟨ds, fun _ => rfl, fun i σ M' => M = M' ∧ (∃ o, σ = [some (hD F ss ns), some (.tup ds), o]) ∧ (ds.take i).all (isCallD F) = true, ⟨rfl, ⟨none, rfl⟩, by simp⟩, ?_, ?_⟩
    · rintro i x σ M' hx ⟨rfl, ⟨o, rfl⟩, ha⟩
      refine ⟨_, rfl, ?_⟩
      have no : isCallD F x = false → P (.bl false) M := fun e => fin_b h (by
        show (ds.all (isCallD F) && rising ds) = false
        rw [not_all hx e]
        rfl)
      have hxz : sz x ≤ lim := mem_lim (List.mem_of_getElem? hx) hz
      cases x with
      | tup cs =>
        trivial
        refine ⟨fun z => ?_, fun z => ?_⟩
        · obtain ⟨a, w, rfl⟩ := len2 (of_decide_eq_true z)
          trivial
          refine o_ixt at0 ?_
          trivial
          refine o_ixt at1 ?_
          trivial
          refine is_a_call_ok ?_
          trivial
          refine ⟨fun z2 => ?_, fun z2 => ?_⟩
          · trivial
            exact ⟨rfl, ⟨_, rfl⟩, take_all ha hx z2⟩
          · trivial
            exact no z2
        · trivial
          refine no ?_
          unfold isCallD
          split
          · rename_i e
            cases e
            simp at z
          · rfl
      | _ => trivial <;> exact no rfl
    · rintro σ M' ⟨rfl, ⟨o, rfl⟩, ha⟩
      rw [List.take_length] at ha
      trivial
      refine is_rising_ok (Nat.le_trans (len_szs _) (by have := hz; rw [sz_tup] at this; omega)) (alk_calls ha) ?_
      trivial
      refine fin_b h ?_
      show (ds.all (isCallD F) && rising ds) = _
      rw [ha]
      rfl
  | _ => trivial <;> exact h
end
section
variable [Has fs 45 fn_is_rising] [Has fs 36 fn_are_integers] [Has fs 47 fn_are_rising_integers]
def risingInts (d : D) (hi : Int) : Bool := match d with
  | .tup ds => intsB (.tup ds) ds.length 0 hi && rising ds
  | _ => false
theorem intsB_is {ds : List D} {m lo hi : Int} : intsB (.tup ds) m lo hi = (decide ((ds.length : Int) = m) && ds.all fun x => btw x lo hi) := rfl
theorem ints_of {ds : List D} {m lo hi : Int} (h : intsB (.tup ds) m lo hi = true) : ∃ is : List Int, ds = is.map .int ∧ (∀ i ∈ is, lo ≤ i ∧ i ≤ hi) ∧ (is.length : Int) = m := by
  rw [intsB_is, Bool.and_eq_true, decide_eq_true_eq] at h
  obtain ⟨is, rfl, q⟩ := all_btw h.2
  exact ⟨is, rfl, q, by simpa using h.1⟩
theorem are_rising_integers_ok {hi : Int} (hz : sz d ≤ lim) (h : P (.bl (risingInts d hi)) M) : Ok (run fs (n + 4) 47 [d, .int hi] M) P := by
  refine w_fn (fn := fn_are_rising_integers) rfl ?_
  simp only [fn_are_rising_integers, b_are_rising_integers]
  cases d with
  | tup ds =>
    trivial
    refine are_integers_ok hz ?_
    trivial
    refine ⟨fun z => ?_, fun z => ?_⟩
    · obtain ⟨is, rfl, _⟩ := ints_of z
      trivial
      refine is_rising_ok (Nat.le_trans (len_szs _) (by have := hz; rw [sz_tup] at this; omega)) alk_ints ?_
      trivial
      refine ⟨fun z2 => ?_, fun z2 => ?_⟩
      · trivial
        refine fin_b h ?_
        simp only [risingInts, z, z2, Bool.true_and]
      · trivial
        refine fin_b h ?_
        simp only [risingInts, z, z2, Bool.true_and]
    · trivial
      refine fin_b h ?_
      simp only [risingInts, z, Bool.false_and]
  | _ => trivial <;> exact h
variable [Has fs 48 fn_are_panels]
def arePanels (F : Int) (m : Nat) : D → Bool
  | .tup ds => decide ((ds.length : Int) = m) && ds.all fun p => risingInts p (F - 1)
  | _ => false
theorem are_panels_ok (hz : sz d ≤ lim) (h : P (.bl (arePanels F ss.length d)) M) : Ok (run fs (n + 5) 48 [hD F ss ns, d] M) P := by
  refine w_fn (fn := fn_are_panels) rfl ?_
  simp only [fn_are_panels, b_are_panels]
  cases d with
  | tup ds =>
    trivial
    refine hD1 ?_
    refine w_evT0 (b_lenM ?_)
    trivial
    refine ⟨fun z => ?_, fun z => ?_⟩
    · trivial
      refine ⟨ds, fun p => risingInts p (F - 1), ?_, len_lim hz, ?_, ?_⟩
      · trivial
        exact s_tup
      · intro x hx
        refine ⟨_, rfl, ?_⟩
        trivial
        refine hD0 ?_
        trivial
        refine are_rising_integers_ok (mem_lim hx hz) ?_
        exact ⟨rfl, rfl⟩
      · trivial
        refine fin_b h ?_
        simp only [arePanels, z, Bool.true_and]
    · trivial
      refine fin_b h ?_
      simp only [arePanels, z, Bool.false_and]
  | _ => trivial <;> exact h
end
section
variable [Has fs 36 fn_are_integers] [Has fs 41 fn_are_notes]
theorem zip_mem {a b : List D} {x : D} (h : x ∈ List.zipWith (fun x y => D.tup [x, y]) a b) : ∃ u v, u ∈ a ∧ v ∈ b ∧ x = .tup [u, v] := by
  obtain ⟨i, hi⟩ := List.getElem?_of_mem h
  obtain ⟨u, v, h1, h2, rfl⟩ := zip_at hi
  exact ⟨u, v, List.mem_of_getElem? h1, List.mem_of_getElem? h2, rfl⟩
/-- the notes of each car -/
def noteB : D → Bool
  | .tup [own, .int c] => intsB own c 0 9
  | _ => false
def areNotes (ns : List Int) (m : Nat) : D → Bool
  | .tup ds => decide ((ds.length : Int) = m) && (List.zipWith (fun x y => D.tup [x, y]) ds (ns.map .int)).all noteB
  | _ => false
theorem s_zip {M : MH} {a b : List D} : Op (srcOf M (.d (.tup a))) fun s => Op (srcOf M (.d (.tup b))) fun t => M = M ∧ Src.cur M (.zip s t) = some (List.zipWith (fun x y => D.tup [x, y]) a b) := op_some (op_some ⟨rfl, rfl⟩)
theorem are_notes_ok (hz : sz d ≤ lim) (h : P (.bl (areNotes ns ss.length d)) M) : Ok (run fs (n + 4) 41 [hD F ss ns, d] M) P := by
  refine w_fn (fn := fn_are_notes) rfl ?_
  simp only [fn_are_notes, b_are_notes]
  cases d with
  | tup ds =>
    trivial
    refine hD1 ?_
    refine w_evT0 (b_lenM ?_)
    trivial
    refine ⟨fun z => ?_, fun z => ?_⟩
    · trivial
      refine ⟨List.zipWith (fun x y => D.tup [x, y]) ds (ns.map .int), noteB, ?_, ?_, ?_, ?_⟩
      · trivial
        refine hD2 ?_
        refine ⟨rfl, s_zip⟩
      · have := len_lim hz
        rw [List.length_zipWith]
        omega
      · intro x hx
        obtain ⟨u, v, hu, hv, rfl⟩ := zip_mem hx
        obtain ⟨c, _, rfl⟩ := List.mem_map.mp hv
        refine ⟨_, rfl, ?_⟩
        trivial
        refine are_integers_ok (mem_lim hu hz) ?_
        exact ⟨rfl, rfl⟩
      · trivial
        refine fin_b h ?_
        simp only [areNotes, z, Bool.true_and]
    · trivial
      refine fin_b h ?_
      simp only [areNotes, z, Bool.false_and]
  | _ => trivial <;> exact h
end
section
variable [Has fs 39 fn_are_apart]
def apart (ss fl : List Int) : Bool := decide ((ddL (List.zipWith (fun s f => [s, f]) ss fl)).length = fl.length)
theorem zip_ints (a b : List Int) : List.zipWith (fun x y => D.tup [x, y]) (a.map .int) (b.map .int) = (List.zipWith (fun s f => [s, f]) a b).map fun l => D.tup (l.map .int) := by
  induction a generalizing b with
  | nil => rfl
  | cons x a ih =>
    cases b with
    | nil => rfl
    | cons y b =>
      show D.tup [.int x, .int y] :: _ = _
      rw [show List.zipWith (fun x y => D.tup [x, y]) (a.map .int) (b.map .int) = _ from ih b]
      rfl
theorem intTups_map (l : List (List Int)) : intTups (l.map fun l => D.tup (l.map .int)) = some l := by
  induction l with
  | nil => rfl
  | cons x l ih =>
    show (match intsOf (x.map .int), intTups (l.map fun l => D.tup (l.map .int)) with
      | some is, some l => some (is :: l)
      | _, _ => none) = _
    rw [intsOf_map, ih]
theorem are_apart_ok {fl : List Int} (hl : fl.length < 64) (h : P (.bl (apart ss fl)) M) : Ok (run fs (n + 1) 39 [hD F ss ns, .tup (fl.map .int)] M) P := by
  refine w_fn (fn := fn_are_apart) rfl ?_
  simp only [fn_are_apart, b_are_apart]
  trivial
  refine w_compG (ds := (List.zipWith (fun s f => [s, f]) ss fl).map fun l => D.tup (l.map .int)) id ?_ ?_ ?_ ?_
  · trivial
    refine hD1 ?_
    trivial
    refine ⟨rfl, ?_⟩
    rw [← zip_ints]
    exact s_zip
  · rw [List.length_map, List.length_zipWith, sl]
    omega
  · intro x hx
    obtain ⟨l, hl, rfl⟩ := List.mem_map.mp hx
    obtain ⟨i, hi⟩ := List.getElem?_of_mem hl
    rw [List.getElem?_zipWith] at hi
    cases e1 : ss[i]? with
    | none => rw [e1] at hi; cases e2 : fl[i]? <;> rw [e2] at hi <;> cases hi
    | some a =>
      cases e2 : fl[i]? with
      | none => rw [e1, e2] at hi; cases hi
      | some b =>
        rw [e1, e2] at hi
        obtain rfl := Option.some.inj hi
        refine ⟨_, rfl, ?_⟩
        trivial
        exact ⟨rfl, rfl⟩
  · rw [List.map_id]
    refine ⟨.d (.int (ddL (List.zipWith (fun s f => [s, f]) ss fl)).length), ?_, ?_⟩
    · show (match intTups ((List.zipWith (fun s f => [s, f]) ss fl).map fun l => D.tup (l.map .int)) with
        | some l => guard' (decide (l.length < 64)) (TV.d (.int (ddL l).length))
        | none => none) = _
      rw [intTups_map]
      show guard' _ _ = _
      unfold guard'
      rw [if_pos (by rw [List.length_zipWith]; exact decide_eq_true (by omega))]
    · trivial
      refine fin_b h ?_
      rw [List.length_map]
      unfold apart
      congr 1
      apply propext
      omega
end
end

end Ev

set_option maxRecDepth 100000
set_option maxHeartbeats 2000000
namespace Ev
open PySem
local macro_rules
  | `(tactic| trivial) => `(tactic| repeat with_reducible first
    | (refine g_ev ?_; first | refine w_var (by with_unfolding_all rfl) ?_ | refine w_lit ?_ | refine w_ix ?_ | refine w_cmp ?_ | refine w_tup ?_ | refine w_bin ?_ | refine w_call1 ?_ | refine w_call2 ?_ | refine w_call3 ?_ | refine w_call4 ?_ | refine w_call ?_ | refine w_all0 ?_ | refine w_bf ?_ | refine w_lst ?_ | refine w_bop ?_ | refine w_nt ?_ | refine w_x1 ?_ | refine w_ite ?_ | refine w_slc ?_ | refine w_cst ?_ | refine w_neg ?_ | refine w_append ?_ | refine w_lrg ?_ | refine w_chain ?_ | refine w_x2 ?_ | refine w_fst ?_ | refine w_join ?_ | refine w_count ?_ | refine w_rev ?_ | refine w_dix ?_)
    | refine m_d ?_ | refine m_l ?_ | refine isB ?_ | refine isI ?_ | refine w_nx ?_
    | (refine g_evs ?_; first | refine w_evs ?_ | refine w_evs0 ?_)
    | (refine g_exs ?_; first | refine w_exs ?_ | refine w_exs0 ?_)
    | (refine g_ex ?_; first | refine w_if1 ?_ | refine w_if2 ?_ | refine w_set ?_ | refine w_ret ?_ | refine w_expr ?_ | refine w_par ?_ | refine w_unp ?_ | refine w_put ?_)
    | refine w_rt ?_ | refine w_end ?_
    | (refine g_evB ?_; first | refine w_evBo ?_ | refine w_evBa ?_ | refine w_evB0 ?_)
    | (refine g_evT ?_; first | refine w_evT ?_ | refine w_evT0 ?_)
    | (refine g_op ?_; first | refine o_add ?_ | refine o_eq ?_ | refine o_isi ?_ | refine o_sub ?_ | refine b_lent ?_ | refine o_gt ?_ | refine o_lt ?_ | refine o_eqs ?_ | refine o_nes ?_ | refine b_tuple ?_ | refine b_int ?_ | refine o_gei ?_ | refine o_lei ?_ | refine o_nei ?_ | refine b_min ?_ | refine b_max ?_ )
    | (refine g_br ?_; first | refine br_nt ?_ | refine br_tt ?_ | refine br_ff ?_ | refine br_isiT (by with_unfolding_all rfl) ?_ | refine br_isiF (by with_unfolding_all rfl) ?_ )
    | (refine g_evI ?_; first | refine w_seq ?_ | refine w_rng1 ?_ | refine w_rng2 ?_ | refine w_rng3 ?_ | refine w_enum ?_ | refine w_zip ?_)
    | (refine g_evO ?_; first | refine w_evO ?_ | refine w_evO0 ?_)
    | (refine g_evF ?_; first | refine w_evF0 ?_ | refine w_txt ?_ ?_ | refine w_val ?_)
    | refine is_between_ok ?_)
/-! ### places, cars -/
def arePlaces (F : Int) (ss : List Int) : D → Bool
  | .tup ds => intsB (.tup ds) ss.length 0 (F - 1) && (match intsOf ds with
    | some fl => apart ss fl
    | none => false)
  | _ => false
theorem arePlaces_i {F : Int} {ss fl : List Int} : arePlaces F ss (.tup (fl.map .int)) = (intsB (.tup (fl.map .int)) ss.length 0 (F - 1) && apart ss fl) := by
  show (_ && (match intsOf (fl.map .int) with
    | some fl => apart ss fl
    | none => false)) = _
  rw [intsOf_map]
def c0D : D → D
  | .tup (a :: _) => a
  | _ => .non
def c2D : D → D
  | .tup [_, _, c] => c
  | _ => .non
def carShape : D → Bool
  | .tup [_, .bl _, _] => true
  | _ => false
theorem carShape_is {d : D} (h : carShape d = true) : ∃ a b c, d = .tup [a, .bl b, c] := by
  unfold carShape at h
  split at h
  · exact ⟨_, _, _, rfl⟩
  · cases h
def areCars (F : Int) (ss ns : List Int) : D → Bool
  | .tup ds => decide ((ds.length : Int) = (ss.length : Int)) && (ds.all carShape && (arePlaces F ss (.tup (ds.map c0D)) && areNotes ns ss.length (.tup (ds.map c2D))))
  | _ => false
theorem szs_map {g : D → D} : ∀ {ds : List D}, (∀ d ∈ ds, sz (g d) ≤ sz d) → szs (ds.map g) ≤ szs ds
  | [], _ => Nat.le_refl _
  | d :: ds, h => by
    have h1 := h d (by simp)
    have h2 := szs_map (ds := ds) fun x hx => h x (List.mem_cons_of_mem _ hx)
    show sz (g d) + szs (ds.map g) ≤ sz d + szs ds
    omega
theorem sz_c0 (d : D) (h : carShape d = true) : sz (c0D d) ≤ sz d := by
  obtain ⟨a, b, c, rfl⟩ := carShape_is h
  show sz a ≤ szs [a, .bl b, c] + 1
  simp [szs]
  omega
theorem sz_c2 (d : D) (h : carShape d = true) : sz (c2D d) ≤ sz d := by
  obtain ⟨a, b, c, rfl⟩ := carShape_is h
  show sz c ≤ szs [a, .bl b, c] + 1
  simp [szs]
  omega
section
variable {fs : Nat → Option Fn} {n : Nat} {M : MH} {P : D → MH → Prop} {d : D} {F : Int} {ss ns : List Int}
variable [Has fs 34 fn_is_integer] [Has fs 35 fn_is_between]
section
variable [Has fs 36 fn_are_integers] [Has fs 39 fn_are_apart] [Has fs 40 fn_are_places]
theorem are_places_ok (hs : ss.length < 64) (hz : sz d ≤ lim) (h : P (.bl (arePlaces F ss d)) M) : Ok (run fs (n + 4) 40 [hD F ss ns, d] M) P := by
  refine w_fn (fn := fn_are_places) rfl ?_
  simp only [fn_are_places, b_are_places]
  trivial
  refine hD1 ?_
  refine w_evT0 (b_lenM ?_)
  trivial
  refine hD0 ?_
  trivial
  refine are_integers_ok hz ?_
  trivial
  refine ⟨fun z => ?_, fun z => ?_⟩
  · cases d with
    | tup ds =>
      obtain ⟨fl, rfl, _, hl⟩ := ints_of z
      trivial
      refine are_apart_ok (by omega) ?_
      trivial
      refine ⟨fun z2 => ?_, fun z2 => ?_⟩
      · trivial
        refine fin_b h ?_
        rw [arePlaces_i, z, z2]
        rfl
      · trivial
        refine fin_b h ?_
        rw [arePlaces_i, z, z2]
        rfl
    | _ => exact nomatch z
  · trivial
    refine fin_b h ?_
    cases d with
    | tup ds =>
      show (intsB (.tup ds) ss.length 0 (F - 1) && _) = _
      rw [z]
      rfl
    | _ => rfl
variable [Has fs 41 fn_are_notes] [Has fs 42 fn_are_cars]
theorem are_cars_ok (hs : ss.length < 64) (hz : sz d ≤ lim) (h : P (.bl (areCars F ss ns d)) M) : Ok (run fs (n + 5) 42 [hD F ss ns, d] M) P := by
  refine w_fn (fn := fn_are_cars) rfl ?_
  simp only [fn_are_cars, b_are_cars]
  cases d with
  | tup ds =>
    trivial
    refine hD1 ?_
    refine w_evT0 (b_lenM ?_)
    trivial
    refine ⟨fun z => ?_, fun z => ?_⟩
    · trivial
      refine w_for ?_
      trivial
      refine op_some ⟨ds, fun _ => rfl, fun i σ M' => M = M' ∧ (∃ o, σ = [some (hD F ss ns), some (.tup ds), o]) ∧ (ds.take i).all carShape = true, ⟨rfl, ⟨none, rfl⟩, by simp⟩, ?_, ?_⟩
      · rintro i x σ M' hx ⟨rfl, ⟨o, rfl⟩, ha⟩
        refine ⟨_, rfl, ?_⟩
        have no : carShape x = false → P (.bl false) M := fun e => fin_b h (by
          simp only [areCars, not_all hx e, Bool.false_and, Bool.and_false])
        cases x with
        | tup cs =>
          trivial
          refine ⟨fun z => ?_, fun z => ?_⟩
          · obtain ⟨a, b, c, rfl⟩ := len3 (of_decide_eq_true z)
            trivial
            refine o_ixt at1 ?_
            trivial
            cases b with
            | bl b =>
              trivial
              exact ⟨rfl, ⟨_, rfl⟩, take_all ha hx rfl⟩
            | _ => trivial <;> exact no rfl
          · trivial
            refine no ?_
            unfold carShape
            split
            · rename_i e
              cases e
              simp at z
            · rfl
        | _ => trivial <;> exact no rfl
      · rintro σ M' ⟨rfl, ⟨o, rfl⟩, ha⟩
        rw [List.take_length] at ha
        have shape := fun x hx => List.all_eq_true.mp ha x hx
        have z0 := szs_map (g := c0D) (ds := ds) fun x hx => sz_c0 x (shape x hx)
        have z2 := szs_map (g := c2D) (ds := ds) fun x hx => sz_c2 x (shape x hx)
        have hz' := hz
        rw [sz_tup] at hz'
        trivial
        refine w_compG (ds := ds) c0D ?_ (len_lim hz) ?_ ?_
        · trivial
          exact s_tup
        · intro x hx
          obtain ⟨a, b, c, rfl⟩ := carShape_is (shape x hx)
          refine ⟨_, rfl, ?_⟩
          trivial
          refine o_ixt at0 ?_
          exact ⟨rfl, rfl⟩
        trivial
        refine are_places_ok hs (by rw [sz_tup]; omega) ?_
        trivial
        refine ⟨fun y => ?_, fun y => ?_⟩
        · trivial
          refine w_compG (ds := ds) c2D ?_ (len_lim hz) ?_ ?_
          · trivial
            exact s_tup
          · intro x hx
            obtain ⟨a, b, c, rfl⟩ := carShape_is (shape x hx)
            refine ⟨_, rfl, ?_⟩
            trivial
            refine o_ixt at2 ?_
            exact ⟨rfl, rfl⟩
          trivial
          refine are_notes_ok (by rw [sz_tup]; omega) ?_
          trivial
          refine fin_b h ?_
          simp only [areCars, z, ha, y, Bool.true_and]
        · trivial
          refine fin_b h ?_
          simp only [areCars, y, Bool.false_and, Bool.and_false]
    · trivial
      refine fin_b h ?_
      simp only [areCars, z, Bool.false_and]
  | _ => trivial <;> exact h
end
/-! ### harms -/
def harmB (ss : List Int) : D → Bool
  | .tup [.str s, c] => btw c 0 (ss.length - 1) && (s == "end" || s == "torn")
  | .tup [.str s, c, e] => (btw c 0 (ss.length - 1) && btw e 0 (ss.length - 1)) && (s == "crash" && (match c, e with
    | .int c, .int e => decide (c < e) && decide (ss[c.toNat]? = ss[e.toNat]?)
    | _, _ => false))
  | _ => false
theorem harmB_shape {ss : List Int} {d : D} (h : harmB ss d = true) : (∃ (s : Str) (c : Int), d = .tup [.str s, .int c] ∧ (s = "end" ∨ s = "torn") ∧ 0 ≤ c ∧ c < ss.length) ∨ ∃ c e : Int, d = .tup [.str "crash", .int c, .int e] ∧ 0 ≤ c ∧ c < e ∧ e < ss.length := by
  unfold harmB at h
  split at h
  · rename_i s c
    rw [Bool.and_eq_true, Bool.or_eq_true] at h
    cases c with
    | int c =>
      have h1 := h.1
      rw [btw_i, Bool.and_eq_true, decide_eq_true_eq, decide_eq_true_eq] at h1
      exact .inl ⟨s, c, rfl, by simpa using h.2, by omega, by omega⟩
    | _ => exact nomatch h.1
  · rename_i s c e
    rw [Bool.and_eq_true, Bool.and_eq_true, Bool.and_eq_true] at h
    obtain ⟨⟨h1, h2⟩, h3, h4⟩ := h
    cases c with
    | int c =>
      cases e with
      | int e =>
        rw [btw_i, Bool.and_eq_true, decide_eq_true_eq, decide_eq_true_eq] at h1 h2
        have h4 : (decide (c < e) && decide (ss[c.toNat]? = ss[e.toNat]?)) = true := h4
        rw [Bool.and_eq_true, decide_eq_true_eq] at h4
        obtain rfl : s = "crash" := by simpa using h3
        exact .inr ⟨c, e, rfl, by omega, h4.1, by omega⟩
      | _ => exact nomatch h2
    | _ => exact nomatch h1
  · cases h
theorem alk_harms {ss : List Int} {ds : List D} (h : ds.all (harmB ss) = true) : Alk ds := fun a ha b hb => by
  rcases harmB_shape (List.all_eq_true.mp h a ha) with ⟨s, c, rfl, _⟩ | ⟨c, e, rfl, _⟩ <;> rcases harmB_shape (List.all_eq_true.mp h b hb) with ⟨s2, c2, rfl, _⟩ | ⟨c2, e2, rfl, _⟩ <;> exact ⟨rfl, rfl⟩
def areHarms (ss : List Int) : D → Bool
  | .tup ds => ds.all (harmB ss) && rising ds
  | _ => false
theorem atM {is : List Int} {i : Int} (h0 : 0 ≤ i) (h1 : i < is.length) : ∃ j, is[i.toNat]? = some j ∧ L2.atI (is.map D.int) i = some (.int j) := by
  have hl : i.toNat < is.length := by omega
  refine ⟨is[i.toNat], by simp [hl], ?_⟩
  unfold L2.atI L2.ixN
  rw [if_pos h0, if_pos (by rw [List.length_map]; omega)]
  simp [hl]
section
variable [Has fs 49 fn_is_a_car] [Has fs 50 fn_is_a_harm]
theorem cut1 {α : Type} {x : α} {ds : List α} : cut (x :: ds) (some 1) none = ds := by
  have e1 : HT.sIx (x :: ds).length 0 (some 1) = 1 := by
    show (if (1 : Int) < 0 then ((1 : Int) + ((x :: ds).length : Int)).toNat else min (1 : Int).toNat (x :: ds).length) = 1
    rw [if_neg (by decide)]
    show min 1 (ds.length + 1) = 1
    omega
  unfold cut
  rw [e1, HT.sIx_none]
  simp
theorem is_a_harm_ok (hz : sz d ≤ lim) (h : P (.bl (harmB ss d)) M) : Ok (run fs (n + 4) 50 [hD F ss ns, d] M) P := by
  refine w_fn (fn := fn_is_a_harm) rfl ?_
  simp only [fn_is_a_harm, b_is_a_harm]
  cases d with
  | tup ds =>
    trivial
    refine o_nini (is := [2, 3]) rfl ?_
    trivial
    refine ⟨fun z => ?_, fun z => ?_⟩
    · have z : ((ds.length : Int)) ∈ ([2, 3] : List Int) := of_decide_eq_true z
      simp only [List.mem_cons, List.not_mem_nil, or_false] at z
      rcases z with z | z
      · obtain ⟨s, c, rfl⟩ := len2 z
        trivial
        refine o_ixt at0 ?_
        trivial
        cases s with
        | str s =>
          trivial
          refine ⟨[c], fun c => btw c 0 (ss.length - 1), ?_, by rw [sl]; simp, ?_, ?_⟩
          · trivial
            refine op_some ?_
            rw [cut1]
            exact s_tup
          · intro y hy
            refine ⟨_, rfl, ?_⟩
            trivial
            refine is_a_car_ok ?_
            exact ⟨rfl, rfl⟩
          trivial
          refine ⟨fun z2 => ?_, fun z2 => ?_⟩
          · trivial
            refine br_t rfl ?_
            trivial
            refine o_ixt at0 ?_
            trivial
            refine o_ins rfl ?_
            trivial
            refine fin_b h ?_
            have z2 : (btw c 0 (ss.length - 1) && true) = true := z2
            rw [Bool.and_true] at z2
            show (btw c 0 (ss.length - 1) && (s == "end" || s == "torn")) = _
            rw [z2]
            simp only [List.any_cons, List.any_nil, Bool.or_false, Bool.true_and]
            rw [Bool.beq_comm (a := s)]
            rw [Bool.beq_comm (a := s) (b := "torn")]
          · trivial
            refine fin_b h ?_
            have z2 : (btw c 0 (ss.length - 1) && true) = false := z2
            rw [Bool.and_true] at z2
            show (btw c 0 (ss.length - 1) && (s == "end" || s == "torn")) = _
            rw [z2]
            rfl
        | _ => trivial <;> exact h
      · obtain ⟨s, c, e, rfl⟩ := len3 z
        trivial
        refine o_ixt at0 ?_
        trivial
        cases s with
        | str s =>
          trivial
          refine ⟨[c, e], fun c => btw c 0 (ss.length - 1), ?_, by rw [sl]; simp, ?_, ?_⟩
          · trivial
            refine op_some ?_
            rw [cut1]
            exact s_tup
          · intro y hy
            refine ⟨_, rfl, ?_⟩
            trivial
            refine is_a_car_ok ?_
            exact ⟨rfl, rfl⟩
          trivial
          refine ⟨fun z2 => ?_, fun z2 => ?_⟩
          · have z2 : (btw c 0 (ss.length - 1) && (btw e 0 (ss.length - 1) && true)) = true := z2
            rw [Bool.and_true, Bool.and_eq_true] at z2
            obtain ⟨z3, z4⟩ := z2
            trivial
            refine br_f rfl ?_
            trivial
            refine o_ixt at0 ?_
            trivial
            cases c with
            | int c =>
              cases e with
              | int e =>
                have q1 := z3
                have q2 := z4
                rw [btw_i, Bool.and_eq_true, decide_eq_true_eq, decide_eq_true_eq] at q1 q2
                refine ⟨fun y => ?_, fun y => ?_⟩
                · trivial
                  refine o_ixt at1 ?_
                  trivial
                  refine o_ixt at2 ?_
                  trivial
                  refine ⟨fun y2 => ?_, fun y2 => ?_⟩
                  · trivial
                    refine hD1 ?_
                    trivial
                    refine o_ixt at1 ?_
                    obtain ⟨j1, g1, g2⟩ := atM (is := ss) (i := c) (by omega) (by omega)
                    obtain ⟨j2, g3, g4⟩ := atM (is := ss) (i := e) (by omega) (by omega)
                    refine o_ixt g2 ?_
                    trivial
                    refine hD1 ?_
                    trivial
                    refine o_ixt at2 ?_
                    refine o_ixt g4 ?_
                    trivial
                    have fin : (decide (j1 = j2)) = harmB ss (.tup [.str s, .int c, .int e]) := by
                      show _ = ((btw (.int c) 0 (ss.length - 1) && btw (.int e) 0 (ss.length - 1)) && ((s == "crash") && (decide (c < e) && decide (ss[c.toNat]? = ss[e.toNat]?))))
                      rw [z3, z4, y, y2, g1, g3]
                      simp
                    refine ⟨fun y3 => ?_, fun y3 => ?_⟩
                    · trivial
                      exact fin_b h (by rw [← fin, y3])
                    · trivial
                      exact fin_b h (by rw [← fin, y3])
                  · trivial
                    refine fin_b h ?_
                    show ((_ && _) && ((s == "crash") && (decide (c < e) && _))) = _
                    rw [y2]
                    simp
                · trivial
                  refine fin_b h ?_
                  show ((_ && _) && ((s == "crash") && _)) = _
                  rw [y]
                  simp
              | _ => exact nomatch z4
            | _ => exact nomatch z3
          · trivial
            refine fin_b h ?_
            have z2 : (btw c 0 (ss.length - 1) && (btw e 0 (ss.length - 1) && true)) = false := z2
            rw [Bool.and_true] at z2
            show ((btw c 0 (ss.length - 1) && btw e 0 (ss.length - 1)) && _) = _
            rw [z2]
            rfl
        | _ => trivial <;> exact h
    · trivial
      refine fin_b h ?_
      have z : ¬ ((ds.length : Int)) ∈ ([2, 3] : List Int) := of_decide_eq_false z
      unfold harmB
      split
      · rename_i e
        cases e
        exact absurd (by simp) z
      · rename_i e
        cases e
        exact absurd (by simp) z
      · rfl
  | _ => trivial <;> exact h
variable [Has fs 45 fn_is_rising] [Has fs 51 fn_are_harms]
theorem are_harms_ok (hz : sz d ≤ lim) (h : P (.bl (areHarms ss d)) M) : Ok (run fs (n + 5) 51 [hD F ss ns, d] M) P := by
  refine w_fn (fn := fn_are_harms) rfl ?_
  simp only [fn_are_harms, b_are_harms]
  cases d with
  | tup ds =>
    trivial
    refine ⟨ds, harmB ss, ?_, len_lim hz, ?_, ?_⟩
    · trivial
      exact s_tup
    · intro x hx
      refine ⟨_, rfl, ?_⟩
      trivial
      refine is_a_harm_ok (mem_lim hx hz) ?_
      exact ⟨rfl, rfl⟩
    · trivial
      refine ⟨fun z => ?_, fun z => ?_⟩
      · trivial
        refine is_rising_ok (Nat.le_trans (len_szs _) (by have := hz; rw [sz_tup] at this; omega)) (alk_harms z) ?_
        trivial
        refine ⟨fun z2 => ?_, fun z2 => ?_⟩
        · trivial
          refine fin_b h ?_
          simp only [areHarms, z, z2, Bool.true_and]
        · trivial
          refine fin_b h ?_
          simp only [areHarms, z, z2, Bool.true_and]
      · trivial
        refine fin_b h ?_
        simp only [areHarms, z, Bool.false_and]
  | _ => trivial <;> exact h
end
end

end Ev

set_option maxRecDepth 100000
set_option maxHeartbeats 2000000
namespace Ev
open PySem
local macro_rules
  | `(tactic| trivial) => `(tactic| repeat with_reducible first
    | (refine g_ev ?_; first | refine w_var (by with_unfolding_all rfl) ?_ | refine w_lit ?_ | refine w_ix ?_ | refine w_cmp ?_ | refine w_tup ?_ | refine w_bin ?_ | refine w_call1 ?_ | refine w_call2 ?_ | refine w_call3 ?_ | refine w_call4 ?_ | refine w_call ?_ | refine w_all0 ?_ | refine w_bf ?_ | refine w_lst ?_ | refine w_bop ?_ | refine w_nt ?_ | refine w_x1 ?_ | refine w_ite ?_ | refine w_slc ?_ | refine w_cst ?_ | refine w_neg ?_ | refine w_append ?_ | refine w_lrg ?_ | refine w_chain ?_ | refine w_x2 ?_ | refine w_fst ?_ | refine w_join ?_ | refine w_count ?_ | refine w_rev ?_ | refine w_dix ?_)
    | refine m_d ?_ | refine m_l ?_ | refine isB ?_ | refine isI ?_ | refine w_nx ?_
    | (refine g_evs ?_; first | refine w_evs ?_ | refine w_evs0 ?_)
    | (refine g_exs ?_; first | refine w_exs ?_ | refine w_exs0 ?_)
    | (refine g_ex ?_; first | refine w_if1 ?_ | refine w_if2 ?_ | refine w_set ?_ | refine w_ret ?_ | refine w_expr ?_ | refine w_par ?_ | refine w_unp ?_ | refine w_put ?_)
    | refine w_rt ?_ | refine w_end ?_
    | (refine g_evB ?_; first | refine w_evBo ?_ | refine w_evBa ?_ | refine w_evB0 ?_)
    | (refine g_evT ?_; first | refine w_evT ?_ | refine w_evT0 ?_)
    | (refine g_op ?_; first | refine o_add ?_ | refine o_eq ?_ | refine o_isi ?_ | refine o_sub ?_ | refine b_lent ?_ | refine o_gt ?_ | refine o_lt ?_ | refine o_eqs ?_ | refine o_nes ?_ | refine b_tuple ?_ | refine b_int ?_ | refine o_gei ?_ | refine o_lei ?_ | refine o_nei ?_ | refine b_min ?_ | refine b_max ?_ )
    | (refine g_br ?_; first | refine br_nt ?_ | refine br_tt ?_ | refine br_ff ?_ | refine br_isiT (by with_unfolding_all rfl) ?_ | refine br_isiF (by with_unfolding_all rfl) ?_ )
    | (refine g_evI ?_; first | refine w_seq ?_ | refine w_rng1 ?_ | refine w_rng2 ?_ | refine w_rng3 ?_ | refine w_enum ?_ | refine w_zip ?_)
    | (refine g_evO ?_; first | refine w_evO ?_ | refine w_evO0 ?_)
    | (refine g_evF ?_; first | refine w_evF0 ?_ | refine w_txt ?_ ?_ | refine w_val ?_)
    | refine w_lit ?_)
/-! ### stands -/
def emptyT : D → Bool
  | .tup [] => true
  | _ => false
theorem eqv_nil (ds : List D) : PyData.eqv (.tuple (vals ds)) (.tuple []) = emptyT (.tup ds) := by cases ds <;> rfl
theorem o_eqnil {M : MH} {ds : List D} {P : Bool → Prop} (h : pls 39 ds = true) (hP : P (emptyT (.tup ds))) : Op (cmpop M .eq (.d (.tup ds)) (.d (.tup []))) P := by
  refine ⟨_, ?_, hP⟩
  show (match pd M 40 (.tup ds), some (PyData.tuple []) with
    | some a, some b => some (PyData.eqv a b)
    | _, _ => none) = _
  rw [pd_val (n := 40) (d := .tup ds) h (Nat.le_refl _)]
  show some (PyData.eqv (.tuple (vals ds)) (.tuple [])) = _
  rw [eqv_nil]
theorem o_nenil {M : MH} {ds : List D} {P : Bool → Prop} (h : pls 39 ds = true) (hP : P (!emptyT (.tup ds))) : Op (cmpop M .ne (.d (.tup ds)) (.d (.tup []))) P := by
  refine ⟨_, ?_, hP⟩
  show (match pd M 40 (.tup ds), some (PyData.tuple []) with
    | some a, some b => some (!PyData.eqv a b)
    | _, _ => none) = _
  rw [pd_val (n := 40) (d := .tup ds) h (Nat.le_refl _)]
  show some (!PyData.eqv (.tuple (vals ds)) (.tuple [])) = _
  rw [eqv_nil]
theorem pls_of {n : Nat} : ∀ {ds : List D}, (∀ d ∈ ds, pl n d = true) → pls n ds = true
  | [], _ => rfl
  | d :: ds, h => by
    show (pl n d && pls n ds) = true
    rw [h d (by simp), pls_of fun x hx => h x (List.mem_cons_of_mem _ hx)]
    rfl
theorem pls_ints {n : Nat} (is : List Int) : pls (n + 1) (is.map .int) = true := pls_of fun d hd => by
  obtain ⟨i, _, rfl⟩ := List.mem_map.mp hd
  rfl
def isStand (F : Int) (ss ns : List Int) : D → Bool
  | .tup [c, k, p, f, h] => areCars F ss ns c && (areCalls F k && (arePanels F ss.length p && ((match f with
    | .bl b => !b || (emptyT k && (match p with
      | .tup ps => ps.all emptyT
      | _ => false))
    | _ => false) && areHarms ss h)))
  | _ => false
theorem isStand_is {F : Int} {ss ns : List Int} {c k h : D} {ps : List D} {b : Bool} : isStand F ss ns (.tup [c, k, .tup ps, .bl b, h]) = (areCars F ss ns c && (areCalls F k && (arePanels F ss.length (.tup ps) && ((!b || (emptyT k && ps.all emptyT)) && areHarms ss h)))) := rfl
section
variable {fs : Nat → Option Fn} {n : Nat} {M : MH} {P : D → MH → Prop} {d : D} {F : Int} {ss ns : List Int}
variable [Has fs 34 fn_is_integer] [Has fs 35 fn_is_between] [Has fs 36 fn_are_integers] [Has fs 39 fn_are_apart] [Has fs 40 fn_are_places] [Has fs 41 fn_are_notes] [Has fs 42 fn_are_cars] [Has fs 43 fn_is_a_floor] [Has fs 44 fn_is_a_call]
  [Has fs 45 fn_is_rising] [Has fs 46 fn_are_calls] [Has fs 47 fn_are_rising_integers] [Has fs 48 fn_are_panels] [Has fs 49 fn_is_a_car] [Has fs 50 fn_is_a_harm] [Has fs 51 fn_are_harms] [Has fs 52 fn_is_a_stand]
theorem is_a_stand_ok (hs : ss.length < 64) (hz : sz d ≤ lim) (h : P (.bl (isStand F ss ns d)) M) : Ok (run fs (n + 6) 52 [hD F ss ns, d] M) P := by
  refine w_fn (fn := fn_is_a_stand) rfl ?_
  simp only [fn_is_a_stand, b_is_a_stand]
  cases d with
  | tup ds =>
    trivial
    refine ⟨fun z => ?_, fun z => ?_⟩
    · obtain ⟨c, k, p, f, hh, rfl⟩ := len5 (of_decide_eq_true z)
      trivial
      refine ⟨_, rfl, rfl, ?_⟩
      trivial
      refine are_cars_ok hs (mem_lim (by simp) hz) ?_
      trivial
      refine ⟨fun z1 => ?_, fun z1 => ?_⟩
      · trivial
        refine are_calls_ok (mem_lim (by simp) hz) ?_
        trivial
        refine ⟨fun z2 => ?_, fun z2 => ?_⟩
        · trivial
          refine are_panels_ok (mem_lim (by simp) hz) ?_
          trivial
          refine ⟨fun z3 => ?_, fun z3 => ?_⟩
          · trivial
            cases p with
            | tup ps =>
              cases k with
              | tup ks =>
                have kp : pls 39 ks = true := pls_of fun x hx => by
                  have q : (ks.all (isCallD F) && rising ks) = true := z2
                  rw [Bool.and_eq_true] at q
                  obtain ⟨g, s, rfl⟩ := isCallD_shape (List.all_eq_true.mp q.1 x hx)
                  rfl
                have pp : ∀ x ∈ ps, ∃ is : List Int, x = .tup (is.map .int) := fun x hx => by
                  have q : (decide ((ps.length : Int) = ss.length) && ps.all fun p => risingInts p (F - 1)) = true := z3
                  rw [Bool.and_eq_true] at q
                  have q := List.all_eq_true.mp q.2 x hx
                  cases x with
                  | tup xs =>
                    have q : (intsB (.tup xs) xs.length 0 (F - 1) && rising xs) = true := q
                    rw [Bool.and_eq_true] at q
                    obtain ⟨is, rfl, _⟩ := ints_of q.1
                    exact ⟨is, rfl⟩
                  | _ => exact nomatch q
                have last : ∀ (b : Bool), (!b || (emptyT (.tup ks) && ps.all emptyT)) = true → (P (.bl (areHarms ss hh)) M ↔ P (.bl (isStand F ss ns (.tup [c, .tup ks, .tup ps, .bl b, hh]))) M) := fun b q => by
                  rw [isStand_is, z1, z2, z3, q]
                  simp only [Bool.true_and]
                cases f with
                | bl b =>
                  trivial
                  refine ⟨fun y => ?_, fun y => ?_⟩
                  · subst y
                    trivial
                    refine o_nenil kp ?_
                    trivial
                    refine ⟨fun y => ?_, fun y => ?_⟩
                    · trivial
                      refine ⟨ps, emptyT, ?_, len_lim (mem_lim (by simp) hz), ?_, ?_⟩
                      · trivial
                        exact s_tup
                      · intro x hx
                        obtain ⟨is, rfl⟩ := pp x hx
                        refine ⟨_, rfl, ?_⟩
                        trivial
                        refine o_eqnil (pls_ints is) ?_
                        exact ⟨rfl, rfl⟩
                      · trivial
                        refine ⟨fun y2 => ?_, fun y2 => ?_⟩
                        · trivial
                          refine are_harms_ok (mem_lim (by simp) hz) ?_
                          trivial
                          exact (last true (by rw [y, y2]; rfl)).mpr h
                        · trivial
                          refine fin_b h ?_
                          rw [isStand_is, y2]
                          simp
                    · trivial
                      refine fin_b h ?_
                      rw [isStand_is, y]
                      simp
                  · subst y
                    trivial
                    refine are_harms_ok (mem_lim (by simp) hz) ?_
                    trivial
                    exact (last false rfl).mpr h
                | _ => trivial <;> (refine fin_b h ?_; simp only [isStand, Bool.false_and, Bool.and_false])
              | _ => exact nomatch z2
            | _ => exact nomatch z3
          · trivial
            refine fin_b h ?_
            simp only [isStand, z3, Bool.false_and, Bool.and_false]
        · trivial
          refine fin_b h ?_
          simp only [isStand, z2, Bool.false_and, Bool.and_false]
      · trivial
        refine fin_b h ?_
        simp only [isStand, z1, Bool.false_and]
    · trivial
      refine fin_b h ?_
      unfold isStand
      split
      · rename_i e
        cases e
        simp at z
      · rfl
  | _ => trivial <;> exact h
variable [Has fs 53 fn_need_stand]
theorem need_stand_ok (hs : ss.length < 64) (hz : sz d ≤ lim) (hd : isStand F ss ns d = true) (h : P .non M) : Ok (run fs (n + 7) 53 [hD F ss ns, d] M) P := by
  refine w_fn (fn := fn_need_stand) rfl ?_
  simp only [fn_need_stand, b_need_stand]
  trivial
  refine is_a_stand_ok hs hz ?_
  trivial
  refine ⟨by rw [hd]; rfl, ?_⟩
  trivial
  exact h
end

end Ev

set_option maxRecDepth 100000
set_option maxHeartbeats 2000000
namespace Ev
open PySem
local macro_rules
  | `(tactic| trivial) => `(tactic| repeat with_reducible first
    | (refine g_ev ?_; first | refine w_var (by with_unfolding_all rfl) ?_ | refine w_lit ?_ | refine w_ix ?_ | refine w_cmp ?_ | refine w_tup ?_ | refine w_bin ?_ | refine w_call1 ?_ | refine w_call2 ?_ | refine w_call3 ?_ | refine w_call4 ?_ | refine w_call ?_ | refine w_all0 ?_ | refine w_bf ?_ | refine w_lst ?_ | refine w_bop ?_ | refine w_nt ?_ | refine w_x1 ?_ | refine w_ite ?_ | refine w_slc ?_ | refine w_cst ?_ | refine w_neg ?_ | refine w_append ?_ | refine w_lrg ?_ | refine w_chain ?_ | refine w_x2 ?_ | refine w_fst ?_ | refine w_join ?_ | refine w_count ?_ | refine w_rev ?_ | refine w_dix ?_)
    | refine m_d ?_ | refine m_l ?_ | refine isB ?_ | refine isI ?_ | refine w_nx ?_
    | (refine g_evs ?_; first | refine w_evs ?_ | refine w_evs0 ?_)
    | (refine g_exs ?_; first | refine w_exs ?_ | refine w_exs0 ?_)
    | (refine g_ex ?_; first | refine w_if1 ?_ | refine w_if2 ?_ | refine w_set ?_ | refine w_ret ?_ | refine w_expr ?_ | refine w_par ?_ | refine w_unp ?_ | refine w_put ?_)
    | refine w_rt ?_ | refine w_end ?_
    | (refine g_evB ?_; first | refine w_evBo ?_ | refine w_evBa ?_ | refine w_evB0 ?_)
    | (refine g_evT ?_; first | refine w_evT ?_ | refine w_evT0 ?_)
    | (refine g_op ?_; first | refine o_add ?_ | refine o_eq ?_ | refine o_isi ?_ | refine o_sub ?_ | refine b_lent ?_ | refine o_gt ?_ | refine o_lt ?_ | refine o_eqs ?_ | refine o_nes ?_ | refine b_tuple ?_ | refine b_int ?_ | refine o_gei ?_ | refine o_lei ?_ | refine o_nei ?_ | refine b_min ?_ | refine b_max ?_ )
    | (refine g_br ?_; first | refine br_nt ?_ | refine br_tt ?_ | refine br_ff ?_ | refine br_isiT (by with_unfolding_all rfl) ?_ | refine br_isiF (by with_unfolding_all rfl) ?_ )
    | (refine g_evI ?_; first | refine w_seq ?_ | refine w_rng1 ?_ | refine w_rng2 ?_ | refine w_rng3 ?_ | refine w_enum ?_ | refine w_zip ?_)
    | (refine g_evO ?_; first | refine w_evO ?_ | refine w_evO0 ?_)
    | (refine g_evF ?_; first | refine w_evF0 ?_ | refine w_txt ?_ ?_ | refine w_val ?_)
    | refine w_lit ?_)
open PySem.W
/-! ### the order of integers, calls, harms -/
theorem ltD_int (i j : Int) : ltD (.int i) (.int j) = decide (i < j) := dataLt_int i j
theorem row_nil_nil : rowLt [] [] = false := by decide +kernel
theorem row_cons {x y : PyData} {xs ys : List PyData} (h : alike x y = true) : rowLt (x :: xs) (y :: ys) = if PyData.eqv x y = true then rowLt xs ys else dataLt x y := dataLt_cons h xs ys
theorem ltD_tup (a b : List D) : ltD (.tup a) (.tup b) = rowLt (vals a) (vals b) := dataLt_tuple _ _
theorem eqv_int (i j : Int) : PyData.eqv (.int i) (.int j) = decide (i = j) := rfl
theorem eqv_str (s t : Str) : PyData.eqv (.str s) (.str t) = (s == t) := rfl
/-- a pair of an integer and a text -/
theorem ltD_call (f g : Int) (s t : Str) : ltD (.tup [.int f, .str s]) (.tup [.int g, .str t]) = (decide (f < g) || (decide (f = g) && dataLt (.str s) (.str t) && !(s == t))) := by
  rw [ltD_tup]
  show rowLt [.int f, .str s] [.int g, .str t] = _
  rw [row_cons rfl, row_cons rfl, eqv_int, eqv_str, row_nil_nil, dataLt_int]
  by_cases h : f = g
  · subst h
    by_cases h2 : s = t
    · subst h2; simp
    · simp [h2]
  · rw [if_neg (by simpa using h)]
    simp [h]
def upN (s : Str) : Int := if s = "up" then 1 else 0
theorem ud_lt : dataLt (.str "up") (.str "down") = false ∧ dataLt (.str "down") (.str "up") = true ∧ (("down" : Str) == "up") = false ∧ (("up" : Str) == "down") = false := by decide +kernel
theorem ltD_calls {f g : Int} {s t : Str} (hs : s = "up" ∨ s = "down") (ht : t = "up" ∨ t = "down") : ltD (.tup [.int f, .str s]) (.tup [.int g, .str t]) = decide (2 * f + upN s < 2 * g + upN t) := by
  have n1 : upN "up" = 1 := by unfold upN; rw [if_pos rfl]
  have n0 : upN "down" = 0 := by unfold upN; rw [if_neg (by decide +kernel)]
  rw [ltD_call]
  obtain ⟨u1, u2, u3, u4⟩ := ud_lt
  have key : ∀ p q : Bool, (p = true ↔ q = true) → p = q := by decide
  apply key
  rcases hs with rfl | rfl <;> rcases ht with rfl | rfl
  · rw [n1, beq_self_eq_true]
    simp only [Bool.not_true, Bool.and_false, Bool.or_false, decide_eq_true_eq]
    omega
  · rw [n1, n0, u1]
    simp only [Bool.false_and, Bool.and_false, Bool.or_false, decide_eq_true_eq]
    omega
  · rw [n1, n0, u2, u3]
    simp only [Bool.not_false, Bool.and_true, Bool.or_eq_true, decide_eq_true_eq]
    omega
  · rw [n0, beq_self_eq_true]
    simp only [Bool.not_true, Bool.and_false, Bool.or_false, decide_eq_true_eq]
    omega
/-- rising, by a number for each item -/
theorem rising_of {code : D → Int} : ∀ {ds : List D}, (∀ a ∈ ds, ∀ b ∈ ds, ltD a b = decide (code a < code b)) → (ds.map code).Pairwise (· < ·) → rising ds = true := by
  intro ds h hp
  unfold rising
  rw [List.all_eq_true]
  intro i hi
  have hi := List.mem_range.mp hi
  have h1 : i < ds.length := by omega
  have h2 : i + 1 < ds.length := by omega
  rw [List.getElem?_eq_getElem h1, List.getElem?_eq_getElem h2]
  show ltD ds[i] ds[i + 1] = true
  rw [h _ (List.getElem_mem h1) _ (List.getElem_mem h2)]
  refine decide_eq_true ?_
  have := List.pairwise_iff_getElem.mp hp i (i + 1) (by rw [List.length_map]; exact h1) (by rw [List.length_map]; exact h2) (by omega)
  simpa using this
theorem rising_ints {is : List Int} (h : is.Pairwise (· < ·)) : rising (is.map .int) = true := by
  refine rising_of (code := fun d => match d with | .int i => i | _ => 0) (fun a ha b hb => ?_) ?_
  · obtain ⟨i, _, rfl⟩ := List.mem_map.mp ha
    obtain ⟨j, _, rfl⟩ := List.mem_map.mp hb
    exact ltD_int i j
  · rw [List.map_map]
    have e : ((fun d => match d with | D.int i => i | _ => 0) ∘ D.int) = id := by funext i; rfl
    rw [e, List.map_id]
    exact h
theorem harmWords : dataLt (.str "crash") (.str "end") = true ∧ dataLt (.str "crash") (.str "torn") = true ∧ dataLt (.str "end") (.str "torn") = true ∧ dataLt (.str "end") (.str "crash") = false ∧ dataLt (.str "torn") (.str "crash") = false ∧ dataLt (.str "torn") (.str "end") = false ∧
    (("crash" : Str) == "end") = false ∧ (("crash" : Str) == "torn") = false ∧ (("end" : Str) == "torn") = false ∧ (("end" : Str) == "crash") = false ∧ (("torn" : Str) == "crash") = false ∧ (("torn" : Str) == "end") = false := by decide +kernel
/-- harms -/
inductive Hm where
  | crash (c d : Int) | end_ (c : Int) | torn (c : Int)
def Hm.d : Hm → D
  | .crash c d => .tup [.str "crash", .int c, .int d]
  | .end_ c => .tup [.str "end", .int c]
  | .torn c => .tup [.str "torn", .int c]
def Hm.code : Hm → Int
  | .crash c d => 10 * c + d
  | .end_ c => 100 + c
  | .torn c => 200 + c
/-- a harm of cars below 3 -/
def Hm.ok : Hm → Prop
  | .crash c d => 0 ≤ c ∧ c < 3 ∧ 0 ≤ d ∧ d < 3
  | .end_ c => 0 ≤ c ∧ c < 3
  | .torn c => 0 ≤ c ∧ c < 3
theorem ltD_harm {a b : Hm} (ha : a.ok) (hb : b.ok) : ltD a.d b.d = decide (a.code < b.code) := by
  obtain ⟨w1, w2, w3, w4, w5, w6, v1, v2, v3, v4, v5, v6⟩ := harmWords
  cases a <;> cases b <;> simp only [Hm.d, Hm.code, Hm.ok] at * <;> rw [ltD_tup] <;> simp only [vals, val] <;> rw [row_cons rfl, eqv_str]
  · rename_i c d c' d'
    rw [beq_self_eq_true, if_pos rfl, row_cons rfl, eqv_int, row_cons rfl, eqv_int, row_nil_nil, dataLt_int, dataLt_int]
    by_cases h : c = c'
    · subst h
      rw [if_pos (decide_eq_true rfl)]
      by_cases h2 : d = d'
      · subst h2
        rw [if_pos (decide_eq_true rfl)]
        exact (decide_eq_false (by omega)).symm
      · rw [if_neg (by simpa using h2)]
        exact decide_eq_decide.mpr (by omega)
    · rw [if_neg (by simpa using h)]
      exact decide_eq_decide.mpr (by omega)
  · rw [v1, if_neg (by decide), w1]
    exact (decide_eq_true (by omega)).symm
  · rw [v2, if_neg (by decide), w2]
    exact (decide_eq_true (by omega)).symm
  · rw [v4, if_neg (by decide), w4]
    exact (decide_eq_false (by omega)).symm
  · rename_i c c'
    rw [beq_self_eq_true, if_pos rfl, row_cons rfl, eqv_int, row_nil_nil, dataLt_int]
    by_cases h : c = c'
    · subst h
      rw [if_pos (decide_eq_true rfl)]
      exact (decide_eq_false (by omega)).symm
    · rw [if_neg (by simpa using h)]
      exact decide_eq_decide.mpr (by omega)
  · rw [v3, if_neg (by decide), w3]
    exact (decide_eq_true (by omega)).symm
  · rw [v5, if_neg (by decide), w5]
    exact (decide_eq_false (by omega)).symm
  · rw [v6, if_neg (by decide), w6]
    exact (decide_eq_false (by omega)).symm
  · rename_i c c'
    rw [beq_self_eq_true, if_pos rfl, row_cons rfl, eqv_int, row_nil_nil, dataLt_int]
    by_cases h : c = c'
    · subst h
      rw [if_pos (decide_eq_true rfl)]
      exact (decide_eq_false (by omega)).symm
    · rw [if_neg (by simpa using h)]
      exact decide_eq_decide.mpr (by omega)
theorem rising_harms {hs : List Hm} (hk : ∀ h ∈ hs, h.ok) (hp : (hs.map Hm.code).Pairwise (· < ·)) : rising (hs.map Hm.d) = true := by
  unfold rising
  rw [List.all_eq_true]
  intro i hi
  have hi := List.mem_range.mp hi
  rw [List.length_map] at hi
  have h1 : i < hs.length := by omega
  have h2 : i + 1 < hs.length := by omega
  rw [List.getElem?_map, List.getElem?_map, List.getElem?_eq_getElem h1, List.getElem?_eq_getElem h2]
  show ltD hs[i].d hs[i + 1].d = true
  rw [ltD_harm (hk _ (List.getElem_mem h1)) (hk _ (List.getElem_mem h2))]
  refine decide_eq_true ?_
  have := List.pairwise_iff_getElem.mp hp i (i + 1) (by rw [List.length_map]; exact h1) (by rw [List.length_map]; exact h2) (by omega)
  simpa using this

end Ev

set_option maxRecDepth 100000
set_option maxHeartbeats 2000000
namespace Ev
open PySem
local macro_rules
  | `(tactic| trivial) => `(tactic| repeat with_reducible first
    | (refine g_ev ?_; first | refine w_var (by with_unfolding_all rfl) ?_ | refine w_lit ?_ | refine w_ix ?_ | refine w_cmp ?_ | refine w_tup ?_ | refine w_bin ?_ | refine w_call1 ?_ | refine w_call2 ?_ | refine w_call3 ?_ | refine w_call4 ?_ | refine w_call ?_ | refine w_all0 ?_ | refine w_bf ?_ | refine w_lst ?_ | refine w_bop ?_ | refine w_nt ?_ | refine w_x1 ?_ | refine w_ite ?_ | refine w_slc ?_ | refine w_cst ?_ | refine w_neg ?_ | refine w_append ?_ | refine w_lrg ?_ | refine w_chain ?_ | refine w_x2 ?_ | refine w_fst ?_ | refine w_join ?_ | refine w_count ?_ | refine w_rev ?_ | refine w_dix ?_)
    | refine m_d ?_ | refine m_l ?_ | refine isB ?_ | refine isI ?_ | refine w_nx ?_
    | (refine g_evs ?_; first | refine w_evs ?_ | refine w_evs0 ?_)
    | (refine g_exs ?_; first | refine w_exs ?_ | refine w_exs0 ?_)
    | (refine g_ex ?_; first | refine w_if1 ?_ | refine w_if2 ?_ | refine w_set ?_ | refine w_ret ?_ | refine w_expr ?_ | refine w_par ?_ | refine w_unp ?_ | refine w_put ?_)
    | refine w_rt ?_ | refine w_end ?_
    | (refine g_evB ?_; first | refine w_evBo ?_ | refine w_evBa ?_ | refine w_evB0 ?_)
    | (refine g_evT ?_; first | refine w_evT ?_ | refine w_evT0 ?_)
    | (refine g_op ?_; first | refine o_add ?_ | refine o_eq ?_ | refine o_isi ?_ | refine o_sub ?_ | refine b_lent ?_ | refine o_gt ?_ | refine o_lt ?_ | refine o_eqs ?_ | refine o_nes ?_ | refine b_tuple ?_ | refine b_int ?_ | refine o_gei ?_ | refine o_lei ?_ | refine o_nei ?_ | refine b_min ?_ | refine b_max ?_ )
    | (refine g_br ?_; first | refine br_nt ?_ | refine br_tt ?_ | refine br_ff ?_ | refine br_isiT (by with_unfolding_all rfl) ?_ | refine br_isiF (by with_unfolding_all rfl) ?_ )
    | (refine g_evI ?_; first | refine w_seq ?_ | refine w_rng1 ?_ | refine w_rng2 ?_ | refine w_rng3 ?_ | refine w_enum ?_ | refine w_zip ?_)
    | (refine g_evO ?_; first | refine w_evO ?_ | refine w_evO0 ?_)
    | (refine g_evF ?_; first | refine w_evF0 ?_ | refine w_txt ?_ ?_ | refine w_val ?_)
    | refine w_lit ?_)
/-! ### a house, exactly -/
structure Hs (F : Int) (ss ns : List Int) : Prop where
  f0 : 2 ≤ F
  f1 : F ≤ 8
  s : ∀ s ∈ ss, 0 ≤ s ∧ s < 3
  n : ∀ c ∈ ns, 0 ≤ c ∧ c < 4
  len : ns.length = ss.length
  l0 : 1 ≤ ss.length
  l1 : ss.length ≤ 3
  cnt : ∀ s ∈ ss, (ss.count s : Int) < F
theorem Hs.old {F : Int} {ss ns : List Int} (h : Hs F ss ns) : House (hD F ss ns) F (ss.map .int) (ns.map .int) :=
  ⟨rfl, h.f0, h.f1, ⟨ss, rfl, fun i hi => by have := h.s i hi; omega⟩, ⟨ns, rfl, fun i hi => by have := h.n i hi; omega⟩, by simp [h.len], by simpa using h.l0, by simpa using h.l1⟩
theorem fold_maxE : ∀ (r : List Int) (a : Int), a ≤ r.foldl (fun m x => if m < x then x else m) a ∧ (∀ x ∈ r, x ≤ r.foldl (fun m x => if m < x then x else m) a) ∧ r.foldl (fun m x => if m < x then x else m) a ∈ a :: r
  | [], a => ⟨Int.le_refl _, by simp, by simp⟩
  | b :: r, a => by
    obtain ⟨h1, h2, h3⟩ := fold_maxE r (if a < b then b else a)
    rw [List.foldl_cons]
    have h4 : a ≤ (if a < b then b else a) ∧ b ≤ (if a < b then b else a) := by split <;> omega
    refine ⟨Int.le_trans h4.1 h1, fun x hx => ?_, ?_⟩
    · rcases List.mem_cons.mp hx with rfl | hx
      · exact Int.le_trans h4.2 h1
      · exact h2 x hx
    · rcases List.mem_cons.mp h3 with h3 | h3
      · rw [h3]
        split <;> simp
      · exact List.mem_cons_of_mem _ (List.mem_cons_of_mem _ h3)
theorem b_maxE {M : MH} {is : List Int} {P : TV → Prop} (hn : is ≠ []) (h : ∀ m, m ∈ is → (∀ x ∈ is, x ≤ m) → P (.d (.int m))) : Op (bfop M .max1 [.lst (is.map .int)]) P := by
  cases is with
  | nil => exact absurd rfl hn
  | cons a r =>
    obtain ⟨h1, h2, h3⟩ := fold_maxE r a
    refine ⟨_, ?_, h (r.foldl (fun m x => if m < x then x else m) a) h3 fun x hx => ?_⟩
    · show (match intsOf ((a :: r).map .int) with
        | some is => (maxL is).map fun i => TV.d (.int i)
        | none => none) = _
      rw [intsOf_map]
      rfl
    · rcases List.mem_cons.mp hx with rfl | hx
      · exact h1
      · exact h2 x hx
/-- two branches that meet -/
theorem Later.refl' {p : Nat} {M : MH} : Later p M M := Later.refl
section
variable {fs : Nat → Option Fn} [Has fs 0 fn_law_draw]
/-- [draw(pot, b) for car in range(many)] -/
theorem drawsT {n : Nat} {p k : Nat} {b : Int} {own : List Nat} {v : Nat} {σ : Sg} {M : MH} {many : Int} {P : TV → MH → Prop} {cs : Ex} (hk : k + 10 < 2 ^ 500) (hb : 0 < b) (hb2 : b < 2 ^ 64) (hp : Pot M p k) (hm0 : 0 ≤ many) (hm1 : many ≤ 3)
    (hmany : Ok (ev (run fs (n + 1)) cs σ M) (fun x M' => x = .d (.int many) ∧ M' = M))
    (hpot : ∀ i : Int, ((wipeS σ own).set v (some (.int i)))[0]? = some (some (.ref p)))
    (h : ∀ (is : List Int) M', (∀ i ∈ is, 0 ≤ i ∧ i < b) → is.length = many.toNat → Pot M' p (k + 3) → Later p M M' → P (.lst (is.map .int)) M') :
    Ok (ev (run fs (n + 1)) (.comp own (.call 0 (.cons (.var 0) (.cons (.lit (.int b)) .nil)) [0, 1]) (.name v) (.rng1 cs) .nil) σ M) P := by
  refine draws hk hb hb2 hp hm0 hm1 hmany hpot fun ds M' h1 h2 h3 h4 => ?_
  obtain ⟨is, rfl, q⟩ := h1
  exact h is M' q (by simpa using h2) h3 h4
variable [Has fs 1 fn_law_house]
theorem houseT {n : Nat} {M : MH} {p k : Nat} {mf mc : Int} {P : D → MH → Prop} (hp : Pot M p k) (hk : k + 30 < 2 ^ 500) (m0 : 2 ≤ mf) (m1 : mf ≤ 8) (m2 : 1 ≤ mc) (m3 : mc ≤ 3)
    (h : ∀ F ss ns M', Hs F ss ns → F ≤ mf → (ss.length : Int) ≤ mc → Pot M' p (k + 20) → Later p M M' → P (hD F ss ns) M') : Ok (run fs (n + 2) 1 [.ref p, .int mf, .int mc] M) P := by
  refine w_fn (fn := fn_law_house) rfl ?_
  simp only [fn_law_house, b_law_house]
  trivial
  refine draw' hp (by omega) (by omega) (by omega) ?_
  intro r1 M1 a1 a2 hp1 l1
  trivial
  refine draw' hp1 (by omega) (by omega) (by omega) ?_
  intro r2 M2 a3 a4 hp2 l2
  trivial
  refine ⟨rfl, ?_⟩
  trivial
  refine draw' hp2 (by decide) (by decide) (by omega) ?_
  intro r3 M3 a5 a6 hp3 l3
  trivial
  refine o_rep (by omega) (by omega) (by simp) ?_
  trivial
  have ecop : ∀ m : Nat, copies m [D.int r3] = (List.replicate m r3).map D.int := fun m => by
    induction m with
    | zero => rfl
    | succ m ih =>
      show [D.int r3] ++ copies m [D.int r3] = _
      rw [ih]
      rfl
  refine w_ifj (fun σ M' => ∃ ss : List Int, σ = [some (.ref p), some (.int mf), some (.int mc), some (.int (2 + r1)), some (.int (1 + r2)), some (.tup (ss.map .int)), none, none] ∧ (∀ s ∈ ss, 0 ≤ s ∧ s < 3) ∧ ss.length = (1 + r2).toNat ∧ Pot M' p (k + 8) ∧ Later p M M') ?_ ?_
  · trivial
    refine draw' hp3 (by decide) (by decide) (by omega) ?_
    intro r4 M4 a7 a8 hp4 l4
    trivial
    refine ⟨fun q => ?_, fun q => ?_⟩
    · refine w_exs (w_set (w_bf (w_evT ?_)))
      refine drawsT (k := k + 4) (many := 1 + r2) (by omega) (by decide) (by decide) hp4 (by omega) (by omega) (w_var (by with_unfolding_all rfl) ⟨rfl, rfl⟩) (fun i => rfl) ?_
      intro ds M5 d1 d2 hp5 l5
      trivial
      exact ⟨_, rfl, ds, rfl, d1, d2, hp5.mono (by omega), l1.trans (l2.trans (l3.trans (l4.trans l5)))⟩
    · trivial
      refine ⟨_, rfl, List.replicate (1 + r2).toNat r3, ?_, fun s hs => ?_, by simp, hp4.mono (by omega), l1.trans (l2.trans (l3.trans l4))⟩
      · rw [← ecop]
        rfl
      · rw [(List.mem_replicate.mp hs).2]
        exact ⟨a5, a6⟩
  · rintro σ M5 ⟨ss, rfl, s1, s2, hp5, l5⟩
    trivial
    refine w_ifj (fun σ M' => ∃ ss : List Int, σ = [some (.ref p), some (.int mf), some (.int mc), some (.int (2 + r1)), some (.int (1 + r2)), some (.tup (ss.map .int)), none, none] ∧ (∀ s ∈ ss, 0 ≤ s ∧ s < 3) ∧ ss.length = (1 + r2).toNat ∧ (∀ s ∈ ss, (ss.count s : Int) < 2 + r1) ∧ Pot M' p (k + 8) ∧ Later p M M') ?_ ?_
    · trivial
      refine w_compG (ds := ss.map .int) (fun d => match d with | .int i => .int (ss.count i) | _ => .non) ?_ ?_ ?_ ?_
      · trivial
        exact s_tup
      · rw [List.length_map, sl]; omega
      · intro d hd
        obtain ⟨i, hi, rfl⟩ := List.mem_map.mp hd
        refine ⟨_, rfl, ?_⟩
        trivial
        refine ⟨rfl, ?_⟩
        trivial
        refine o_countE ?_
        exact ⟨rfl, rfl⟩
      have ec : (ss.map D.int).map (fun d => match d with | .int i => D.int (ss.count i) | _ => .non) = (ss.map fun i => (ss.count i : Int)).map .int := by
        rw [List.map_map, List.map_map]
        rfl
      rw [ec]
      trivial
      refine b_maxE (fun z => ?_) fun m h1 h2 => ?_
      · have := congrArg List.length z
        rw [List.length_map, s2] at this
        simp at this
        omega
      trivial
      refine ⟨fun q => ?_, fun q => ?_⟩
      · trivial
        have hl : ss.length = (1 + r2).toNat := s2
        obtain ⟨s0, hs0⟩ : ∃ s, ss[0]? = some s := ⟨ss[0]'(by omega), by simp⟩
        refine w_compG (ds := rng 0 (1 + r2).toNat 1) (fun d => match d with | .int i => .int ((s0 + i) % 3) | _ => .non) ?_ ?_ ?_ ?_
        · trivial
          exact ⟨small_is (by omega) (by omega), rfl, rfl⟩
        · rw [rng_len, sl]; omega
        · intro d hd
          rw [rng_map] at hd
          obtain ⟨i, hi, rfl⟩ := List.mem_map.mp hd
          refine ⟨_, rfl, ?_⟩
          trivial
          refine o_ixt (d := .int s0) ?_ ?_
          · have := atN (l := ss.map D.int) (i := 0) (by rw [List.length_map]; omega)
            rw [show ((0 : Nat) : Int) = 0 from rfl] at this
            rw [this, List.getElem?_map, hs0]
            rfl
          trivial
          refine o_mod (by decide) ?_
          exact ⟨rfl, rfl⟩
        trivial
        have e2 : (rng 0 (1 + r2).toNat 1).map (fun d => match d with | .int i => D.int ((s0 + i) % 3) | _ => .non) = ((List.range (1 + r2).toNat).map fun i : Nat => (s0 + (i : Int)) % 3).map .int := by
          rw [rng_map, List.map_map, List.map_map]
          rfl
        rw [e2]
        refine ⟨_, rfl, _, rfl, fun s hs => ?_, by simp, fun s hs => ?_, hp5, l5⟩
        · obtain ⟨i, _, rfl⟩ := List.mem_map.mp hs
          exact ⟨Int.emod_nonneg _ (by decide), Int.emod_lt_of_pos _ (by decide)⟩
        · have hn : (List.map (fun i : Nat => (s0 + (i : Int)) % 3) (List.range (1 + r2).toNat)).Nodup := by
            rw [List.nodup_iff_pairwise_ne]
            refine List.pairwise_map.mpr ?_
            refine List.Pairwise.imp_of_mem ?_ (List.pairwise_lt_range)
            intro a b ha hb hab
            have ha := List.mem_range.mp ha
            have hb := List.mem_range.mp hb
            omega
          have := List.nodup_iff_count.mp hn s
          omega
      · trivial
        have q : ¬ (2 + r1 ≤ m) := of_decide_eq_false q
        refine ⟨_, rfl, ss, rfl, s1, s2, fun s hs => ?_, hp5, l5⟩
        have := h2 (ss.count s) (List.mem_map.mpr ⟨s, hs, rfl⟩)
        omega
    · rintro σ M6 ⟨ss, rfl, s1, s2, s3, hp6, l6⟩
      trivial
      refine drawsT (k := k + 8) (many := 1 + r2) (by omega) (by decide) (by decide) hp6 (by omega) (by omega) (w_var (by with_unfolding_all rfl) ⟨rfl, rfl⟩) (fun i => rfl) ?_
      intro ds M7 d1 d2 hp7 l7
      trivial
      exact h (2 + r1) ss ds M7 ⟨by omega, by omega, s1, fun c hc => d1 c hc, by omega, by omega, by omega, s3⟩ (by omega) (by omega) (hp7.mono (by omega)) (l6.trans l7)
end

end Ev

set_option maxRecDepth 100000
set_option maxHeartbeats 2000000
namespace Ev
open PySem
local macro_rules
  | `(tactic| trivial) => `(tactic| repeat with_reducible first
    | (refine g_ev ?_; first | refine w_var (by with_unfolding_all rfl) ?_ | refine w_lit ?_ | refine w_ix ?_ | refine w_cmp ?_ | refine w_tup ?_ | refine w_bin ?_ | refine w_call1 ?_ | refine w_call2 ?_ | refine w_call3 ?_ | refine w_call4 ?_ | refine w_call ?_ | refine w_all0 ?_ | refine w_bf ?_ | refine w_lst ?_ | refine w_bop ?_ | refine w_nt ?_ | refine w_x1 ?_ | refine w_ite ?_ | refine w_slc ?_ | refine w_cst ?_ | refine w_neg ?_ | refine w_append ?_ | refine w_lrg ?_ | refine w_chain ?_ | refine w_x2 ?_ | refine w_fst ?_ | refine w_join ?_ | refine w_count ?_ | refine w_rev ?_ | refine w_dix ?_)
    | refine m_d ?_ | refine m_l ?_ | refine isB ?_ | refine isI ?_ | refine w_nx ?_
    | (refine g_evs ?_; first | refine w_evs ?_ | refine w_evs0 ?_)
    | (refine g_exs ?_; first | refine w_exs ?_ | refine w_exs0 ?_)
    | (refine g_ex ?_; first | refine w_if1 ?_ | refine w_if2 ?_ | refine w_set ?_ | refine w_ret ?_ | refine w_expr ?_ | refine w_par ?_ | refine w_unp ?_ | refine w_put ?_)
    | refine w_rt ?_ | refine w_end ?_
    | (refine g_evB ?_; first | refine w_evBo ?_ | refine w_evBa ?_ | refine w_evB0 ?_)
    | (refine g_evT ?_; first | refine w_evT ?_ | refine w_evT0 ?_)
    | (refine g_op ?_; first | refine o_add ?_ | refine o_eq ?_ | refine o_isi ?_ | refine o_sub ?_ | refine b_lent ?_ | refine o_gt ?_ | refine o_lt ?_ | refine o_eqs ?_ | refine o_nes ?_ | refine b_tuple ?_ | refine b_int ?_ | refine o_gei ?_ | refine o_lei ?_ | refine o_nei ?_ | refine b_min ?_ | refine b_max ?_ )
    | (refine g_br ?_; first | refine br_nt ?_ | refine br_tt ?_ | refine br_ff ?_ | refine br_isiT (by with_unfolding_all rfl) ?_ | refine br_isiF (by with_unfolding_all rfl) ?_ )
    | (refine g_evI ?_; first | refine w_seq ?_ | refine w_rng1 ?_ | refine w_rng2 ?_ | refine w_rng3 ?_ | refine w_enum ?_ | refine w_zip ?_)
    | (refine g_evO ?_; first | refine w_evO ?_ | refine w_evO0 ?_)
    | (refine g_evF ?_; first | refine w_evF0 ?_ | refine w_txt ?_ ?_ | refine w_val ?_)
    | refine w_lit ?_)
/-! ### a stand, exactly -/
structure CarT where
  f : Int
  o : Bool
  own : List Int
def CarT.d (c : CarT) : D := .tup [.int c.f, .bl c.o, .tup (c.own.map .int)]
def callD (c : Int × Str) : D := .tup [.int c.1, .str c.2]
def callCode (c : Int × Str) : Int := 2 * c.1 + upN c.2
def panD (p : List Int) : D := .tup (p.map .int)
def okCall (F : Int) (c : Int × Str) : Prop := 0 ≤ c.1 ∧ c.1 < F ∧ (c.2 = "up" ∧ c.1 < F - 1 ∨ c.2 = "down" ∧ 0 < c.1)
def okHarm (ss : List Int) : Hm → Prop
  | .crash c d => 0 ≤ c ∧ c < d ∧ d < ss.length ∧ ss[c.toNat]? = ss[d.toNat]?
  | .end_ c => 0 ≤ c ∧ c < ss.length
  | .torn c => 0 ≤ c ∧ c < ss.length
def pairs (ss fl : List Int) : List (List Int) := List.zipWith (fun s f => [s, f]) ss fl
theorem ddL_nd : ∀ {l : List (List Int)}, l.Nodup → ddL l = l
  | [], _ => rfl
  | a :: r, h => by
    rw [List.nodup_cons] at h
    unfold ddL
    rw [if_neg h.1, ddL_nd h.2]
theorem apart_of {ss fl : List Int} (hl : ss.length = fl.length) (h : (pairs ss fl).Nodup) : apart ss fl = true := by
  unfold apart
  rw [show List.zipWith (fun s f => [s, f]) ss fl = pairs ss fl from rfl, ddL_nd h]
  unfold pairs
  rw [List.length_zipWith]
  exact decide_eq_true (by omega)
theorem nd_len {α : Type} [DecidableEq α] : ∀ (l D : List α), l.Nodup → (∀ x ∈ l, x ∈ D) → l.length ≤ D.length
  | [], _, _, _ => Nat.zero_le _
  | a :: r, D, hn, hs => by
    rw [List.nodup_cons] at hn
    have ha := hs a (by simp)
    have h1 := nd_len r (D.erase a) hn.2 fun x hx => by
      have hxa : x ≠ a := fun e => hn.1 (e ▸ hx)
      exact (List.mem_erase_of_ne hxa).mpr (hs x (List.mem_cons_of_mem _ hx))
    have h2 := List.length_erase_of_mem ha
    have h3 : 0 < D.length := List.length_pos_of_mem ha
    rw [List.length_cons]
    omega
theorem eq_getD (ss : List Int) : ss = (List.range ss.length).map fun d => ss.getD d 0 := by
  apply List.ext_getElem
  · simp
  · intro i h1 h2
    simp [h1]
/-- floors of the cars ahead that share a shaft -/
def tkn (ss l : List Int) (i : Nat) (sh : Int) : List Int := ((List.range i).filter fun d => decide (ss.getD d 0 = sh)).map fun d => l.getD d 0
theorem tkn_len {ss l : List Int} {i : Nat} {sh : Int} (hi : ss[i]? = some sh) : (tkn ss l i sh).length < ss.count sh := by
  have hil := (List.getElem?_eq_some_iff.mp hi).1
  have e1 : ss.count sh = ((List.range ss.length).filter fun d => decide (ss.getD d 0 = sh)).length := by
    conv => lhs; rw [eq_getD ss]
    rw [List.count_eq_countP, List.countP_map, List.countP_eq_length_filter]
    congr 1
  obtain ⟨r, hr⟩ : ∃ r, ss.length = i + 1 + r := ⟨ss.length - i - 1, by omega⟩
  have e2 : List.range ss.length = List.range i ++ (i :: (List.range r).map fun x => i + 1 + x) := by
    rw [hr, List.range_add, List.range_succ]
    simp
  rw [e1, e2, List.filter_append, List.length_append]
  unfold tkn
  rw [List.length_map]
  have e3 : decide (ss.getD i 0 = sh) = true := by
    rw [List.getD_eq_getElem?_getD, hi]
    simp
  rw [List.filter_cons, if_pos e3, List.length_cons]
  omega
theorem free_floor {F fl0 : Int} {tk : List Int} (hF : 0 < F) (h : ∀ t : Nat, (t : Int) < F → (fl0 + t) % F ∈ tk) : F ≤ tk.length := by
  have hn : ((List.range F.toNat).map fun t : Nat => (fl0 + (t : Int)) % F).Nodup := by
    rw [List.nodup_iff_pairwise_ne]
    refine List.pairwise_map.mpr ?_
    refine List.Pairwise.imp_of_mem ?_ (List.pairwise_lt_range)
    intro a b ha hb hab e
    have ha := List.mem_range.mp ha
    have hb := List.mem_range.mp hb
    have e2 : ((fl0 + (b : Int)) - (fl0 + (a : Int))) % F = 0 := Int.emod_eq_emod_iff_emod_sub_eq_zero.mp e.symm
    have e3 : (fl0 + (b : Int)) - (fl0 + (a : Int)) = (b : Int) - a := by omega
    rw [e3, Int.emod_eq_of_lt (by omega) (by omega)] at e2
    omega
  have := nd_len _ tk hn fun x hx => by
    obtain ⟨t, ht, rfl⟩ := List.mem_map.mp hx
    have ht := List.mem_range.mp ht
    exact h t (by omega)
  rw [List.length_map, List.length_range] at this
  omega
theorem pairs_snoc {ss l : List Int} {i : Nat} {sh f : Int} (hl : l.length = i) (hi : ss[i]? = some sh) : pairs (ss.take (i + 1)) (l ++ [f]) = pairs (ss.take i) l ++ [[sh, f]] := by
  have hil := (List.getElem?_eq_some_iff.mp hi).1
  unfold pairs
  rw [List.take_add_one, hi]
  show List.zipWith _ (ss.take i ++ [sh]) (l ++ [f]) = _
  rw [List.zipWith_append (by rw [List.length_take]; omega)]
  rfl
theorem pairs_not {ss l : List Int} {i : Nat} {sh f : Int} (hl : l.length = i) (hi : i ≤ ss.length) (hf : f ∉ tkn ss l i sh) : [sh, f] ∉ pairs (ss.take i) l := fun h => by
  obtain ⟨d, hd⟩ := List.getElem?_of_mem h
  unfold pairs at hd
  rw [List.getElem?_zipWith] at hd
  cases e1 : (ss.take i)[d]? with
  | none => rw [e1] at hd; cases e2 : l[d]? <;> rw [e2] at hd <;> cases hd
  | some a =>
    cases e2 : l[d]? with
    | none => rw [e1, e2] at hd; cases hd
    | some b =>
      rw [e1, e2] at hd
      have hd := Option.some.inj hd
      obtain ⟨rfl, rfl⟩ : a = sh ∧ b = f := by simpa using hd
      have hdl := (List.getElem?_eq_some_iff.mp e2).1
      rw [List.getElem?_take] at e1
      rw [if_pos (by omega)] at e1
      refine hf (List.mem_map.mpr ⟨d, List.mem_filter.mpr ⟨List.mem_range.mpr (by omega), ?_⟩, ?_⟩)
      · rw [List.getD_eq_getElem?_getD, e1]
        simp
      · rw [List.getD_eq_getElem?_getD, e2]
        rfl
theorem tkn_comp {ss l : List Int} {i : Nat} {sh : Int} : ((rng 0 i 1).filter fun d => match d with | .int j => decide (ss.getD j.toNat 0 = sh) | _ => false).map (fun d => match d with | .int j => D.int (l.getD j.toNat 0) | _ => .non) = (tkn ss l i sh).map .int := by
  rw [rng_map, List.filter_map, List.map_map]
  unfold tkn
  rw [List.map_map]
  rfl
section
variable {fs : Nat → Option Fn} [Has fs 0 fn_law_draw] [Has fs 17 fn_law_places]
theorem placesT {n : Nat} {M : MH} {p k : Nat} {F : Int} {ss ns : List Int} {P : D → MH → Prop} (hh : Hs F ss ns) (hp : Pot M p k) (hk : k + 100 < 2 ^ 500)
    (h : ∀ (fl : List Int) M', fl.length = ss.length → (∀ f ∈ fl, 0 ≤ f ∧ f < F) → (pairs ss fl).Nodup → Pot M' p (k + 3) → Later p M M' → P (.tup (fl.map .int)) M') : Ok (run fs (n + 2) 17 [.ref p, hD F ss ns] M) P := by
  obtain ⟨f0, f1, s0, n0, ln, l0, l1, cnt⟩ := id hh
  have hpl := hp.lt
  refine w_fn (fn := fn_law_places) rfl ?_
  simp only [fn_law_places, b_law_places]
  trivial
  with_reducible refine w_for ?_
  trivial
  refine hD1 ?_
  refine op_some ⟨_, fun _ => enum_cur, fun i σ M' => ∃ o3 o4 o5 o6 o7 l, σ = [some (.ref p), some (hD F ss ns), some (.ref M.length), o3, o4, o5, o6, o7, none] ∧ M.length < M'.length ∧ M'[M.length]? = some (.lst ((l : List Int).map .int)) ∧ l.length = i ∧ (∀ f ∈ l, 0 ≤ f ∧ f < F) ∧ (pairs (ss.take i) l).Nodup ∧ i ≤ ss.length ∧ Pot M' p (k + i) ∧ Later p M M',
    ⟨none, none, none, none, none, [], rfl, by simp, last_at, rfl, by simp, by simp [pairs], by omega, hp.push, Later.push⟩, ?_, ?_⟩
  · rintro i x σ M1 hd ⟨o3, o4, o5, o6, o7, l, rfl, e1, e2, e3, e4, en, e5, hp1, t1⟩
    obtain ⟨sd, hs, rfl⟩ := enum_at hd
    rw [List.getElem?_map] at hs
    obtain ⟨sh, hsh, rfl⟩ := Option.map_eq_some_iff.mp hs
    have hil := (List.getElem?_eq_some_iff.mp hsh).1
    refine ⟨_, rfl, ?_⟩
    trivial
    refine hD0 ?_
    trivial
    refine draw' hp1 (by omega) (by omega) (by omega) ?_
    intro fl M2 g0 g1 hp2 t2
    have e6 : M2[M.length]? = some (.lst (l.map .int)) := (t2.at_ _ e1 (by omega)).trans e2
    have e7 := t2.len
    trivial
    with_reducible refine w_for ?_
    trivial
    refine hD0 ?_
    trivial
    refine ⟨small_is (by omega) (by omega), rng 0 F.toNat 1, fun _ => rfl, fun j σ M' => ∃ f o6 o7, σ = [some (.ref p), some (hD F ss ns), some (.ref M.length), some (.int i), some (.int sh), some (.int f), o6, o7, none] ∧ 0 ≤ f ∧ f < F ∧ (f ∉ tkn ss l i sh ∨ ((∀ t : Nat, t < j → (fl + (t : Int)) % F ∈ tkn ss l i sh) ∧ f = (fl + (j : Int)) % F)) ∧ M.length < M'.length ∧ M'[M.length]? = some (.lst (l.map .int)) ∧ Pot M' p (k + i + 1) ∧ Later p M M',
      ⟨fl, _, _, rfl, g0, g1, .inr ⟨fun t ht => by omega, by rw [Int.emod_eq_of_lt] <;> omega⟩, by omega, e6, hp2, t1.trans t2⟩, ?_, ?_⟩
    · rintro j x σ M3 hd ⟨f, o6, o7, rfl, b0, b1, bq, b2, b3, hp3, t3⟩
      obtain ⟨hj, rfl⟩ := rng_at hd
      refine ⟨_, rfl, ?_⟩
      trivial
      with_reducible refine w_compP (ds := rng 0 i 1) (fun d => match d with | .int j => decide (ss.getD j.toNat 0 = sh) | _ => false) (fun d => match d with | .int j => D.int (l.getD j.toNat 0) | _ => .non) ?_ ?_ ?_ ?_
      · trivial
        exact ⟨small_is (by omega) (by omega), rfl, rfl⟩
      · rw [rng_len, sl]; omega
      · intro d hd
        rw [rng_map] at hd
        obtain ⟨y, hy, rfl⟩ := List.mem_map.mp hd
        have hy := List.mem_range.mp hy
        refine ⟨_, rfl, ?_⟩
        trivial
        refine hD1 ?_
        trivial
        obtain ⟨v, hv1, hv2⟩ := atM (is := ss) (i := (y : Int)) (by omega) (by omega)
        refine o_ixt hv2 ?_
        have ev : ss.getD y 0 = v := by
          rw [List.getD_eq_getElem?_getD]
          rw [Int.toNat_natCast] at hv1
          rw [hv1]
          rfl
        trivial
        have eg : decide (v = sh) = decide (ss.getD ((y : Nat) : Int).toNat 0 = sh) := by rw [Int.toNat_natCast, ev]
        refine ⟨fun z => ?_, fun z => ?_⟩
        · trivial
          refine ⟨rfl, (eg.symm.trans z).symm, fun _ => ?_⟩
          trivial
          obtain ⟨u, hu1, hu2⟩ := atM (is := l) (i := (y : Int)) (by omega) (by omega)
          refine o_ixr b3 hu2 ?_
          refine ⟨?_, rfl⟩
          show _ = TV.d (.int (l.getD ((y : Nat) : Int).toNat 0))
          rw [List.getD_eq_getElem?_getD, hu1]
          rfl
        · exact ⟨rfl, (eg.symm.trans z).symm, fun q => by have := (eg.symm.trans z).symm.trans q; cases this⟩
      rw [tkn_comp]
      trivial
      refine w_iff ?_
      trivial
      refine ⟨decide (f ∈ tkn ss l i sh), ?_, ?_⟩
      · show (match some (PyData.int f), pd _ 40 (.ref M3.length) with
          | some a, some b => (memOf b).map fun (bs : List PyData) => bs.any fun z => PyData.eqv z a
          | _, _ => none) = _
        have e : ∀ o, pd (M3 ++ [MO.lst ((tkn ss l i sh).map .int)]) 40 (.ref M3.length) = o ↔ (pdAll (pd (M3 ++ [MO.lst ((tkn ss l i sh).map .int)]) 39) ((tkn ss l i sh).map .int)).map PyData.list = o := fun o => by
          show (match rd (M3 ++ [MO.lst ((tkn ss l i sh).map .int)]) M3.length with
            | some ds => (pdAll (pd (M3 ++ [MO.lst ((tkn ss l i sh).map .int)]) 39) ds).map PyData.list
            | none => none) = o ↔ _
          rw [rd_at last_at]
        rw [(e _).mpr rfl, pdAll_ints fun _ => rfl]
        show some (((tkn ss l i sh).map PyData.int).any fun z => PyData.eqv z (.int f)) = _
        rw [any_ints]
      trivial
      refine ⟨fun z => ?_, fun z => ?_⟩
      · have z := of_decide_eq_true z
        trivial
        refine hD0 ?_
        trivial
        refine o_mod (by omega) ?_
        trivial
        rcases bq with bq | ⟨bq, be⟩
        · exact absurd z bq
        · refine ⟨_, _, _, rfl, Int.emod_nonneg _ (by omega), Int.emod_lt_of_pos _ (by omega), .inr ⟨fun t ht => ?_, ?_⟩, by simp; omega, by rw [List.getElem?_append_left b2]; exact b3, hp3.push, t3.trans Later.push⟩
          · by_cases e : t = j
            · subst e
              rw [← be]
              exact z
            · exact bq t (by omega)
          · rw [be, Int.emod_add_emod]
            congr 1
            push_cast
            omega
      · have z := of_decide_eq_false z
        trivial
        exact ⟨f, _, _, rfl, b0, b1, .inl z, by simp; omega, by rw [List.getElem?_append_left b2]; exact b3, hp3.push, t3.trans Later.push⟩
    · rintro σ M3 ⟨f, o6, o7, rfl, b0, b1, bq, b2, b3, hp3, t3⟩
      rw [rng_len] at bq
      have fr : f ∉ tkn ss l i sh := by
        rcases bq with bq | ⟨bq, _⟩
        · exact bq
        · have h1 := free_floor (F := F) (fl0 := fl) (by omega) fun t ht => bq t (by omega)
          have h2 := tkn_len (l := l) hsh
          have h3 := cnt sh (List.mem_of_getElem? hsh)
          omega
      trivial
      refine ⟨rfl, ?_⟩
      trivial
      refine o_app b3 (by rw [List.length_map, sl]; omega) ?_
      trivial
      refine ⟨_, _, _, _, _, l ++ [f], rfl, by rw [List.length_set]; exact b2, by rw [List.getElem?_set_self b2, List.map_append]; rfl, by simp [e3], fun g hg => ?_, ?_, by omega, Later.pot_set hp3 (by omega), t3.set_new (Nat.le_refl _)⟩
      · rcases List.mem_append.mp hg with hg | hg
        · exact e4 g hg
        · rw [List.mem_singleton.mp hg]
          exact ⟨b0, b1⟩
      · rw [pairs_snoc e3 hsh, List.nodup_append]
        refine ⟨en, by simp, fun a ha b hb e => ?_⟩
        rw [List.mem_singleton.mp hb] at e
        subst e
        exact pairs_not e3 (by omega) fr ha
  · rintro σ M1 ⟨o3, o4, o5, o6, o7, l, rfl, e1, e2, e3, e4, en, e5, hp1, t1⟩
    have hl : l.length = ss.length := by
      rw [e3]
      simp
    trivial
    refine b_tupr e2 ?_
    trivial
    refine h l M1 hl e4 ?_ (hp1.mono (by simp; omega)) t1
    rw [← e3, hl, List.take_length] at en
    exact en
end

end Ev

set_option maxRecDepth 100000
set_option maxHeartbeats 2000000
namespace Ev
open PySem
local macro_rules
  | `(tactic| trivial) => `(tactic| repeat with_reducible first
    | (refine g_ev ?_; first | refine w_var (by with_unfolding_all rfl) ?_ | refine w_lit ?_ | refine w_ix ?_ | refine w_cmp ?_ | refine w_tup ?_ | refine w_bin ?_ | refine w_call1 ?_ | refine w_call2 ?_ | refine w_call3 ?_ | refine w_call4 ?_ | refine w_call ?_ | refine w_all0 ?_ | refine w_bf ?_ | refine w_lst ?_ | refine w_bop ?_ | refine w_nt ?_ | refine w_x1 ?_ | refine w_ite ?_ | refine w_slc ?_ | refine w_cst ?_ | refine w_neg ?_ | refine w_append ?_ | refine w_lrg ?_ | refine w_chain ?_ | refine w_x2 ?_ | refine w_fst ?_ | refine w_join ?_ | refine w_count ?_ | refine w_rev ?_ | refine w_dix ?_)
    | refine m_d ?_ | refine m_l ?_ | refine isB ?_ | refine isI ?_ | refine w_nx ?_
    | (refine g_evs ?_; first | refine w_evs ?_ | refine w_evs0 ?_)
    | (refine g_exs ?_; first | refine w_exs ?_ | refine w_exs0 ?_)
    | (refine g_ex ?_; first | refine w_if1 ?_ | refine w_if2 ?_ | refine w_set ?_ | refine w_ret ?_ | refine w_expr ?_ | refine w_par ?_ | refine w_unp ?_ | refine w_put ?_)
    | refine w_rt ?_ | refine w_end ?_
    | (refine g_evB ?_; first | refine w_evBo ?_ | refine w_evBa ?_ | refine w_evB0 ?_)
    | (refine g_evT ?_; first | refine w_evT ?_ | refine w_evT0 ?_)
    | (refine g_op ?_; first | refine o_add ?_ | refine o_eq ?_ | refine o_isi ?_ | refine o_sub ?_ | refine b_lent ?_ | refine o_gt ?_ | refine o_lt ?_ | refine o_eqs ?_ | refine o_nes ?_ | refine b_tuple ?_ | refine b_int ?_ | refine o_gei ?_ | refine o_lei ?_ | refine o_nei ?_ | refine b_min ?_ | refine b_max ?_ )
    | (refine g_br ?_; first | refine br_nt ?_ | refine br_tt ?_ | refine br_ff ?_ | refine br_isiT (by with_unfolding_all rfl) ?_ | refine br_isiF (by with_unfolding_all rfl) ?_ )
    | (refine g_evI ?_; first | refine w_seq ?_ | refine w_rng1 ?_ | refine w_rng2 ?_ | refine w_rng3 ?_ | refine w_enum ?_ | refine w_zip ?_)
    | (refine g_evO ?_; first | refine w_evO ?_ | refine w_evO0 ?_)
    | (refine g_evF ?_; first | refine w_evF0 ?_ | refine w_txt ?_ ?_ | refine w_val ?_)
    | refine w_lit ?_)
section
variable {fs : Nat → Option Fn}
section
variable [Has fs 0 fn_law_draw] [Has fs 18 fn_law_notes]
theorem notesT {n : Nat} {M : MH} {p k : Nat} {F : Int} {ss ns : List Int} {P : D → MH → Prop} (hh : Hs F ss ns) (hp : Pot M p k) (hk : k + 100 < 2 ^ 500)
    (h : ∀ (ow : List (List Int)) M', ow.map List.length = ns.map Int.toNat → (∀ l ∈ ow, ∀ i ∈ l, 0 ≤ i ∧ i < 10) → Pot M' p (k + 9) → Later p M M' → P (.tup (ow.map panD)) M') : Ok (run fs (n + 2) 18 [.ref p, hD F ss ns] M) P := by
  obtain ⟨f0, f1, s0, n0, ln, l0, l1, cnt⟩ := id hh
  refine w_fn (fn := fn_law_notes) rfl ?_
  simp only [fn_law_notes, b_law_notes]
  trivial
  with_reducible refine w_comp ?_
  trivial
  refine hD2 ?_
  refine op_some ⟨ns.map .int, fun _ => rfl, fun i acc M' => i ≤ ns.length ∧ (∃ ow : List (List Int), acc = ow.map panD ∧ ow.map List.length = (ns.take i).map Int.toNat ∧ (∀ l ∈ ow, ∀ i ∈ l, 0 ≤ i ∧ i < 10)) ∧ Pot M' p (k + 3 * i) ∧ Later p M M', ⟨by omega, ⟨[], rfl, by simp, by simp⟩, hp, Later.refl⟩, ?_, ?_⟩
  · rintro i x acc M1 hd ⟨hi, ⟨ow, rfl, ho, hq⟩, hp1, l2⟩
    rw [List.getElem?_map] at hd
    obtain ⟨c, hc, rfl⟩ := Option.map_eq_some_iff.mp hd
    have hil := (List.getElem?_eq_some_iff.mp hc).1
    have b := n0 c (List.mem_of_getElem? hc)
    have hol : ow.length = i := by
      have := congrArg List.length ho
      rw [List.length_map, List.length_map, List.length_take] at this
      omega
    refine ⟨_, rfl, ?_⟩
    refine w_bf (w_evT ?_)
    refine drawsT (k := k + 3 * i) (many := c) (by omega) (by decide) (by decide) hp1 (by omega) (by omega) (w_var (by with_unfolding_all rfl) ⟨rfl, rfl⟩) (fun i => rfl) ?_
    intro is M2 d1 d2 hp2 l3
    trivial
    refine ⟨by rw [sl, List.length_map]; omega, by omega, ⟨ow ++ [is], by simp [panD], ?_, fun l hl => ?_⟩, hp2, l2.trans l3⟩
    · rw [List.map_append, ho, List.take_add_one, hc, List.map_append]
      simp [d2]
    · rcases List.mem_append.mp hl with z | z
      · exact hq l z
      · rw [List.mem_singleton.mp z]
        exact d1
  · rintro acc M1 ⟨hi, ⟨ow, rfl, ho, hq⟩, hp1, l2⟩
    rw [List.length_map, List.take_length] at ho
    rw [List.length_map] at hp1
    trivial
    exact h ow M1 ho hq (hp1.mono (by omega)) l2
end
theorem upN_up : upN "up" = 1 := by unfold upN; rw [if_pos rfl]
theorem upN_down : upN "down" = 0 := by unfold upN; rw [if_neg (by decide +kernel)]
section
variable [Has fs 2 fn_law_calls]
theorem callsT {n : Nat} {M : MH} {F : Int} {ss ns : List Int} {P : D → MH → Prop} (hh : Hs F ss ns)
    (h : ∀ (cs : List (Int × Str)) M', M'[M.length]? = some (.lst (cs.map callD)) → 1 ≤ cs.length → cs.length ≤ 16 → (∀ c ∈ cs, okCall F c) → (cs.map callCode).Pairwise (· < ·) → Only M M' → P (.ref M.length) M') : Ok (run fs (n + 1) 2 [hD F ss ns] M) P := by
  obtain ⟨f0, f1, s0, n0, ln, l0, l1, cnt⟩ := id hh
  refine w_fn (fn := fn_law_calls) rfl ?_
  simp only [fn_law_calls, b_law_calls]
  trivial
  with_reducible refine w_for ?_
  trivial
  refine hD0 ?_
  trivial
  refine ⟨small_is (by omega) (by omega), rng 0 F.toNat 1, fun _ => rfl, fun i σ M' => ∃ o, ∃ cs : List (Int × Str), σ = [some (hD F ss ns), some (.ref M.length), o] ∧ M'.length = M.length + 1 ∧ M'[M.length]? = some (.lst (cs.map callD)) ∧ Only M M' ∧ cs.length ≤ 2 * i ∧ i ≤ F.toNat ∧ (1 ≤ i → 1 ≤ cs.length) ∧ (∀ c ∈ cs, okCall F c) ∧ (cs.map callCode).Pairwise (· < ·) ∧ ∀ c ∈ cs, callCode c < 2 * i,
    ⟨none, [], rfl, by simp, last_at, Only.push, by simp, by omega, by omega, by simp, by simp, by simp⟩, ?_, ?_⟩
  · rintro i d σ M1 hd ⟨o, cs, rfl, e1, e2, e3, e4, e5, e6, e7, e8, e9⟩
    obtain ⟨hi, rfl⟩ := rng_at hd
    have hp : M.length < M1.length := by omega
    have only_set : ∀ {o : MO}, Only M (M1.set M.length o) := fun {o} => ⟨by simp; omega, fun q h => by rw [List.getElem?_set_ne (by omega)]; exact e3.at_ q h⟩
    refine ⟨_, rfl, ?_⟩
    refine w_exs (w_ifj (fun σ M' => ∃ cs' : List (Int × Str), σ = [some (hD F ss ns), some (.ref M.length), some (.int (0 + (i : Nat) * 1))] ∧ M'.length = M.length + 1 ∧ M'[M.length]? = some (.lst (cs'.map callD)) ∧ Only M M' ∧ cs'.length ≤ 2 * i + 1 ∧ (1 ≤ i → 1 ≤ cs'.length) ∧ (∀ c ∈ cs', okCall F c) ∧ (cs'.map callCode).Pairwise (· < ·) ∧ ∀ c ∈ cs', callCode c < 2 * i + 1) ?_ ?_)
    · trivial
      refine ⟨fun q => ?_, fun q => ?_⟩
      · have q := of_decide_eq_true q
        trivial
        refine ⟨rfl, ?_⟩
        trivial
        refine o_app e2 (by rw [sl, List.length_map]; omega) ?_
        trivial
        have ec : callCode ((i : Int), ("down" : Str)) = 2 * i := by
          unfold callCode
          rw [upN_down]
          omega
        refine ⟨_, rfl, cs ++ [((i : Int), ("down" : Str))], rfl, by simp [e1], ?_, only_set, by simp; omega, by simp, ?_, ?_, ?_⟩
        · rw [List.getElem?_set_self hp, List.map_append]
          show some (MO.lst (_ ++ [D.tup [.int (0 + (i : Int) * 1), .str "down"]])) = some (MO.lst (_ ++ [D.tup [.int (i : Int), .str "down"]]))
          rw [show (0 + (i : Int) * 1) = i by omega]
        · intro c hc
          rcases List.mem_append.mp hc with z | z
          · exact e7 c z
          · rw [List.mem_singleton.mp z]
            exact ⟨by show (0 : Int) ≤ i; omega, by show (i : Int) < F; omega, .inr ⟨rfl, by show (0 : Int) < i; omega⟩⟩
        · rw [List.map_append, List.pairwise_append]
          refine ⟨e8, by simp, fun a ha b hb => ?_⟩
          obtain ⟨c, hc, rfl⟩ := List.mem_map.mp ha
          have := e9 c hc
          simp at hb
          rw [hb, ec]
          omega
        · intro c hc
          rcases List.mem_append.mp hc with z | z
          · have := e9 c z; omega
          · rw [List.mem_singleton.mp z, ec]; omega
      · trivial
        exact ⟨_, rfl, cs, rfl, e1, e2, e3, by omega, e6, e7, e8, fun c hc => by have := e9 c hc; omega⟩
    · rintro σ M2 ⟨cs2, rfl, g1, g2, g3, g4, g5, g6, g7, g8⟩
      have hp2 : M.length < M2.length := by omega
      trivial
      refine w_iff ?_
      trivial
      refine hD0 ?_
      trivial
      refine ⟨fun q => ?_, fun q => ?_⟩
      · have q := of_decide_eq_true q
        trivial
        refine ⟨rfl, ?_⟩
        trivial
        refine o_app g2 (by rw [sl, List.length_map]; omega) ?_
        trivial
        have ec : callCode ((i : Int), ("up" : Str)) = 2 * i + 1 := by
          unfold callCode
          rw [upN_up]
        refine ⟨_, cs2 ++ [((i : Int), ("up" : Str))], rfl, by simp [g1], ?_, ⟨by simp; omega, fun q h => by rw [List.getElem?_set_ne (by omega)]; exact g3.at_ q h⟩, by simp; omega, by omega, by simp, ?_, ?_, ?_⟩
        · rw [List.getElem?_set_self hp2, List.map_append]
          show some (MO.lst (_ ++ [D.tup [.int (0 + (i : Int) * 1), .str "up"]])) = some (MO.lst (_ ++ [D.tup [.int (i : Int), .str "up"]]))
          rw [show (0 + (i : Int) * 1) = i by omega]
        · intro c hc
          rcases List.mem_append.mp hc with z | z
          · exact g6 c z
          · rw [List.mem_singleton.mp z]
            exact ⟨by show (0 : Int) ≤ i; omega, by show (i : Int) < F; omega, .inl ⟨rfl, by show (i : Int) < F - 1; omega⟩⟩
        · rw [List.map_append, List.pairwise_append]
          refine ⟨g7, by simp, fun a ha b hb => ?_⟩
          obtain ⟨c, hc, rfl⟩ := List.mem_map.mp ha
          have := g8 c hc
          simp at hb
          rw [hb, ec]
          omega
        · intro c hc
          rcases List.mem_append.mp hc with z | z
          · have := g8 c z; omega
          · rw [List.mem_singleton.mp z, ec]; omega
      · trivial
        have q := of_decide_eq_false q
        exact ⟨_, cs2, rfl, g1, g2, g3, by omega, by omega, fun _ => g5 (by omega), g6, g7, fun c hc => by have := g8 c hc; omega⟩
  · rintro σ M1 ⟨o, cs, rfl, e1, e2, e3, e4, e5, e6, e7, e8, e9⟩
    rw [rng_len] at e4 e6
    trivial
    exact h cs M1 e2 (e6 (by omega)) (by omega) e7 e8 e3
end
section
variable [Has fs 0 fn_law_draw] [Has fs 19 fn_law_some]
theorem someT {α : Type} {g : α → D} {n : Nat} {M : MH} {p k m : Nat} {share : Int} {ds : List α} {P : D → MH → Prop} (hp : Pot M p k) (hm : M[m]? = some (.lst (ds.map g))) (hne : m ≠ p) (hs : 0 < share) (hs2 : share < 2 ^ 64) (hk : k + ds.length < 2 ^ 500) (hl : ds.length ≤ 100000)
    (h : ∀ (es : List α) M', es.Sublist ds → Pot M' p (k + ds.length) → Later p M M' → P (.tup (es.map g)) M') : Ok (run fs (n + 2) 19 [.ref p, .ref m, .int share] M) P := by
  refine (some_ok hp hm hne hs hs2 (by rw [List.length_map]; exact hk) (by rw [List.length_map]; exact hl)).mono ?_
  rintro _ M' ⟨es, rfl, h1, h2, h3⟩
  obtain ⟨es', h4, rfl⟩ := List.sublist_map_iff.mp h1
  rw [List.length_map] at h2
  exact h es' M' h4 h2 h3
end
end

end Ev

set_option maxRecDepth 100000
set_option maxHeartbeats 2000000
namespace Ev
open PySem
local macro_rules
  | `(tactic| trivial) => `(tactic| repeat with_reducible first
    | (refine g_ev ?_; first | refine w_var (by with_unfolding_all rfl) ?_ | refine w_lit ?_ | refine w_ix ?_ | refine w_cmp ?_ | refine w_tup ?_ | refine w_bin ?_ | refine w_call1 ?_ | refine w_call2 ?_ | refine w_call3 ?_ | refine w_call4 ?_ | refine w_call ?_ | refine w_all0 ?_ | refine w_bf ?_ | refine w_lst ?_ | refine w_bop ?_ | refine w_nt ?_ | refine w_x1 ?_ | refine w_ite ?_ | refine w_slc ?_ | refine w_cst ?_ | refine w_neg ?_ | refine w_append ?_ | refine w_lrg ?_ | refine w_chain ?_ | refine w_x2 ?_ | refine w_fst ?_ | refine w_join ?_ | refine w_count ?_ | refine w_rev ?_ | refine w_dix ?_)
    | refine m_d ?_ | refine m_l ?_ | refine isB ?_ | refine isI ?_ | refine w_nx ?_
    | (refine g_evs ?_; first | refine w_evs ?_ | refine w_evs0 ?_)
    | (refine g_exs ?_; first | refine w_exs ?_ | refine w_exs0 ?_)
    | (refine g_ex ?_; first | refine w_if1 ?_ | refine w_if2 ?_ | refine w_set ?_ | refine w_ret ?_ | refine w_expr ?_ | refine w_par ?_ | refine w_unp ?_ | refine w_put ?_)
    | refine w_rt ?_ | refine w_end ?_
    | (refine g_evB ?_; first | refine w_evBo ?_ | refine w_evBa ?_ | refine w_evB0 ?_)
    | (refine g_evT ?_; first | refine w_evT ?_ | refine w_evT0 ?_)
    | (refine g_op ?_; first | refine o_add ?_ | refine o_eq ?_ | refine o_isi ?_ | refine o_sub ?_ | refine b_lent ?_ | refine o_gt ?_ | refine o_lt ?_ | refine o_eqs ?_ | refine o_nes ?_ | refine b_tuple ?_ | refine b_int ?_ | refine o_gei ?_ | refine o_lei ?_ | refine o_nei ?_ | refine b_min ?_ | refine b_max ?_ )
    | (refine g_br ?_; first | refine br_nt ?_ | refine br_tt ?_ | refine br_ff ?_ | refine br_isiT (by with_unfolding_all rfl) ?_ | refine br_isiF (by with_unfolding_all rfl) ?_ )
    | (refine g_evI ?_; first | refine w_seq ?_ | refine w_rng1 ?_ | refine w_rng2 ?_ | refine w_rng3 ?_ | refine w_enum ?_ | refine w_zip ?_)
    | (refine g_evO ?_; first | refine w_evO ?_ | refine w_evO0 ?_)
    | (refine g_evF ?_; first | refine w_evF0 ?_ | refine w_txt ?_ ?_ | refine w_val ?_)
    | refine w_lit ?_)
section
variable {C : Nat → List D → MH → Res D} {σ : Sg} {M : MH}
/-- [(w, c) for c in range(many)] -/
theorem w_wordsE {own : List Nat} {v : Nat} {cs : Ex} {w : Str} {many : Nat} {P : TV → MH → Prop} (hm : many ≤ 8)
    (hmany : Ok (ev C cs σ M) (fun x M' => x = .d (.int many) ∧ M' = M)) (hv : ∀ x : D, ((wipeS σ own).set v (some x))[v]? = some (some x))
    (h : P (.lst ((List.range many).map fun c : Nat => D.tup [.str w, .int c])) M) :
    Ok (ev C (.comp own (.tup (.cons (.lit (.str w)) (.cons (.var v) .nil))) (.name v) (.rng1 cs) .nil) σ M) P := by
  refine w_compG (ds := rng 0 (many : Int).toNat 1) (fun d => .tup [.str w, d]) (w_rng1 (hmany.mono ?_)) ?_ (fun d hd => ⟨_, rfl, ?_⟩) ?_
  · rintro _ _ ⟨rfl, rfl⟩
    exact isI ⟨small_is (by omega) (by omega), rfl, rfl⟩
  · rw [rng_len, sl]; omega
  · refine w_tup (w_evs (w_lit (m_d (w_evs (w_var (hv _) (m_d (w_evs0 ?_)))))))
    exact ⟨rfl, rfl⟩
  · rw [rng_map, List.map_map]
    exact h
end
theorem Hm.ends (n : Nat) : (List.range n).map (fun c : Nat => D.tup [.str "end", .int c]) = ((List.range n).map fun c : Nat => Hm.end_ c).map Hm.d := by
  rw [List.map_map]; rfl
theorem Hm.torns (n : Nat) : (List.range n).map (fun c : Nat => D.tup [.str "torn", .int c]) = ((List.range n).map fun c : Nat => Hm.torn c).map Hm.d := by
  rw [List.map_map]; rfl
section
variable {fs : Nat → Option Fn} [Has fs 20 fn_law_harms]
theorem harmsT {n : Nat} {M : MH} {F : Int} {ss ns : List Int} {P : D → MH → Prop} (hh : Hs F ss ns)
    (h : ∀ (hs : List Hm) m M', M.length ≤ m → M'[m]? = some (.lst (hs.map Hm.d)) → hs.length ≤ 15 → (∀ x ∈ hs, okHarm ss x) → (hs.map Hm.code).Pairwise (· < ·) → Only M M' → P (.ref m) M') : Ok (run fs (n + 1) 20 [hD F ss ns] M) P := by
  obtain ⟨f0, f1, s0, n0, ln, l0, l1, cnt⟩ := id hh
  with_reducible refine w_fn (fn := fn_law_harms) rfl ?_
  simp only [fn_law_harms, b_law_harms]
  trivial
  refine hD1 ?_
  trivial
  refine ⟨rfl, ?_⟩
  trivial
  with_reducible refine w_for ?_
  trivial
  rw [List.length_map]
  refine ⟨small_is (by omega) (by omega), rng 0 (ss.length : Int).toNat 1, fun _ => rfl, fun i σ M' => ∃ o3 o4, ∃ hs : List Hm, σ = [some (hD F ss ns), some (.tup (ss.map .int)), some (.ref M.length), o3, o4] ∧ M.length < M'.length ∧ M'[M.length]? = some (.lst (hs.map Hm.d)) ∧ hs.length ≤ 3 * i ∧ i ≤ ss.length ∧ (∀ x ∈ hs, okHarm ss x) ∧ (hs.map Hm.code).Pairwise (· < ·) ∧ (∀ x ∈ hs, x.code < 10 * i) ∧ Only M M',
    ⟨none, none, [], rfl, by simp, last_at, by simp, by omega, by simp, by simp, by simp, Only.push⟩, ?_, ?_⟩
  · rintro i x σ M1 hd ⟨o3, o4, l, rfl, e1, e2, e3, e4, e5, e6, e7, e8⟩
    obtain ⟨hi, rfl⟩ := rng_at hd
    refine ⟨_, rfl, ?_⟩
    trivial
    with_reducible refine w_for ?_
    trivial
    rw [List.length_map]
    refine ⟨⟨small_is (by omega) (by omega), small_is (by omega) (by omega)⟩, rng (0 + (i : Nat) * 1 + 1) ((ss.length : Int) - (0 + (i : Nat) * 1 + 1)).toNat 1, fun _ => rfl, fun j σ M' => ∃ o4, ∃ hs : List Hm, σ = [some (hD F ss ns), some (.tup (ss.map .int)), some (.ref M.length), some (.int (0 + (i : Nat) * 1)), o4] ∧ M.length < M'.length ∧ M'[M.length]? = some (.lst (hs.map Hm.d)) ∧ hs.length ≤ 3 * i + j ∧ (∀ x ∈ hs, okHarm ss x) ∧ (hs.map Hm.code).Pairwise (· < ·) ∧ (∀ x ∈ hs, x.code < 10 * i + i + 1 + j) ∧ Only M M',
      ⟨o4, l, rfl, e1, e2, by omega, e5, e6, fun x hx => by have := e7 x hx; omega, e8⟩, ?_, ?_⟩
    · rintro j x σ M2 hd ⟨o4, l, rfl, e1, e2, e3, e5, e6, e7, e8⟩
      obtain ⟨hj, rfl⟩ := rng_at hd
      refine ⟨_, rfl, ?_⟩
      trivial
      refine w_iff ?_
      trivial
      obtain ⟨v, hv0, hv⟩ := atM (is := ss) (i := 0 + (i : Nat) * 1) (by omega) (by omega)
      refine o_ixt hv ?_
      trivial
      obtain ⟨v2, hv3, hv2⟩ := atM (is := ss) (i := 0 + (i : Nat) * 1 + 1 + (j : Nat) * 1) (by omega) (by omega)
      refine o_ixt hv2 ?_
      trivial
      refine ⟨fun z => ?_, fun z => ?_⟩
      · have z := of_decide_eq_true z
        trivial
        refine ⟨rfl, ?_⟩
        trivial
        refine o_app e2 (by rw [sl, List.length_map]; omega) ?_
        trivial
        refine ⟨_, l ++ [.crash (0 + (i : Nat) * 1) (0 + (i : Nat) * 1 + 1 + (j : Nat) * 1)], rfl, by rw [List.length_set]; exact e1, ?_, by simp; omega, ?_, ?_, ?_, e8.set_new (Nat.le_refl _)⟩
        · rw [List.getElem?_set_self e1, List.map_append]
          rfl
        · intro x hx
          rcases List.mem_append.mp hx with hx | hx
          · exact e5 x hx
          · rw [List.mem_singleton.mp hx]
            exact ⟨by omega, by omega, by omega, by rw [hv0, hv3, z]⟩
        · rw [List.map_append, List.pairwise_append]
          refine ⟨e6, by simp, fun a ha b hb => ?_⟩
          obtain ⟨c, hc, rfl⟩ := List.mem_map.mp ha
          have := e7 c hc
          rw [List.mem_singleton.mp hb]
          show _ < 10 * (0 + (i : Nat) * 1) + (0 + (i : Nat) * 1 + 1 + (j : Nat) * 1 : Int)
          omega
        · intro x hx
          rcases List.mem_append.mp hx with hx | hx
          · have := e7 x hx
            omega
          · rw [List.mem_singleton.mp hx]
            show 10 * (0 + (i : Nat) * 1) + (0 + (i : Nat) * 1 + 1 + (j : Nat) * 1 : Int) < _
            omega
      · trivial
        exact ⟨_, l, rfl, e1, e2, by omega, e5, e6, fun x hx => by have := e7 x hx; omega, e8⟩
    · rintro σ M2 ⟨o4, l, rfl, g1, g2, g3, g5, g6, g7, g8⟩
      rw [rng_len] at g3 g7
      trivial
      exact ⟨_, _, l, rfl, g1, g2, by omega, by omega, g5, g6, fun x hx => by have := g7 x hx; omega, g8⟩
  · intro σ M1 hI
    obtain ⟨o3, o4, l, hσ, e1, e2, e3, e4, e5, e6, e7, e8⟩ := hI
    subst hσ
    rw [rng_len] at e3 e7
    trivial
    with_reducible refine w_wordsE (many := ss.length) (by omega) ?_ ?_ ?_
    · trivial
      rw [List.length_map]
      exact ⟨rfl, rfl⟩
    · exact fun x => rfl
    rw [Hm.ends]
    refine o_addrl e2 (by rw [sl]; simp; omega) ?_
    trivial
    with_reducible refine w_wordsE (many := ss.length) (by omega) ?_ ?_ ?_
    · trivial
      rw [List.length_map]
      exact ⟨rfl, rfl⟩
    · exact fun x => rfl
    rw [Hm.torns]
    refine o_addll (by rw [sl]; simp; omega) ?_
    trivial
    rw [← List.map_append, ← List.map_append]
    refine h _ _ _ e8.len last_at (by simp; omega) ?_ ?_ (e8.trans Only.push)
    · intro x hx
      rcases List.mem_append.mp hx with hx | hx
      · rcases List.mem_append.mp hx with hx | hx
        · exact e5 x hx
        · obtain ⟨c, hc, rfl⟩ := List.mem_map.mp hx
          have := List.mem_range.mp hc
          exact ⟨by omega, by omega⟩
      · obtain ⟨c, hc, rfl⟩ := List.mem_map.mp hx
        have := List.mem_range.mp hc
        exact ⟨by omega, by omega⟩
    · rw [List.map_append, List.map_append, List.map_map, List.map_map]
      rw [List.pairwise_append, List.pairwise_append]
      refine ⟨⟨e6, ?_, ?_⟩, ?_, ?_⟩
      · refine List.pairwise_map.mpr (List.pairwise_lt_range.imp fun {a b} hab => ?_)
        show (100 : Int) + a < 100 + b
        omega
      · intro a ha b hb
        obtain ⟨c, hc, rfl⟩ := List.mem_map.mp ha
        obtain ⟨d, hd, rfl⟩ := List.mem_map.mp hb
        have := e7 c hc
        show _ < (100 : Int) + d
        omega
      · refine List.pairwise_map.mpr (List.pairwise_lt_range.imp fun {a b} hab => ?_)
        show (200 : Int) + a < 200 + b
        omega
      · intro a ha b hb
        obtain ⟨d, hd, rfl⟩ := List.mem_map.mp hb
        show _ < (200 : Int) + d
        rcases List.mem_append.mp ha with ha | ha
        · obtain ⟨c, hc, rfl⟩ := List.mem_map.mp ha
          have := e7 c hc
          omega
        · obtain ⟨c, hc, rfl⟩ := List.mem_map.mp ha
          have := List.mem_range.mp hc
          show (100 : Int) + c < _
          omega
end

end Ev

set_option maxRecDepth 100000
set_option maxHeartbeats 2000000
namespace Ev
open PySem
local macro_rules
  | `(tactic| trivial) => `(tactic| repeat with_reducible first
    | (refine g_ev ?_; first | refine w_var (by with_unfolding_all rfl) ?_ | refine w_lit ?_ | refine w_ix ?_ | refine w_cmp ?_ | refine w_tup ?_ | refine w_bin ?_ | refine w_call1 ?_ | refine w_call2 ?_ | refine w_call3 ?_ | refine w_call4 ?_ | refine w_call ?_ | refine w_all0 ?_ | refine w_bf ?_ | refine w_lst ?_ | refine w_bop ?_ | refine w_nt ?_ | refine w_x1 ?_ | refine w_ite ?_ | refine w_slc ?_ | refine w_cst ?_ | refine w_neg ?_ | refine w_append ?_ | refine w_lrg ?_ | refine w_chain ?_ | refine w_x2 ?_ | refine w_fst ?_ | refine w_join ?_ | refine w_count ?_ | refine w_rev ?_ | refine w_dix ?_)
    | refine m_d ?_ | refine m_l ?_ | refine isB ?_ | refine isI ?_ | refine w_nx ?_
    | (refine g_evs ?_; first | refine w_evs ?_ | refine w_evs0 ?_)
    | (refine g_exs ?_; first | refine w_exs ?_ | refine w_exs0 ?_)
    | (refine g_ex ?_; first | refine w_if1 ?_ | refine w_if2 ?_ | refine w_set ?_ | refine w_ret ?_ | refine w_expr ?_ | refine w_par ?_ | refine w_unp ?_ | refine w_put ?_)
    | refine w_rt ?_ | refine w_end ?_
    | (refine g_evB ?_; first | refine w_evBo ?_ | refine w_evBa ?_ | refine w_evB0 ?_)
    | (refine g_evT ?_; first | refine w_evT ?_ | refine w_evT0 ?_)
    | (refine g_op ?_; first | refine o_add ?_ | refine o_eq ?_ | refine o_isi ?_ | refine o_sub ?_ | refine b_lent ?_ | refine o_gt ?_ | refine o_lt ?_ | refine o_eqs ?_ | refine o_nes ?_ | refine b_tuple ?_ | refine b_int ?_ | refine o_gei ?_ | refine o_lei ?_ | refine o_nei ?_ | refine b_min ?_ | refine b_max ?_ )
    | (refine g_br ?_; first | refine br_nt ?_ | refine br_tt ?_ | refine br_ff ?_ | refine br_isiT (by with_unfolding_all rfl) ?_ | refine br_isiF (by with_unfolding_all rfl) ?_ )
    | (refine g_evI ?_; first | refine w_seq ?_ | refine w_rng1 ?_ | refine w_rng2 ?_ | refine w_rng3 ?_ | refine w_enum ?_ | refine w_zip ?_)
    | (refine g_evO ?_; first | refine w_evO ?_ | refine w_evO0 ?_)
    | (refine g_evF ?_; first | refine w_evF0 ?_ | refine w_txt ?_ ?_ | refine w_val ?_)
    | refine w_lit ?_)
structure St where
  cars : List CarT
  calls : List (Int × Str)
  panels : List (List Int)
  fire : Bool
  harms : List Hm
def St.d (s : St) : D := .tup [.tup (s.cars.map CarT.d), .tup (s.calls.map callD), .tup (s.panels.map panD), .bl s.fire, .tup (s.harms.map Hm.d)]
structure StOk (F : Int) (ss ns : List Int) (s : St) : Prop where
  f : ∀ c ∈ s.cars, 0 ≤ c.f ∧ c.f < F
  c : s.cars.length = ss.length
  own : s.cars.map (fun c => c.own.length) = ns.map Int.toNat
  dig : ∀ c ∈ s.cars, ∀ i ∈ c.own, 0 ≤ i ∧ i < 10
  nd : (pairs ss (s.cars.map CarT.f)).Nodup
  k : ∀ c ∈ s.calls, okCall F c
  kp : (s.calls.map callCode).Pairwise (· < ·)
  k1 : s.calls.length ≤ 16
  p : s.panels.length = ss.length
  pf : ∀ l ∈ s.panels, ∀ f ∈ l, 0 ≤ f ∧ f < F
  pp : ∀ l ∈ s.panels, l.Pairwise (· < ·)
  fi : s.fire = true → s.calls = [] ∧ ∀ l ∈ s.panels, l = []
  h : ∀ x ∈ s.harms, okHarm ss x
  hp : (s.harms.map Hm.code).Pairwise (· < ·)
  h1 : s.harms.length ≤ 15
theorem copies_empty (n : Nat) : copies n [D.tup []] = (List.replicate n ([] : List Int)).map panD := by
  induction n with
  | zero => rfl
  | succ n ih =>
    show [D.tup []] ++ copies n [D.tup []] = _
    rw [ih]
    rfl
theorem lrg_is (n : Nat) : ((List.range n).map fun (i : Nat) => D.int i) = ((List.range n).map fun (i : Nat) => (i : Int)).map D.int := by
  rw [List.map_map]; rfl
section
variable {fs : Nat → Option Fn}
variable [Has fs 0 fn_law_draw] [Has fs 2 fn_law_calls] [Has fs 17 fn_law_places] [Has fs 18 fn_law_notes] [Has fs 19 fn_law_some] [Has fs 20 fn_law_harms] [Has fs 21 fn_law_stand]
theorem standT {n : Nat} {M : MH} {p k : Nat} {F : Int} {ss ns : List Int} {P : D → MH → Prop} (hh : Hs F ss ns) (hp : Pot M p k) (hk : k + 1000 < 2 ^ 500)
    (h : ∀ (s : St) M', StOk F ss ns s → Pot M' p (k + 100) → Later p M M' → P s.d M') :
    Ok (run fs (n + 3) 21 [.ref p, hD F ss ns] M) P := by
  obtain ⟨f0, f1, s0, n0, ln, l0, l1, cnt⟩ := id hh
  with_reducible refine w_fn (fn := fn_law_stand) ?_ ?_
  · rfl
  simp only [fn_law_stand, b_law_stand]
  trivial
  refine placesT hh hp (by omega) ?_
  intro fl M1 pl1 pl2 pl3 hp1 t1
  trivial
  refine notesT hh hp1 (by omega) ?_
  intro ow M2 nt1 nt2 hp2 t2
  trivial
  refine ⟨rfl, ?_⟩
  trivial
  have owl : ow.length = ss.length := by
    have := congrArg List.length nt1
    rw [List.length_map, List.length_map] at this
    omega
  with_reducible refine w_comp ?_
  trivial
  refine ⟨rfl, op_some (op_some ⟨_, fun _ => zip_cur, fun i acc M' => i ≤ 3 ∧ (∃ cs : List CarT, acc = cs.map CarT.d ∧ cs.map CarT.f = fl.take i ∧ cs.map CarT.own = ow.take i) ∧ Pot M' p (k + 12 + i) ∧ Later p M M', ⟨by omega, ⟨[], rfl, by simp, by simp⟩, hp2.mono (by omega), t1.trans t2⟩, ?_, ?_⟩)⟩
  · rintro i x acc M3 hd ⟨hi, ⟨cs, rfl, hc1, hc2⟩, hp3, t3⟩
    obtain ⟨u, v, hu, hv, rfl⟩ := zip_at hd
    rw [List.getElem?_map] at hu hv
    obtain ⟨f, hf, rfl⟩ := Option.map_eq_some_iff.mp hu
    obtain ⟨o, ho, rfl⟩ := Option.map_eq_some_iff.mp hv
    have hil := (List.getElem?_eq_some_iff.mp hf).1
    have hcl : cs.length = i := by
      have := congrArg List.length hc1
      rw [List.length_map, List.length_take] at this
      omega
    refine ⟨_, rfl, ?_⟩
    trivial
    refine draw' hp3 (by decide) (by decide) (by omega) ?_
    intro r M4 r0 r1 hp4 t4
    trivial
    refine ⟨by rw [sl, List.length_map]; omega, by omega, ⟨cs ++ [⟨f, decide (r = 0), o⟩], ?_, ?_, ?_⟩, hp4, t3.trans t4⟩
    · rw [List.map_append]
      rfl
    · rw [List.map_append, hc1, List.take_add_one, hf]
      rfl
    · rw [List.map_append, hc2, List.take_add_one, ho]
      rfl
  · rintro _ M3 ⟨hi, ⟨cs, rfl, hc1, hc2⟩, hp3, t3⟩
    have ez : (List.zipWith (fun x y => D.tup [x, y]) (fl.map D.int) (ow.map panD)).length = ss.length := by
      rw [List.length_zipWith, List.length_map, List.length_map]
      omega
    rw [ez] at hc1 hc2
    rw [← owl, List.take_length] at hc2
    rw [← pl1, List.take_length] at hc1
    have hlen : cs.length = ss.length := by
      have := congrArg List.length hc1
      rw [List.length_map] at this
      omega
    have okc : ∀ c ∈ cs, 0 ≤ c.f ∧ c.f < F := fun c hc => pl2 c.f (hc1 ▸ List.mem_map_of_mem hc)
    have oko : cs.map (fun c => c.own.length) = ns.map Int.toNat := by
      rw [← nt1, ← hc2, List.map_map]
      rfl
    have okd : ∀ c ∈ cs, ∀ i ∈ c.own, 0 ≤ i ∧ i < 10 := fun c hc => nt2 c.own (hc2 ▸ List.mem_map_of_mem hc)
    rw [← hc1] at pl3
    trivial
    refine draw' (hp3.mono (k' := k + 15) (by omega)) (by decide) (by decide) (by omega) ?_
    intro r M4 r0 r1 hp4 t4
    trivial
    refine br_join (fun x M' => ∃ hs : List Hm, x = .d (.tup (hs.map Hm.d)) ∧ (∀ x ∈ hs, okHarm ss x) ∧ (hs.map Hm.code).Pairwise (· < ·) ∧ hs.length ≤ 15 ∧ Pot M' p (k + 31) ∧ Later p M M') (fun z => ?_) (fun z => ?_) ?_
    · trivial
      refine harmsT hh ?_
      intro hs m M5 m1 m2 m3 m4 m5 m6
      trivial
      have hp5 := m6.pot hp4
      have := hp4.lt
      refine someT hp5 m2 (by omega) (by decide) (by decide) (by omega) (by omega) ?_
      intro es M6 q1 q2 q3
      have := q1.length_le
      exact ⟨es, rfl, fun h hh => m4 h (q1.subset hh), m5.sublist (q1.map _), by omega, q2.mono (by omega), t3.trans (t4.trans (m6.later.trans q3))⟩
    · trivial
      exact ⟨[], rfl, by simp, by simp, by simp, hp4.mono (by omega), t3.trans t4⟩
    rintro _ M5 ⟨hs, rfl, h1, h2, h3, hp5, t5⟩
    trivial
    refine draw' hp5 (by decide) (by decide) (by omega) ?_
    intro r2 M6 r0 r1 hp6 t6
    trivial
    refine ⟨fun z => ?_, fun z => ?_⟩
    · trivial
      refine o_rep (by omega) (by rw [List.length_map]; omega) (by simp) ?_
      trivial
      rw [copies_empty]
      refine h ⟨cs, [], List.replicate _ [], true, hs⟩ M6 ⟨okc, hlen, oko, okd, pl3, by simp, by simp, by simp, ?_, fun l hl => ?_, fun l hl => ?_, fun _ => ⟨rfl, fun l hl => (List.mem_replicate.mp hl).2⟩, h1, h2, h3⟩ (hp6.mono (by omega)) (t5.trans t6)
      · show (List.replicate _ _).length = _
        rw [List.length_replicate, List.length_map]
        omega
      · rw [(List.mem_replicate.mp hl).2]
        simp
      · rw [(List.mem_replicate.mp hl).2]
        simp
    · trivial
      refine draw' hp6 (by decide) (by decide) (by omega) ?_
      intro r3 M7 r4 r5 hp7 t7
      trivial
      with_reducible refine w_comp ?_
      trivial
      refine op_some ⟨cs.map CarT.d, fun _ => rfl, fun i acc M' => i ≤ 3 ∧ (∃ ps : List (List Int), acc = ps.map panD ∧ ps.length = i ∧ (∀ l ∈ ps, (∀ f ∈ l, 0 ≤ f ∧ f < F) ∧ l.Pairwise (· < ·))) ∧ Pot M' p (k + 33 + 8 * i) ∧ Later p M M', ⟨by omega, ⟨[], rfl, rfl, by simp⟩, hp7.mono (by omega), t5.trans (t6.trans t7)⟩, ?_, ?_⟩
      · rintro i x acc M8 hd ⟨hi, ⟨ps, rfl, hl2, ha2⟩, hp8, t8⟩
        have hil := (List.getElem?_eq_some_iff.mp hd).1
        rw [List.length_map] at hil
        refine ⟨_, rfl, ?_⟩
        trivial
        refine hD0 ?_
        trivial
        refine ⟨⟨by omega, by omega⟩, ?_⟩
        trivial
        have hz : ((List.range F.toNat).map fun (i : Nat) => (i : Int)).length = F.toNat := by simp
        refine someT (g := D.int) (ds := (List.range F.toNat).map fun (i : Nat) => (i : Int)) hp8.push (by rw [← lrg_is]; exact last_at) (by have := hp8.lt; omega) (by omega) (by omega) (by rw [hz]; omega) (by rw [hz]; omega) ?_
        intro es M9 q1 q2 q3
        have := q1.length_le
        rw [hz] at this q2
        trivial
        refine ⟨by rw [sl, List.length_map]; omega, by omega, ⟨ps ++ [es], ?_, by simp [hl2], fun l hl => ?_⟩, q2.mono (by omega), t8.trans (Later.push.trans q3)⟩
        · rw [List.map_append]
          rfl
        · rcases List.mem_append.mp hl with hl | hl
          · exact ha2 l hl
          · rw [List.mem_singleton.mp hl]
            refine ⟨fun f hf => ?_, List.Pairwise.sublist q1 ?_⟩
            · obtain ⟨j, hj, rfl⟩ := List.mem_map.mp (q1.subset hf)
              have := List.mem_range.mp hj
              omega
            · refine List.pairwise_map.mpr (List.pairwise_lt_range.imp fun {a b} hab => ?_)
              omega
      · rintro _ M8 ⟨hi, ⟨ps, rfl, hl2, ha2⟩, hp8, t8⟩
        rw [List.length_map] at hl2 hp8
        trivial
        refine callsT hh ?_
        intro c M9 q1 q2 q3 q4 q5 q6
        trivial
        have hp9 := q6.pot hp8
        have := hp8.lt
        refine someT hp9 q1 (by omega) (by omega) (by omega) (by omega) (by omega) ?_
        intro es M10 u1 u2 u3
        have := u1.length_le
        trivial
        exact h ⟨cs, es, ps, false, hs⟩ M10 ⟨okc, hlen, oko, okd, pl3, fun x hx => q4 x (u1.subset hx), q5.sublist (u1.map _), by show es.length ≤ 16; omega, by show ps.length = _; omega, fun l hl => (ha2 l hl).1, fun l hl => (ha2 l hl).2, (by intro z; cases z), h1, h2, h3⟩ (u2.mono (by omega)) (t8.trans (q6.later.trans u3))
end

end Ev

set_option maxRecDepth 100000
set_option maxHeartbeats 2000000
namespace Ev
open PySem
local macro_rules
  | `(tactic| trivial) => `(tactic| repeat with_reducible first
    | (refine g_ev ?_; first | refine w_var (by with_unfolding_all rfl) ?_ | refine w_lit ?_ | refine w_ix ?_ | refine w_cmp ?_ | refine w_tup ?_ | refine w_bin ?_ | refine w_call1 ?_ | refine w_call2 ?_ | refine w_call3 ?_ | refine w_call4 ?_ | refine w_call ?_ | refine w_all0 ?_ | refine w_bf ?_ | refine w_lst ?_ | refine w_bop ?_ | refine w_nt ?_ | refine w_x1 ?_ | refine w_ite ?_ | refine w_slc ?_ | refine w_cst ?_ | refine w_neg ?_ | refine w_append ?_ | refine w_lrg ?_ | refine w_chain ?_ | refine w_x2 ?_ | refine w_fst ?_ | refine w_join ?_ | refine w_count ?_ | refine w_rev ?_ | refine w_dix ?_)
    | refine m_d ?_ | refine m_l ?_ | refine isB ?_ | refine isI ?_ | refine w_nx ?_
    | (refine g_evs ?_; first | refine w_evs ?_ | refine w_evs0 ?_)
    | (refine g_exs ?_; first | refine w_exs ?_ | refine w_exs0 ?_)
    | (refine g_ex ?_; first | refine w_if1 ?_ | refine w_if2 ?_ | refine w_set ?_ | refine w_ret ?_ | refine w_expr ?_ | refine w_par ?_ | refine w_unp ?_ | refine w_put ?_)
    | refine w_rt ?_ | refine w_end ?_
    | (refine g_evB ?_; first | refine w_evBo ?_ | refine w_evBa ?_ | refine w_evB0 ?_)
    | (refine g_evT ?_; first | refine w_evT ?_ | refine w_evT0 ?_)
    | (refine g_op ?_; first | refine o_add ?_ | refine o_eq ?_ | refine o_isi ?_ | refine o_sub ?_ | refine b_lent ?_ | refine o_gt ?_ | refine o_lt ?_ | refine o_eqs ?_ | refine o_nes ?_ | refine b_tuple ?_ | refine b_int ?_ | refine o_gei ?_ | refine o_lei ?_ | refine o_nei ?_ | refine b_min ?_ | refine b_max ?_ )
    | (refine g_br ?_; first | refine br_nt ?_ | refine br_tt ?_ | refine br_ff ?_ | refine br_isiT (by with_unfolding_all rfl) ?_ | refine br_isiF (by with_unfolding_all rfl) ?_ )
    | (refine g_evI ?_; first | refine w_seq ?_ | refine w_rng1 ?_ | refine w_rng2 ?_ | refine w_rng3 ?_ | refine w_enum ?_ | refine w_zip ?_)
    | (refine g_evO ?_; first | refine w_evO ?_ | refine w_evO0 ?_)
    | (refine g_evF ?_; first | refine w_evF0 ?_ | refine w_txt ?_ ?_ | refine w_val ?_)
    | refine w_lit ?_)
/-! ### what is built is known -/
theorem intsB_of {is : List Int} {m lo hi : Int} (hl : (is.length : Int) = m) (h : ∀ i ∈ is, lo ≤ i ∧ i ≤ hi) : intsB (.tup (is.map .int)) m lo hi = true := by
  rw [intsB_is, Bool.and_eq_true, List.length_map, List.all_eq_true]
  refine ⟨decide_eq_true hl, fun x hx => ?_⟩
  obtain ⟨i, hi, rfl⟩ := List.mem_map.mp hx
  rw [btw_i, decide_eq_true (h i hi).1, decide_eq_true (h i hi).2]
  rfl
theorem Hs.is {F : Int} {ss ns : List Int} (h : Hs F ss ns) : isHouse (hD F ss ns) = true := by
  unfold hD
  rw [isHouse_is, btw_i, List.length_map]
  have hF := h.f0; have hF1 := h.f1; have hl := h.l0; have hl1 := h.l1
  rw [decide_eq_true hF, decide_eq_true hF1, decide_eq_true (show (1 : Int) ≤ ss.length by omega), decide_eq_true (show (ss.length : Int) ≤ 3 by omega)]
  rw [intsB_of rfl fun i hi => by have := h.s i hi; omega, intsB_of (by rw [h.len]) fun i hi => by have := h.n i hi; omega]
  show (List.all _ _) = true
  rw [List.all_eq_true]
  intro x hx
  obtain ⟨i, hi, rfl⟩ := List.mem_map.mp hx
  show decide ((cntD (ss.map .int) (.int i) : Int) < F) = true
  rw [cntD_ints]
  exact decide_eq_true (h.cnt i hi)
theorem callD_is {F : Int} {c : Int × Str} (h : okCall F c) : isCallD F (callD c) = true := by
  obtain ⟨f, s⟩ := c
  obtain ⟨h0, h1, h2⟩ := h
  show ((decide (0 ≤ f) && decide (f ≤ F - 1)) && (if s == "up" then decide (f < F - 1) else if s == "down" then decide (0 < f) else false)) = true
  have h0 : 0 ≤ f := h0
  have h1 : f < F := h1
  rw [decide_eq_true h0, decide_eq_true (show f ≤ F - 1 by omega)]
  rcases h2 with ⟨rfl, h2⟩ | ⟨rfl, h2⟩
  · rw [if_pos (by decide), decide_eq_true h2]
    rfl
  · rw [if_neg (by decide), if_pos (by decide), decide_eq_true h2]
    rfl
def codeC : D → Int
  | .tup [.int f, .str s] => 2 * f + upN s
  | _ => 0
theorem codeC_is (c : Int × Str) : codeC (callD c) = callCode c := rfl
theorem calls_are {F : Int} {cs : List (Int × Str)} (h : ∀ c ∈ cs, okCall F c) (hp : (cs.map callCode).Pairwise (· < ·)) : areCalls F (.tup (cs.map callD)) = true := by
  show ((cs.map callD).all (isCallD F) && rising (cs.map callD)) = true
  rw [Bool.and_eq_true, List.all_eq_true]
  refine ⟨fun x hx => ?_, rising_of (code := codeC) (fun a ha b hb => ?_) ?_⟩
  · obtain ⟨c, hc, rfl⟩ := List.mem_map.mp hx
    exact callD_is (h c hc)
  · obtain ⟨⟨f, s⟩, hc, rfl⟩ := List.mem_map.mp ha
    obtain ⟨⟨g, t⟩, hd, rfl⟩ := List.mem_map.mp hb
    have h1 := (h _ hc).2.2
    have h2 := (h _ hd).2.2
    refine ltD_calls ?_ ?_
    · rcases h1 with ⟨h, _⟩ | ⟨h, _⟩
      · exact .inl h
      · exact .inr h
    · rcases h2 with ⟨h, _⟩ | ⟨h, _⟩
      · exact .inl h
      · exact .inr h
  · rw [List.map_map]
    exact hp
theorem panels_are {F : Int} {ps : List (List Int)} (h : ∀ l ∈ ps, ∀ f ∈ l, 0 ≤ f ∧ f < F) (hp : ∀ l ∈ ps, l.Pairwise (· < ·)) : arePanels F ps.length (.tup (ps.map panD)) = true := by
  show (decide (((ps.map panD).length : Int) = ps.length) && (ps.map panD).all fun p => risingInts p (F - 1)) = true
  rw [List.length_map, decide_eq_true rfl, Bool.true_and, List.all_eq_true]
  intro x hx
  obtain ⟨l, hl, rfl⟩ := List.mem_map.mp hx
  show (intsB (.tup (l.map .int)) (l.map D.int).length 0 (F - 1) && rising (l.map .int)) = true
  rw [List.length_map, intsB_of rfl fun i hi => by have := h l hl i hi; omega, rising_ints (hp l hl)]
  rfl
theorem harm_is {ss : List Int} {x : Hm} (h : okHarm ss x) : harmB ss x.d = true := by
  cases x with
  | crash c d =>
    obtain ⟨h0, h1, h2, h3⟩ := h
    show ((btw (.int c) 0 (ss.length - 1) && btw (.int d) 0 (ss.length - 1)) && (("crash" : Str) == "crash" && (decide (c < d) && decide (ss[c.toNat]? = ss[d.toNat]?)))) = true
    rw [btw_i, btw_i, decide_eq_true h0, decide_eq_true h1, decide_eq_true h3, decide_eq_true (show c ≤ ss.length - 1 by omega), decide_eq_true (show 0 ≤ d by omega), decide_eq_true (show d ≤ ss.length - 1 by omega)]
    rfl
  | end_ c =>
    obtain ⟨h0, h1⟩ := h
    show (btw (.int c) 0 (ss.length - 1) && (("end" : Str) == "end" || ("end" : Str) == "torn")) = true
    rw [btw_i, decide_eq_true h0, decide_eq_true (show c ≤ ss.length - 1 by omega)]
    rfl
  | torn c =>
    obtain ⟨h0, h1⟩ := h
    show (btw (.int c) 0 (ss.length - 1) && (("torn" : Str) == "end" || ("torn" : Str) == "torn")) = true
    rw [btw_i, decide_eq_true h0, decide_eq_true (show c ≤ ss.length - 1 by omega)]
    rfl
theorem okHarm.ok {ss : List Int} {x : Hm} (hl : ss.length ≤ 3) (h : okHarm ss x) : x.ok := by
  cases x with
  | crash c d => obtain ⟨h0, h1, h2, h3⟩ := h; exact ⟨by omega, by omega, by omega, by omega⟩
  | end_ c => obtain ⟨h0, h1⟩ := h; exact ⟨by omega, by omega⟩
  | torn c => obtain ⟨h0, h1⟩ := h; exact ⟨by omega, by omega⟩
theorem harms_are {ss : List Int} {hs : List Hm} (hl : ss.length ≤ 3) (h : ∀ x ∈ hs, okHarm ss x) (hp : (hs.map Hm.code).Pairwise (· < ·)) : areHarms ss (.tup (hs.map Hm.d)) = true := by
  show ((hs.map Hm.d).all (harmB ss) && rising (hs.map Hm.d)) = true
  rw [rising_harms (fun x hx => (h x hx).ok hl) hp, Bool.and_true, List.all_eq_true]
  intro x hx
  obtain ⟨y, hy, rfl⟩ := List.mem_map.mp hx
  exact harm_is (h y hy)
theorem cars_are {F : Int} {ss ns : List Int} {cs : List CarT} (hn : ∀ c ∈ ns, 0 ≤ c ∧ c < 4) (hf : ∀ c ∈ cs, 0 ≤ c.f ∧ c.f < F) (hc : cs.length = ss.length) (ho : cs.map (fun c => c.own.length) = ns.map Int.toNat)
    (hd : ∀ c ∈ cs, ∀ i ∈ c.own, 0 ≤ i ∧ i < 10) (hp : (pairs ss (cs.map CarT.f)).Nodup) : areCars F ss ns (.tup (cs.map CarT.d)) = true := by
  show (decide (((cs.map CarT.d).length : Int) = (ss.length : Int)) && ((cs.map CarT.d).all carShape && (arePlaces F ss (.tup ((cs.map CarT.d).map c0D)) && areNotes ns ss.length (.tup ((cs.map CarT.d).map c2D))))) = true
  have e0 : (cs.map CarT.d).map c0D = (cs.map CarT.f).map .int := by
    rw [List.map_map, List.map_map]; rfl
  have e2 : (cs.map CarT.d).map c2D = cs.map fun c => D.tup (c.own.map .int) := by
    rw [List.map_map]; rfl
  rw [e0, e2, List.length_map, hc, decide_eq_true rfl, arePlaces_i, intsB_of (by rw [List.length_map, hc]) fun i hi => by
    obtain ⟨c, hc, rfl⟩ := List.mem_map.mp hi
    have := hf c hc
    omega, apart_of (by rw [List.length_map, hc]) hp]
  have h1 : (cs.map CarT.d).all carShape = true := by
    rw [List.all_eq_true]
    intro x hx
    obtain ⟨c, _, rfl⟩ := List.mem_map.mp hx
    rfl
  rw [h1, Bool.true_and, Bool.true_and, Bool.true_and, Bool.true_and]
  show (decide (((cs.map fun c => D.tup (c.own.map .int)).length : Int) = ss.length) && (List.zipWith (fun x y => D.tup [x, y]) (cs.map fun c => D.tup (c.own.map .int)) (ns.map .int)).all noteB) = true
  rw [List.length_map, hc, decide_eq_true rfl, Bool.true_and, List.all_eq_true]
  intro x hx
  obtain ⟨i, hi⟩ := List.getElem?_of_mem hx
  obtain ⟨u, v, hu, hv, rfl⟩ := zip_at hi
  rw [List.getElem?_map] at hu hv
  obtain ⟨c, hc1, rfl⟩ := Option.map_eq_some_iff.mp hu
  obtain ⟨m, hm, rfl⟩ := Option.map_eq_some_iff.mp hv
  have e : c.own.length = m.toNat := by
    have := congrArg (fun l => l[i]?) ho
    simpa [hc1, hm] using this
  have b := hn m (List.mem_of_getElem? hm)
  show intsB (.tup (c.own.map .int)) m 0 9 = true
  exact intsB_of (by omega) fun i hi => by have := hd c (List.mem_of_getElem? hc1) i hi; omega
theorem StOk.is {F : Int} {ss ns : List Int} {s : St} (hh : Hs F ss ns) (h : StOk F ss ns s) : isStand F ss ns s.d = true := by
  unfold St.d
  rw [isStand_is, cars_are hh.n h.f h.c h.own h.dig h.nd, calls_are h.k h.kp, harms_are hh.l1 h.h h.hp, ← h.p, panels_are h.pf h.pp]
  cases e : s.fire with
  | false => rfl
  | true =>
    obtain ⟨h1, h2⟩ := h.fi e
    rw [h1]
    show ((s.panels.map panD).all emptyT && true) = true
    rw [Bool.and_true, List.all_eq_true]
    intro x hx
    obtain ⟨l, hl, rfl⟩ := List.mem_map.mp hx
    rw [h2 l hl]
    rfl
theorem szs_le {m : Nat} : ∀ {ds : List D}, (∀ d ∈ ds, sz d ≤ m) → szs ds ≤ ds.length * m
  | [], _ => by simp [szs]
  | d :: ds, h => by
    have h1 := h d (by simp)
    have h2 := szs_le (ds := ds) fun x hx => h x (List.mem_cons_of_mem _ hx)
    show sz d + szs ds ≤ (ds.length + 1) * m
    rw [Nat.add_mul]
    omega
theorem sz_i {i : Int} (h0 : 0 ≤ i) (h : i < 1000) : sz (.int i) ≤ 11 := by
  show i.natAbs.log2 + 1 ≤ 11
  have : i.natAbs.log2 < 10 := by
    by_cases e : i.natAbs = 0
    · rw [e]
      decide
    · exact (Nat.log2_lt e).mpr (by omega)
  omega
theorem szs_app (a b : List D) : szs (a ++ b) = szs a + szs b := by
  induction a with
  | nil => show szs b = 0 + szs b; omega
  | cons d ds ih => show sz d + szs (ds ++ b) = sz d + szs ds + szs b; omega
theorem sz_ints {is : List Int} (h : ∀ i ∈ is, 0 ≤ i ∧ i < 1000) : sz (.tup (is.map .int)) ≤ is.length * 11 + 1 := by
  rw [sz_tup]
  have := szs_le (m := 11) (ds := is.map .int) fun d hd => by
    obtain ⟨i, hi, rfl⟩ := List.mem_map.mp hd
    exact sz_i (h i hi).1 (h i hi).2
  rw [List.length_map] at this
  omega
theorem Hs.sz {F : Int} {ss ns : List Int} (h : Hs F ss ns) : sz (hD F ss ns) ≤ lim := by
  have h1 := sz_ints (is := ss) fun i hi => by have := h.s i hi; omega
  have h2 := sz_ints (is := ns) fun i hi => by have := h.n i hi; omega
  have h3 : Ev.sz (.int F) ≤ 11 := sz_i (by have := h.f0; omega) (by have := h.f1; omega)
  have := h.l1
  have := h.len
  unfold hD
  rw [sz_tup]
  show Ev.sz (.int F) + (Ev.sz (.tup (ss.map .int)) + (Ev.sz (.tup (ns.map .int)) + 0)) + 1 ≤ 1000000
  omega
theorem rise_len {F : Int} : ∀ {l : List Int} {lo : Int}, (∀ f ∈ l, lo ≤ f ∧ f < F) → l.Pairwise (· < ·) → lo ≤ F → (l.length : Int) ≤ F - lo
  | [], lo, _, _, h => by
    show ((0 : Nat) : Int) ≤ F - lo
    omega
  | a :: l, lo, h, hp, _ => by
    rw [List.pairwise_cons] at hp
    have ha := h a (by simp)
    have := rise_len (F := F) (l := l) (lo := a + 1) (fun f hf => ⟨by have := hp.1 f hf; omega, (h f (List.mem_cons_of_mem _ hf)).2⟩) hp.2 (by omega)
    rw [List.length_cons]
    omega
theorem len_ud : ("up" : Str).length = 2 ∧ ("down" : Str).length = 4 ∧ ("crash" : Str).length = 5 ∧ ("end" : Str).length = 3 ∧ ("torn" : Str).length = 4 := by decide +kernel
theorem sz_call {F : Int} {c : Int × Str} (hF : F ≤ 8) (h : okCall F c) : sz (callD c) ≤ 30 := by
  obtain ⟨f, s⟩ := c
  obtain ⟨h0, h1, h2⟩ := h
  have h0 : 0 ≤ f := h0
  have h1 : f < F := h1
  have := sz_i (i := f) h0 (by omega)
  have h3 : s.length ≤ 5 := by
    obtain ⟨l1, l2, _⟩ := len_ud
    rcases h2 with ⟨rfl, h2⟩ | ⟨rfl, h2⟩ <;> omega
  show Ev.sz (.int f) + (s.length + 1 + 0) + 1 ≤ 30
  omega
theorem sz_harm {x : Hm} (h : x.ok) : sz x.d ≤ 40 := by
  obtain ⟨_, _, l1, l2, l3⟩ := len_ud
  cases x with
  | crash c d =>
    obtain ⟨h0, h1, h2, h3⟩ := h
    have := sz_i (i := c) h0 (by omega)
    have := sz_i (i := d) h2 (by omega)
    show (("crash" : Str).length + 1 + (Ev.sz (.int c) + (Ev.sz (.int d) + 0))) + 1 ≤ 40
    omega
  | end_ c =>
    obtain ⟨h0, h1⟩ := h
    have := sz_i (i := c) h0 (by omega)
    show (("end" : Str).length + 1 + (Ev.sz (.int c) + 0)) + 1 ≤ 40
    omega
  | torn c =>
    obtain ⟨h0, h1⟩ := h
    have := sz_i (i := c) h0 (by omega)
    show (("torn" : Str).length + 1 + (Ev.sz (.int c) + 0)) + 1 ≤ 40
    omega
theorem StOk.own_le {F : Int} {ss ns : List Int} {s : St} (hh : Hs F ss ns) (h : StOk F ss ns s) {c : CarT} (hc : c ∈ s.cars) : c.own.length ≤ 3 := by
  have : c.own.length ∈ s.cars.map (fun c => c.own.length) := List.mem_map.mpr ⟨c, hc, rfl⟩
  rw [h.own] at this
  obtain ⟨m, hm, e⟩ := List.mem_map.mp this
  have := hh.n m hm
  omega
theorem StOk.sz {F : Int} {ss ns : List Int} {s : St} (hh : Hs F ss ns) (h : StOk F ss ns s) : sz s.d ≤ 4000 := by
  have hF := hh.f1; have hF0 := hh.f0; have hl := hh.l1
  have h1 := szs_le (m := 60) (ds := s.cars.map CarT.d) fun d hd => by
    obtain ⟨c, hc, rfl⟩ := List.mem_map.mp hd
    have h1 := sz_ints (is := c.own) fun i hi => by have := h.dig c hc i hi; omega
    have h2 := h.own_le hh hc
    have h3 := h.f c hc
    have h4 := sz_i (i := c.f) h3.1 (by omega)
    show Ev.sz (.int c.f) + (1 + (Ev.sz (.tup (c.own.map .int)) + 0)) + 1 ≤ 60
    omega
  have h2 := szs_le (m := 30) (ds := s.calls.map callD) fun d hd => by
    obtain ⟨c, hc, rfl⟩ := List.mem_map.mp hd
    exact sz_call hF (h.k c hc)
  have h3 := szs_le (m := 100) (ds := s.panels.map panD) fun d hd => by
    obtain ⟨l, hl, rfl⟩ := List.mem_map.mp hd
    have h1 := sz_ints (is := l) fun i hi => by have := h.pf l hl i hi; omega
    have h2 := rise_len (h.pf l hl) (h.pp l hl) (by omega)
    show Ev.sz (.tup (l.map .int)) ≤ 100
    omega
  have h4 := szs_le (m := 40) (ds := s.harms.map Hm.d) fun d hd => by
    obtain ⟨x, hx, rfl⟩ := List.mem_map.mp hd
    exact sz_harm ((h.h x hx).ok hl)
  rw [List.length_map] at h1 h2 h3 h4
  have c1 := h.c; have c2 := h.p; have c3 := h.k1; have c4 := h.h1
  unfold St.d
  rw [sz_tup]
  show (szs (s.cars.map CarT.d) + 1) + ((szs (s.calls.map callD) + 1) + ((szs (s.panels.map panD) + 1) + (1 + ((szs (s.harms.map Hm.d) + 1) + 0)))) + 1 ≤ 4000
  omega

end Ev

set_option maxRecDepth 100000
set_option maxHeartbeats 2000000
namespace Ev
open PySem
local macro_rules
  | `(tactic| trivial) => `(tactic| repeat with_reducible first
    | (refine g_ev ?_; first | refine w_var (by with_unfolding_all rfl) ?_ | refine w_lit ?_ | refine w_ix ?_ | refine w_cmp ?_ | refine w_tup ?_ | refine w_bin ?_ | refine w_call1 ?_ | refine w_call2 ?_ | refine w_call3 ?_ | refine w_call4 ?_ | refine w_call ?_ | refine w_all0 ?_ | refine w_bf ?_ | refine w_lst ?_ | refine w_bop ?_ | refine w_nt ?_ | refine w_x1 ?_ | refine w_ite ?_ | refine w_slc ?_ | refine w_cst ?_ | refine w_neg ?_ | refine w_append ?_ | refine w_lrg ?_ | refine w_chain ?_ | refine w_x2 ?_ | refine w_fst ?_ | refine w_join ?_ | refine w_count ?_ | refine w_rev ?_ | refine w_dix ?_)
    | refine m_d ?_ | refine m_l ?_ | refine isB ?_ | refine isI ?_ | refine w_nx ?_
    | (refine g_evs ?_; first | refine w_evs ?_ | refine w_evs0 ?_)
    | (refine g_exs ?_; first | refine w_exs ?_ | refine w_exs0 ?_)
    | (refine g_ex ?_; first | refine w_if2 ?_ | refine w_set ?_ | refine w_ret ?_ | refine w_expr ?_ | refine w_par ?_ | refine w_unp ?_ | refine w_put ?_)
    | refine w_rt ?_ | refine w_end ?_
    | (refine g_evB ?_; first | refine w_evBo ?_ | refine w_evBa ?_ | refine w_evB0 ?_)
    | (refine g_evT ?_; first | refine w_evT ?_ | refine w_evT0 ?_)
    | (refine g_op ?_; first | refine o_add ?_ | refine o_eq ?_ | refine o_isi ?_ | refine o_sub ?_ | refine b_lent ?_ | refine o_gt ?_ | refine o_lt ?_ | refine o_eqs ?_ | refine o_nes ?_ | refine b_tuple ?_ | refine b_int ?_ | refine o_gei ?_ | refine o_lei ?_ | refine o_nei ?_ | refine b_min ?_ | refine b_max ?_ )
    | (refine g_br ?_; first | refine br_nt ?_ | refine br_tt ?_ | refine br_ff ?_ | refine br_isiT (by with_unfolding_all rfl) ?_ | refine br_isiF (by with_unfolding_all rfl) ?_ )
    | (refine g_evI ?_; first | refine w_seq ?_ | refine w_rng1 ?_ | refine w_rng2 ?_ | refine w_rng3 ?_ | refine w_enum ?_ | refine w_zip ?_)
    | (refine g_evO ?_; first | refine w_evO ?_ | refine w_evO0 ?_)
    | (refine g_evF ?_; first | refine w_evF0 ?_ | refine w_txt ?_ ?_ | refine w_val ?_)
    | refine w_lit ?_)
/-! ### conditions -/
inductive Pln where
  | fire | harm | call (f : Int) (s : Str) | opn (c : Int) | above (c : Int) | below (c : Int) | here (c : Int)
  | at_ (c f : Int) | panel (c f : Int) | near (c d : Int) | note (c j v : Int)
def Pln.d : Pln → D
  | .fire => .tup [.str "fire"]
  | .harm => .tup [.str "harm"]
  | .call f s => .tup [.str "call", .int f, .str s]
  | .opn c => .tup [.str "open", .int c]
  | .above c => .tup [.str "above", .int c]
  | .below c => .tup [.str "below", .int c]
  | .here c => .tup [.str "here", .int c]
  | .at_ c f => .tup [.str "at", .int c, .int f]
  | .panel c f => .tup [.str "panel", .int c, .int f]
  | .near c d => .tup [.str "near", .int c, .int d]
  | .note c j v => .tup [.str "note", .int c, .int j, .int v]
def okPln (F : Int) (ss ns : List Int) : Pln → Prop
  | .fire => True
  | .harm => True
  | .call f s => okCall F (f, s)
  | .opn c => 0 ≤ c ∧ c < ss.length
  | .above c => 0 ≤ c ∧ c < ss.length
  | .below c => 0 ≤ c ∧ c < ss.length
  | .here c => 0 ≤ c ∧ c < ss.length
  | .at_ c f => (0 ≤ c ∧ c < ss.length) ∧ 0 ≤ f ∧ f < F
  | .panel c f => (0 ≤ c ∧ c < ss.length) ∧ 0 ≤ f ∧ f < F
  | .near c d => (0 ≤ c ∧ c < ss.length) ∧ (0 ≤ d ∧ d < ss.length) ∧ c ≠ d
  | .note c j v => (0 ≤ c ∧ c < ss.length) ∧ ∃ m, ns[c.toNat]? = some m ∧ (0 ≤ j ∧ j < m) ∧ 0 ≤ v ∧ v < 10
inductive Cnd where
  | pl (p : Pln) | nt (x : Cnd) | co (a : Bool) (xs : List Cnd)
def coW : Bool → Str
  | true => "all"
  | false => "some"
mutual
def Cnd.d : Cnd → D
  | .pl p => p.d
  | .nt x => .tup [.str "not", x.d]
  | .co a xs => .tup (.str (coW a) :: Cnd.ds xs)
def Cnd.ds : List Cnd → List D
  | [] => []
  | x :: xs => x.d :: Cnd.ds xs
end
mutual
def Cnd.n : Cnd → Nat
  | .pl _ => 1
  | .nt x => x.n + 1
  | .co _ xs => Cnd.ns xs + 1
def Cnd.ns : List Cnd → Nat
  | [] => 0
  | x :: xs => x.n + Cnd.ns xs
end
mutual
def Cnd.lv : Cnd → Nat
  | .pl _ => 1
  | .nt x => x.lv + 1
  | .co _ xs => Cnd.lvs xs + 1
def Cnd.lvs : List Cnd → Nat
  | [] => 0
  | x :: xs => max x.lv (Cnd.lvs xs)
end
mutual
def Cnd.ok (F : Int) (ss ns : List Int) : Cnd → Prop
  | .pl p => okPln F ss ns p
  | .nt x => x.ok F ss ns
  | .co _ xs => Cnd.oks F ss ns xs
def Cnd.oks (F : Int) (ss ns : List Int) : List Cnd → Prop
  | [] => True
  | x :: xs => x.ok F ss ns ∧ Cnd.oks F ss ns xs
end
theorem Cnd.ds_is : ∀ xs : List Cnd, Cnd.ds xs = xs.map Cnd.d
  | [] => rfl
  | x :: xs => by rw [List.map_cons, ← Cnd.ds_is xs]; rfl
theorem Cnd.ns_app : ∀ xs ys : List Cnd, Cnd.ns (xs ++ ys) = Cnd.ns xs + Cnd.ns ys
  | [], ys => by show Cnd.ns ys = 0 + Cnd.ns ys; omega
  | x :: xs, ys => by
    have := Cnd.ns_app xs ys
    show x.n + Cnd.ns (xs ++ ys) = x.n + Cnd.ns xs + Cnd.ns ys
    omega
theorem Cnd.ns_one (x : Cnd) : Cnd.ns [x] = x.n := by show x.n + 0 = x.n; omega
theorem Cnd.lvs_le {m : Nat} : ∀ {xs : List Cnd}, Cnd.lvs xs ≤ m ↔ ∀ x ∈ xs, x.lv ≤ m
  | [] => by simp [Cnd.lvs]
  | x :: xs => by
    have := Cnd.lvs_le (m := m) (xs := xs)
    rw [List.forall_mem_cons, ← this]
    show max x.lv (Cnd.lvs xs) ≤ m ↔ _
    omega
theorem Cnd.oks_is {F : Int} {ss ns : List Int} : ∀ {xs : List Cnd}, Cnd.oks F ss ns xs ↔ ∀ x ∈ xs, x.ok F ss ns
  | [] => by simp [Cnd.oks]
  | x :: xs => by
    have := Cnd.oks_is (F := F) (ss := ss) (ns := ns) (xs := xs)
    rw [List.forall_mem_cons, ← this]
    rfl
theorem Cnd.n_pos (x : Cnd) : 1 ≤ x.n := by cases x <;> simp [Cnd.n]
theorem Cnd.lv_pos (x : Cnd) : 1 ≤ x.lv := by cases x <;> simp [Cnd.lv]
theorem Cnd.len_ns : ∀ xs : List Cnd, xs.length ≤ Cnd.ns xs
  | [] => Nat.le_refl _
  | x :: xs => by
    have := Cnd.len_ns xs
    have := x.n_pos
    show xs.length + 1 ≤ x.n + Cnd.ns xs
    omega
theorem at_map {α : Type} {g : α → D} {l : List α} {i : Int} (h0 : 0 ≤ i) (h1 : i < l.length) : ∃ a, l[i.toNat]? = some a ∧ L2.atI (l.map g) i = some (g a) := by
  have hl : i.toNat < l.length := by omega
  refine ⟨l[i.toNat], List.getElem?_eq_getElem hl, ?_⟩
  have := atN (l := l.map g) (i := i.toNat) (by rw [List.length_map]; exact hl)
  rw [show ((i.toNat : Nat) : Int) = i by omega] at this
  rw [this, List.getElem?_map, List.getElem?_eq_getElem hl]
  rfl
section
variable {fs : Nat → Option Fn} [Has fs 0 fn_law_draw] [Has fs 2 fn_law_calls] [Has fs 3 fn_law_plain]
theorem plnT {n : Nat} {M : MH} {p k : Nat} {F : Int} {ss ns : List Int} {P : D → MH → Prop} (hh : Hs F ss ns) (hp : Pot M p k) (hk : k + 30 < 2 ^ 500)
    (h : ∀ (x : Pln) M', okPln F ss ns x → Pot M' p (k + 6) → Later p M M' → P x.d M') : Ok (run fs (n + 2) 3 [.ref p, hD F ss ns] M) P := by
  obtain ⟨f0, f1, s0, n0, ln, l0, l1, cnt⟩ := id hh
  refine w_fn (fn := fn_law_plain) rfl ?_
  simp only [fn_law_plain, b_law_plain]
  trivial
  refine hD1 ?_
  trivial
  rw [List.length_map]
  refine draw' hp (by omega) (by omega) (by omega) ?_
  intro c M1 c0 c1 hp1 t1
  trivial
  refine hD0 ?_
  trivial
  refine draw' hp1 (by omega) (by omega) (by omega) ?_
  intro fl M2 g0 g1 hp2 t2
  trivial
  refine draw' hp2 (by decide) (by decide) (by omega) ?_
  intro way M3 w0 w1 hp3 t3
  have t13 : Later p M M3 := t1.trans (t2.trans t3)
  have hp3' : Pot M3 p (k + 6) := hp3.mono (by omega)
  trivial
  refine ⟨rfl, ?_⟩
  trivial
  refine w_iff ?_
  trivial
  refine ⟨fun q => ?_, fun q0 => ?_⟩
  · trivial
    exact h (.opn c) M3 ⟨c0, c1⟩ hp3' t13
  trivial
  refine w_iff ?_
  trivial
  refine ⟨fun q => ?_, fun q1 => ?_⟩
  · trivial
    refine callsT hh ?_
    intro cs M4 e1 e2 e3 e4 e6 e5
    trivial
    refine b_lenr e1 ?_
    trivial
    rw [List.length_map]
    refine draw' (e5.pot hp3) (by omega) (by omega) (by omega) ?_
    intro r M5 r0 r1 hp5 t5
    have hne : M3.length ≠ p := fun z => by
      obtain ⟨_, _, _, z2, _⟩ := hp3
      have := (List.getElem?_eq_some_iff.mp z2).1
      omega
    have e1' : M5[M3.length]? = some (.lst (cs.map callD)) := by
      rw [t5.at_ _ (List.getElem?_eq_some_iff.mp e1).1 hne]
      exact e1
    obtain ⟨x, hx, ha⟩ := at_map (g := callD) r0 r1
    refine o_ixr e1' ha ?_
    obtain ⟨f, s⟩ := x
    refine o_addt (by rw [sl]; simp) ?_
    trivial
    exact h (.call f s) M5 (e4 _ (List.mem_of_getElem? hx)) (hp5.mono (by omega)) (t13.trans (e5.later.trans t5))
  trivial
  refine w_iff ?_
  trivial
  refine ⟨fun q => ?_, fun q2 => ?_⟩
  · trivial
    exact h (.panel c fl) M3 ⟨⟨c0, c1⟩, g0, g1⟩ hp3' t13
  have q0 := of_decide_eq_false q0
  have q1 := of_decide_eq_false q1
  have q2 := of_decide_eq_false q2
  trivial
  refine w_iff ?_
  trivial
  refine ⟨fun q => ?_, fun q3 => ?_⟩
  · have q := of_decide_eq_true q
    trivial
    obtain ⟨x, hx, ha⟩ := in_at (l := [.str "above", .str "below", .str "here"]) (i := way - 3) (by omega) (by simp; omega)
    refine o_ixl ha ?_
    simp at hx
    trivial
    rcases hx with rfl | rfl | rfl
    · exact h (.above c) M3 ⟨c0, c1⟩ hp3' t13
    · exact h (.below c) M3 ⟨c0, c1⟩ hp3' t13
    · exact h (.here c) M3 ⟨c0, c1⟩ hp3' t13
  trivial
  obtain ⟨nc, hnc0, hnc⟩ := atM (is := ns) c0 (by omega)
  have nc1 := n0 nc (List.mem_of_getElem? hnc0)
  refine w_iffc (fun k => k = true → 0 < nc) ?_ (fun q => ?_) fun _ => ?_
  · trivial
    refine ⟨fun q => ?_, fun q4 => ?_⟩
    · trivial
      refine hD2 ?_
      trivial
      refine o_ixt hnc ?_
      trivial
      refine ⟨fun q5 => ?_, fun q5 => ?_⟩
      · trivial
        exact ⟨rfl, _, rfl, fun _ => of_decide_eq_true q5⟩
      · exact ⟨rfl, _, rfl, fun z => absurd z (by decide)⟩
    · exact ⟨rfl, _, rfl, fun z => absurd z (by decide)⟩
  · have q := q rfl
    trivial
    refine hD2 ?_
    trivial
    refine o_ixt hnc ?_
    trivial
    refine draw' hp3 q (by omega) (by omega) ?_
    intro r4 M4 a0 a1 hp4 t4
    trivial
    refine draw' hp4 (by decide) (by decide) (by omega) ?_
    intro r5 M5 b0 b1 hp5 t5
    trivial
    exact h (.note c r4 r5) M5 ⟨⟨c0, c1⟩, nc, hnc0, ⟨a0, a1⟩, b0, b1⟩ (hp5.mono (by omega)) (t13.trans (t4.trans t5))
  trivial
  refine w_iffc (fun k => k = true → 1 < (ss.length : Int)) ?_ (fun q => ?_) fun _ => ?_
  · trivial
    refine ⟨fun q => ?_, fun q4 => ?_⟩
    · trivial
      refine ⟨fun q5 => ?_, fun q5 => ?_⟩
      · trivial
        exact ⟨rfl, _, rfl, fun _ => of_decide_eq_true q5⟩
      · exact ⟨rfl, _, rfl, fun z => absurd z (by decide)⟩
    · exact ⟨rfl, _, rfl, fun z => absurd z (by decide)⟩
  · have q := q rfl
    trivial
    refine draw' hp3 (by omega) (by omega) (by omega) ?_
    intro r4 M4 a0 a1 hp4 t4
    trivial
    refine o_mod (by omega) ?_
    trivial
    refine h (.near c ((c + 1 + r4) % ss.length)) M4 ⟨⟨c0, c1⟩, ⟨Int.emod_nonneg _ (by omega), Int.emod_lt_of_pos _ (by omega)⟩, fun e => ?_⟩ (hp4.mono (by omega)) (t13.trans t4)
    have e2 := Int.emod_add_mul_ediv (c + 1 + r4) ss.length
    rw [← e] at e2
    have l3 : (ss.length : Int) = 2 ∨ (ss.length : Int) = 3 := by omega
    rcases l3 with l3 | l3 <;> rw [l3] at e2 a1 <;> omega
  trivial
  refine w_iffc (fun k => k = true → way = 8 ∨ way = 9) ?_ (fun q => ?_) fun _ => ?_
  · trivial
    refine ⟨fun q4 => ?_, fun q => ?_⟩
    · exact ⟨rfl, _, rfl, fun _ => .inl (of_decide_eq_true (by simpa using q4))⟩
    · trivial
      refine ⟨fun q5 => ?_, fun q5 => ?_⟩
      · exact ⟨rfl, _, rfl, fun _ => .inr (of_decide_eq_true (by simpa using q5))⟩
      · exact ⟨rfl, _, rfl, fun z => by simp at z⟩
  · have q := q rfl
    trivial
    obtain ⟨x, hx, ha⟩ := in_at (l := [.str "fire", .str "harm"]) (i := way - 8) (by omega) (by simp; omega)
    refine o_ixl ha ?_
    simp at hx
    trivial
    rcases hx with rfl | rfl
    · exact h .fire M3 True.intro hp3' t13
    · exact h .harm M3 True.intro hp3' t13
  · trivial
    exact h (.at_ c fl) M3 ⟨⟨c0, c1⟩, g0, g1⟩ hp3' t13
end

end Ev

set_option maxRecDepth 100000
set_option maxHeartbeats 2000000
namespace Ev
open PySem
local macro_rules
  | `(tactic| trivial) => `(tactic| repeat with_reducible first
    | (refine g_ev ?_; first | refine w_var (by with_unfolding_all rfl) ?_ | refine w_lit ?_ | refine w_ix ?_ | refine w_cmp ?_ | refine w_tup ?_ | refine w_bin ?_ | refine w_call1 ?_ | refine w_call2 ?_ | refine w_call3 ?_ | refine w_call4 ?_ | refine w_call ?_ | refine w_all0 ?_ | refine w_bf ?_ | refine w_lst ?_ | refine w_bop ?_ | refine w_nt ?_ | refine w_x1 ?_ | refine w_ite ?_ | refine w_slc ?_ | refine w_cst ?_ | refine w_neg ?_ | refine w_append ?_ | refine w_lrg ?_ | refine w_chain ?_ | refine w_x2 ?_ | refine w_fst ?_ | refine w_join ?_ | refine w_count ?_ | refine w_rev ?_ | refine w_dix ?_)
    | refine m_d ?_ | refine m_l ?_ | refine isB ?_ | refine isI ?_ | refine w_nx ?_
    | (refine g_evs ?_; first | refine w_evs ?_ | refine w_evs0 ?_)
    | (refine g_exs ?_; first | refine w_exs ?_ | refine w_exs0 ?_)
    | (refine g_ex ?_; first | refine w_if2 ?_ | refine w_set ?_ | refine w_ret ?_ | refine w_expr ?_ | refine w_par ?_ | refine w_unp ?_ | refine w_put ?_)
    | refine w_rt ?_ | refine w_end ?_
    | (refine g_evB ?_; first | refine w_evBo ?_ | refine w_evBa ?_ | refine w_evB0 ?_)
    | (refine g_evT ?_; first | refine w_evT ?_ | refine w_evT0 ?_)
    | (refine g_op ?_; first | refine o_add ?_ | refine o_eq ?_ | refine o_isi ?_ | refine o_sub ?_ | refine b_lent ?_ | refine o_gt ?_ | refine o_lt ?_ | refine o_eqs ?_ | refine o_nes ?_ | refine b_tuple ?_ | refine b_int ?_ | refine o_gei ?_ | refine o_lei ?_ | refine o_nei ?_ | refine b_min ?_ | refine b_max ?_ )
    | (refine g_br ?_; first | refine br_nt ?_ | refine br_tt ?_ | refine br_ff ?_ | refine br_isiT (by with_unfolding_all rfl) ?_ | refine br_isiF (by with_unfolding_all rfl) ?_ )
    | (refine g_evI ?_; first | refine w_seq ?_ | refine w_rng1 ?_ | refine w_rng2 ?_ | refine w_rng3 ?_ | refine w_enum ?_ | refine w_zip ?_)
    | (refine g_evO ?_; first | refine w_evO ?_ | refine w_evO0 ?_)
    | (refine g_evF ?_; first | refine w_evF0 ?_ | refine w_txt ?_ ?_ | refine w_val ?_)
    | refine w_lit ?_)
theorem coW_at {y : Int} (h0 : 0 ≤ y) (h1 : y < 2) : ∃ b, L2.atI [D.str "all", D.str "some"] y = some (.str (coW b)) := by
  have : y = 0 ∨ y = 1 := by omega
  rcases this with rfl | rfl
  · exact ⟨true, rfl⟩
  · exact ⟨false, rfl⟩
section
variable {fs : Nat → Option Fn} [Has fs 0 fn_law_draw] [Has fs 2 fn_law_calls] [Has fs 3 fn_law_plain] [Has fs 4 fn_law_condition]
theorem cond_body {n : Nat} {p : Nat} {F : Int} {ss ns : List Int} {l : Int} {c : Nat} (hh : Hs F ss ns) (hl : 1 ≤ l) (hc : 100 ≤ c)
    (ih : 2 ≤ l → ∀ {P : D → MH → Prop} {M : MH} {k : Nat} {room : Int}, Pot M p k → 1 ≤ room → room ≤ 60 → k + 10000 * c < 2 ^ 500 → (∀ (x : Cnd) M', (x.n : Int) ≤ room → (x.lv : Int) ≤ l - 1 → x.ok F ss ns → Pot M' p (k + c) → Later p M M' → P x.d M') → Ok (run fs (n + 2) 4 [.ref p, hD F ss ns, .int room, .int (l - 1)] M) P)
    {P : D → MH → Prop} {M : MH} {k : Nat} {room : Int} (hp : Pot M p k) (r0 : 1 ≤ room) (r1 : room ≤ 60) (hk : k + 1000000 * c < 2 ^ 500)
    (h : ∀ (x : Cnd) M', (x.n : Int) ≤ room → (x.lv : Int) ≤ l → x.ok F ss ns → Pot M' p (k + 100 * c) → Later p M M' → P x.d M') : Ok (run fs (n + 3) 4 [.ref p, hD F ss ns, .int room, .int l] M) P := by
  refine w_fn (fn := fn_law_condition) rfl ?_
  simp only [fn_law_condition, b_law_condition]
  trivial
  refine draw' (n := n + 1) hp (by decide) (by decide) (by omega) ?_
  intro way M1 w0 w1 hp1 t1
  trivial
  refine w_iffc (fun k => k = false → 2 ≤ room ∧ 2 ≤ l) ?_ (fun _ => ?_) fun hroom2 => ?_
  · trivial
    refine ⟨fun q => ?_, fun q => ?_⟩
    · exact ⟨rfl, _, rfl, fun z => by simp at z⟩
    · have q := of_decide_eq_false q
      trivial
      refine ⟨fun q => ?_, fun q2 => ?_⟩
      · exact ⟨rfl, _, rfl, fun z => by simp at z⟩
      · have q2 := of_decide_eq_false q2
        trivial
        refine ⟨fun q => ?_, fun q => ?_⟩
        · exact ⟨rfl, _, rfl, fun z => by simp at z⟩
        · exact ⟨rfl, _, rfl, fun z => by omega⟩
  · trivial
    have plain : ∀ {Q : D → MH → Prop} {M2 : MH} {k2 : Nat}, Pot M2 p k2 → k2 + 40 < 2 ^ 500 → (∀ (x : Pln) M', okPln F ss ns x → Pot M' p (k2 + 6) → Later p M2 M' → Q x.d M') → Ok (run fs (n + 2) 3 [.ref p, hD F ss ns] M2) Q := fun hp2 hk2 h => plnT hh hp2 (by omega) h
    refine ⟨fun q => ?_, fun q => ?_⟩
    · refine isB ⟨fun _ => ?_, fun q => (nomatch q)⟩
      trivial
      refine plain hp1 (by omega) ?_
      intro x M3 hx hp3 t3
      trivial
      exact h (.pl x) M3 (by show ((1 : Nat) : Int) ≤ _; omega) (by show ((1 : Nat) : Int) ≤ _; omega) hx (hp3.mono (by omega)) (t1.trans t3)
    · trivial
      refine draw' (n := n + 1) hp1 (by decide) (by decide) (by omega) ?_
      intro x M2 x0 x1 hp2 t2
      trivial
      refine ⟨fun q => ?_, fun q => ?_⟩
      · trivial
        refine plain hp2 (by omega) ?_
        intro x M3 hx hp3 t3
        trivial
        exact h (.pl x) M3 (by show ((1 : Nat) : Int) ≤ _; omega) (by show ((1 : Nat) : Int) ≤ _; omega) hx (hp3.mono (by omega)) (t1.trans (t2.trans t3))
      · trivial
        refine draw' (n := n + 1) hp2 (by decide) (by decide) (by omega) ?_
        intro y M3 y0 y1 hp3 t3
        obtain ⟨b, ha⟩ := coW_at y0 y1
        refine o_ixl ha ?_
        trivial
        exact h (.co b []) M3 (by show ((1 : Nat) : Int) ≤ _; omega) (by show ((1 : Nat) : Int) ≤ _; omega) True.intro (hp3.mono (by omega)) (t1.trans (t2.trans t3))
  obtain ⟨hr2, hl2⟩ := hroom2 rfl
  have ih := @ih hl2
  trivial
  refine w_iff ?_
  trivial
  refine ⟨fun q => ?_, fun q => ?_⟩
  · trivial
    refine ih (room := room - 1) hp1 (by omega) (by omega) (by omega) ?_
    intro x M2 x1 x2 x3 hp2 t2
    trivial
    exact h (.nt x) M2 (by show ((x.n + 1 : Nat) : Int) ≤ _; omega) (by show ((x.lv + 1 : Nat) : Int) ≤ _; omega) x3 (hp2.mono (by omega)) (t1.trans t2)
  · trivial
    refine draw' (n := n + 1) hp1 (by decide) (by decide) (by omega) ?_
    intro x M2 x0 x1 hp2 t2
    obtain ⟨z, hz, ha⟩ := in_at (l := [.int 1, .int 2, .int 3, .int 59]) (i := x) x0 (by simpa using x1)
    refine o_ixl ha ?_
    obtain ⟨zi, rfl, z0, z1⟩ : ∃ zi : Int, z = .int zi ∧ 1 ≤ zi ∧ zi ≤ 59 := by
      simp at hz
      rcases hz with rfl | rfl | rfl | rfl <;> exact ⟨_, rfl, by decide, by decide⟩
    trivial
    generalize hmany : (if zi < room - 1 then zi else room - 1) = many
    have m0 : 1 ≤ many := by rw [← hmany]; split <;> omega
    have m1 : many ≤ 59 := by rw [← hmany]; split <;> omega
    have m2 : many ≤ room - 1 := by rw [← hmany]; split <;> omega
    have qq0 : 1 ≤ (room - 1) / many := (Int.le_ediv_iff_mul_le (by omega)).mpr (by omega)
    have qq1 : (room - 1) / many ≤ 60 := Int.le_trans (Int.ediv_le_self _ (by omega)) (by omega)
    have qq2 : many * ((room - 1) / many) ≤ room - 1 := Int.mul_ediv_self_le (by omega)
    refine w_comp ?_
    trivial
    refine ⟨small_is (by omega) (by omega), rng 0 many.toNat 1, fun _ => rfl, fun i acc M' => (∃ xs : List Cnd, acc = xs.map Cnd.d ∧ xs.length = i ∧ (Cnd.ns xs : Int) ≤ i * ((room - 1) / many) ∧ ∀ x ∈ xs, (x.lv : Int) ≤ l - 1 ∧ x.ok F ss ns) ∧ i ≤ many.toNat ∧ Pot M' p (k + 2 + i * c) ∧ Later p M2 M',
      ⟨⟨[], rfl, rfl, by simp [Cnd.ns], by simp⟩, by omega, hp2.mono (by omega), Later.refl⟩, ?_, ?_⟩
    · rintro i dd acc M3 hd ⟨⟨xs, rfl, hl', ha1, ha2⟩, hi, hp3, t3⟩
      obtain ⟨hi2, rfl⟩ := rng_at hd
      refine ⟨_, rfl, ?_⟩
      trivial
      refine o_fdiv (by omega) ?_ ?_
      · exact Nat.lt_of_lt_of_le (show many.natAbs < 2 ^ 64 by omega) (Nat.pow_le_pow_right (by decide) (by decide))
      trivial
      have hic : i * c ≤ 59 * c := Nat.mul_le_mul_right _ (by omega)
      refine ih hp3 qq0 qq1 (by omega) ?_
      intro x M4 y1 y2 y3 hp4 t4
      trivial
      refine ⟨by rw [sl, List.length_map]; omega, ⟨xs ++ [x], by simp, by simp [hl'], ?_, fun y hy => ?_⟩, by omega, ?_, t3.trans t4⟩
      · rw [Cnd.ns_app, Cnd.ns_one]
        push_cast
        rw [Int.add_mul]
        omega
      · rcases List.mem_append.mp hy with hy | hy
        · exact ha2 y hy
        · rw [List.mem_singleton.mp hy]
          exact ⟨y2, y3⟩
      · have e : k + 2 + i * c + c = k + 2 + (i + 1) * c := by rw [Nat.succ_mul]; omega
        rw [← e]
        exact hp4
    · rintro acc M3 ⟨⟨xs, rfl, hl', ha1, ha2⟩, hi, hp3, t3⟩
      rw [rng_len] at hl' ha1 hp3 hi
      have hic : many.toNat * c ≤ 59 * c := Nat.mul_le_mul_right _ (by omega)
      trivial
      have hpush : Pot (M3 ++ [MO.lst (xs.map Cnd.d)]) p (k + 2 + many.toNat * c) := Only.push.pot hp3
      refine draw' (n := n + 1) hpush (by decide) (by decide) (by omega) ?_
      intro y M4 y0 y1 hp4 t4
      obtain ⟨b, hza⟩ := coW_at y0 y1
      refine o_ixl hza ?_
      have hne : M3.length ≠ p := fun z => by
        obtain ⟨_, _, _, z2, _⟩ := hp3
        have := (List.getElem?_eq_some_iff.mp z2).1
        omega
      have e5 : M4[M3.length]? = some (.lst (xs.map Cnd.d)) := by
        rw [t4.at_ _ (by simp) hne]
        exact last_at
      trivial
      refine b_tupr e5 ?_
      refine o_addt (by rw [sl, List.length_map]; simp; omega) ?_
      trivial
      have em : ((many.toNat : Nat) : Int) = many := by omega
      rw [em] at ha1
      have := h (.co b xs) M4 (by show ((Cnd.ns xs + 1 : Nat) : Int) ≤ _; omega) (by
        have : Cnd.lvs xs ≤ (l - 1).toNat := Cnd.lvs_le.mpr fun x hx => by have := (ha2 x hx).1; omega
        show ((Cnd.lvs xs + 1 : Nat) : Int) ≤ _
        omega) (Cnd.oks_is.mpr fun x hx => (ha2 x hx).2) (hp4.mono (by omega)) (t1.trans (t2.trans (t3.trans (Only.push.later.trans t4))))
      show P (.tup ([D.str (coW b)] ++ xs.map Cnd.d)) M4
      have e : Cnd.d (.co b xs) = .tup ([D.str (coW b)] ++ xs.map Cnd.d) := by
        rw [← Cnd.ds_is]; rfl
      rw [← e]
      exact this
theorem condT {p : Nat} {F : Int} {ss ns : List Int} (hh : Hs F ss ns) : ∀ (lv : Nat) {n : Nat} {P : D → MH → Prop} {M : MH} {k : Nat} {room : Int}, Pot M p k → 1 ≤ room → room ≤ 60 → k + 100 ^ (lv + 4) < 2 ^ 500 →
    (∀ (x : Cnd) M', (x.n : Int) ≤ room → (x.lv : Int) ≤ (lv : Int) + 1 → x.ok F ss ns → Pot M' p (k + 100 ^ (lv + 2)) → Later p M M' → P x.d M') → Ok (run fs (n + lv + 3) 4 [.ref p, hD F ss ns, .int room, .int ((lv : Int) + 1)] M) P := by
  intro lv
  induction lv with
  | zero =>
    intro n P M k room hp r0 r1 hk h
    refine cond_body (c := 100) hh (by omega) (by omega) (fun z => absurd z (by omega)) hp r0 r1 (by have : 100 ^ (0 + 4) = 1000000 * 100 := rfl; omega) fun x M' h1 h2 h3 h4 h5 => h x M' h1 h2 h3 (h4.mono (by have : 100 ^ (0 + 2) = 10000 := rfl; omega)) h5
  | succ lv ih =>
    intro n P M k room hp r0 r1 hk h
    have e1 : 100 ^ (lv + 1 + 4) = 100 * (100 * (100 * 100 ^ (lv + 2))) := by
      rw [show lv + 1 + 4 = lv + 2 + 1 + 1 + 1 by omega, Nat.pow_succ, Nat.pow_succ, Nat.pow_succ, Nat.mul_comm, Nat.mul_comm (100 ^ (lv + 2) * 100), Nat.mul_comm (100 ^ (lv + 2))]
    have e2 : 100 ^ (lv + 1 + 2) = 100 * 100 ^ (lv + 2) := by
      rw [show lv + 1 + 2 = lv + 2 + 1 by omega, Nat.pow_succ, Nat.mul_comm]
    have e3 : 100 ^ (lv + 4) = 100 * (100 * 100 ^ (lv + 2)) := by
      rw [show lv + 4 = lv + 2 + 1 + 1 by omega, Nat.pow_succ, Nat.pow_succ, Nat.mul_comm, Nat.mul_comm (100 ^ (lv + 2))]
    have hc : 100 ≤ 100 ^ (lv + 2) := by
      rw [Nat.pow_succ]
      have := Nat.pos_of_ne_zero (show 100 ^ (lv + 1) ≠ 0 from Nat.ne_of_gt (Nat.pow_pos (by decide)))
      omega
    rw [e1] at hk
    rw [e2] at h
    rw [e3] at ih
    generalize 100 ^ (lv + 2) = c at hc hk h ih
    refine cond_body (n := n + lv + 1) (c := c) hh (by omega) hc (fun _ {Q M2 k2 room2} hp2 q0 q1 hk2 h2 => ?_) hp r0 r1 (by omega) fun x M' h1 h2 h3 h4 h5 => h x M' h1 h2 h3 h4 h5
    rw [show ((lv + 1 : Nat) : Int) + 1 - 1 = (lv : Int) + 1 by omega]
    exact ih hp2 q0 q1 (by omega) fun x M' a b d e f => h2 x M' a (by omega) d e f
end
theorem o_slc1 {M : MH} {x : D} {ds : List D} {P : TV → Prop} (h : P (.d (.tup ds))) : Op (slop M (.d (.tup (x :: ds))) (some 1) none) P := by
  refine op_some ?_
  rw [cut1]
  exact h
theorem br_decT {a : Prop} [Decidable a] {p q : Prop} (e : decide a = true) (h : p) : Br (decide a) p q := br_t e h
theorem br_decF {a : Prop} [Decidable a] {p q : Prop} (e : decide a = false) (h : q) : Br (decide a) p q := br_f e h

end Ev

set_option maxRecDepth 100000
set_option maxHeartbeats 2000000
namespace Ev
open PySem
local macro_rules
  | `(tactic| trivial) => `(tactic| repeat with_reducible first
    | (refine g_ev ?_; first | refine w_var (by with_unfolding_all rfl) ?_ | refine w_lit ?_ | refine w_ix ?_ | refine w_cmp ?_ | refine w_tup ?_ | refine w_bin ?_ | refine w_call1 ?_ | refine w_call2 ?_ | refine w_call3 ?_ | refine w_call4 ?_ | refine w_call ?_ | refine w_all0 ?_ | refine w_bf ?_ | refine w_lst ?_ | refine w_bop ?_ | refine w_nt ?_ | refine w_x1 ?_ | refine w_ite ?_ | refine w_slc ?_ | refine w_cst ?_ | refine w_neg ?_ | refine w_append ?_ | refine w_lrg ?_ | refine w_chain ?_ | refine w_x2 ?_ | refine w_fst ?_ | refine w_join ?_ | refine w_count ?_ | refine w_rev ?_ | refine w_dix ?_)
    | refine m_d ?_ | refine m_l ?_ | refine isB ?_ | refine isI ?_ | refine w_nx ?_
    | (refine g_evs ?_; first | refine w_evs ?_ | refine w_evs0 ?_)
    | (refine g_exs ?_; first | refine w_exs ?_ | refine w_exs0 ?_)
    | (refine g_ex ?_; first | refine w_if1 ?_ | refine w_if2 ?_ | refine w_set ?_ | refine w_ret ?_ | refine w_expr ?_ | refine w_par ?_ | refine w_unp ?_ | refine w_put ?_)
    | refine w_rt ?_ | refine w_end ?_
    | (refine g_evB ?_; first | refine w_evBo ?_ | refine w_evBa ?_ | refine w_evB0 ?_)
    | (refine g_evT ?_; first | refine w_evT ?_ | refine w_evT0 ?_)
    | (refine g_op ?_; first | refine o_add ?_ | refine o_eq ?_ | refine o_isi ?_ | refine o_sub ?_ | refine b_lent ?_ | refine o_gt ?_ | refine o_lt ?_ | refine o_eqs ?_ | refine o_nes ?_ | refine b_tuple ?_ | refine b_int ?_ | refine o_gei ?_ | refine o_lei ?_ | refine o_nei ?_ | refine b_min ?_ | refine b_max ?_ | refine o_ixt at0 ?_ | refine o_ixt at1 ?_ | refine o_ixt at2 ?_ | refine o_ixt at3 ?_ | refine o_slc1 ?_ | refine o_ins rfl ?_)
    | (refine g_br ?_; first | refine br_nt ?_ | refine br_tt ?_ | refine br_ff ?_ | refine br_isiT (by with_unfolding_all rfl) ?_ | refine br_isiF (by with_unfolding_all rfl) ?_ | refine br_anyT (by decide +kernel) ?_ | refine br_anyF (by decide +kernel) ?_ | refine br_strT (by decide +kernel) ?_ | refine br_strF (by decide +kernel) ?_ | refine br_decT (by first | (simp; done) | fail) ?_ | refine br_decF (by first | (simp; done) | fail) ?_)
    | (refine g_evI ?_; first | refine w_seq ?_ | refine w_rng1 ?_ | refine w_rng2 ?_ | refine w_rng3 ?_ | refine w_enum ?_ | refine w_zip ?_)
    | (refine g_evO ?_; first | refine w_evO ?_ | refine w_evO0 ?_)
    | (refine g_evF ?_; first | refine w_evF0 ?_ | refine w_txt ?_ ?_ | refine w_val ?_)
    | refine w_lit ?_)
def isCo : Cnd → Bool
  | .pl _ => false
  | _ => true
theorem btw_car {ss : List Int} {c : Int} (h : 0 ≤ c ∧ c < ss.length) : btw (.int c) 0 (ss.length - 1) = true := by
  rw [btw_i, decide_eq_true h.1, decide_eq_true (show c ≤ ss.length - 1 by omega)]
  rfl
theorem btw_in {lo hi i : Int} (h : lo ≤ i ∧ i ≤ hi) : btw (.int i) lo hi = true := by
  rw [btw_i, decide_eq_true h.1, decide_eq_true h.2]
  rfl
section
variable {fs : Nat → Option Fn} {n : Nat} {M : MH} {P : D → MH → Prop} {F : Int} {ss ns : List Int}
section
variable [Has fs 54 fn_is_composed]
theorem is_composed_ok {x : Cnd} (h : P (.bl (isCo x)) M) : Ok (run fs (n + 1) 54 [x.d] M) P := by
  refine w_fn (fn := fn_is_composed) rfl ?_
  simp only [fn_is_composed, b_is_composed]
  cases x with
  | pl p => cases p <;> (simp only [Cnd.d, Pln.d]; trivial; exact h)
  | nt x =>
    simp only [Cnd.d]
    trivial
    exact h
  | co a xs =>
    cases a <;> (simp only [Cnd.d, coW]; trivial; exact h)
end
section
variable [Has fs 34 fn_is_integer] [Has fs 35 fn_is_between] [Has fs 43 fn_is_a_floor] [Has fs 44 fn_is_a_call] [Has fs 49 fn_is_a_car] [Has fs 55 fn_is_plain]
theorem is_plain_ok {p : Pln} (hp : okPln F ss ns p) (h : P (.bl true) M) : Ok (run fs (n + 5) 55 [hD F ss ns, p.d] M) P := by
  refine w_fn (fn := fn_is_plain) rfl ?_
  simp only [fn_is_plain, b_is_plain]
  cases p with
  | fire =>
    simp only [Pln.d]
    trivial
    refine ⟨rfl, ?_⟩
    trivial
    exact h
  | harm =>
    simp only [Pln.d]
    trivial
    refine ⟨rfl, ?_⟩
    trivial
    exact h
  | call f s =>
    simp only [Pln.d]
    trivial
    refine ⟨rfl, ?_⟩
    trivial
    refine is_a_call_ok ?_
    have e : isCall F (.int f) (.str s) = true := callD_is (c := (f, s)) hp
    rw [e]
    trivial
    exact h
  | opn c =>
    simp only [Pln.d]
    trivial
    refine ⟨rfl, ?_⟩
    trivial
    refine is_a_car_ok ?_
    rw [btw_car hp]
    trivial
    exact h
  | above c =>
    simp only [Pln.d]
    trivial
    refine ⟨rfl, ?_⟩
    trivial
    refine is_a_car_ok ?_
    rw [btw_car hp]
    trivial
    exact h
  | below c =>
    simp only [Pln.d]
    trivial
    refine ⟨rfl, ?_⟩
    trivial
    refine is_a_car_ok ?_
    rw [btw_car hp]
    trivial
    exact h
  | here c =>
    simp only [Pln.d]
    trivial
    refine ⟨rfl, ?_⟩
    trivial
    refine is_a_car_ok ?_
    rw [btw_car hp]
    trivial
    exact h
  | at_ c f =>
    simp only [Pln.d]
    trivial
    refine ⟨rfl, ?_⟩
    trivial
    refine is_a_car_ok ?_
    rw [btw_car hp.1]
    trivial
    refine is_a_floor_ok ?_
    rw [btw_in ⟨hp.2.1, by have := hp.2.2; omega⟩]
    trivial
    exact h
  | panel c f =>
    simp only [Pln.d]
    trivial
    refine ⟨rfl, ?_⟩
    trivial
    refine is_a_car_ok ?_
    rw [btw_car hp.1]
    trivial
    refine is_a_floor_ok ?_
    rw [btw_in ⟨hp.2.1, by have := hp.2.2; omega⟩]
    trivial
    exact h
  | near c d =>
    obtain ⟨h1, h2, h3⟩ := hp
    simp only [Pln.d]
    trivial
    refine ⟨rfl, ?_⟩
    trivial
    refine is_a_car_ok ?_
    rw [btw_car h1]
    trivial
    refine is_a_car_ok ?_
    rw [btw_car h2]
    trivial
    rw [decide_eq_false h3]
    trivial
    exact h
  | note c j v =>
    obtain ⟨h1, m, h2, h3, h4⟩ := hp
    have hl := (List.getElem?_eq_some_iff.mp h2).1
    obtain ⟨m', h5, h6⟩ := atM (is := ns) (i := c) h1.1 (by omega)
    obtain rfl : m = m' := Option.some.inj (h2.symm.trans h5)
    simp only [Pln.d]
    trivial
    refine ⟨rfl, ?_⟩
    trivial
    refine is_a_car_ok ?_
    rw [btw_car h1]
    trivial
    refine hD2 ?_
    trivial
    refine o_ixt h6 ?_
    trivial
    refine is_between_ok ?_
    rw [btw_in ⟨h3.1, by omega⟩]
    trivial
    refine is_between_ok ?_
    rw [btw_in ⟨h4.1, by omega⟩]
    trivial
    exact h
end
end

end Ev

set_option maxRecDepth 100000
set_option maxHeartbeats 2000000
namespace Ev
open PySem
local macro_rules
  | `(tactic| trivial) => `(tactic| repeat with_reducible first
    | (refine g_ev ?_; first | refine w_var (by with_unfolding_all rfl) ?_ | refine w_lit ?_ | refine w_ix ?_ | refine w_cmp ?_ | refine w_tup ?_ | refine w_bin ?_ | refine w_call1 ?_ | refine w_call2 ?_ | refine w_call3 ?_ | refine w_call4 ?_ | refine w_call ?_ | refine w_all0 ?_ | refine w_bf ?_ | refine w_lst ?_ | refine w_bop ?_ | refine w_nt ?_ | refine w_x1 ?_ | refine w_ite ?_ | refine w_slc ?_ | refine w_cst ?_ | refine w_neg ?_ | refine w_append ?_ | refine w_lrg ?_ | refine w_chain ?_ | refine w_x2 ?_ | refine w_fst ?_ | refine w_join ?_ | refine w_count ?_ | refine w_rev ?_ | refine w_dix ?_)
    | refine m_d ?_ | refine m_l ?_ | refine isB ?_ | refine isI ?_ | refine w_nx ?_
    | (refine g_evs ?_; first | refine w_evs ?_ | refine w_evs0 ?_)
    | (refine g_exs ?_; first | refine w_exs ?_ | refine w_exs0 ?_)
    | (refine g_ex ?_; first | refine w_if1 ?_ | refine w_if2 ?_ | refine w_set ?_ | refine w_ret ?_ | refine w_expr ?_ | refine w_par ?_ | refine w_unp ?_ | refine w_put ?_)
    | refine w_rt ?_ | refine w_end ?_
    | (refine g_evB ?_; first | refine w_evBo ?_ | refine w_evBa ?_ | refine w_evB0 ?_)
    | (refine g_evT ?_; first | refine w_evT ?_ | refine w_evT0 ?_)
    | (refine g_op ?_; first | refine o_add ?_ | refine o_eq ?_ | refine o_isi ?_ | refine o_sub ?_ | refine b_lent ?_ | refine o_gt ?_ | refine o_lt ?_ | refine o_eqs ?_ | refine o_nes ?_ | refine b_tuple ?_ | refine b_int ?_ | refine o_gei ?_ | refine o_lei ?_ | refine o_nei ?_ | refine b_min ?_ | refine b_max ?_ )
    | (refine g_br ?_; first | refine br_nt ?_ | refine br_tt ?_ | refine br_ff ?_ | refine br_isiT (by with_unfolding_all rfl) ?_ | refine br_isiF (by with_unfolding_all rfl) ?_ )
    | (refine g_evI ?_; first | refine w_seq ?_ | refine w_rng1 ?_ | refine w_rng2 ?_ | refine w_rng3 ?_ | refine w_enum ?_ | refine w_zip ?_)
    | (refine g_evO ?_; first | refine w_evO ?_ | refine w_evO0 ?_)
    | (refine g_evF ?_; first | refine w_evF0 ?_ | refine w_txt ?_ ?_ | refine w_val ?_)
    | refine w_lit ?_)
def callP (c : Int × Str) : PyData := .tuple [.int c.1, .str c.2]
theorem pdAll_calls {M : MH} : ∀ cs : List (Int × Str), pdAll (pd M 39) (cs.map callD) = some (cs.map callP)
  | [] => rfl
  | c :: cs => by
    show (match pd M 39 (callD c), pdAll (pd M 39) (cs.map callD) with
      | some x, some xs => some (x :: xs)
      | _, _ => none) = _
    rw [pdAll_calls cs]
    rfl
theorem eqv_call (c d : Int × Str) : PyData.eqv (callP c) (callP d) = decide (c = d) := by
  obtain ⟨a, b⟩ := c
  obtain ⟨f, w⟩ := d
  show (decide (a = f) && ((b == w) && true)) = _
  rw [Bool.and_true]
  by_cases h : a = f
  · by_cases h2 : b = w
    · rw [h, h2]; simp
    · rw [decide_eq_true h, decide_eq_false (by rintro ⟨⟩; exact h2 rfl)]
      simpa using h2
  · rw [decide_eq_false h, decide_eq_false (by rintro ⟨⟩; exact h rfl)]
    rfl
theorem any_calls (c : Int × Str) : ∀ cs : List (Int × Str), ((cs.map callP).any fun z => PyData.eqv z (callP c)) = decide (c ∈ cs)
  | [] => by simp
  | d :: cs => by
    rw [List.map_cons, List.any_cons, any_calls c cs, eqv_call]
    by_cases h : d = c
    · subst h; simp
    · simp [h, Ne.symm h]
theorem o_incall {M : MH} {f : Int} {w : Str} {cs : List (Int × Str)} {P : Bool → Prop} (h : P (decide ((f, w) ∈ cs))) : Op (cmpop M .isin (.d (.tup [.int f, .str w])) (.d (.tup (cs.map callD)))) P := by
  refine ⟨_, ?_, h⟩
  show (match some (callP (f, w)), (pdAll (pd M 39) (cs.map callD)).map PyData.tuple with
    | some a, some b => (memOf b).map fun (bs : List PyData) => bs.any fun z => PyData.eqv z a
    | _, _ => none) = _
  rw [pdAll_calls]
  show some ((cs.map callP).any fun z => PyData.eqv z (callP (f, w))) = _
  rw [any_calls]
theorem pdAll_bls {M : MH} {n : Nat} : ∀ bs : List Bool, pdAll (pd M (n + 1)) (bs.map .bl) = some (bs.map .bool)
  | [] => rfl
  | b :: bs => by
    show (match some (PyData.bool b), pdAll (pd M (n + 1)) (bs.map .bl) with
      | some x, some xs => some (x :: xs)
      | _, _ => none) = _
    rw [pdAll_bls bs]
    rfl
theorem eqv_bl (a b : Bool) : PyData.eqv (.bool a) (.bool b) = (a == b) := by cases a <;> cases b <;> decide +kernel
theorem any_bls (b : Bool) : ∀ bs : List Bool, ((bs.map PyData.bool).any fun z => PyData.eqv z (.bool b)) = bs.any (· == b)
  | [] => rfl
  | a :: bs => by rw [List.map_cons, List.any_cons, List.any_cons, any_bls b bs, eqv_bl]
/-- b in [..] -/
theorem o_inbl {M : MH} {b : Bool} {bs : List Bool} {P : Bool → Prop} (h : P (bs.any (· == b))) : Op (cmpop M .isin (.d (.bl b)) (.lst (bs.map .bl))) P := by
  refine ⟨_, ?_, h⟩
  show (match some (PyData.bool b), (pdAll (pd M 39) (bs.map .bl)).map PyData.list with
    | some a, some b => (memOf b).map fun (bs : List PyData) => bs.any fun z => PyData.eqv z a
    | _, _ => none) = _
  rw [pdAll_bls]
  show some ((bs.map PyData.bool).any fun z => PyData.eqv z (.bool b)) = _
  rw [any_bls]
theorem pd_ref {M : MH} {p : Nat} {ds : List D} (hp : M[p]? = some (.lst ds)) : pdT M deep (.d (.ref p)) = (pdAll (pd M 39) ds).map PyData.list := by
  show (match rd M p with
    | some ds => (pdAll (pd M 39) ds).map PyData.list
    | none => none) = _
  rw [rd_at hp]
theorem o_inbr {M : MH} {p : Nat} {b : Bool} {bs : List Bool} {P : Bool → Prop} (hp : M[p]? = some (.lst (bs.map .bl))) (h : P (bs.any (· == b))) : Op (cmpop M .isin (.d (.bl b)) (.d (.ref p))) P := by
  refine ⟨_, ?_, h⟩
  show (match some (PyData.bool b), pdT M deep (.d (.ref p)) with
    | some a, some b => (memOf b).map fun (bs : List PyData) => bs.any fun z => PyData.eqv z a
    | _, _ => none) = _
  rw [pd_ref hp, pdAll_bls]
  show some ((bs.map PyData.bool).any fun z => PyData.eqv z (.bool b)) = _
  rw [any_bls]
theorem o_ninbr {M : MH} {p : Nat} {b : Bool} {bs : List Bool} {P : Bool → Prop} (hp : M[p]? = some (.lst (bs.map .bl))) (h : P (!bs.any (· == b))) : Op (cmpop M .notin (.d (.bl b)) (.d (.ref p))) P := by
  refine ⟨_, ?_, h⟩
  show (match some (PyData.bool b), pdT M deep (.d (.ref p)) with
    | some a, some b => (memOf b).map fun (bs : List PyData) => !bs.any fun z => PyData.eqv z a
    | _, _ => none) = _
  rw [pd_ref hp, pdAll_bls]
  show some (!(bs.map PyData.bool).any fun z => PyData.eqv z (.bool b)) = _
  rw [any_bls]
theorem o_inir {M : MH} {p : Nat} {i : Int} {is : List Int} {P : Bool → Prop} (hp : M[p]? = some (.lst (is.map .int))) (h : P (decide (i ∈ is))) : Op (cmpop M .isin (.d (.int i)) (.d (.ref p))) P := by
  refine ⟨_, ?_, h⟩
  show (match some (PyData.int i), pdT M deep (.d (.ref p)) with
    | some a, some b => (memOf b).map fun (bs : List PyData) => bs.any fun z => PyData.eqv z a
    | _, _ => none) = _
  rw [pd_ref hp, pdAll_ints fun _ => rfl]
  show some ((is.map PyData.int).any fun z => PyData.eqv z (.int i)) = _
  rw [any_ints]
theorem o_abs {M : MH} {i : Int} {P : TV → Prop} (h : P (.d (.int (if i < 0 then -i else i)))) : Op (bfop M .abs [.d (.int i)]) P := op_some h
theorem b_lst {M : MH} {ds : List D} {P : TV → Prop} (h : P (.lst ds)) : Op (bfop M .list [.d (.tup ds)]) P := op_some h
/-! ### what holds -/
def St.car (s : St) (c : Int) : CarT := s.cars.getD c.toNat ⟨0, false, []⟩
def St.pan (s : St) (c : Int) : List Int := s.panels.getD c.toNat []
def St.lit (s : St) (c : Int) : List Int := s.calls.map Prod.fst ++ s.pan c
def trP (s : St) : Pln → Bool
  | .fire => s.fire
  | .harm => !emptyT (.tup (s.harms.map Hm.d))
  | .call f w => decide ((f, w) ∈ s.calls)
  | .at_ c f => decide ((s.car c).f = f)
  | .opn c => (s.car c).o
  | .near c d => decide ((if (s.car c).f - (s.car d).f < 0 then -((s.car c).f - (s.car d).f) else (s.car c).f - (s.car d).f) ≤ 1)
  | .panel c f => decide (f ∈ s.pan c)
  | .note c j v => decide ((s.car c).own.getD j.toNat 0 = v)
  | .above c => (s.lit c).any fun g => decide ((s.car c).f < g)
  | .below c => (s.lit c).any fun g => decide (g < (s.car c).f)
  | .here c => decide ((s.car c).f ∈ s.lit c)
mutual
def tr (s : St) : Cnd → Bool
  | .pl p => trP s p
  | .nt x => !tr s x
  | .co true xs => !(trs s xs).any (· == false)
  | .co false xs => (trs s xs).any (· == true)
def trs (s : St) : List Cnd → List Bool
  | [] => []
  | x :: xs => tr s x :: trs s xs
end
theorem trs_is (s : St) : ∀ xs : List Cnd, trs s xs = xs.map (tr s)
  | [] => rfl
  | x :: xs => by rw [List.map_cons, ← trs_is s xs]; rfl
theorem St.car_at {F : Int} {ss ns : List Int} {s : St} (h : StOk F ss ns s) {c : Int} (hc : 0 ≤ c ∧ c < ss.length) : L2.atI (s.cars.map CarT.d) c = some (s.car c).d := by
  obtain ⟨a, h1, h2⟩ := at_map (g := CarT.d) (l := s.cars) hc.1 (by rw [h.c]; exact hc.2)
  rw [h2]
  unfold St.car
  rw [List.getD_eq_getElem?_getD, h1]
  rfl
theorem St.pan_at {F : Int} {ss ns : List Int} {s : St} (h : StOk F ss ns s) {c : Int} (hc : 0 ≤ c ∧ c < ss.length) : L2.atI (s.panels.map panD) c = some (panD (s.pan c)) := by
  obtain ⟨a, h1, h2⟩ := at_map (g := panD) (l := s.panels) hc.1 (by rw [h.p]; exact hc.2)
  rw [h2]
  unfold St.pan
  rw [List.getD_eq_getElem?_getD, h1]
  rfl
theorem St.own_at {F : Int} {ss ns : List Int} {s : St} (hh : Hs F ss ns) (h : StOk F ss ns s) {c j m : Int} (hc : 0 ≤ c ∧ c < ss.length) (hm : ns[c.toNat]? = some m) (hj : 0 ≤ j ∧ j < m) : L2.atI ((s.car c).own.map D.int) j = some (.int ((s.car c).own.getD j.toNat 0)) := by
  have hl : c.toNat < s.cars.length := by rw [h.c]; omega
  have e : (s.cars.map (fun c => c.own.length))[c.toNat]? = (ns.map Int.toNat)[c.toNat]? := by rw [h.own]
  rw [List.getElem?_map, List.getElem?_map, hm, List.getElem?_eq_getElem hl] at e
  have e := Option.some.inj e
  have ec : s.car c = s.cars[c.toNat] := by
    unfold St.car
    rw [List.getD_eq_getElem?_getD, List.getElem?_eq_getElem hl]
    rfl
  rw [← ec] at e
  have e : (s.car c).own.length = m.toNat := e
  obtain ⟨a, h1, h2⟩ := at_map (g := D.int) (l := (s.car c).own) hj.1 (by omega)
  rw [h2, List.getD_eq_getElem?_getD, h1]
  rfl
def Cnd.parts : Cnd → List Cnd
  | .pl _ => []
  | .nt x => [x]
  | .co _ xs => xs
theorem Cnd.d_co {x : Cnd} (h : isCo x = true) : ∃ w, x.d = .tup (.str w :: x.parts.map Cnd.d) := by
  cases x with
  | pl p => cases h
  | nt x => exact ⟨_, rfl⟩
  | co a xs => exact ⟨coW a, by rw [← Cnd.ds_is]; rfl⟩
theorem Cnd.n_co {x : Cnd} (h : isCo x = true) : x.n = Cnd.ns x.parts + 1 := by
  cases x with
  | pl p => cases h
  | nt x => show x.n + 1 = x.n + 0 + 1; rfl
  | co a xs => rfl
theorem Cnd.lv_co {x : Cnd} (h : isCo x = true) {y : Cnd} (hy : y ∈ x.parts) : y.lv + 1 ≤ x.lv := by
  cases x with
  | pl p => cases h
  | nt x => rw [List.mem_singleton.mp hy]; exact Nat.le_refl _
  | co a xs =>
    have := (Cnd.lvs_le (m := Cnd.lvs xs)).mp (Nat.le_refl _) y hy
    show _ ≤ Cnd.lvs xs + 1
    omega
theorem Cnd.ok_co {F : Int} {ss ns : List Int} {x : Cnd} (h : x.ok F ss ns) {y : Cnd} (hy : y ∈ x.parts) : y.ok F ss ns := by
  cases x with
  | pl p => cases hy
  | nt x => rw [List.mem_singleton.mp hy]; exact h
  | co a xs => exact Cnd.oks_is.mp h y hy
theorem Cnd.d_tup (x : Cnd) : ∃ w ds, x.d = .tup (.str w :: ds) := by
  cases x with
  | pl p => cases p <;> exact ⟨_, _, rfl⟩
  | nt x => exact ⟨_, _, rfl⟩
  | co a xs => exact ⟨coW a, _, rfl⟩

end Ev

set_option maxRecDepth 100000
set_option maxHeartbeats 2000000
namespace Ev
open PySem
local macro_rules
  | `(tactic| trivial) => `(tactic| repeat with_reducible first
    | (refine g_ev ?_; first | refine w_var (by with_unfolding_all rfl) ?_ | refine w_lit ?_ | refine w_ix ?_ | refine w_cmp ?_ | refine w_tup ?_ | refine w_bin ?_ | refine w_call1 ?_ | refine w_call2 ?_ | refine w_call3 ?_ | refine w_call4 ?_ | refine w_call ?_ | refine w_all0 ?_ | refine w_bf ?_ | refine w_lst ?_ | refine w_bop ?_ | refine w_nt ?_ | refine w_x1 ?_ | refine w_ite ?_ | refine w_slc ?_ | refine w_cst ?_ | refine w_neg ?_ | refine w_append ?_ | refine w_lrg ?_ | refine w_chain ?_ | refine w_x2 ?_ | refine w_fst ?_ | refine w_join ?_ | refine w_count ?_ | refine w_rev ?_ | refine w_dix ?_)
    | refine m_d ?_ | refine m_l ?_ | refine isB ?_ | refine isI ?_ | refine w_nx ?_
    | (refine g_evs ?_; first | refine w_evs ?_ | refine w_evs0 ?_)
    | (refine g_exs ?_; first | refine w_exs ?_ | refine w_exs0 ?_)
    | (refine g_ex ?_; first | refine w_if1 ?_ | refine w_if2 ?_ | refine w_set ?_ | refine w_ret ?_ | refine w_expr ?_ | refine w_par ?_ | refine w_unp ?_ | refine w_put ?_)
    | refine w_rt ?_ | refine w_end ?_
    | (refine g_evB ?_; first | refine w_evBo ?_ | refine w_evBa ?_ | refine w_evB0 ?_)
    | (refine g_evT ?_; first | refine w_evT ?_ | refine w_evT0 ?_)
    | (refine g_op ?_; first | refine o_add ?_ | refine o_eq ?_ | refine o_isi ?_ | refine o_sub ?_ | refine b_lent ?_ | refine o_gt ?_ | refine o_lt ?_ | refine o_eqs ?_ | refine o_nes ?_ | refine b_tuple ?_ | refine b_int ?_ | refine o_gei ?_ | refine o_lei ?_ | refine o_nei ?_ | refine b_min ?_ | refine b_max ?_ | refine o_ixt at0 ?_ | refine o_ixt at1 ?_ | refine o_ixt at2 ?_ | refine o_ixt at3 ?_ | refine o_ixt at4 ?_ | refine o_slc1 ?_ | refine o_ins rfl ?_)
    | (refine g_br ?_; first | refine br_nt ?_ | refine br_tt ?_ | refine br_ff ?_ | refine br_isiT (by with_unfolding_all rfl) ?_ | refine br_isiF (by with_unfolding_all rfl) ?_ | refine br_anyT (by decide +kernel) ?_ | refine br_anyF (by decide +kernel) ?_ | refine br_strT (by decide +kernel) ?_ | refine br_strF (by decide +kernel) ?_)
    | (refine g_evI ?_; first | refine w_seq ?_ | refine w_rng1 ?_ | refine w_rng2 ?_ | refine w_rng3 ?_ | refine w_enum ?_ | refine w_zip ?_)
    | (refine g_evO ?_; first | refine w_evO ?_ | refine w_evO0 ?_)
    | (refine g_evF ?_; first | refine w_evF0 ?_ | refine w_txt ?_ ?_ | refine w_val ?_)
    | refine w_lit ?_)
/-! ### the reader of conditions -/
def wD (w : Cnd × Nat) : D := .tup [w.1.d, .int w.2]
def nsum (ws : List (Cnd × Nat)) : Nat := Cnd.ns (ws.map Prod.fst)
theorem wD_parts (l : Nat) (xs : List Cnd) : (xs.map Cnd.d).map (fun d => D.tup [d, .int ((l : Int) + 1)]) = (xs.map fun x => (x, l + 1)).map wD := by
  rw [List.map_map, List.map_map]
  refine List.map_congr_left fun x _ => ?_
  show D.tup [x.d, .int ((l : Int) + 1)] = D.tup [x.d, .int ((l + 1 : Nat) : Int)]
  push_cast
  rfl
section
variable {fs : Nat → Option Fn} {n : Nat} {M : MH} {P : D → MH → Prop} {F : Int} {ss ns : List Int}
section
variable [Has fs 34 fn_is_integer] [Has fs 35 fn_is_between] [Has fs 43 fn_is_a_floor] [Has fs 44 fn_is_a_call] [Has fs 49 fn_is_a_car] [Has fs 55 fn_is_plain] [Has fs 54 fn_is_composed] [Has fs 56 fn_is_a_condition]
theorem is_a_condition_ok {x : Cnd} (hx : x.ok F ss ns) (hn : x.n ≤ 60) (hl : x.lv ≤ 6) (h : ∀ M', Only M M' → P (.bl true) M') : Ok (run fs (n + 6) 56 [hD F ss ns, x.d] M) P := by
  refine w_fn (fn := fn_is_a_condition) rfl ?_
  simp only [fn_is_a_condition, b_is_a_condition]
  trivial
  refine ⟨rfl, ?_⟩
  trivial
  refine w_whl (fun m σ M' => ∃ o4 o5 o6, ∃ (ws : List (Cnd × Nat)) (cnt : Nat), σ = [some (hD F ss ns), some x.d, some (.ref M.length), some (.int cnt), o4, o5, o6] ∧ M.length < M'.length ∧ M'[M.length]? = some (.lst (ws.map wD)) ∧ m = nsum ws ∧ cnt + m ≤ 60 ∧ (∀ w ∈ ws, 1 ≤ w.2 ∧ w.2 + w.1.lv ≤ 7 ∧ w.1.ok F ss ns) ∧ Only M M') x.n (by omega) ?_ ?_
  · refine ⟨none, none, none, [(x, 1)], 0, rfl, by simp, last_at, (Cnd.ns_one x).symm, by omega, fun w hw => ?_, Only.push⟩
    rw [List.mem_singleton.mp hw]
    exact ⟨Nat.le_refl _, by show 1 + x.lv ≤ 7; omega, hx⟩
  · rintro m σ M1 ⟨o4, o5, o6, ws, cnt, rfl, e1, e2, rfl, e4, e5, e6⟩
    trivial
    refine b_lenr e2 ?_
    trivial
    rw [List.length_map]
    refine ⟨fun z => ?_, fun z => ?_⟩
    · have z := of_decide_eq_true z
      obtain ⟨ws', w, rfl⟩ : ∃ ws' w, ws = ws' ++ [w] := by
        rcases List.eq_nil_or_concat ws with rfl | ⟨l, a, rfl⟩
        · simp at z
        · exact ⟨l, a, List.concat_eq_append⟩
      obtain ⟨y, lv⟩ := w
      obtain ⟨q1, q2, q3⟩ := e5 (y, lv) (by simp)
      have q1 : 1 ≤ lv := q1
      have q2 : lv + y.lv ≤ 7 := q2
      have q3 : y.ok F ss ns := q3
      have yn := y.n_pos
      have yl := y.lv_pos
      have es : nsum (ws' ++ [(y, lv)]) = nsum ws' + y.n := by
        unfold nsum
        rw [List.map_append, Cnd.ns_app]
        show _ + (y.n + 0) = _
        omega
      rw [es] at e4
      trivial
      refine w_mt (by intro z; cases z) ?_
      trivial
      refine ⟨rfl, ?_⟩
      trivial
      refine o_pop (ds := ws'.map wD) (d := wD (y, lv)) (by rw [e2, List.map_append]; rfl) ?_
      refine ⟨_, rfl, rfl, ?_⟩
      have g1 : M.length < (M1.set M.length (.lst (ws'.map wD))).length := by rw [List.length_set]; exact e1
      have g2 : (M1.set M.length (MO.lst (ws'.map wD)))[M.length]? = some (.lst (ws'.map wD)) := List.getElem?_set_self e1
      have g3 : Only M (M1.set M.length (.lst (ws'.map wD))) := e6.set_new (Nat.le_refl _)
      generalize M1.set M.length (MO.lst (ws'.map wD)) = M2 at g1 g2 g3
      trivial
      refine w_augA (a := cnt) (by with_unfolding_all rfl) ?_
      trivial
      refine br_decF (decide_eq_false (by omega)) ?_
      trivial
      refine br_decF (decide_eq_false (by omega)) ?_
      obtain ⟨wd, ds, ed⟩ := y.d_tup
      have ok5 : ∀ w ∈ ws', 1 ≤ w.2 ∧ w.2 + w.1.lv ≤ 7 ∧ w.1.ok F ss ns := fun w hw => e5 w (by simp [hw])
      have hdt : isop .tuple (.d y.d) = true := by rw [ed]; rfl
      trivial
      refine br_isiT hdt ?_
      trivial
      have hlen : Op (bfop M2 .len [.d y.d]) fun z => ∃ k : Int, z = .d (.int k) ∧ 1 ≤ k := by
        rw [ed]
        refine b_lent ?_
        exact ⟨_, rfl, by simp; omega⟩
      obtain ⟨_, hl1, k, rfl, hk⟩ := hlen
      refine ⟨_, hl1, ?_⟩
      trivial
      refine br_decF (decide_eq_false (by omega)) ?_
      trivial
      have hix : Op (ixop M2 (.d y.d) (.d (.int 0))) fun z => z = .d (.str wd) := by
        rw [ed]
        exact o_ixt at0 rfl
      obtain ⟨_, hi1, rfl⟩ := hix
      refine ⟨_, hi1, ?_⟩
      trivial
      refine w_iff ?_
      trivial
      refine is_composed_ok ?_
      trivial
      refine ⟨fun c => ?_, fun c => ?_⟩
      · have c : isCo y = true := c
        obtain ⟨w2, ep⟩ := Cnd.d_co c
        have en := Cnd.n_co c
        trivial
        refine w_mt (by intro z; cases z) ?_
        trivial
        refine ⟨rfl, ?_⟩
        trivial
        have hpl := Cnd.len_ns y.parts
        refine w_compG (ds := y.parts.map Cnd.d) (fun d => .tup [d, .int ((lv : Int) + 1)]) ?_ (by rw [sl, List.length_map]; omega) (fun d hd => ⟨_, rfl, ?_⟩) ?_
        · trivial
          have hsl : Op (slop M2 (.d y.d) (some 1) none) fun z => z = .d (.tup (y.parts.map Cnd.d)) := by
            rw [ep]
            exact o_slc1 rfl
          obtain ⟨_, hs1, rfl⟩ := hsl
          refine ⟨_, hs1, ?_⟩
          exact s_tup
        · trivial
          exact ⟨rfl, rfl⟩
        · rw [wD_parts]
          trivial
          have hws : ws'.length ≤ nsum ws' := by
            have := Cnd.len_ns (ws'.map Prod.fst)
            rw [List.length_map] at this
            exact this
          refine o_ext (ds := ws'.map wD) (es := (y.parts.map fun x => (x, lv + 1)).map wD) (by rw [List.getElem?_append_left g1]; exact g2) last_at (show M.length ≠ M2.length by omega) (by rw [sl, List.length_map, List.length_map, List.length_map]; omega) ?_
          trivial
          refine ⟨nsum ws' + Cnd.ns y.parts, by rw [es]; omega, _, _, _, ws' ++ y.parts.map (fun x => (x, lv + 1)), cnt + 1, rfl, by simp; omega, ?_, ?_, by omega, fun w hw => ?_, (g3.trans Only.push).set_new (Nat.le_refl _)⟩
          · rw [List.getElem?_set_self (by simp; omega), List.map_append]
          · unfold nsum
            rw [List.map_append, Cnd.ns_app, List.map_map]
            congr 2
            exact (List.map_id' _).symm
          · rcases List.mem_append.mp hw with hw | hw
            · exact ok5 w hw
            · obtain ⟨u, hu, rfl⟩ := List.mem_map.mp hw
              have := Cnd.lv_co c hu
              exact ⟨by show 1 ≤ lv + 1; omega, by show lv + 1 + u.lv ≤ 7; omega, Cnd.ok_co q3 hu⟩
      · cases y with
        | pl p =>
          trivial
          refine is_plain_ok q3 ?_
          trivial
          have e1n : (Cnd.pl p).n = 1 := rfl
          exact ⟨nsum ws', by rw [es]; omega, _, _, _, ws', cnt + 1, rfl, g1, g2, rfl, by omega, ok5, g3⟩
        | nt x => cases c
        | co a xs => cases c
    · trivial
      exact h M1 e6
variable [Has fs 57 fn_need_condition]
theorem need_condition_ok {x : Cnd} (hx : x.ok F ss ns) (hn : x.n ≤ 60) (hl : x.lv ≤ 6) (h : ∀ M', Only M M' → P .non M') : Ok (run fs (n + 7) 57 [hD F ss ns, x.d] M) P := by
  refine w_fn (fn := fn_need_condition) rfl ?_
  simp only [fn_need_condition, b_need_condition]
  trivial
  refine is_a_condition_ok hx hn hl ?_
  intro M' o
  trivial
  refine ⟨rfl, ?_⟩
  trivial
  exact h M' o
end
end

end Ev

set_option maxRecDepth 100000
set_option maxHeartbeats 2000000
namespace Ev
open PySem
local macro_rules
  | `(tactic| trivial) => `(tactic| repeat with_reducible first
    | (refine g_ev ?_; first | refine w_var (by with_unfolding_all rfl) ?_ | refine w_lit ?_ | refine w_ix ?_ | refine w_cmp ?_ | refine w_tup ?_ | refine w_bin ?_ | refine w_call1 ?_ | refine w_call2 ?_ | refine w_call3 ?_ | refine w_call4 ?_ | refine w_call ?_ | refine w_all0 ?_ | refine w_bf ?_ | refine w_lst ?_ | refine w_bop ?_ | refine w_nt ?_ | refine w_x1 ?_ | refine w_ite ?_ | refine w_slc ?_ | refine w_cst ?_ | refine w_neg ?_ | refine w_append ?_ | refine w_lrg ?_ | refine w_chain ?_ | refine w_x2 ?_ | refine w_fst ?_ | refine w_join ?_ | refine w_count ?_ | refine w_rev ?_ | refine w_dix ?_)
    | refine m_d ?_ | refine m_l ?_ | refine isB ?_ | refine isI ?_ | refine w_nx ?_
    | (refine g_evs ?_; first | refine w_evs ?_ | refine w_evs0 ?_)
    | (refine g_exs ?_; first | refine w_exs ?_ | refine w_exs0 ?_)
    | (refine g_ex ?_; first | refine w_if1 ?_ | refine w_if2 ?_ | refine w_set ?_ | refine w_ret ?_ | refine w_expr ?_ | refine w_par ?_ | refine w_unp ?_ | refine w_put ?_)
    | refine w_rt ?_ | refine w_end ?_
    | (refine g_evB ?_; first | refine w_evBo ?_ | refine w_evBa ?_ | refine w_evB0 ?_)
    | (refine g_evT ?_; first | refine w_evT ?_ | refine w_evT0 ?_)
    | (refine g_op ?_; first | refine o_add ?_ | refine o_eq ?_ | refine o_isi ?_ | refine o_sub ?_ | refine b_lent ?_ | refine o_gt ?_ | refine o_lt ?_ | refine o_eqs ?_ | refine o_nes ?_ | refine b_tuple ?_ | refine b_int ?_ | refine o_gei ?_ | refine o_lei ?_ | refine o_nei ?_ | refine b_min ?_ | refine b_max ?_ )
    | (refine g_br ?_; first | refine br_nt ?_ | refine br_tt ?_ | refine br_ff ?_ | refine br_isiT (by with_unfolding_all rfl) ?_ | refine br_isiF (by with_unfolding_all rfl) ?_ )
    | (refine g_evI ?_; first | refine w_seq ?_ | refine w_rng1 ?_ | refine w_rng2 ?_ | refine w_rng3 ?_ | refine w_enum ?_ | refine w_zip ?_)
    | (refine g_evO ?_; first | refine w_evO ?_ | refine w_evO0 ?_)
    | (refine g_evF ?_; first | refine w_evF0 ?_ | refine w_txt ?_ ?_ | refine w_val ?_)
    | refine w_lit ?_)
section
variable {C : Nat → List D → MH → Res D} {σ : Sg} {M : MH}
/-- a comprehension whose terms only put new lists behind -/
theorem w_compO {α : Type} {own : List Nat} {elt : Ex} {tg : Tg} {it : It} {P : TV → MH → Prop} {l : List α} (e : α → D) (g : α → D)
    (hit : Ok (evI C it σ M) fun s M' => Only M M' ∧ ∀ M'', Only M' M'' → s.cur M'' = some (l.map e)) (hl : l.length ≤ sizeLine)
    (h : ∀ a ∈ l, ∀ M', Only M M' → ∃ σ', putTg tg (e a) (wipeS σ own) = some σ' ∧ Ok (ev C elt σ' M') fun x M'' => x = .d (g a) ∧ Only M' M'')
    (k : ∀ M', Only M M' → P (.lst (l.map g)) M') : Ok (ev C (.comp own elt tg it .nil) σ M) P := by
  refine w_compI (hit.mono ?_)
  rintro s M1 ⟨o1, hs⟩
  refine ⟨l.map e, fun i acc M' => Only M1 M' ∧ acc = (l.take i).map g, ?_, ⟨Only.refl, by simp⟩, ?_, ?_⟩
  · rintro i acc M' ⟨o, _⟩
    exact hs M' o
  · rintro i d acc M2 hd ⟨o, rfl⟩
    rw [List.getElem?_map] at hd
    obtain ⟨a, ha, rfl⟩ := Option.map_eq_some_iff.mp hd
    have hi := (List.getElem?_eq_some_iff.mp ha).1
    obtain ⟨σ', h1, h2⟩ := h a (List.mem_of_getElem? ha) M2 (o1.trans o)
    refine ⟨σ', h1, w_evB0 ⟨fun _ => h2.mono ?_, fun z => by cases z⟩⟩
    rintro _ M3 ⟨rfl, o3⟩
    refine m_d ⟨?_, o.trans o3, ?_⟩
    · rw [List.length_map, List.length_take]
      omega
    · rw [List.take_add_one, ha, List.map_append]
      rfl
  · rintro acc M2 ⟨o, rfl⟩
    rw [List.length_map, List.take_length]
    exact k M2 (o1.trans o)
theorem w_compE {α : Type} {own : List Nat} {elt : Ex} {tg : Tg} {it : It} {P : TV → MH → Prop} (e : α → D) (g : α → D)
    (hit : Ok (evI C it σ M) fun s M' => ∃ l : List α, l.length ≤ sizeLine ∧ (∀ M'', Only M' M'' → s.cur M'' = some (l.map e)) ∧
      (∀ a ∈ l, ∀ M'', Only M' M'' → ∃ σ', putTg tg (e a) (wipeS σ own) = some σ' ∧ Ok (ev C elt σ' M'') fun x M3 => x = .d (g a) ∧ Only M'' M3) ∧ ∀ M'', Only M' M'' → P (.lst (l.map g)) M'') : Ok (ev C (.comp own elt tg it .nil) σ M) P := by
  refine w_compI (hit.mono ?_)
  rintro s M1 ⟨l, hl, hs, h, k⟩
  refine ⟨l.map e, fun i acc M' => Only M1 M' ∧ acc = (l.take i).map g, ?_, ⟨Only.refl, by simp⟩, ?_, ?_⟩
  · rintro i acc M' ⟨o, _⟩
    exact hs M' o
  · rintro i d acc M2 hd ⟨o, rfl⟩
    rw [List.getElem?_map] at hd
    obtain ⟨a, ha, rfl⟩ := Option.map_eq_some_iff.mp hd
    have hi := (List.getElem?_eq_some_iff.mp ha).1
    obtain ⟨σ', h1, h2⟩ := h a (List.mem_of_getElem? ha) M2 o
    refine ⟨σ', h1, w_evB0 ⟨fun _ => h2.mono ?_, fun z => by cases z⟩⟩
    rintro _ M3 ⟨rfl, o3⟩
    refine m_d ⟨?_, o.trans o3, ?_⟩
    · rw [List.length_map, List.length_take]
      omega
    · rw [List.take_add_one, ha, List.map_append]
      rfl
  · rintro acc M2 ⟨o, rfl⟩
    rw [List.length_map, List.take_length]
    exact k M2 o
theorem so_tup {ds : List D} : Op (srcOf M (.d (.tup ds))) fun s => Only M M ∧ ∀ M'', Only M M'' → s.cur M'' = some ds := op_some ⟨Only.refl, fun _ _ => rfl⟩
theorem so_ref {M0 : MH} {p : Nat} {ds : List D} (o : Only M0 M) (hp : M[p]? = some (.lst ds)) : Op (srcOf M (.d (.ref p))) fun s => Only M0 M ∧ ∀ M'', Only M M'' → s.cur M'' = some ds := by
  refine o_srcr hp ⟨o, fun M'' o2 => ?_⟩
  show rd M'' p = some ds
  refine rd_at ?_
  rw [o2.at_ p (List.getElem?_eq_some_iff.mp hp).1]
  exact hp
end
theorem blsOf_bl : ∀ bs : List Bool, blsOf (bs.map .bl) = some bs
  | [] => rfl
  | b :: bs => by
    show (blsOf (bs.map .bl)).map (b :: ·) = _
    rw [blsOf_bl bs]
    rfl
theorem b_allB {M : MH} {bs : List Bool} {P : TV → Prop} (h : P (.d (.bl (!bs.any (· == false))))) : Op (bfop M .all [.lst (bs.map .bl)]) P := by
  refine ⟨_, ?_, h⟩
  show (blsOf (bs.map .bl)).map (fun bs => TV.d (.bl (bs.all id))) = _
  rw [blsOf_bl]
  show some (TV.d (.bl (bs.all id))) = _
  congr 3
  induction bs with
  | nil => rfl
  | cons b bs ih => cases b <;> simp_all
theorem b_anyB {M : MH} {bs : List Bool} {P : TV → Prop} (h : P (.d (.bl (bs.any (· == true))))) : Op (bfop M .any [.lst (bs.map .bl)]) P := by
  refine ⟨_, ?_, h⟩
  show (blsOf (bs.map .bl)).map (fun bs => TV.d (.bl (bs.any id))) = _
  rw [blsOf_bl]
  show some (TV.d (.bl (bs.any id))) = _
  congr 3
  induction bs with
  | nil => rfl
  | cons b bs ih => cases b <;> simp_all
theorem any_t {α : Type} {t : α → Bool} : ∀ l : List α, (l.map t).any (· == true) = l.any t
  | [] => rfl
  | a :: l => by rw [List.map_cons, List.any_cons, List.any_cons, any_t l]; cases t a <;> rfl
theorem map_bl {α : Type} {t : α → Bool} (l : List α) : l.map (fun a => D.bl (t a)) = (l.map t).map .bl := by rw [List.map_map]; rfl
section
variable {M : MH} {P : TV → Prop} {s : St}
theorem sD0 (h : P (.d (.tup (s.cars.map CarT.d)))) : Op (ixop M (.d s.d) (.d (.int 0))) P := o_ixt at0 h
theorem sD1 (h : P (.d (.tup (s.calls.map callD)))) : Op (ixop M (.d s.d) (.d (.int 1))) P := o_ixt at1 h
theorem sD2 (h : P (.d (.tup (s.panels.map panD)))) : Op (ixop M (.d s.d) (.d (.int 2))) P := o_ixt at2 h
theorem sD3 (h : P (.d (.bl s.fire))) : Op (ixop M (.d s.d) (.d (.int 3))) P := o_ixt at3 h
theorem sD4 (h : P (.d (.tup (s.harms.map Hm.d)))) : Op (ixop M (.d s.d) (.d (.int 4))) P := o_ixt at4 h
end
theorem pls_harms (hs : List Hm) : pls 39 (hs.map Hm.d) = true := pls_of fun d hd => by
  obtain ⟨x, _, rfl⟩ := List.mem_map.mp hd
  cases x <;> rfl
theorem harm_pos (hs : List Hm) : decide ((0 : Int) < ((hs.map Hm.d).length : Nat)) = !emptyT (.tup (hs.map Hm.d)) := by
  cases hs with
  | nil => rfl
  | cons h hs =>
    refine decide_eq_true ?_
    simp
def isCarP : Pln → Bool
  | .fire => false
  | .harm => false
  | .call _ _ => false
  | _ => true
theorem c0_calls (cs : List (Int × Str)) : (cs.map callD).map c0D = (cs.map Prod.fst).map .int := by
  rw [List.map_map, List.map_map]; rfl

end Ev

set_option maxRecDepth 100000
set_option maxHeartbeats 2000000
namespace Ev
open PySem
local macro_rules
  | `(tactic| trivial) => `(tactic| repeat with_reducible first
    | (refine g_ev ?_; first | refine w_var (by with_unfolding_all rfl) ?_ | refine w_lit ?_ | refine w_ix ?_ | refine w_cmp ?_ | refine w_tup ?_ | refine w_bin ?_ | refine w_call1 ?_ | refine w_call2 ?_ | refine w_call3 ?_ | refine w_call4 ?_ | refine w_call ?_ | refine w_bf ?_ | refine w_lst ?_ | refine w_bop ?_ | refine w_nt ?_ | refine w_x1 ?_ | refine w_ite ?_ | refine w_slc ?_ | refine w_cst ?_ | refine w_neg ?_ | refine w_append ?_ | refine w_lrg ?_ | refine w_chain ?_ | refine w_x2 ?_ | refine w_fst ?_ | refine w_join ?_ | refine w_count ?_ | refine w_rev ?_ | refine w_dix ?_)
    | refine m_d ?_ | refine m_l ?_ | refine isB ?_ | refine isI ?_ | refine w_nx ?_
    | (refine g_evs ?_; first | refine w_evs ?_ | refine w_evs0 ?_)
    | (refine g_exs ?_; first | refine w_exs ?_ | refine w_exs0 ?_)
    | (refine g_ex ?_; first | refine w_if1 ?_ | refine w_if2 ?_ | refine w_set ?_ | refine w_ret ?_ | refine w_expr ?_ | refine w_par ?_ | refine w_unp ?_ | refine w_put ?_)
    | refine w_rt ?_ | refine w_end ?_
    | (refine g_evB ?_; first | refine w_evBo ?_ | refine w_evBa ?_ | refine w_evB0 ?_)
    | (refine g_evT ?_; first | refine w_evT ?_ | refine w_evT0 ?_)
    | (refine g_op ?_; first | refine o_add ?_ | refine o_eq ?_ | refine o_isi ?_ | refine o_sub ?_ | refine b_lent ?_ | refine o_gt ?_ | refine o_lt ?_ | refine o_eqs ?_ | refine o_nes ?_ | refine b_tuple ?_ | refine b_int ?_ | refine o_gei ?_ | refine o_lei ?_ | refine o_nei ?_ | refine b_min ?_ | refine b_max ?_ | refine sD0 ?_ | refine sD1 ?_ | refine sD2 ?_ | refine sD3 ?_ | refine sD4 ?_ | refine o_ixt at0 ?_ | refine o_ixt at1 ?_ | refine o_ixt at2 ?_ | refine o_ixt at3 ?_ | refine o_slc1 ?_ | refine o_ins rfl ?_ | refine o_abs ?_)
    | (refine g_br ?_; first | refine br_nt ?_ | refine br_tt ?_ | refine br_ff ?_ | refine br_isiT (by with_unfolding_all rfl) ?_ | refine br_isiF (by with_unfolding_all rfl) ?_ | refine br_anyT (by decide +kernel) ?_ | refine br_anyF (by decide +kernel) ?_ | refine br_strT (by decide +kernel) ?_ | refine br_strF (by decide +kernel) ?_)
    | (refine g_evI ?_; first | refine w_seq ?_ | refine w_rng1 ?_ | refine w_rng2 ?_ | refine w_rng3 ?_ | refine w_enum ?_ | refine w_zip ?_)
    | (refine g_evO ?_; first | refine w_evO ?_ | refine w_evO0 ?_)
    | (refine g_evF ?_; first | refine w_evF0 ?_ | refine w_txt ?_ ?_ | refine w_val ?_)
    | refine w_lit ?_)
section
variable {fs : Nat → Option Fn} {n : Nat} {M : MH} {P : D → MH → Prop} {F : Int} {ss ns : List Int} {s : St}
section
variable [Has fs 58 fn_parts_of]
theorem parts_of_ok {x : Cnd} (hx : isCo x = true) (h : P (.ref M.length) (M ++ [.lst (x.parts.map Cnd.d)])) : Ok (run fs (n + 1) 58 [x.d] M) P := by
  refine w_fn (fn := fn_parts_of) rfl ?_
  simp only [fn_parts_of, b_parts_of]
  cases x with
  | pl p => cases hx
  | nt x =>
    simp only [Cnd.d]
    trivial
    refine b_lst ?_
    trivial
    exact h
  | co a xs =>
    have e : Cnd.ds xs = xs.map Cnd.d := Cnd.ds_is xs
    cases a <;>
    · simp only [Cnd.d, coW]
      trivial
      refine b_lst ?_
      rw [e]
      trivial
      exact h
end
section
variable [Has fs 59 fn_lit_floors]
theorem lit_floors_ok (hs : StOk F ss ns s) {c : Int} (hc : 0 ≤ c ∧ c < ss.length) (hl : (s.pan c).length ≤ 1000) (h : P (.ref M.length) (M ++ [.lst ((s.lit c).map .int)])) : Ok (run fs (n + 1) 59 [s.d, .int c] M) P := by
  refine w_fn (fn := fn_lit_floors) rfl ?_
  simp only [fn_lit_floors, b_lit_floors]
  trivial
  have hk := hs.k1
  refine w_compG (ds := s.calls.map callD) c0D ?_ (by rw [sl, List.length_map]; omega) (fun d hd => ⟨_, rfl, ?_⟩) ?_
  · trivial
    exact s_tup
  · obtain ⟨x, _, rfl⟩ := List.mem_map.mp hd
    obtain ⟨f, w⟩ := x
    simp only [callD]
    trivial
    exact ⟨rfl, rfl⟩
  rw [c0_calls]
  trivial
  refine o_ixt (s.pan_at hs hc) ?_
  trivial
  refine b_lst (ds := (s.pan c).map .int) ?_
  trivial
  refine o_addll (by rw [sl, List.length_map, List.length_map, List.length_map]; omega) ?_
  rw [← List.map_append]
  trivial
  exact h
end
section
variable [Has fs 59 fn_lit_floors] [Has fs 60 fn_plain_of_car]
theorem plain_of_car_ok (hh : Hs F ss ns) (hs : StOk F ss ns s) {p : Pln} (hp : okPln F ss ns p) (hc : isCarP p = true) (h : ∀ M', Only M M' → P (.bl (trP s p)) M') : Ok (run fs (n + 2) 60 [s.d, p.d] M) P := by
  have hpan : ∀ c, (s.pan c).length ≤ 1000 := fun c => by
    unfold St.pan
    rw [List.getD_eq_getElem?_getD]
    cases e : s.panels[c.toNat]? with
    | none => simp
    | some l =>
      have hm := List.mem_of_getElem? e
      have := rise_len (hs.pf l hm) (hs.pp l hm) (by have := hh.f0; omega)
      have := hh.f1
      show l.length ≤ 1000
      omega
  have hlit : ∀ c, (s.lit c).length ≤ sizeLine := fun c => by
    unfold St.lit
    have := hpan c
    have := hs.k1
    rw [sl, List.length_append, List.length_map]
    omega
  have h0 := h M Only.refl
  refine w_fn (fn := fn_plain_of_car) rfl ?_
  simp only [fn_plain_of_car, b_plain_of_car]
  cases p with
  | fire => cases hc
  | harm => cases hc
  | call f w => cases hc
  | at_ c f =>
    simp only [Pln.d]
    trivial
    refine ⟨rfl, ?_⟩
    trivial
    refine o_ixt (s.car_at hs hp.1) ?_
    refine ⟨_, rfl, rfl, ?_⟩
    trivial
    exact h0
  | opn c =>
    simp only [Pln.d]
    trivial
    refine ⟨rfl, ?_⟩
    trivial
    refine o_ixt (s.car_at hs hp) ?_
    refine ⟨_, rfl, rfl, ?_⟩
    trivial
    exact h0
  | near c d =>
    simp only [Pln.d]
    trivial
    refine ⟨rfl, ?_⟩
    trivial
    refine o_ixt (s.car_at hs hp.1) ?_
    refine ⟨_, rfl, rfl, ?_⟩
    trivial
    refine o_ixt (s.car_at hs hp.2.1) ?_
    refine o_ixt at0 ?_
    trivial
    exact h0
  | panel c f =>
    simp only [Pln.d]
    trivial
    refine ⟨rfl, ?_⟩
    trivial
    refine o_ixt (s.car_at hs hp.1) ?_
    refine ⟨_, rfl, rfl, ?_⟩
    trivial
    refine o_ixt (s.pan_at hs hp.1) ?_
    refine o_ini (is := s.pan c) rfl ?_
    trivial
    exact h0
  | note c j v =>
    obtain ⟨h1, m, h2, h3, h4⟩ := hp
    simp only [Pln.d]
    trivial
    refine ⟨rfl, ?_⟩
    trivial
    refine o_ixt (s.car_at hs h1) ?_
    refine ⟨_, rfl, rfl, ?_⟩
    trivial
    refine o_ixt (s.own_at hh hs h1 h2 h3) ?_
    trivial
    exact h0
  | above c =>
    simp only [Pln.d]
    trivial
    refine ⟨rfl, ?_⟩
    trivial
    refine o_ixt (s.car_at hs hp) ?_
    refine ⟨_, rfl, rfl, ?_⟩
    trivial
    refine w_compO (l := s.lit c) D.int (fun g => .bl (decide ((s.car c).f < g))) ?_ (hlit c) (fun g hg M' o => ⟨_, rfl, ?_⟩) fun M' o => ?_
    · trivial
      refine lit_floors_ok hs hp (hpan c) ?_
      trivial
      exact so_ref Only.push last_at
    · trivial
      exact ⟨rfl, Only.refl⟩
    · rw [map_bl]
      trivial
      refine b_anyB ?_
      rw [any_t]
      trivial
      exact h M' o
  | below c =>
    simp only [Pln.d]
    trivial
    refine ⟨rfl, ?_⟩
    trivial
    refine o_ixt (s.car_at hs hp) ?_
    refine ⟨_, rfl, rfl, ?_⟩
    trivial
    refine w_compO (l := s.lit c) D.int (fun g => .bl (decide (g < (s.car c).f))) ?_ (hlit c) (fun g hg M' o => ⟨_, rfl, ?_⟩) fun M' o => ?_
    · trivial
      refine lit_floors_ok hs hp (hpan c) ?_
      trivial
      exact so_ref Only.push last_at
    · trivial
      exact ⟨rfl, Only.refl⟩
    · rw [map_bl]
      trivial
      refine b_anyB ?_
      rw [any_t]
      trivial
      exact h M' o
  | here c =>
    simp only [Pln.d]
    trivial
    refine ⟨rfl, ?_⟩
    trivial
    refine o_ixt (s.car_at hs hp) ?_
    refine ⟨_, rfl, rfl, ?_⟩
    trivial
    refine lit_floors_ok hs hp (hpan c) ?_
    trivial
    refine o_inir last_at ?_
    trivial
    exact h _ Only.push
end
end

end Ev

set_option maxRecDepth 100000
set_option maxHeartbeats 2000000
namespace Ev
open PySem
local macro_rules
  | `(tactic| trivial) => `(tactic| repeat with_reducible first
    | (refine g_ev ?_; first | refine w_var (by with_unfolding_all rfl) ?_ | refine w_lit ?_ | refine w_ix ?_ | refine w_cmp ?_ | refine w_tup ?_ | refine w_bin ?_ | refine w_call1 ?_ | refine w_call2 ?_ | refine w_call3 ?_ | refine w_call4 ?_ | refine w_call ?_ | refine w_bf ?_ | refine w_lst ?_ | refine w_bop ?_ | refine w_nt ?_ | refine w_x1 ?_ | refine w_ite ?_ | refine w_slc ?_ | refine w_cst ?_ | refine w_neg ?_ | refine w_append ?_ | refine w_lrg ?_ | refine w_chain ?_ | refine w_x2 ?_ | refine w_fst ?_ | refine w_join ?_ | refine w_count ?_ | refine w_rev ?_ | refine w_dix ?_)
    | refine m_d ?_ | refine m_l ?_ | refine isB ?_ | refine isI ?_ | refine w_nx ?_
    | (refine g_evs ?_; first | refine w_evs ?_ | refine w_evs0 ?_)
    | (refine g_exs ?_; first | refine w_exs ?_ | refine w_exs0 ?_)
    | (refine g_ex ?_; first | refine w_if1 ?_ | refine w_if2 ?_ | refine w_set ?_ | refine w_ret ?_ | refine w_expr ?_ | refine w_par ?_ | refine w_unp ?_ | refine w_put ?_)
    | refine w_rt ?_ | refine w_end ?_
    | (refine g_evB ?_; first | refine w_evBo ?_ | refine w_evBa ?_ | refine w_evB0 ?_)
    | (refine g_evT ?_; first | refine w_evT ?_ | refine w_evT0 ?_)
    | (refine g_op ?_; first | refine o_add ?_ | refine o_eq ?_ | refine o_isi ?_ | refine o_sub ?_ | refine b_lent ?_ | refine o_gt ?_ | refine o_lt ?_ | refine o_eqs ?_ | refine o_nes ?_ | refine b_tuple ?_ | refine b_int ?_ | refine o_gei ?_ | refine o_lei ?_ | refine o_nei ?_ | refine b_min ?_ | refine b_max ?_ | refine sD0 ?_ | refine sD1 ?_ | refine sD2 ?_ | refine sD3 ?_ | refine sD4 ?_ | refine o_ixt at0 ?_ | refine o_ixt at1 ?_ | refine o_ixt at2 ?_ | refine o_ixt at3 ?_ | refine o_slc1 ?_ | refine o_ins rfl ?_ | refine o_abs ?_ | refine o_incall ?_)
    | (refine g_br ?_; first | refine br_nt ?_ | refine br_tt ?_ | refine br_ff ?_ | refine br_isiT (by with_unfolding_all rfl) ?_ | refine br_isiF (by with_unfolding_all rfl) ?_ | refine br_anyT (by decide +kernel) ?_ | refine br_anyF (by decide +kernel) ?_ | refine br_strT (by decide +kernel) ?_ | refine br_strF (by decide +kernel) ?_)
    | (refine g_evI ?_; first | refine w_seq ?_ | refine w_rng1 ?_ | refine w_rng2 ?_ | refine w_rng3 ?_ | refine w_enum ?_ | refine w_zip ?_)
    | (refine g_evO ?_; first | refine w_evO ?_ | refine w_evO0 ?_)
    | (refine g_evF ?_; first | refine w_evF0 ?_ | refine w_txt ?_ ?_ | refine w_val ?_)
    | refine w_lit ?_)
theorem near_eq (a : Int) : decide (a < 2) = decide (a ≤ 1) := decide_eq_decide.mpr (by omega)
section
variable {fs : Nat → Option Fn} {n : Nat} {F : Int} {ss ns : List Int} {s : St}
theorem pan_len (hh : Hs F ss ns) (hs : StOk F ss ns s) (c : Int) : (s.pan c).length ≤ 1000 := by
  unfold St.pan
  rw [List.getD_eq_getElem?_getD]
  cases e : s.panels[c.toNat]? with
  | none => simp
  | some l =>
    have hm := List.mem_of_getElem? e
    have := rise_len (hs.pf l hm) (hs.pp l hm) (by have := hh.f0; omega)
    have := hh.f1
    show l.length ≤ 1000
    omega
section
variable [Has fs 58 fn_parts_of] [Has fs 59 fn_lit_floors] [Has fs 60 fn_plain_of_car] [Has fs 61 fn_true_at]
theorem true_at_ok (hh : Hs F ss ns) (hs : StOk F ss ns s) : ∀ (m : Nat) {n : Nat} {M : MH} {P : D → MH → Prop} {x : Cnd}, x.lv ≤ m → x.n ≤ 60 → x.ok F ss ns → (∀ M', Only M M' → P (.bl (tr s x)) M') → Ok (run fs (n + m + 3) 61 [s.d, x.d] M) P := by
  intro m
  induction m with
  | zero => intro n M P x hl; have := x.lv_pos; omega
  | succ m ih =>
    intro n M P x hl hn hx h
    have h0 := h M Only.refl
    refine w_fn (n := n + m + 3) (fn := fn_true_at) rfl ?_
    simp only [fn_true_at, b_true_at]
    cases x with
    | pl p =>
      have car : isCarP p = true → Ok (run fs (n + m + 3) 60 [s.d, p.d] M) P := fun hc => plain_of_car_ok (n := n + m + 1) hh hs hx hc h
      cases p with
      | fire => simp only [Cnd.d, Pln.d]; trivial; exact h0
      | harm =>
        simp only [Cnd.d, Pln.d]
        trivial
        refine o_nenil (pls_harms _) ?_
        trivial
        exact h0
      | call f w => simp only [Cnd.d, Pln.d]; trivial; exact h0
      | _ => simp only [Cnd.d, Pln.d]; trivial; exact car rfl
    | nt y =>
      simp only [Cnd.d]
      trivial
      refine ih (n := n) (x := y) (by have : y.lv + 1 ≤ m + 1 := hl; omega) (by have : y.n + 1 ≤ 60 := hn; omega) hx ?_
      intro M' o
      trivial
      exact h M' o
    | co a xs =>
      have hxs : ∀ x ∈ xs, x.ok F ss ns := Cnd.oks_is.mp hx
      have hls : ∀ x ∈ xs, x.lv ≤ m := Cnd.lvs_le.mp (by have : Cnd.lvs xs + 1 ≤ m + 1 := hl; omega)
      have hn : Cnd.ns xs + 1 ≤ 60 := hn
      have hn1 : ∀ x ∈ xs, x.n ≤ 60 := fun x hx => by
        obtain ⟨l1, l2, rfl⟩ := List.append_of_mem hx
        rw [Cnd.ns_app] at hn
        have : Cnd.ns (x :: l2) = x.n + Cnd.ns l2 := rfl
        omega
      have hxl := Cnd.len_ns xs
      have e : Cnd.d (.co a xs) = .tup (.str (coW a) :: Cnd.ds xs) := rfl
      cases a with
      | true =>
        simp only [Cnd.d, coW]
        trivial
        refine w_compO (l := xs) Cnd.d (fun x => .bl (tr s x)) ?_ (by rw [sl]; omega) (fun x hx' M' o => ⟨_, rfl, ?_⟩) fun M' o => ?_
        · trivial
          refine parts_of_ok (x := .co true xs) rfl ?_
          trivial
          exact so_ref Only.push last_at
        · trivial
          refine ih (n := n) (hls x hx') (hn1 x hx') (hxs x hx') ?_
          intro M2 o2
          exact ⟨rfl, o2⟩
        · rw [map_bl]
          trivial
          refine b_allB ?_
          trivial
          have := h M' o
          simp only [tr, trs_is] at this
          exact this
      | false =>
        simp only [Cnd.d, coW]
        trivial
        refine w_compO (l := xs) Cnd.d (fun x => .bl (tr s x)) ?_ (by rw [sl]; omega) (fun x hx' M' o => ⟨_, rfl, ?_⟩) fun M' o => ?_
        · trivial
          refine parts_of_ok (x := .co false xs) rfl ?_
          trivial
          exact so_ref Only.push last_at
        · trivial
          refine ih (n := n) (hls x hx') (hn1 x hx') (hxs x hx') ?_
          intro M2 o2
          exact ⟨rfl, o2⟩
        · rw [map_bl]
          trivial
          refine b_anyB ?_
          trivial
          have := h M' o
          simp only [tr, trs_is] at this
          exact this
end
section
variable [Has fs 63 fn_law_true]
theorem law_true_ok (hh : Hs F ss ns) (hs : StOk F ss ns s) : ∀ (m : Nat) {n : Nat} {M : MH} {P : D → MH → Prop} {x : Cnd}, x.lv ≤ m → x.n ≤ 60 → x.ok F ss ns → (∀ M', Only M M' → P (.bl (tr s x)) M') → Ok (run fs (n + m + 1) 63 [s.d, x.d] M) P := by
  intro m
  induction m with
  | zero => intro n M P x hl; have := x.lv_pos; omega
  | succ m ih =>
    intro n M P x hl hn hx h
    have h0 := h M Only.refl
    have hlit : ∀ c, (s.calls.map callD).length + ((s.pan c).map D.int).length ≤ sizeLine := fun c => by
      have := pan_len hh hs c
      have := hs.k1
      rw [sl, List.length_map, List.length_map]
      omega
    refine w_fn (n := n + m + 1) (fn := fn_law_true) rfl ?_
    simp only [fn_law_true, b_law_true]
    cases x with
    | pl p =>
      cases p with
      | fire =>
        simp only [Cnd.d, Pln.d]
        trivial
        refine w_iff ?_
        trivial
        exact h0
      | harm =>
        simp only [Cnd.d, Pln.d]
        trivial
        refine w_iff ?_
        trivial
        rw [harm_pos]
        exact h0
      | call f w =>
        simp only [Cnd.d, Pln.d]
        trivial
        refine w_iff ?_
        trivial
        exact h0
      | at_ c f =>
        simp only [Cnd.d, Pln.d]
        trivial
        refine w_iff ?_
        trivial
        refine o_ixt (s.car_at hs hx.1) ?_
        refine ⟨_, rfl, rfl, ?_⟩
        trivial
        exact h0
      | opn c =>
        simp only [Cnd.d, Pln.d]
        trivial
        refine w_iff ?_
        trivial
        refine o_ixt (s.car_at hs hx) ?_
        refine ⟨_, rfl, rfl, ?_⟩
        trivial
        exact h0
      | near c d =>
        simp only [Cnd.d, Pln.d]
        trivial
        refine w_iff ?_
        trivial
        refine o_ixt (s.car_at hs hx.1) ?_
        refine ⟨_, rfl, rfl, ?_⟩
        trivial
        refine o_ixt (s.car_at hs hx.2.1) ?_
        refine o_ixt at0 ?_
        trivial
        rw [near_eq]
        exact h0
      | panel c f =>
        simp only [Cnd.d, Pln.d]
        trivial
        refine w_iff ?_
        trivial
        refine o_ixt (s.car_at hs hx.1) ?_
        refine ⟨_, rfl, rfl, ?_⟩
        trivial
        refine o_ixt (s.pan_at hs hx.1) ?_
        refine o_ini (is := s.pan c) rfl ?_
        trivial
        exact h0
      | note c j v =>
        obtain ⟨h1, k, h2, h3, h4⟩ := hx
        simp only [Cnd.d, Pln.d]
        trivial
        refine w_iff ?_
        trivial
        refine o_ixt (s.car_at hs h1) ?_
        refine ⟨_, rfl, rfl, ?_⟩
        trivial
        refine o_ixt (s.own_at hh hs h1 h2 h3) ?_
        trivial
        exact h0
      | above c =>
        simp only [Cnd.d, Pln.d]
        trivial
        refine w_iff ?_
        trivial
        refine o_ixt (s.car_at hs hx) ?_
        refine ⟨_, rfl, rfl, ?_⟩
        trivial
        refine w_compG (ds := s.calls.map callD) c0D ?_ (by have := hlit 0; omega) (fun d hd => ⟨_, rfl, ?_⟩) ?_
        · trivial
          exact s_tup
        · obtain ⟨x, _, rfl⟩ := List.mem_map.mp hd
          obtain ⟨f, w⟩ := x
          simp only [callD]
          trivial
          exact ⟨rfl, rfl⟩
        rw [c0_calls]
        trivial
        refine o_ixt (s.pan_at hs hx) ?_
        trivial
        refine b_lst (ds := (s.pan c).map .int) ?_
        trivial
        refine o_addll (by have := hlit c; rw [List.length_map, List.length_map]; rw [List.length_map] at this; exact this) ?_
        rw [← List.map_append]
        trivial
        refine w_compO (l := s.lit c) D.int (fun g => .bl (decide ((s.car c).f < g))) ?_ (by have := hlit c; unfold St.lit; rw [List.length_append, List.length_map]; rw [List.length_map, List.length_map] at this; exact this) (fun g hg M' o => ⟨_, rfl, ?_⟩) fun M' o => ?_
        · trivial
          exact so_ref Only.refl last_at
        · trivial
          exact ⟨rfl, Only.refl⟩
        · rw [map_bl]
          refine o_inbl ?_
          rw [any_t]
          trivial
          exact h M' (Only.push.trans o)
      | below c =>
        simp only [Cnd.d, Pln.d]
        trivial
        refine w_iff ?_
        trivial
        refine o_ixt (s.car_at hs hx) ?_
        refine ⟨_, rfl, rfl, ?_⟩
        trivial
        refine w_compG (ds := s.calls.map callD) c0D ?_ (by have := hlit 0; omega) (fun d hd => ⟨_, rfl, ?_⟩) ?_
        · trivial
          exact s_tup
        · obtain ⟨x, _, rfl⟩ := List.mem_map.mp hd
          obtain ⟨f, w⟩ := x
          simp only [callD]
          trivial
          exact ⟨rfl, rfl⟩
        rw [c0_calls]
        trivial
        refine o_ixt (s.pan_at hs hx) ?_
        trivial
        refine b_lst (ds := (s.pan c).map .int) ?_
        trivial
        refine o_addll (by have := hlit c; rw [List.length_map, List.length_map]; rw [List.length_map] at this; exact this) ?_
        rw [← List.map_append]
        trivial
        refine w_compO (l := s.lit c) D.int (fun g => .bl (decide (g < (s.car c).f))) ?_ (by have := hlit c; unfold St.lit; rw [List.length_append, List.length_map]; rw [List.length_map, List.length_map] at this; exact this) (fun g hg M' o => ⟨_, rfl, ?_⟩) fun M' o => ?_
        · trivial
          exact so_ref Only.refl last_at
        · trivial
          exact ⟨rfl, Only.refl⟩
        · rw [map_bl]
          refine o_inbl ?_
          rw [any_t]
          trivial
          exact h M' (Only.push.trans o)
      | here c =>
        simp only [Cnd.d, Pln.d]
        trivial
        refine w_iff ?_
        trivial
        refine o_ixt (s.car_at hs hx) ?_
        refine ⟨_, rfl, rfl, ?_⟩
        trivial
        refine w_compG (ds := s.calls.map callD) c0D ?_ (by have := hlit 0; omega) (fun d hd => ⟨_, rfl, ?_⟩) ?_
        · trivial
          exact s_tup
        · obtain ⟨x, _, rfl⟩ := List.mem_map.mp hd
          obtain ⟨f, w⟩ := x
          simp only [callD]
          trivial
          exact ⟨rfl, rfl⟩
        rw [c0_calls]
        trivial
        refine o_ixt (s.pan_at hs hx) ?_
        trivial
        refine b_lst (ds := (s.pan c).map .int) ?_
        trivial
        refine o_addll (by have := hlit c; rw [List.length_map, List.length_map]; rw [List.length_map] at this; exact this) ?_
        rw [← List.map_append]
        trivial
        refine o_inir (is := s.lit c) last_at ?_
        trivial
        exact h _ Only.push
    | nt y =>
      simp only [Cnd.d]
      trivial
      refine ih (n := n) (x := y) (by have : y.lv + 1 ≤ m + 1 := hl; omega) (by have : y.n + 1 ≤ 60 := hn; omega) hx ?_
      intro M' o
      trivial
      exact h M' o
    | co a xs =>
      have hxs : ∀ x ∈ xs, x.ok F ss ns := Cnd.oks_is.mp hx
      have hls : ∀ x ∈ xs, x.lv ≤ m := Cnd.lvs_le.mp (by have : Cnd.lvs xs + 1 ≤ m + 1 := hl; omega)
      have hn : Cnd.ns xs + 1 ≤ 60 := hn
      have hn1 : ∀ x ∈ xs, x.n ≤ 60 := fun x hx => by
        obtain ⟨l1, l2, rfl⟩ := List.append_of_mem hx
        rw [Cnd.ns_app] at hn
        have : Cnd.ns (x :: l2) = x.n + Cnd.ns l2 := rfl
        omega
      have hxl := Cnd.len_ns xs
      cases a with
      | true =>
        simp only [Cnd.d, coW]
        trivial
        refine w_iff ?_
        trivial
        refine w_compO (l := xs) Cnd.d (fun x => .bl (tr s x)) ?_ (by rw [sl]; omega) (fun x hx' M' o => ⟨_, rfl, ?_⟩) fun M' o => ?_
        · trivial
          rw [Cnd.ds_is]
          exact so_tup
        · trivial
          refine ih (n := n) (hls x hx') (hn1 x hx') (hxs x hx') ?_
          intro M2 o2
          exact ⟨rfl, o2⟩
        · rw [map_bl]
          trivial
          refine o_ninbr last_at ?_
          trivial
          have := h _ (o.trans (Only.push (o := .lst ((xs.map (tr s)).map .bl))))
          simp only [tr, trs_is] at this
          exact this
      | false =>
        simp only [Cnd.d, coW]
        trivial
        refine w_iff ?_
        trivial
        refine w_compO (l := xs) Cnd.d (fun x => .bl (tr s x)) ?_ (by rw [sl]; omega) (fun x hx' M' o => ⟨_, rfl, ?_⟩) fun M' o => ?_
        · trivial
          rw [Cnd.ds_is]
          exact so_tup
        · trivial
          refine ih (n := n) (hls x hx') (hn1 x hx') (hxs x hx') ?_
          intro M2 o2
          exact ⟨rfl, o2⟩
        · rw [map_bl]
          trivial
          refine o_inbr last_at ?_
          trivial
          have := h _ (o.trans (Only.push (o := .lst ((xs.map (tr s)).map .bl))))
          simp only [tr, trs_is] at this
          exact this
end
end

end Ev

set_option maxRecDepth 100000
set_option maxHeartbeats 2000000
namespace Ev
open PySem
local macro_rules
  | `(tactic| trivial) => `(tactic| repeat with_reducible first
    | (refine g_ev ?_; first | refine w_var (by with_unfolding_all rfl) ?_ | refine w_lit ?_ | refine w_ix ?_ | refine w_cmp ?_ | refine w_tup ?_ | refine w_bin ?_ | refine w_call1 ?_ | refine w_call2 ?_ | refine w_call3 ?_ | refine w_call4 ?_ | refine w_call ?_ | refine w_bf ?_ | refine w_lst ?_ | refine w_bop ?_ | refine w_nt ?_ | refine w_x1 ?_ | refine w_ite ?_ | refine w_slc ?_ | refine w_cst ?_ | refine w_neg ?_ | refine w_append ?_ | refine w_lrg ?_ | refine w_chain ?_ | refine w_x2 ?_ | refine w_fst ?_ | refine w_join ?_ | refine w_count ?_ | refine w_rev ?_ | refine w_dix ?_)
    | refine m_d ?_ | refine m_l ?_ | refine isB ?_ | refine isI ?_ | refine w_nx ?_
    | (refine g_evs ?_; first | refine w_evs ?_ | refine w_evs0 ?_)
    | (refine g_exs ?_; first | refine w_exs ?_ | refine w_exs0 ?_)
    | (refine g_ex ?_; first | refine w_if1 ?_ | refine w_if2 ?_ | refine w_set ?_ | refine w_ret ?_ | refine w_expr ?_ | refine w_par ?_ | refine w_unp ?_ | refine w_put ?_)
    | refine w_rt ?_ | refine w_end ?_
    | (refine g_evB ?_; first | refine w_evBo ?_ | refine w_evBa ?_ | refine w_evB0 ?_)
    | (refine g_evT ?_; first | refine w_evT ?_ | refine w_evT0 ?_)
    | (refine g_op ?_; first | refine o_add ?_ | refine o_eq ?_ | refine o_isi ?_ | refine o_sub ?_ | refine b_lent ?_ | refine o_gt ?_ | refine o_lt ?_ | refine o_eqs ?_ | refine o_nes ?_ | refine b_tuple ?_ | refine b_int ?_ | refine o_gei ?_ | refine o_lei ?_ | refine o_nei ?_ | refine b_min ?_ | refine b_max ?_ | refine o_ixt at0 ?_ | refine o_ixt at1 ?_ | refine hD0 ?_ | refine hD1 ?_ | refine hD2 ?_)
    | (refine g_br ?_; first | refine br_nt ?_ | refine br_tt ?_ | refine br_ff ?_ | refine br_isiT (by with_unfolding_all rfl) ?_ | refine br_isiF (by with_unfolding_all rfl) ?_ )
    | (refine g_evI ?_; first | refine w_seq ?_ | refine w_rng1 ?_ | refine w_rng2 ?_ | refine w_rng3 ?_ | refine w_enum ?_ | refine w_zip ?_)
    | (refine g_evO ?_; first | refine w_evO ?_ | refine w_evO0 ?_)
    | (refine g_evF ?_; first | refine w_evF0 ?_ | refine w_txt ?_ ?_ | refine w_val ?_)
    | refine w_lit ?_)
section
variable {fs : Nat → Option Fn} {n : Nat} {F : Int} {ss ns : List Int} {s : St}
section
variable [Has fs 34 fn_is_integer] [Has fs 35 fn_is_between] [Has fs 36 fn_are_integers] [Has fs 37 fn_is_a_house] [Has fs 38 fn_need_house] [Has fs 39 fn_are_apart] [Has fs 40 fn_are_places] [Has fs 41 fn_are_notes] [Has fs 42 fn_are_cars] [Has fs 43 fn_is_a_floor] [Has fs 44 fn_is_a_call]
  [Has fs 45 fn_is_rising] [Has fs 46 fn_are_calls] [Has fs 47 fn_are_rising_integers] [Has fs 48 fn_are_panels] [Has fs 49 fn_is_a_car] [Has fs 50 fn_is_a_harm] [Has fs 51 fn_are_harms] [Has fs 52 fn_is_a_stand] [Has fs 53 fn_need_stand] [Has fs 54 fn_is_composed] [Has fs 55 fn_is_plain] [Has fs 56 fn_is_a_condition] [Has fs 57 fn_need_condition] [Has fs 58 fn_parts_of] [Has fs 59 fn_lit_floors] [Has fs 60 fn_plain_of_car] [Has fs 61 fn_true_at] [Has fs 62 fn_holds]
theorem holds_ok {M : MH} {P : D → MH → Prop} {x : Cnd} (hh : Hs F ss ns) (hs : StOk F ss ns s) (hx : x.ok F ss ns) (hn : x.n ≤ 60) (hl : x.lv ≤ 6) (h : ∀ M', Only M M' → P (.bl (tr s x)) M') : Ok (run fs (n + 10) 62 [hD F ss ns, s.d, x.d] M) P := by
  refine w_fn (fn := fn_holds) rfl ?_
  simp only [fn_holds, b_holds]
  trivial
  refine need_house_ok (n := n + 4) hh.sz hh.is ?_
  trivial
  have hss := hh.l1
  refine need_stand_ok (n := n + 2) (by omega) (by have := hs.sz hh; show _ ≤ 1000000; omega) (hs.is hh) ?_
  trivial
  refine need_condition_ok (n := n + 2) hx hn hl ?_
  intro M1 o1
  trivial
  refine true_at_ok hh hs 6 hl hn hx ?_
  intro M2 o2
  trivial
  exact h M2 (o1.trans o2)
end
/-! ### all plain conditions -/
section
variable {C : Nat → List D → MH → Res D} {σ : Sg} {M : MH}
end
section
variable {fs : Nat → Option Fn} {F : Int} {ss ns : List Int}
variable [Has fs 2 fn_law_calls] [Has fs 33 fn_law_all_plain]
end
end

end Ev

set_option maxRecDepth 100000
set_option maxHeartbeats 2000000
namespace Ev
open PySem
local macro_rules
  | `(tactic| trivial) => `(tactic| repeat with_reducible first
    | (refine g_ev ?_; first | refine w_var (by with_unfolding_all rfl) ?_ | refine w_lit ?_ | refine w_ix ?_ | refine w_cmp ?_ | refine w_tup ?_ | refine w_bin ?_ | refine w_call1 ?_ | refine w_call2 ?_ | refine w_call3 ?_ | refine w_call4 ?_ | refine w_call ?_ | refine w_all0 ?_ | refine w_bf ?_ | refine w_lst ?_ | refine w_bop ?_ | refine w_nt ?_ | refine w_x1 ?_ | refine w_ite ?_ | refine w_slc ?_ | refine w_cst ?_ | refine w_neg ?_ | refine w_append ?_ | refine w_lrg ?_ | refine w_chain ?_ | refine w_x2 ?_ | refine w_fst ?_ | refine w_join ?_ | refine w_count ?_ | refine w_rev ?_ | refine w_dix ?_)
    | refine m_d ?_ | refine m_l ?_ | refine isB ?_ | refine isI ?_ | refine w_nx ?_
    | (refine g_evs ?_; first | refine w_evs ?_ | refine w_evs0 ?_)
    | (refine g_exs ?_; first | refine w_exs ?_ | refine w_exs0 ?_)
    | (refine g_ex ?_; first | refine w_if1 ?_ | refine w_if2 ?_ | refine w_set ?_ | refine w_ret ?_ | refine w_expr ?_ | refine w_par ?_ | refine w_unp ?_ | refine w_put ?_)
    | refine w_rt ?_ | refine w_end ?_
    | (refine g_evB ?_; first | refine w_evBo ?_ | refine w_evBa ?_ | refine w_evB0 ?_)
    | (refine g_evT ?_; first | refine w_evT ?_ | refine w_evT0 ?_)
    | (refine g_op ?_; first | refine o_add ?_ | refine o_eq ?_ | refine o_isi ?_ | refine o_sub ?_ | refine b_lent ?_ | refine o_gt ?_ | refine o_lt ?_ | refine o_eqs ?_ | refine o_nes ?_ | refine b_tuple ?_ | refine b_int ?_ | refine o_gei ?_ | refine o_lei ?_ | refine o_nei ?_ | refine b_min ?_ | refine b_max ?_ )
    | (refine g_br ?_; first | refine br_nt ?_ | refine br_tt ?_ | refine br_ff ?_ | refine br_isiT (by with_unfolding_all rfl) ?_ | refine br_isiF (by with_unfolding_all rfl) ?_ )
    | (refine g_evI ?_; first | refine w_seq ?_ | refine w_rng1 ?_ | refine w_rng2 ?_ | refine w_rng3 ?_ | refine w_enum ?_ | refine w_zip ?_)
    | (refine g_evO ?_; first | refine w_evO ?_ | refine w_evO0 ?_)
    | (refine g_evF ?_; first | refine w_evF0 ?_ | refine w_txt ?_ ?_ | refine w_val ?_)
    | refine w_lit ?_)
open PyProof.Rows
/-! ### what repr shows -/
def ascB (s : Str) : Bool := s.cps.toList.all fun c => decide (c < 16 ^ 8)
mutual
def nice : D → Bool
  | .bl _ => true
  | .int i => decide (0 ≤ i) && decide (i < 1000)
  | .str s => ascB s
  | .tup ds => nices ds
  | _ => false
def nices : List D → Bool
  | [] => true
  | d :: ds => nice d && nices ds
end
theorem nices_of : ∀ {ds : List D}, (∀ d ∈ ds, nice d = true) → nices ds = true
  | [], _ => rfl
  | d :: ds, h => by
    show (nice d && nices ds) = true
    rw [h d (by simp), nices_of fun x hx => h x (List.mem_cons_of_mem _ hx)]
    rfl
theorem int_shown : ∀ i : Fin 1000, (PyData.int (i.val : Int)).shown.length ≤ 3 := by decide +kernel
theorem bool_shown : ∀ b : Bool, (PyData.bool b).shown.length ≤ 5 := by decide +kernel
theorem lit_lens : (("(" : String) : Str).length = 1 ∧ (("[" : String) : Str).length = 1 ∧ (("]" : String) : Str).length = 1 ∧ ((", " : String) : Str).length = 2 ∧ ((",)" : String) : Str).length = 2 ∧ ((")" : String) : Str).length = 1 ∧ (("" : String) : Str).length = 0 := by decide +kernel
theorem tupText_le (ts : List Str) : (tupleText ts).length ≤ piled ts + 3 := by
  obtain ⟨a1, a2, a3, a4, a5, a6, a7⟩ := lit_lens
  show (("(" : Str) ++ Str.join ", " ts ++ (if ts.length == 1 then ",)" else ")" : String)).length ≤ _
  have h1 : (Str.join ", " ts).length ≤ piled ts := by
    cases ts with
    | nil => exact Nat.zero_le _
    | cons t ts =>
      have := join_length_add (t :: ts) (by simp)
      omega
  have h2 : (((if ts.length == 1 then ",)" else ")" : String) : Str)).length ≤ 2 := by
    split
    · exact Nat.le_of_eq a5
    · rw [a6]; decide
  rw [Str.length_append, Str.length_append, a1]
  omega
theorem tfrom_le : ∀ (ts : List Str) (k : Nat) (acc : Str), (textFrom k acc ts).length ≤ acc.length + piled ts
  | [], _, _ => Nat.le_add_right _ _
  | t :: r, k, acc => by
    obtain ⟨a1, a2, a3, a4, a5, a6, a7⟩ := lit_lens
    have h := tfrom_le r (k + 1) (acc ++ (if k > 0 then ", " else "" : String) ++ t)
    have h2 : (((if k > 0 then ", " else "" : String) : Str)).length ≤ 2 := by
      split
      · exact Nat.le_of_eq a4
      · rw [a7]; decide
    rw [Str.length_append, Str.length_append] at h
    rw [piled_cons]
    show (textFrom (k + 1) _ r).length ≤ _
    omega
theorem lstText_le (ts : List Str) : (listText ts).length ≤ piled ts + 2 := by
  obtain ⟨a1, a2, a3, a4, a5, a6, a7⟩ := lit_lens
  have := tfrom_le ts 0 "["
  show (textFrom 0 "[" ts ++ "]" : Str).length ≤ _
  rw [Str.length_append, a3]
  rw [a2] at this
  omega
mutual
theorem nice_ok : ∀ d : D, nice d = true → (val d).showable = true ∧ (val d).shown.length + 2 ≤ 12 * sz d
  | .non, h => by cases h
  | .ref _, h => by cases h
  | .scr _, h => by cases h
  | .bl b, _ => ⟨rfl, by
    have := bool_shown b
    show (PyData.bool b).shown.length + 2 ≤ 12 * 1
    omega⟩
  | .int i, h => by
    have h : (decide (0 ≤ i) && decide (i < 1000)) = true := h
    rw [Bool.and_eq_true, decide_eq_true_eq, decide_eq_true_eq] at h
    have h1 := int_shown ⟨i.toNat, by omega⟩
    have e : ((i.toNat : Nat) : Int) = i := by omega
    have h1 : (PyData.int ((i.toNat : Nat) : Int)).shown.length ≤ 3 := h1
    rw [e] at h1
    refine ⟨?_, ?_⟩
    · show decide (i.natAbs.log2 < 1920) = true
      exact decide_eq_true (Nat.lt_of_le_of_lt (Nat.log2_le_self _) (by omega))
    · show (PyData.int i).shown.length + 2 ≤ 12 * (i.natAbs.log2 + 1)
      omega
  | .str s, h => by
    have h1 := StrLaws.reprText_len s fun c hc => of_decide_eq_true (List.all_eq_true.mp h c hc)
    refine ⟨rfl, ?_⟩
    show (reprText s).length + 2 ≤ 12 * (s.length + 1)
    omega
  | .tup ds, h => by
    obtain ⟨h1, h2⟩ := nices_ok ds h
    refine ⟨h1, ?_⟩
    have := tupText_le (PyData.shownAll (vals ds))
    show (tupleText (PyData.shownAll (vals ds))).length + 2 ≤ 12 * (szs ds + 1)
    omega
theorem nices_ok : ∀ ds : List D, nices ds = true → PyData.showableAll (vals ds) = true ∧ piled (PyData.shownAll (vals ds)) ≤ 12 * szs ds
  | [], _ => ⟨rfl, Nat.zero_le _⟩
  | d :: ds, h => by
    have h : (nice d && nices ds) = true := h
    rw [Bool.and_eq_true] at h
    obtain ⟨h1, h2⟩ := nice_ok d h.1
    obtain ⟨h3, h4⟩ := nices_ok ds h.2
    refine ⟨?_, ?_⟩
    · show ((val d).showable && PyData.showableAll (vals ds)) = true
      rw [h1, h3]
      rfl
    · show piled ((val d).shown :: PyData.shownAll (vals ds)) ≤ 12 * (sz d + szs ds)
      rw [piled_cons]
      omega
end
theorem pdAll_val {M : MH} {n m : Nat} (hm : n ≤ m) : ∀ {ds : List D}, pls n ds = true → pdAll (pd M m) ds = some (vals ds)
  | [], _ => rfl
  | d :: ds, h => by
    have h : (pl n d && pls n ds) = true := h
    rw [Bool.and_eq_true] at h
    show (match pd M m d, pdAll (pd M m) ds with
      | some x, some xs => some (x :: xs)
      | _, _ => none) = _
    rw [pd_val h.1 hm, pdAll_val hm h.2]
    rfl
/-- repr([x, list, list]) -/
theorem repr3 {x : D} {ls ms : List D} (n0 : nice x = true) (n1 : nices ls = true) (n2 : nices ms = true) (p0 : pl 39 x = true) (p1 : pls 38 ls = true) (p2 : pls 38 ms = true) (hz : sz x + szs ls + szs ms ≤ 1000000) :
    ∃ t : Str, ∀ (M : MH) (p q : Nat) (P : TV → Prop), M[p]? = some (.lst ls) → M[q]? = some (.lst ms) → P (.d (.str t)) → Op (bfop M .repr [.lst [x, .ref p, .ref q]]) P := by
  obtain ⟨a1, a2⟩ := nice_ok x n0
  obtain ⟨b1, b2⟩ := nices_ok ls n1
  obtain ⟨c1, c2⟩ := nices_ok ms n2
  have l1 := lstText_le (PyData.shownAll (vals ls))
  have l2 := lstText_le (PyData.shownAll (vals ms))
  have l3 := lstText_le [(val x).shown, (PyData.list (vals ls)).shown, (PyData.list (vals ms)).shown]
  rw [piled_cons, piled_cons, piled_cons, piled_nil] at l3
  refine ⟨(PyData.list [val x, .list (vals ls), .list (vals ms)]).shown, fun M p q P hp hq h => b_repr (p := .list [val x, .list (vals ls), .list (vals ms)]) ?_ ?_ ?_ h⟩
  · show (match pd M 39 x, (match pd M 39 (.ref p), (match pd M 39 (.ref q), some ([] : List PyData) with
      | some x, some xs => some (x :: xs)
      | _, _ => none) with
      | some x, some xs => some (x :: xs)
      | _, _ => none) with
      | some x, some xs => some (x :: xs)
      | _, _ => none).map PyData.list = _
    have e : ∀ {r : Nat} {ds : List D}, M[r]? = some (.lst ds) → pls 38 ds = true → pd M 39 (.ref r) = some (.list (vals ds)) := fun {r ds} hr hd => by
      show (match rd M r with
        | some ds => (pdAll (pd M 38) ds).map PyData.list
        | none => none) = _
      rw [rd_at hr]
      show (pdAll (pd M 38) ds).map PyData.list = _
      rw [pdAll_val (Nat.le_refl _) hd]
      rfl
    rw [pd_val p0 (Nat.le_refl _), e hp p1, e hq p2]
    rfl
  · show ((val x).showable && (PyData.showableAll (vals ls) && (PyData.showableAll (vals ms) && true))) = true
    rw [a1, b1, c1]
    rfl
  · rw [sl]
    have e1 : (PyData.list (vals ls)).shown = listText (PyData.shownAll (vals ls)) := rfl
    have e2 : (PyData.list (vals ms)).shown = listText (PyData.shownAll (vals ms)) := rfl
    rw [e1, e2] at l3
    show (listText [(val x).shown, listText (PyData.shownAll (vals ls)), listText (PyData.shownAll (vals ms))]).length ≤ _
    omega
/-! ### what is shown is nice -/
theorem nice_i {i : Int} (h0 : 0 ≤ i) (h : i < 1000) : nice (.int i) = true := by
  show (decide (0 ≤ i) && decide (i < 1000)) = true
  rw [decide_eq_true h0, decide_eq_true h]
  rfl
theorem nice_ints {is : List Int} (h : ∀ i ∈ is, 0 ≤ i ∧ i < 1000) : nice (.tup (is.map .int)) = true := nices_of fun d hd => by
  obtain ⟨i, hi, rfl⟩ := List.mem_map.mp hd
  exact nice_i (h i hi).1 (h i hi).2
theorem nice2 {a b : D} (h : nice a = true) (h2 : nice b = true) : nice (.tup [a, b]) = true := by
  show (nice a && (nice b && true)) = true
  rw [h, h2]; rfl
theorem nice3 {a b c : D} (h : nice a = true) (h2 : nice b = true) (h3 : nice c = true) : nice (.tup [a, b, c]) = true := by
  show (nice a && (nice b && (nice c && true))) = true
  rw [h, h2, h3]; rfl
theorem nice4 {a b c d : D} (h : nice a = true) (h2 : nice b = true) (h3 : nice c = true) (h4 : nice d = true) : nice (.tup [a, b, c, d]) = true := by
  show (nice a && (nice b && (nice c && (nice d && true)))) = true
  rw [h, h2, h3, h4]; rfl
theorem Hs.nice {F : Int} {ss ns : List Int} (h : Hs F ss ns) : nice (hD F ss ns) = true := by
  have := h.f0; have := h.f1
  exact nice3 (nice_i (by omega) (by omega)) (nice_ints fun i hi => by have := h.s i hi; omega) (nice_ints fun i hi => by have := h.n i hi; omega)
theorem asc_ud : ascB "up" = true ∧ ascB "down" = true ∧ ascB "crash" = true ∧ ascB "end" = true ∧ ascB "torn" = true := by decide +kernel
theorem nice_call {F : Int} {c : Int × Str} (hF : F ≤ 8) (h : okCall F c) : nice (callD c) = true := by
  obtain ⟨f, s⟩ := c
  obtain ⟨h0, h1, h2⟩ := h
  have h0 : 0 ≤ f := h0
  have h1 : f < F := h1
  refine nice2 (nice_i h0 (by omega)) ?_
  rcases h2 with ⟨rfl, _⟩ | ⟨rfl, _⟩
  · exact asc_ud.1
  · exact asc_ud.2.1
theorem nice_harm {x : Hm} (h : x.ok) : nice x.d = true := by
  cases x with
  | crash c d => obtain ⟨h0, h1, h2, h3⟩ := h; exact nice3 asc_ud.2.2.1 (nice_i h0 (by omega)) (nice_i h2 (by omega))
  | end_ c => obtain ⟨h0, h1⟩ := h; exact nice2 asc_ud.2.2.2.1 (nice_i h0 (by omega))
  | torn c => obtain ⟨h0, h1⟩ := h; exact nice2 asc_ud.2.2.2.2 (nice_i h0 (by omega))
theorem StOk.nice {F : Int} {ss ns : List Int} {s : St} (hh : Hs F ss ns) (h : StOk F ss ns s) : Ev.nice s.d = true := by
  have hF := hh.f1; have hl := hh.l1
  have n1 : Ev.nice (.tup (s.cars.map CarT.d)) = true := nices_of fun d hd => by
    obtain ⟨c, hc, rfl⟩ := List.mem_map.mp hd
    have h1 := h.f c hc
    exact nice3 (nice_i h1.1 (by omega)) rfl (nice_ints fun i hi => by have := h.dig c hc i hi; omega)
  have n2 : Ev.nice (.tup (s.calls.map callD)) = true := nices_of fun d hd => by
    obtain ⟨c, hc, rfl⟩ := List.mem_map.mp hd
    exact nice_call hF (h.k c hc)
  have n3 : Ev.nice (.tup (s.panels.map panD)) = true := nices_of fun d hd => by
    obtain ⟨l, hl, rfl⟩ := List.mem_map.mp hd
    exact nice_ints fun i hi => by have := h.pf l hl i hi; omega
  have n4 : Ev.nice (.tup (s.harms.map Hm.d)) = true := nices_of fun d hd => by
    obtain ⟨x, hx, rfl⟩ := List.mem_map.mp hd
    exact nice_harm ((h.h x hx).ok hl)
  show (Ev.nice (.tup (s.cars.map CarT.d)) && (Ev.nice (.tup (s.calls.map callD)) && (Ev.nice (.tup (s.panels.map panD)) && (true && (Ev.nice (.tup (s.harms.map Hm.d)) && true))))) = true
  rw [n1, n2, n3, n4]
  rfl
theorem pl_tup {n : Nat} {ds : List D} (h : ∀ d ∈ ds, pl n d = true) : pl (n + 1) (.tup ds) = true := pls_of h
theorem pl_ints {n : Nat} (is : List Int) : pl (n + 2) (.tup (is.map .int)) = true := pls_ints is
theorem hD_pl {F : Int} {ss ns : List Int} {n : Nat} : pl (n + 3) (hD F ss ns) = true := pl_tup fun d hd => by
  rcases List.mem_cons.mp hd with rfl | hd
  · rfl
  rcases List.mem_cons.mp hd with rfl | hd
  · exact pl_ints ss
  rcases List.mem_cons.mp hd with rfl | hd
  · exact pl_ints ns
  · cases hd
theorem St.pl (s : St) {n : Nat} : Ev.pl (n + 5) s.d = true := by
  have n1 : Ev.pl (n + 4) (.tup (s.cars.map CarT.d)) = true := pl_tup fun d hd => by
    obtain ⟨c, hc, rfl⟩ := List.mem_map.mp hd
    show (Ev.pl (n + 2) (.int c.f) && (Ev.pl (n + 2) (.bl c.o) && (Ev.pl (n + 2) (.tup (c.own.map .int)) && true))) = true
    rw [pl_ints]
    rfl
  have n2 : Ev.pl (n + 4) (.tup (s.calls.map callD)) = true := pl_tup fun d hd => by
    obtain ⟨c, hc, rfl⟩ := List.mem_map.mp hd
    rfl
  have n3 : Ev.pl (n + 4) (.tup (s.panels.map panD)) = true := pl_tup fun d hd => by
    obtain ⟨l, hl, rfl⟩ := List.mem_map.mp hd
    exact pl_ints l
  have n4 : Ev.pl (n + 4) (.tup (s.harms.map Hm.d)) = true := pl_tup fun d hd => by
    obtain ⟨x, hx, rfl⟩ := List.mem_map.mp hd
    cases x <;> rfl
  show (Ev.pl (n + 4) (.tup (s.cars.map CarT.d)) && (Ev.pl (n + 4) (.tup (s.calls.map callD)) && (Ev.pl (n + 4) (.tup (s.panels.map panD)) && (true && (Ev.pl (n + 4) (.tup (s.harms.map Hm.d)) && true))))) = true
  rw [n1, n2, n3, n4]
  rfl
theorem asc_words : ascB "fire" = true ∧ ascB "harm" = true ∧ ascB "call" = true ∧ ascB "open" = true ∧ ascB "above" = true ∧ ascB "below" = true ∧ ascB "here" = true ∧ ascB "at" = true ∧ ascB "panel" = true ∧ ascB "near" = true ∧ ascB "note" = true ∧ ascB "not" = true ∧ ascB "all" = true ∧ ascB "some" = true := by decide +kernel
theorem len_words : ("fire" : Str).length = 4 ∧ ("harm" : Str).length = 4 ∧ ("call" : Str).length = 4 ∧ ("open" : Str).length = 4 ∧ ("above" : Str).length = 5 ∧ ("below" : Str).length = 5 ∧ ("here" : Str).length = 4 ∧ ("at" : Str).length = 2 ∧ ("panel" : Str).length = 5 ∧ ("near" : Str).length = 4 ∧ ("note" : Str).length = 4 ∧ ("not" : Str).length = 3 ∧ ("all" : Str).length = 3 ∧ ("some" : Str).length = 4 := by decide +kernel
theorem Pln.shows {F : Int} {ss ns : List Int} {p : Pln} (hh : Hs F ss ns) (h : okPln F ss ns p) : nice p.d = true ∧ sz p.d ≤ 50 := by
  have hF := hh.f1; have hl := hh.l1
  obtain ⟨w1, w2, w3, w4, w5, w6, w7, w8, w9, w10, w11, w12, w13, w14⟩ := asc_words
  obtain ⟨l1, l2, l3, l4, l5, l6, l7, l8, l9, l10, l11, l12, l13, l14⟩ := len_words
  have small : ∀ {i : Int}, 0 ≤ i → i < 1000 → nice (.int i) = true ∧ sz (.int i) ≤ 11 := fun h0 h1 => ⟨nice_i h0 h1, sz_i h0 h1⟩
  have one : ∀ {w : Str}, ascB w = true → w.length ≤ 5 → nice (.tup [.str w]) = true ∧ sz (.tup [.str w]) ≤ 50 := fun {w} a b => ⟨by show (nice (.str w) && true) = true; rw [Bool.and_true]; exact a, by show (w.length + 1 + 0) + 1 ≤ 50; omega⟩
  have two : ∀ {w : Str} {i : Int}, ascB w = true → w.length ≤ 5 → 0 ≤ i → i < 1000 → nice (.tup [.str w, .int i]) = true ∧ sz (.tup [.str w, .int i]) ≤ 50 := fun {w i} a b c d => ⟨nice2 a (nice_i c d), by have := sz_i c d; show (w.length + 1 + (sz (.int i) + 0)) + 1 ≤ 50; omega⟩
  have three : ∀ {w : Str} {i j : Int}, ascB w = true → w.length ≤ 5 → 0 ≤ i → i < 1000 → 0 ≤ j → j < 1000 → nice (.tup [.str w, .int i, .int j]) = true ∧ sz (.tup [.str w, .int i, .int j]) ≤ 50 := fun {w i j} a b c d e f => ⟨nice3 a (nice_i c d) (nice_i e f), by have := sz_i c d; have := sz_i e f; show (w.length + 1 + (sz (.int i) + (sz (.int j) + 0))) + 1 ≤ 50; omega⟩
  cases p with
  | fire => exact one w1 (by omega)
  | harm => exact one w2 (by omega)
  | call f s =>
    obtain ⟨h0, h1, h2⟩ := h
    have h0 : 0 ≤ f := h0
    have h1 : f < F := h1
    have hs : ascB s = true ∧ s.length ≤ 5 := by
      obtain ⟨b1, b2, _⟩ := len_ud
      rcases h2 with ⟨rfl, _⟩ | ⟨rfl, _⟩
      · exact ⟨asc_ud.1, by omega⟩
      · exact ⟨asc_ud.2.1, by omega⟩
    have hf := sz_i h0 (show f < 1000 by omega)
    refine ⟨nice3 w3 (nice_i h0 (by omega)) hs.1, ?_⟩
    have := hs.2
    show (("call" : Str).length + 1 + (sz (.int f) + (s.length + 1 + 0))) + 1 ≤ 50
    omega
  | opn c => exact two w4 (by omega) h.1 (by have := h.2; omega)
  | above c => exact two w5 (by omega) h.1 (by have := h.2; omega)
  | below c => exact two w6 (by omega) h.1 (by have := h.2; omega)
  | here c => exact two w7 (by omega) h.1 (by have := h.2; omega)
  | at_ c f => exact three w8 (by omega) h.1.1 (by have := h.1.2; omega) h.2.1 (by have := h.2.2; omega)
  | panel c f => exact three w9 (by omega) h.1.1 (by have := h.1.2; omega) h.2.1 (by have := h.2.2; omega)
  | near c d => exact three w10 (by omega) h.1.1 (by have := h.1.2; omega) h.2.1.1 (by have := h.2.1.2; omega)
  | note c j v =>
    obtain ⟨h1, m, h2, h3, h4⟩ := h
    have hm := hh.n m (List.mem_of_getElem? h2)
    have a1 := sz_i h1.1 (show c < 1000 by omega)
    have a2 := sz_i h3.1 (show j < 1000 by omega)
    have a3 := sz_i h4.1 (show v < 1000 by omega)
    refine ⟨nice4 w11 (nice_i h1.1 (by omega)) (nice_i h3.1 (by omega)) (nice_i h4.1 (by omega)), ?_⟩
    show (("note" : Str).length + 1 + (sz (.int c) + (sz (.int j) + (sz (.int v) + 0)))) + 1 ≤ 50
    omega
theorem Pln.pl (p : Pln) {n : Nat} : Ev.pl (n + 2) p.d = true := by cases p <;> rfl
mutual
theorem Cnd.shows {F : Int} {ss ns : List Int} (hh : Hs F ss ns) : ∀ x : Cnd, x.ok F ss ns → nice x.d = true ∧ sz x.d ≤ 50 * x.n
  | .pl p, h => by
    obtain ⟨a, b⟩ := Pln.shows hh h
    exact ⟨a, b⟩
  | .nt x, h => by
    obtain ⟨a, b⟩ := Cnd.shows hh x h
    refine ⟨nice2 asc_words.2.2.2.2.2.2.2.2.2.2.2.1 a, ?_⟩
    have := len_words.2.2.2.2.2.2.2.2.2.2.2.1
    show (("not" : Str).length + 1 + (sz x.d + 0)) + 1 ≤ 50 * (x.n + 1)
    omega
  | .co a xs, h => by
    obtain ⟨b, c⟩ := Cnd.showss hh xs h
    have hw : ascB (coW a) = true ∧ (coW a).length ≤ 4 := by
      obtain ⟨_, _, _, _, _, _, _, _, _, _, _, _, w13, w14⟩ := asc_words
      obtain ⟨_, _, _, _, _, _, _, _, _, _, _, _, l13, l14⟩ := len_words
      cases a
      · exact ⟨w14, by show ("some" : Str).length ≤ 4; omega⟩
      · exact ⟨w13, by show ("all" : Str).length ≤ 4; omega⟩
    refine ⟨?_, ?_⟩
    · show (ascB (coW a) && nices (Cnd.ds xs)) = true
      rw [hw.1, b]
      rfl
    · have := hw.2
      show ((coW a).length + 1 + szs (Cnd.ds xs)) + 1 ≤ 50 * (Cnd.ns xs + 1)
      omega
theorem Cnd.showss {F : Int} {ss ns : List Int} (hh : Hs F ss ns) : ∀ xs : List Cnd, Cnd.oks F ss ns xs → nices (Cnd.ds xs) = true ∧ szs (Cnd.ds xs) ≤ 50 * Cnd.ns xs
  | [], _ => ⟨rfl, Nat.zero_le _⟩
  | x :: xs, h => by
    obtain ⟨a, b⟩ := Cnd.shows hh x h.1
    obtain ⟨c, d⟩ := Cnd.showss hh xs h.2
    refine ⟨?_, ?_⟩
    · show (nice x.d && nices (Cnd.ds xs)) = true
      rw [a, c]
      rfl
    · show sz x.d + szs (Cnd.ds xs) ≤ 50 * (x.n + Cnd.ns xs)
      omega
end
mutual
theorem Cnd.pl_ok : ∀ (x : Cnd) {n : Nat}, x.lv + 1 ≤ n → Ev.pl n x.d = true
  | .pl p, n, h => by
    obtain ⟨k, rfl⟩ : ∃ k, n = k + 2 := ⟨n - 2, by have : 1 + 1 ≤ n := h; omega⟩
    exact p.pl
  | .nt x, n, h => by
    have h : x.lv + 1 + 1 ≤ n := h
    obtain ⟨k, rfl⟩ : ∃ k, n = k + 2 := ⟨n - 2, by omega⟩
    show (true && (Ev.pl (k + 1) x.d && true)) = true
    rw [Cnd.pl_ok x (by omega)]
    rfl
  | .co a xs, n, h => by
    have h : Cnd.lvs xs + 1 + 1 ≤ n := h
    obtain ⟨k, rfl⟩ : ∃ k, n = k + 2 := ⟨n - 2, by omega⟩
    show (true && pls (k + 1) (Cnd.ds xs)) = true
    rw [Cnd.pls_ok xs (by omega)]
    rfl
theorem Cnd.pls_ok : ∀ (xs : List Cnd) {n : Nat}, Cnd.lvs xs + 1 ≤ n → pls n (Cnd.ds xs) = true
  | [], _, _ => rfl
  | x :: xs, n, h => by
    have h : max x.lv (Cnd.lvs xs) + 1 ≤ n := h
    show (Ev.pl n x.d && pls n (Cnd.ds xs)) = true
    rw [Cnd.pl_ok x (by omega), Cnd.pls_ok xs (by omega)]
    rfl
end

end Ev

set_option maxRecDepth 100000
set_option maxHeartbeats 2000000
namespace Ev
open PySem
local macro_rules
  | `(tactic| trivial) => `(tactic| repeat with_reducible first
    | (refine g_ev ?_; first | refine w_var (by with_unfolding_all rfl) ?_ | refine w_lit ?_ | refine w_ix ?_ | refine w_cmp ?_ | refine w_tup ?_ | refine w_bin ?_ | refine w_call1 ?_ | refine w_call2 ?_ | refine w_call3 ?_ | refine w_call4 ?_ | refine w_call ?_ | refine w_all0 ?_ | refine w_bf ?_ | refine w_lst ?_ | refine w_bop ?_ | refine w_nt ?_ | refine w_x1 ?_ | refine w_ite ?_ | refine w_slc ?_ | refine w_cst ?_ | refine w_neg ?_ | refine w_append ?_ | refine w_lrg ?_ | refine w_chain ?_ | refine w_x2 ?_ | refine w_fst ?_ | refine w_join ?_ | refine w_count ?_ | refine w_rev ?_ | refine w_dix ?_)
    | refine m_d ?_ | refine m_l ?_ | refine isB ?_ | refine isI ?_ | refine w_nx ?_
    | (refine g_evs ?_; first | refine w_evs ?_ | refine w_evs0 ?_)
    | (refine g_exs ?_; first | refine w_exs ?_ | refine w_exs0 ?_)
    | (refine g_ex ?_; first | refine w_if1 ?_ | refine w_if2 ?_ | refine w_set ?_ | refine w_ret ?_ | refine w_expr ?_ | refine w_par ?_ | refine w_unp ?_ | refine w_put ?_)
    | refine w_rt ?_ | refine w_end ?_
    | (refine g_evB ?_; first | refine w_evBo ?_ | refine w_evBa ?_ | refine w_evB0 ?_)
    | (refine g_evT ?_; first | refine w_evT ?_ | refine w_evT0 ?_)
    | (refine g_op ?_; first | refine o_add ?_ | refine o_eq ?_ | refine o_isi ?_ | refine o_sub ?_ | refine b_lent ?_ | refine o_gt ?_ | refine o_lt ?_ | refine o_eqs ?_ | refine o_nes ?_ | refine b_tuple ?_ | refine b_int ?_ | refine o_gei ?_ | refine o_lei ?_ | refine o_nei ?_ | refine b_min ?_ | refine b_max ?_ )
    | (refine g_br ?_; first | refine br_nt ?_ | refine br_tt ?_ | refine br_ff ?_ | refine br_isiT (by with_unfolding_all rfl) ?_ | refine br_isiF (by with_unfolding_all rfl) ?_ )
    | (refine g_evI ?_; first | refine w_seq ?_ | refine w_rng1 ?_ | refine w_rng2 ?_ | refine w_rng3 ?_ | refine w_enum ?_ | refine w_zip ?_)
    | (refine g_evO ?_; first | refine w_evO ?_ | refine w_evO0 ?_)
    | (refine g_evF ?_; first | refine w_evF0 ?_ | refine w_txt ?_ ?_ | refine w_val ?_)
    | refine w_for ?_)
theorem big_right {i j : Int} (h : j.natAbs < 2 ^ 64) : bigOk i j = true := by
  unfold bigOk
  rw [decide_eq_true h]
  simp
section
variable {fs : Nat → Option Fn} [Has fs 15 fn_law_pot]
theorem pot_ok {n : Nat} {M : MH} {ns : List Int} {k : Nat} {P : D → MH → Prop} (h : ∀ M', M'.length = M.length + 1 → Pot M' M.length 0 → Only M M' → P (.ref M.length) M') : Ok (run fs (n + 1) 15 [scrD ns, .int k] M) P := by
  refine w_fn (fn := fn_law_pot) rfl ?_
  simp only [fn_law_pot, b_law_pot]
  trivial
  refine o_mul (big_left (by decide)) ?_
  trivial
  refine op_some ?_
  refine ⟨ns.map .int, fun _ => rfl, fun i σ M' => ∃ (t : Int) (o : Option D), M = M' ∧ σ = [some (scrD ns), some (.int k), some (.int t), o, none], ⟨_, none, rfl, rfl⟩, ?_, ?_⟩
  · rintro i d σ M' hi ⟨t, o, rfl, rfl⟩
    have hi2 : i < ns.length := by
      have := (List.getElem?_eq_some_iff.mp hi).1
      simpa using this
    have hd : d = .int ns[i] := by
      rw [List.getElem?_map, List.getElem?_eq_getElem hi2] at hi
      exact (Option.some.inj hi).symm
    subst hd
    refine ⟨_, rfl, ?_⟩
    trivial
    refine o_mul (big_right (by decide)) ?_
    trivial
    refine o_mul (big_right (by decide)) ?_
    trivial
    refine o_pow (by decide) (by decide) (by decide +kernel) ?_
    trivial
    refine o_mod (by decide +kernel) ?_
    trivial
    exact ⟨_, _, rfl, rfl⟩
  · rintro σ M' ⟨t, o, rfl, rfl⟩
    trivial
    refine b_lenc ?_
    trivial
    refine ⟨fun q => ?_, fun q => ?_⟩
    · have q := of_decide_eq_true q
      trivial
      obtain ⟨x, hx, ha⟩ := in_at (l := ns.map D.int) (i := (k : Int)) (by omega) q
      refine o_ixc ha ?_
      obtain ⟨c, _, rfl⟩ := List.mem_map.mp hx
      trivial
      refine o_pow (by decide) (by decide) (by decide +kernel) ?_
      trivial
      refine o_mul (big_right (by decide)) ?_
      trivial
      refine o_mul (big_right (by decide)) ?_
      trivial
      refine o_pow (by decide) (by decide) (by decide +kernel) ?_
      trivial
      refine o_mod (by decide +kernel) ?_
      trivial
      exact h _ (by simp) ⟨_, _, _, last_at, Int.emod_nonneg _ (by decide +kernel), Int.lt_trans (Int.emod_lt_of_pos _ (by decide +kernel)) (by decide +kernel), Int.le_refl _, Int.le_refl _⟩ Only.push
    · trivial
      refine o_pow (by decide) (by decide) (by decide +kernel) ?_
      trivial
      refine o_mul (big_right (by decide)) ?_
      trivial
      refine o_mul (big_right (by decide)) ?_
      trivial
      refine o_pow (by decide) (by decide) (by decide +kernel) ?_
      trivial
      refine o_mod (by decide +kernel) ?_
      trivial
      exact h _ (by simp) ⟨_, _, _, last_at, Int.emod_nonneg _ (by decide +kernel), Int.lt_trans (Int.emod_lt_of_pos _ (by decide +kernel)) (by decide +kernel), Int.le_refl _, Int.le_refl _⟩ Only.push
end
theorem b_repr_b {M : MH} {b : Bool} {P : TV → Prop} (h : P (.d (.str (PyData.bool b).shown))) : Op (bfop M .repr [.d (.bl b)]) P := b_repr (p := .bool b) rfl rfl (by have := bool_shown b; rw [sl]; omega) h
theorem o_addrr {M : MH} {q r : Nat} {a b : List D} {P : TV → Prop} (hq : M[q]? = some (.lst a)) (hr : M[r]? = some (.lst b)) (hc : a.length + b.length ≤ sizeLine) (h : P (.lst (a ++ b))) : Op (binop M .add (.d (.ref q)) (.d (.ref r))) P := by
  refine ⟨.lst (a ++ b), ?_, h⟩
  show (match sqW M (.d (.ref q)), sqW M (.d (.ref r)) with
    | some a, some b => guard' (decide (a.length + b.length ≤ sizeLine)) (TV.lst (a ++ b))
    | _, _ => none) = _
  have e : ∀ {q : Nat} {a : List D}, M[q]? = some (.lst a) → sqW M (.d (.ref q)) = some a := fun {q a} hq => by
    show (match M[q]? with
      | some (.lst ds) => some ds
      | _ => none) = _
    rw [hq]
  rw [e hq, e hr]
  show guard' (decide (a.length + b.length ≤ sizeLine)) (TV.lst (a ++ b)) = _
  unfold guard'
  rw [if_pos (decide_eq_true hc)]
theorem at_last {α : Type} {l : List α} {x : α} : L2.atI (l ++ [x]) (-1) = some x := by
  unfold L2.atI L2.ixN
  have e : (-1 + ((l ++ [x]).length : Int)).toNat = l.length := by simp; omega
  rw [if_neg (by decide), if_pos (by simp; omega), e]
  simp

end Ev

set_option maxRecDepth 100000
set_option maxHeartbeats 2000000
namespace Ev
open PySem
local macro_rules
  | `(tactic| trivial) => `(tactic| repeat with_reducible first
    | (refine g_ev ?_; first | refine w_var (by with_unfolding_all rfl) ?_ | refine w_lit ?_ | refine w_ix ?_ | refine w_cmp ?_ | refine w_tup ?_ | refine w_bin ?_ | refine w_call1 ?_ | refine w_call2 ?_ | refine w_call3 ?_ | refine w_call4 ?_ | refine w_call ?_ | refine w_all0 ?_ | refine w_bf ?_ | refine w_lst ?_ | refine w_bop ?_ | refine w_nt ?_ | refine w_x1 ?_ | refine w_ite ?_ | refine w_slc ?_ | refine w_cst ?_ | refine w_neg ?_ | refine w_append ?_ | refine w_lrg ?_ | refine w_chain ?_ | refine w_x2 ?_ | refine w_fst ?_ | refine w_join ?_ | refine w_count ?_ | refine w_rev ?_ | refine w_dix ?_)
    | refine m_d ?_ | refine m_l ?_ | refine isB ?_ | refine isI ?_ | refine w_nx ?_
    | (refine g_evs ?_; first | refine w_evs ?_ | refine w_evs0 ?_)
    | (refine g_exs ?_; first | refine w_exs ?_ | refine w_exs0 ?_)
    | (refine g_ex ?_; first | refine w_if1 ?_ | refine w_if2 ?_ | refine w_set ?_ | refine w_ret ?_ | refine w_expr ?_ | refine w_par ?_ | refine w_unp ?_ | refine w_put ?_)
    | refine w_rt ?_ | refine w_end ?_
    | (refine g_evB ?_; first | refine w_evBo ?_ | refine w_evBa ?_ | refine w_evB0 ?_)
    | (refine g_evT ?_; first | refine w_evT ?_ | refine w_evT0 ?_)
    | (refine g_op ?_; first | refine o_add ?_ | refine o_eq ?_ | refine o_isi ?_ | refine o_sub ?_ | refine b_lent ?_ | refine o_gt ?_ | refine o_lt ?_ | refine o_eqs ?_ | refine o_nes ?_ | refine b_tuple ?_ | refine b_int ?_ | refine o_gei ?_ | refine o_lei ?_ | refine o_nei ?_ | refine b_min ?_ | refine b_max ?_ | refine b_repr_b ?_)
    | (refine g_br ?_; first | refine br_nt ?_ | refine br_tt ?_ | refine br_ff ?_ | refine br_isiT (by with_unfolding_all rfl) ?_ | refine br_isiF (by with_unfolding_all rfl) ?_ )
    | (refine g_evI ?_; first | refine w_seq ?_ | refine w_rng1 ?_ | refine w_rng2 ?_ | refine w_rng3 ?_ | refine w_enum ?_ | refine w_zip ?_)
    | (refine g_evO ?_; first | refine w_evO ?_ | refine w_evO0 ?_)
    | (refine g_evF ?_; first | refine w_evF0 ?_ | refine w_txt ?_ ?_ | refine w_val ?_)
    | refine w_lit ?_)
def good (F : Int) (ss ns : List Int) (x : Cnd) : Prop := x.ok F ss ns ∧ x.n ≤ 60 ∧ x.lv ≤ 6
section
variable {fs : Nat → Option Fn}
section
variable [Has fs 0 fn_law_draw] [Has fs 2 fn_law_calls] [Has fs 3 fn_law_plain] [Has fs 4 fn_law_condition]
theorem condN {N lv p : Nat} {F : Int} {ss ns : List Int} {P : D → MH → Prop} {M : MH} {k : Nat} {room l : Int} (hN : lv + 3 ≤ N) (hh : Hs F ss ns) (hl : l = (lv : Int) + 1) (hp : Pot M p k) (r0 : 1 ≤ room) (r1 : room ≤ 60) (hk : k + 100 ^ (lv + 4) < 2 ^ 500)
    (h : ∀ (x : Cnd) M', (x.n : Int) ≤ room → (x.lv : Int) ≤ (lv : Int) + 1 → x.ok F ss ns → Pot M' p (k + 100 ^ (lv + 2)) → Later p M M' → P x.d M') : Ok (run fs N 4 [.ref p, hD F ss ns, .int room, .int l] M) P := by
  obtain ⟨n, rfl⟩ : ∃ n, N = n + lv + 3 := ⟨N - lv - 3, by omega⟩
  subst hl
  exact condT hh lv hp r0 r1 hk h
end
section
variable [Has fs 0 fn_law_draw] [Has fs 1 fn_law_house] [Has fs 2 fn_law_calls] [Has fs 3 fn_law_plain] [Has fs 4 fn_law_condition] [Has fs 17 fn_law_places] [Has fs 18 fn_law_notes] [Has fs 19 fn_law_some] [Has fs 20 fn_law_harms] [Has fs 21 fn_law_stand] [Has fs 33 fn_law_all_plain]
  [Has fs 34 fn_is_integer] [Has fs 35 fn_is_between] [Has fs 36 fn_are_integers] [Has fs 37 fn_is_a_house] [Has fs 38 fn_need_house] [Has fs 39 fn_are_apart] [Has fs 40 fn_are_places] [Has fs 41 fn_are_notes] [Has fs 42 fn_are_cars] [Has fs 43 fn_is_a_floor] [Has fs 44 fn_is_a_call]
  [Has fs 45 fn_is_rising] [Has fs 46 fn_are_calls] [Has fs 47 fn_are_rising_integers] [Has fs 48 fn_are_panels] [Has fs 49 fn_is_a_car] [Has fs 50 fn_is_a_harm] [Has fs 51 fn_are_harms] [Has fs 52 fn_is_a_stand] [Has fs 53 fn_need_stand] [Has fs 54 fn_is_composed] [Has fs 55 fn_is_plain] [Has fs 56 fn_is_a_condition] [Has fs 57 fn_need_condition] [Has fs 58 fn_parts_of] [Has fs 59 fn_lit_floors] [Has fs 60 fn_plain_of_car] [Has fs 61 fn_true_at] [Has fs 62 fn_holds]
  [Has fs 63 fn_law_true] [Has fs 64 fn_law_right_k11]
variable [Has fs 15 fn_law_pot] [Has fs 65 fn_law_k11]
end
end

end Ev

set_option maxRecDepth 100000
set_option maxHeartbeats 2000000
namespace Ev
open PySem
local macro_rules
  | `(tactic| trivial) => `(tactic| repeat with_reducible first
    | (refine g_ev ?_; first | refine w_var (by with_unfolding_all rfl) ?_ | refine w_lit ?_ | refine w_ix ?_ | refine w_cmp ?_ | refine w_tup ?_ | refine w_bin ?_ | refine w_call1 ?_ | refine w_call2 ?_ | refine w_call3 ?_ | refine w_call4 ?_ | refine w_call ?_ | refine w_bf ?_ | refine w_lst ?_ | refine w_bop ?_ | refine w_nt ?_ | refine w_x1 ?_ | refine w_ite ?_ | refine w_slc ?_ | refine w_cst ?_ | refine w_neg ?_ | refine w_append ?_ | refine w_lrg ?_ | refine w_chain ?_ | refine w_x2 ?_ | refine w_fst ?_ | refine w_join ?_ | refine w_count ?_ | refine w_rev ?_ | refine w_dix ?_)
    | refine m_d ?_ | refine m_l ?_ | refine isB ?_ | refine isI ?_ | refine w_nx ?_
    | (refine g_evs ?_; first | refine w_evs ?_ | refine w_evs0 ?_)
    | (refine g_exs ?_; first | refine w_exs ?_ | refine w_exs0 ?_)
    | (refine g_ex ?_; first | refine w_if1 ?_ | refine w_if2 ?_ | refine w_set ?_ | refine w_ret ?_ | refine w_expr ?_ | refine w_par ?_ | refine w_unp ?_ | refine w_put ?_)
    | refine w_rt ?_ | refine w_end ?_
    | (refine g_evB ?_; first | refine w_evBo ?_ | refine w_evBa ?_ | refine w_evB0 ?_)
    | (refine g_evT ?_; first | refine w_evT ?_ | refine w_evT0 ?_)
    | (refine g_op ?_; first | refine o_add ?_ | refine o_eq ?_ | refine o_isi ?_ | refine o_sub ?_ | refine b_lent ?_ | refine o_gt ?_ | refine o_lt ?_ | refine o_eqs ?_ | refine o_nes ?_ | refine b_tuple ?_ | refine b_int ?_ | refine o_gei ?_ | refine o_lei ?_ | refine o_nei ?_ | refine b_min ?_ | refine b_max ?_ | refine o_ixt at0 ?_ | refine o_ixt at1 ?_ | refine o_slc1 ?_ | refine o_ins rfl ?_)
    | (refine g_br ?_; first | refine br_nt ?_ | refine br_tt ?_ | refine br_ff ?_ | refine br_isiT (by with_unfolding_all rfl) ?_ | refine br_isiF (by with_unfolding_all rfl) ?_ | refine br_anyT (by decide +kernel) ?_ | refine br_anyF (by decide +kernel) ?_ | refine br_strT (by decide +kernel) ?_ | refine br_strF (by decide +kernel) ?_)
    | (refine g_evI ?_; first | refine w_seq ?_ | refine w_rng1 ?_ | refine w_rng2 ?_ | refine w_rng3 ?_ | refine w_enum ?_ | refine w_zip ?_)
    | (refine g_evO ?_; first | refine w_evO ?_ | refine w_evO0 ?_)
    | (refine g_evF ?_; first | refine w_evF0 ?_ | refine w_txt ?_ ?_ | refine w_val ?_)
    | refine w_lit ?_)
/-! ### the opposite -/
mutual
def opp : Bool → Cnd → Cnd
  | true, .pl p => .nt (.pl p)
  | false, .pl p => .pl p
  | b, .nt x => opp (!b) x
  | b, .co a xs => .co (if b then !a else a) (opps b xs)
def opps : Bool → List Cnd → List Cnd
  | _, [] => []
  | b, x :: xs => opp b x :: opps b xs
end
theorem opps_is (b : Bool) : ∀ xs : List Cnd, opps b xs = xs.map (opp b)
  | [] => rfl
  | x :: xs => by rw [List.map_cons, ← opps_is b xs]; rfl
mutual
theorem opp_n : ∀ (b : Bool) (x : Cnd), (opp b x).n ≤ 2 * x.n
  | true, .pl p => Nat.le_refl _
  | false, .pl p => by show 1 ≤ 2 * 1; decide
  | true, .nt x => by
    have := opp_n false x
    show (opp false x).n ≤ 2 * (x.n + 1)
    omega
  | false, .nt x => by
    have := opp_n true x
    show (opp true x).n ≤ 2 * (x.n + 1)
    omega
  | true, .co a xs => by
    have := opps_n true xs
    show Cnd.ns (opps true xs) + 1 ≤ 2 * (Cnd.ns xs + 1)
    omega
  | false, .co a xs => by
    have := opps_n false xs
    show Cnd.ns (opps false xs) + 1 ≤ 2 * (Cnd.ns xs + 1)
    omega
theorem opps_n : ∀ (b : Bool) (xs : List Cnd), Cnd.ns (opps b xs) ≤ 2 * Cnd.ns xs
  | _, [] => Nat.le_refl _
  | b, x :: xs => by
    have := opp_n b x
    have := opps_n b xs
    show (opp b x).n + Cnd.ns (opps b xs) ≤ 2 * (x.n + Cnd.ns xs)
    omega
end
mutual
theorem opp_lv : ∀ (b : Bool) (x : Cnd), (opp b x).lv ≤ x.lv + 1
  | true, .pl p => Nat.le_refl _
  | false, .pl p => by show 1 ≤ 1 + 1; decide
  | true, .nt x => by
    have := opp_lv false x
    show (opp false x).lv ≤ x.lv + 1 + 1
    omega
  | false, .nt x => by
    have := opp_lv true x
    show (opp true x).lv ≤ x.lv + 1 + 1
    omega
  | true, .co a xs => by
    have := opps_lv true xs
    show Cnd.lvs (opps true xs) + 1 ≤ Cnd.lvs xs + 1 + 1
    omega
  | false, .co a xs => by
    have := opps_lv false xs
    show Cnd.lvs (opps false xs) + 1 ≤ Cnd.lvs xs + 1 + 1
    omega
theorem opps_lv : ∀ (b : Bool) (xs : List Cnd), Cnd.lvs (opps b xs) ≤ Cnd.lvs xs + 1
  | _, [] => Nat.zero_le _
  | b, x :: xs => by
    have := opp_lv b x
    have := opps_lv b xs
    show max (opp b x).lv (Cnd.lvs (opps b xs)) ≤ max x.lv (Cnd.lvs xs) + 1
    omega
end
mutual
theorem opp_ok {F : Int} {ss ns : List Int} : ∀ (b : Bool) (x : Cnd), x.ok F ss ns → (opp b x).ok F ss ns
  | true, .pl p, h => h
  | false, .pl p, h => h
  | true, .nt x, h => opp_ok false x h
  | false, .nt x, h => opp_ok true x h
  | true, .co a xs, h => opps_ok true xs h
  | false, .co a xs, h => opps_ok false xs h
theorem opps_ok {F : Int} {ss ns : List Int} : ∀ (b : Bool) (xs : List Cnd), Cnd.oks F ss ns xs → Cnd.oks F ss ns (opps b xs)
  | _, [], _ => True.intro
  | b, x :: xs, h => ⟨opp_ok b x h.1, opps_ok b xs h.2⟩
end
theorem tr_co (s : St) (a : Bool) (xs : List Cnd) : tr s (.co a xs) = if a then (trs s xs).all id else (trs s xs).any id := by
  cases a with
  | true =>
    show (!(trs s xs).any (· == false)) = _
    rw [if_pos rfl]
    induction trs s xs with
    | nil => rfl
    | cons b bs ih => cases b <;> simp_all
  | false =>
    show (trs s xs).any (· == true) = _
    rw [if_neg (by decide)]
    induction trs s xs with
    | nil => rfl
    | cons b bs ih => cases b <;> simp_all
theorem dual (l : List Bool) : (l.map (fun b => !b)).all id = !l.any id ∧ (l.map (fun b => !b)).any id = !l.all id := by
  induction l with
  | nil => exact ⟨rfl, rfl⟩
  | cons b bs ih =>
    rw [List.map_cons, List.all_cons, List.any_cons, List.any_cons, List.all_cons, ih.1, ih.2]
    cases b <;> simp
mutual
theorem tr_opp (s : St) : ∀ (b : Bool) (x : Cnd), tr s (opp b x) = (if b then !tr s x else tr s x)
  | true, .pl p => rfl
  | false, .pl p => rfl
  | true, .nt x => by
    have := tr_opp s false x
    show tr s (opp false x) = !!tr s x
    rw [this]
    simp
  | false, .nt x => by
    have := tr_opp s true x
    show tr s (opp true x) = !tr s x
    rw [this]
    simp
  | true, .co a xs => by
    have := trs_opp s true xs
    show tr s (.co (!a) (opps true xs)) = !tr s (.co a xs)
    rw [tr_co, tr_co, this, if_pos rfl]
    obtain ⟨d1, d2⟩ := dual (trs s xs)
    cases a
    · exact d1
    · exact d2
  | false, .co a xs => by
    have := trs_opp s false xs
    show tr s (.co a (opps false xs)) = tr s (.co a xs)
    rw [tr_co, tr_co, this]
    rfl
theorem trs_opp (s : St) : ∀ (b : Bool) (xs : List Cnd), trs s (opps b xs) = (if b then (trs s xs).map (fun b => !b) else trs s xs)
  | true, [] => rfl
  | false, [] => rfl
  | true, x :: xs => by
    have h1 := tr_opp s true x
    have h2 := trs_opp s true xs
    show tr s (opp true x) :: trs s (opps true xs) = _
    rw [h1, h2]
    rfl
  | false, x :: xs => by
    have h1 := tr_opp s false x
    have h2 := trs_opp s false xs
    show tr s (opp false x) :: trs s (opps false xs) = _
    rw [h1, h2]
    rfl
end
section
variable {fs : Nat → Option Fn} {F : Int} {ss ns : List Int}
variable [Has fs 58 fn_parts_of] [Has fs 67 fn_pushed_in]
theorem pushed_in_ok : ∀ (m : Nat) {n : Nat} {M : MH} {P : D → MH → Prop} {x : Cnd} {b : Bool}, x.lv ≤ m → x.n ≤ 60 → (∀ M', Only M M' → P (opp b x).d M') → Ok (run fs (n + m + 2) 67 [x.d, .bl b] M) P := by
  intro m
  induction m with
  | zero => intro n M P x b hl; have := x.lv_pos; omega
  | succ m ih =>
    intro n M P x b hl hn h
    have h0 := h M Only.refl
    refine w_fn (n := n + m + 2) (fn := fn_pushed_in) rfl ?_
    simp only [fn_pushed_in, b_pushed_in]
    cases x with
    | pl p =>
      cases b with
      | true => cases p <;> (simp only [Cnd.d, Pln.d]; trivial; refine w_iff ?_; trivial; exact h0)
      | false => cases p <;> (simp only [Cnd.d, Pln.d]; trivial; refine w_iff ?_; trivial; exact h0)
    | nt y =>
      simp only [Cnd.d]
      trivial
      have hl : y.lv + 1 ≤ m + 1 := hl
      have hn : y.n + 1 ≤ 60 := hn
      refine ih (n := n) (x := y) (b := !b) (by omega) (by omega) ?_
      intro M' o
      trivial
      have := h M' o
      cases b <;> exact this
    | co a xs =>
      have hls : ∀ x ∈ xs, x.lv ≤ m := Cnd.lvs_le.mp (by have : Cnd.lvs xs + 1 ≤ m + 1 := hl; omega)
      have hns : Cnd.ns xs + 1 ≤ 60 := hn
      have hn1 : ∀ x ∈ xs, x.n ≤ 60 := fun x hx => by
        obtain ⟨l1, l2, rfl⟩ := List.append_of_mem hx
        rw [Cnd.ns_app] at hns
        have : Cnd.ns (x :: l2) = x.n + Cnd.ns l2 := rfl
        omega
      have hxl := Cnd.len_ns xs
      have go : ∀ {w : Str} {σ : Sg} {Q : TV → MH → Prop}, σ[1]? = some (some (.bl b)) → σ.length = 5 → (∀ Ma, Only M Ma → Q (.lst (xs.map fun x => (opp b x).d)) Ma) → σ[0]? = some (some (Cnd.d (.co a xs))) → Ok (ev (run fs (n + m + 2)) (.comp [4] (.call 67 (.cons (.var 4) (.cons (.var 1) .nil)) [0, 1]) (.name 4) (.seq (.call 58 (.cons (.var 0) .nil) [0])) .nil) σ M) Q := by
        intro w σ Q h1 hs hq h00
        refine w_compO (l := xs) Cnd.d (fun x => (opp b x).d) ?_ (by rw [sl]; omega) (fun x hx' M' o => ⟨_, rfl, ?_⟩) hq
        · refine w_seq (w_call1 (w_var h00 (m_d ?_)))
          refine parts_of_ok (x := .co a xs) rfl ?_
          exact so_ref Only.push last_at
        · match σ, hs, h1 with
          | [s0, s1, s2, s3, s4], _, h1 =>
            cases h1
            trivial
            refine ih (n := n) (hls x hx') (hn1 x hx') ?_
            intro M2 o2
            exact ⟨rfl, o2⟩
      have fin : ∀ {w : Bool} {Ma : MH}, Only M Ma → (w = if b then !a else a) → P (.tup (.str (coW w) :: xs.map fun x => (opp b x).d)) Ma := fun {w Ma} o e => by
        have := h Ma o
        have e2 : Cnd.d (opp b (.co a xs)) = .tup (.str (coW (if b then !a else a)) :: xs.map fun x => (opp b x).d) := by
          cases b with
          | true =>
            show D.tup (.str (coW (!a)) :: Cnd.ds (opps true xs)) = _
            rw [Cnd.ds_is, opps_is, List.map_map]
            rfl
          | false =>
            show D.tup (.str (coW a) :: Cnd.ds (opps false xs)) = _
            rw [Cnd.ds_is, opps_is, List.map_map]
            rfl
        rw [e2, ← e] at this
        exact this
      cases a with
      | true =>
        simp only [Cnd.d, coW]
        trivial
        refine w_iff ?_
        trivial
        refine go (w := "all") rfl rfl (fun Ma o => ?_) rfl
        trivial
        cases b with
        | true =>
          refine w_iff ?_
          trivial
          refine o_addt (by rw [sl, List.length_map]; simp; omega) ?_
          trivial
          exact fin (w := false) o rfl
        | false =>
          refine w_iff ?_
          trivial
          refine o_addt (by rw [sl, List.length_map]; simp; omega) ?_
          trivial
          exact fin (w := true) o rfl
      | false =>
        simp only [Cnd.d, coW]
        trivial
        refine w_iff ?_
        trivial
        refine go (w := "some") rfl rfl (fun Ma o => ?_) rfl
        trivial
        cases b with
        | true =>
          refine w_iff ?_
          trivial
          refine o_addt (by rw [sl, List.length_map]; simp; omega) ?_
          trivial
          exact fin (w := true) o rfl
        | false =>
          refine w_iff ?_
          trivial
          refine o_addt (by rw [sl, List.length_map]; simp; omega) ?_
          trivial
          exact fin (w := false) o rfl
end

end Ev

set_option maxRecDepth 100000
set_option maxHeartbeats 2000000
namespace Ev
open PySem
local macro_rules
  | `(tactic| trivial) => `(tactic| repeat with_reducible first
    | (refine g_ev ?_; first | refine w_var (by with_unfolding_all rfl) ?_ | refine w_lit ?_ | refine w_ix ?_ | refine w_cmp ?_ | refine w_tup ?_ | refine w_bin ?_ | refine w_call1 ?_ | refine w_call2 ?_ | refine w_call3 ?_ | refine w_call4 ?_ | refine w_call ?_ | refine w_bf ?_ | refine w_lst ?_ | refine w_bop ?_ | refine w_nt ?_ | refine w_x1 ?_ | refine w_ite ?_ | refine w_slc ?_ | refine w_cst ?_ | refine w_neg ?_ | refine w_append ?_ | refine w_lrg ?_ | refine w_chain ?_ | refine w_x2 ?_ | refine w_fst ?_ | refine w_join ?_ | refine w_count ?_ | refine w_rev ?_ | refine w_dix ?_)
    | refine m_d ?_ | refine m_l ?_ | refine isB ?_ | refine isI ?_ | refine w_nx ?_
    | (refine g_evs ?_; first | refine w_evs ?_ | refine w_evs0 ?_)
    | (refine g_exs ?_; first | refine w_exs ?_ | refine w_exs0 ?_)
    | (refine g_ex ?_; first | refine w_if1 ?_ | refine w_if2 ?_ | refine w_set ?_ | refine w_ret ?_ | refine w_expr ?_ | refine w_par ?_ | refine w_unp ?_ | refine w_put ?_)
    | refine w_rt ?_ | refine w_end ?_
    | (refine g_evB ?_; first | refine w_evBo ?_ | refine w_evBa ?_ | refine w_evB0 ?_)
    | (refine g_evT ?_; first | refine w_evT ?_ | refine w_evT0 ?_)
    | (refine g_op ?_; first | refine o_add ?_ | refine o_eq ?_ | refine o_isi ?_ | refine o_sub ?_ | refine b_lent ?_ | refine o_gt ?_ | refine o_lt ?_ | refine o_eqs ?_ | refine o_nes ?_ | refine b_tuple ?_ | refine b_int ?_ | refine o_gei ?_ | refine o_lei ?_ | refine o_nei ?_ | refine b_min ?_ | refine b_max ?_ | refine hD0 ?_ | refine hD1 ?_ | refine hD2 ?_ | refine o_ixt at0 ?_ | refine o_ixt at1 ?_ | refine o_ixt at2 ?_ | refine o_slc1 ?_ | refine o_ins rfl ?_)
    | (refine g_br ?_; first | refine br_nt ?_ | refine br_tt ?_ | refine br_ff ?_ | refine br_isiT (by with_unfolding_all rfl) ?_ | refine br_isiF (by with_unfolding_all rfl) ?_ | refine br_anyT (by decide +kernel) ?_ | refine br_anyF (by decide +kernel) ?_ | refine br_strT (by decide +kernel) ?_ | refine br_strF (by decide +kernel) ?_ | refine br_decT (by first | (simp; done) | fail) ?_ | refine br_decF (by first | (simp; done) | (simp; omega) | fail) ?_)
    | (refine g_evI ?_; first | refine w_seq ?_ | refine w_rng1 ?_ | refine w_rng2 ?_ | refine w_rng3 ?_ | refine w_enum ?_ | refine w_zip ?_)
    | (refine g_evO ?_; first | refine w_evO ?_ | refine w_evO0 ?_)
    | (refine g_evF ?_; first | refine w_evF0 ?_ | refine w_txt ?_ ?_ | refine w_val ?_)
    | refine w_lit ?_)
section
variable {fs : Nat → Option Fn} {F : Int} {ss ns : List Int}
section
variable [Has fs 34 fn_is_integer] [Has fs 35 fn_is_between] [Has fs 36 fn_are_integers] [Has fs 37 fn_is_a_house] [Has fs 38 fn_need_house] [Has fs 43 fn_is_a_floor] [Has fs 44 fn_is_a_call] [Has fs 49 fn_is_a_car] [Has fs 54 fn_is_composed] [Has fs 55 fn_is_plain] [Has fs 56 fn_is_a_condition] [Has fs 57 fn_need_condition] [Has fs 58 fn_parts_of] [Has fs 67 fn_pushed_in] [Has fs 68 fn_opposite]
theorem opposite_ok {n : Nat} {M : MH} {P : D → MH → Prop} {x : Cnd} (hh : Hs F ss ns) (hx : x.ok F ss ns) (hn : x.n ≤ 60) (hl : x.lv ≤ 6) (h : ∀ M', Only M M' → P (opp true x).d M') : Ok (run fs (n + 10) 68 [hD F ss ns, x.d] M) P := by
  refine w_fn (fn := fn_opposite) rfl ?_
  simp only [fn_opposite, b_opposite]
  trivial
  refine need_house_ok (n := n + 4) hh.sz hh.is ?_
  trivial
  refine need_condition_ok (n := n + 2) hx hn hl ?_
  intro M1 o1
  trivial
  refine pushed_in_ok (n := n + 1) 6 hl hn ?_
  intro M2 o2
  trivial
  exact h M2 (o1.trans o2)
end
section
variable {n : Nat} {M : MH} {P : D → MH → Prop}
variable [Has fs 69 fn_law_integer]
theorem law_integer_ok {i lo hi : Int} (h1 : lo ≤ i) (h2 : i ≤ hi) (h : P (.bl true) M) : Ok (run fs (n + 1) 69 [.int i, .int lo, .int hi] M) P := by
  refine w_fn (fn := fn_law_integer) rfl ?_
  simp only [fn_law_integer, b_law_integer]
  trivial
  refine br_t (decide_eq_true h1) ?_
  trivial
  rw [decide_eq_true h2]
  trivial
  exact h
variable [Has fs 70 fn_law_is_plain]
theorem law_is_plain_ok {p : Pln} (hp : okPln F ss ns p) (h : P (.bl true) M) : Ok (run fs (n + 2) 70 [hD F ss ns, p.d] M) P := by
  refine w_fn (fn := fn_law_is_plain) rfl ?_
  simp only [fn_law_is_plain, b_law_is_plain]
  cases p with
  | fire =>
    simp only [Pln.d]
    trivial
    refine ⟨rfl, ?_⟩
    trivial
    refine o_eqnil rfl ?_
    trivial
    exact h
  | harm =>
    simp only [Pln.d]
    trivial
    refine ⟨rfl, ?_⟩
    trivial
    refine o_eqnil rfl ?_
    trivial
    exact h
  | call f s =>
    obtain ⟨h0, h1, h2⟩ := hp
    have h0 : 0 ≤ f := h0
    have h1 : f < F := h1
    simp only [Pln.d]
    trivial
    refine ⟨rfl, ?_⟩
    trivial
    refine w_iff ?_
    trivial
    refine law_integer_ok h0 (by omega) ?_
    trivial
    rcases h2 with ⟨rfl, h2⟩ | ⟨rfl, h2⟩
    · have h2 : f < F - 1 := h2
      trivial
      refine br_t (decide_eq_true h2) ?_
      trivial
      exact h
    · have h2 : 0 < f := h2
      trivial
      refine br_t (decide_eq_true h2) ?_
      trivial
      exact h
  | opn c =>
    simp only [Pln.d]
    trivial
    refine ⟨rfl, ?_⟩
    trivial
    refine w_iff ?_
    trivial
    rw [List.length_map]
    refine law_integer_ok hp.1 (by have := hp.2; omega) ?_
    trivial
    exact h
  | above c =>
    simp only [Pln.d]
    trivial
    refine ⟨rfl, ?_⟩
    trivial
    refine w_iff ?_
    trivial
    rw [List.length_map]
    refine law_integer_ok hp.1 (by have := hp.2; omega) ?_
    trivial
    exact h
  | below c =>
    simp only [Pln.d]
    trivial
    refine ⟨rfl, ?_⟩
    trivial
    refine w_iff ?_
    trivial
    rw [List.length_map]
    refine law_integer_ok hp.1 (by have := hp.2; omega) ?_
    trivial
    exact h
  | here c =>
    simp only [Pln.d]
    trivial
    refine ⟨rfl, ?_⟩
    trivial
    refine w_iff ?_
    trivial
    rw [List.length_map]
    refine law_integer_ok hp.1 (by have := hp.2; omega) ?_
    trivial
    exact h
  | at_ c f =>
    simp only [Pln.d]
    trivial
    refine ⟨rfl, ?_⟩
    trivial
    refine w_iff ?_
    trivial
    rw [List.length_map]
    refine law_integer_ok hp.1.1 (by have := hp.1.2; omega) ?_
    trivial
    refine law_integer_ok hp.2.1 (by have := hp.2.2; omega) ?_
    trivial
    exact h
  | panel c f =>
    simp only [Pln.d]
    trivial
    refine ⟨rfl, ?_⟩
    trivial
    refine w_iff ?_
    trivial
    rw [List.length_map]
    refine law_integer_ok hp.1.1 (by have := hp.1.2; omega) ?_
    trivial
    refine law_integer_ok hp.2.1 (by have := hp.2.2; omega) ?_
    trivial
    exact h
  | near c d =>
    obtain ⟨h1, h2, h3⟩ := hp
    simp only [Pln.d]
    trivial
    refine ⟨rfl, ?_⟩
    trivial
    refine w_iff ?_
    trivial
    rw [List.length_map]
    refine law_integer_ok h1.1 (by have := h1.2; omega) ?_
    trivial
    refine law_integer_ok h2.1 (by have := h2.2; omega) ?_
    trivial
    exact h
  | note c j v =>
    obtain ⟨h1, m, h2, h3, h4⟩ := hp
    have hl := (List.getElem?_eq_some_iff.mp h2).1
    obtain ⟨m', h5, h6⟩ := atM (is := ns) (i := c) h1.1 (by omega)
    obtain rfl : m = m' := Option.some.inj (h2.symm.trans h5)
    simp only [Pln.d]
    trivial
    refine ⟨rfl, ?_⟩
    trivial
    refine w_iff ?_
    trivial
    rw [List.length_map]
    refine law_integer_ok h1.1 (by have := h1.2; omega) ?_
    trivial
    refine o_ixt h6 ?_
    trivial
    refine law_integer_ok h3.1 (by omega) ?_
    trivial
    refine law_integer_ok h4.1 (by omega) ?_
    trivial
    exact h
end
end
/-! ### the size that the law counts -/
mutual
def flat : Cnd → Prop
  | .pl _ => True
  | .nt x => isCo x = false
  | .co _ xs => flats xs
def flats : List Cnd → Prop
  | [] => True
  | x :: xs => flat x ∧ flats xs
end
theorem flats_is : ∀ {xs : List Cnd}, flats xs ↔ ∀ x ∈ xs, flat x
  | [] => by simp [flats]
  | x :: xs => by
    rw [List.forall_mem_cons, ← flats_is]
    rfl
mutual
theorem opp_flat : ∀ (b : Bool) (x : Cnd), flat (opp b x)
  | true, .pl p => rfl
  | false, .pl p => True.intro
  | true, .nt x => opp_flat false x
  | false, .nt x => opp_flat true x
  | true, .co a xs => opps_flat true xs
  | false, .co a xs => opps_flat false xs
theorem opps_flat : ∀ (b : Bool) (xs : List Cnd), flats (opps b xs)
  | _, [] => True.intro
  | b, x :: xs => ⟨opp_flat b x, opps_flat b xs⟩
end
theorem sum_ns : ∀ xs : List Cnd, (xs.map fun x => (x.n : Int)).sum = (Cnd.ns xs : Nat)
  | [] => rfl
  | x :: xs => by
    rw [List.map_cons, List.sum_cons, sum_ns xs]
    show (x.n : Int) + (Cnd.ns xs : Int) = ((x.n + Cnd.ns xs : Nat) : Int)
    push_cast
    rfl
theorem b_sum {M : MH} {is : List Int} {P : TV → Prop} (h : P (.d (.int is.sum))) : Op (bfop M .sum [.lst (is.map .int)]) P := by
  refine ⟨_, ?_, h⟩
  show (intsOf (is.map .int)).map (fun is => TV.d (.int is.sum)) = _
  rw [intsOf_map]
  rfl
section
variable {fs : Nat → Option Fn} {F : Int} {ss ns : List Int}
variable [Has fs 69 fn_law_integer] [Has fs 70 fn_law_is_plain] [Has fs 71 fn_law_size]
theorem law_size_ok : ∀ (m : Nat) {n : Nat} {M : MH} {P : D → MH → Prop} {x : Cnd} {l : Int}, x.lv ≤ m → x.n ≤ 60 → x.ok F ss ns → flat x → (x.lv : Int) ≤ l → (∀ M', Only M M' → P (.int x.n) M') → Ok (run fs (n + m + 2) 71 [hD F ss ns, x.d, .int l] M) P := by
  intro m
  induction m with
  | zero => intro n M P x l hl; have := x.lv_pos; omega
  | succ m ih =>
    intro n M P x l hl hn hx hf hll h
    have h0 := h M Only.refl
    have hlp := x.lv_pos
    refine w_fn (n := n + m + 2) (fn := fn_law_size) rfl ?_
    simp only [fn_law_size, b_law_size]
    trivial
    cases x with
    | pl p =>
      have pln : Ok (run fs (n + m + 2) 70 [hD F ss ns, p.d] M) (fun r M' => r = .bl true ∧ M' = M) := law_is_plain_ok (n := n + m) hx ⟨rfl, rfl⟩
      have fin : P (.int 1) M := h0
      cases p <;> (
        simp only [Cnd.d, Pln.d] at pln ⊢
        trivial
        refine w_iff ?_
        trivial
        refine pln.mono ?_
        rintro _ _ ⟨rfl, rfl⟩
        trivial
        exact fin)
    | nt y =>
      cases y with
      | nt z => cases hf
      | co a xs => cases hf
      | pl p =>
        have pln : Ok (run fs (n + m + 2) 70 [hD F ss ns, p.d] M) (fun r M' => r = .bl true ∧ M' = M) := law_is_plain_ok (n := n + m) hx ⟨rfl, rfl⟩
        have fin : P (.int 2) M := h0
        have hll : ((1 + 1 : Nat) : Int) ≤ l := hll
        simp only [Cnd.d]
        trivial
        refine w_iff ?_
        trivial
        refine br_decT (decide_eq_true (by omega)) ?_
        cases p <;> (
          simp only [Pln.d] at pln ⊢
          trivial
          refine pln.mono ?_
          rintro _ _ ⟨rfl, rfl⟩
          trivial
          exact fin)
    | co a xs =>
      have hxs : ∀ x ∈ xs, x.ok F ss ns := Cnd.oks_is.mp hx
      have hfs : ∀ x ∈ xs, flat x := flats_is.mp hf
      have hls : ∀ x ∈ xs, x.lv ≤ m := Cnd.lvs_le.mp (by have : Cnd.lvs xs + 1 ≤ m + 1 := hl; omega)
      have hll : ((Cnd.lvs xs + 1 : Nat) : Int) ≤ l := hll
      have hls2 : ∀ x ∈ xs, (x.lv : Int) ≤ l - 1 := fun x hx => by
        have := (Cnd.lvs_le (m := Cnd.lvs xs)).mp (Nat.le_refl _) x hx
        omega
      have hns : Cnd.ns xs + 1 ≤ 60 := hn
      have hn1 : ∀ x ∈ xs, x.n ≤ 60 := fun x hx => by
        obtain ⟨l1, l2, rfl⟩ := List.append_of_mem hx
        rw [Cnd.ns_app] at hns
        have : Cnd.ns (x :: l2) = x.n + Cnd.ns l2 := rfl
        omega
      have hxl := Cnd.len_ns xs
      have eco : ∀ a, ((Cnd.co a xs).n : Int) = 1 + (Cnd.ns xs : Int) := fun a => by show ((Cnd.ns xs + 1 : Nat) : Int) = _; push_cast; omega
      cases a <;> (
        simp only [Cnd.d, coW]
        trivial
        refine w_compO (l := xs) Cnd.d (fun x => .int x.n) ?_ (by rw [sl]; omega) (fun x hx' M' o => ⟨_, rfl, ?_⟩) fun M' o => ?_
        · trivial
          rw [Cnd.ds_is]
          exact so_tup
        · trivial
          refine ih (n := n) (hls x hx') (hn1 x hx') (hxs x hx') (hfs x hx') (hls2 x hx') ?_
          intro M2 o2
          exact ⟨rfl, o2⟩
        · rw [show (xs.map fun x => D.int x.n) = (xs.map fun x => (x.n : Int)).map .int by rw [List.map_map]; rfl]
          trivial
          refine b_sum ?_
          rw [sum_ns]
          trivial
          have := h M' o
          rw [eco] at this
          exact this)
end

end Ev

set_option maxRecDepth 100000
set_option maxHeartbeats 2000000
namespace Ev
open PySem
local macro_rules
  | `(tactic| trivial) => `(tactic| repeat with_reducible first
    | (refine g_ev ?_; first | refine w_var (by with_unfolding_all rfl) ?_ | refine w_lit ?_ | refine w_ix ?_ | refine w_cmp ?_ | refine w_tup ?_ | refine w_bin ?_ | refine w_call1 ?_ | refine w_call2 ?_ | refine w_call3 ?_ | refine w_call4 ?_ | refine w_call ?_ | refine w_all0 ?_ | refine w_bf ?_ | refine w_lst ?_ | refine w_bop ?_ | refine w_nt ?_ | refine w_x1 ?_ | refine w_ite ?_ | refine w_slc ?_ | refine w_cst ?_ | refine w_neg ?_ | refine w_append ?_ | refine w_lrg ?_ | refine w_chain ?_ | refine w_x2 ?_ | refine w_fst ?_ | refine w_join ?_ | refine w_count ?_ | refine w_rev ?_ | refine w_dix ?_)
    | refine m_d ?_ | refine m_l ?_ | refine isB ?_ | refine isI ?_ | refine w_nx ?_
    | (refine g_evs ?_; first | refine w_evs ?_ | refine w_evs0 ?_)
    | (refine g_exs ?_; first | refine w_exs ?_ | refine w_exs0 ?_)
    | (refine g_ex ?_; first | refine w_if2 ?_ | refine w_set ?_ | refine w_ret ?_ | refine w_expr ?_ | refine w_par ?_ | refine w_unp ?_ | refine w_put ?_)
    | refine w_rt ?_ | refine w_end ?_
    | (refine g_evB ?_; first | refine w_evBo ?_ | refine w_evBa ?_ | refine w_evB0 ?_)
    | (refine g_evT ?_; first | refine w_evT ?_ | refine w_evT0 ?_)
    | (refine g_op ?_; first | refine o_add ?_ | refine o_eq ?_ | refine o_isi ?_ | refine o_sub ?_ | refine b_lent ?_ | refine o_gt ?_ | refine o_lt ?_ | refine o_eqs ?_ | refine o_nes ?_ | refine b_tuple ?_ | refine b_int ?_ | refine o_gei ?_ | refine o_lei ?_ | refine o_nei ?_ | refine b_min ?_ | refine b_max ?_ )
    | (refine g_br ?_; first | refine br_nt ?_ | refine br_tt ?_ | refine br_ff ?_ | refine br_isiT (by with_unfolding_all rfl) ?_ | refine br_isiF (by with_unfolding_all rfl) ?_ )
    | (refine g_evI ?_; first | refine w_seq ?_ | refine w_rng1 ?_ | refine w_rng2 ?_ | refine w_rng3 ?_ | refine w_enum ?_ | refine w_zip ?_)
    | (refine g_evO ?_; first | refine w_evO ?_ | refine w_evO0 ?_)
    | (refine g_evF ?_; first | refine w_evF0 ?_ | refine w_txt ?_ ?_ | refine w_val ?_)
    | refine w_lit ?_)
theorem cut_lo {α : Type} {l : List α} {c : Int} (h0 : 0 ≤ c) (h1 : c ≤ l.length) : cut l none (some c) = l.take c.toNat := by
  have e : HT.sIx l.length l.length (some c) = c.toNat := by
    show (if c < 0 then (c + (l.length : Int)).toNat else min c.toNat l.length) = _
    rw [if_neg (by omega)]
    omega
  unfold cut
  rw [e]
  rfl
theorem cut_hi {α : Type} {l : List α} {c : Int} (h0 : 0 ≤ c) (h1 : c ≤ l.length) : cut l (some c) none = l.drop c.toNat := by
  have e : HT.sIx l.length 0 (some c) = c.toNat := by
    show (if c < 0 then (c + (l.length : Int)).toNat else min c.toNat l.length) = _
    rw [if_neg (by omega)]
    omega
  unfold cut
  rw [e]
  exact List.take_of_length_le (by rw [List.length_drop]; exact Nat.le_refl _)
theorem o_slLo {M : MH} {ds : List D} {c : Int} {P : TV → Prop} (h0 : 0 ≤ c) (h1 : c ≤ ds.length) (h : P (.d (.tup (ds.take c.toNat)))) : Op (slop M (.d (.tup ds)) none (some c)) P := by
  refine op_some ?_
  rw [cut_lo h0 h1]
  exact h
theorem o_slHi {M : MH} {ds : List D} {c : Int} {P : TV → Prop} (h0 : 0 ≤ c) (h1 : c ≤ ds.length) (h : P (.d (.tup (ds.drop c.toNat)))) : Op (slop M (.d (.tup ds)) (some c) none) P := by
  refine op_some ?_
  rw [cut_hi h0 h1]
  exact h
theorem put_map {α : Type} {g : α → D} {l : List α} {c : Int} {x : α} (h0 : 0 ≤ c) (h1 : c < l.length) : ((l.map g).take c.toNat ++ [g x]) ++ (l.map g).drop (c + 1).toNat = (l.set c.toNat x).map g := by
  rw [List.set_eq_take_append_cons_drop, if_pos (by omega), List.map_append, List.map_cons, List.map_take, List.map_drop, show (c + 1).toNat = c.toNat + 1 by omega]
  simp
theorem map_set_same {α β : Type} {f : α → β} {y a : α} : ∀ {l : List α} {i : Nat}, l[i]? = some a → f y = f a → (l.set i y).map f = l.map f
  | [], _, h, _ => by simp at h
  | b :: l, 0, h, e => by
    simp at h
    subst h
    simp [e]
  | b :: l, i + 1, h, e => by
    simp at h
    rw [List.set_cons_succ, List.map_cons, List.map_cons, map_set_same h e]
theorem StOk.car' {F : Int} {ss ns : List Int} {s : St} (h : StOk F ss ns s) {c : Int} {y : CarT} (hc : 0 ≤ c ∧ c < ss.length) (e1 : y.f = (s.car c).f) (e2 : y.own.length = (s.car c).own.length) (e3 : ∀ i ∈ y.own, 0 ≤ i ∧ i < 10) : StOk F ss ns { s with cars := s.cars.set c.toNat y } := by
  have hl : c.toNat < s.cars.length := by rw [h.c]; omega
  have ec : s.cars[c.toNat]? = some (s.car c) := by
    unfold St.car
    rw [List.getD_eq_getElem?_getD, List.getElem?_eq_getElem hl]
    rfl
  have hm := List.mem_of_getElem? ec
  refine ⟨fun x hx => ?_, by rw [List.length_set]; exact h.c, ?_, fun x hx => ?_, ?_, h.k, h.kp, h.k1, h.p, h.pf, h.pp, h.fi, h.h, h.hp, h.h1⟩
  · rcases List.mem_or_eq_of_mem_set hx with hx | rfl
    · exact h.f x hx
    · rw [e1]; exact h.f _ hm
  · rw [map_set_same (f := fun c : CarT => c.own.length) ec e2]
    exact h.own
  · rcases List.mem_or_eq_of_mem_set hx with hx | rfl
    · exact h.dig x hx
    · exact e3
  · show (pairs ss ((s.cars.set c.toNat y).map CarT.f)).Nodup
    rw [map_set_same (f := CarT.f) ec e1]
    exact h.nd
theorem ok_sg {C : Nat → List D → MH → Res D} {ss : Stms} {σ σ' : Sg} {M : MH} {P : Fl → MH → Prop} (e : σ = σ') (h : Ok (exs C ss σ' M) P) : Ok (exs C ss σ M) P := e ▸ h
section
variable {fs : Nat → Option Fn} [Has fs 0 fn_law_draw] [Has fs 2 fn_law_calls] [Has fs 19 fn_law_some] [Has fs 66 fn_law_near]
set_option maxHeartbeats 0 in
theorem nearT {n : Nat} {M : MH} {p k : Nat} {F : Int} {ss ns : List Int} {s : St} {P : D → MH → Prop} (hh : Hs F ss ns) (hs : StOk F ss ns s) (hp : Pot M p k) (hk : k + 1000 < 2 ^ 500)
    (h : ∀ (s : St) M', StOk F ss ns s → Pot M' p (k + 30) → Later p M M' → P s.d M') : Ok (run fs (n + 3) 66 [.ref p, hD F ss ns, s.d] M) P := by
  obtain ⟨f0, f1, s0, n0, ln, l0, l1, cnt⟩ := id hh
  have hcl := hs.c
  have hpl' := hs.p
  with_reducible refine w_fn (fn := fn_law_near) rfl ?_
  simp only [fn_law_near, b_law_near]
  trivial
  refine ⟨_, rfl, rfl, ?_⟩
  trivial
  refine draw' hp (by decide) (by decide) (by omega) ?_
  intro way M1 w0 w1 hp1 t1
  trivial
  rw [List.length_map, hcl]
  refine draw' hp1 (by omega) (by omega) (by omega) ?_
  intro c M2 c0 c1 hp2 t2
  trivial
  refine ⟨rfl, ?_⟩
  trivial
  refine o_ixt (s.car_at hs ⟨c0, c1⟩) ?_
  refine ⟨_, rfl, rfl, w_nx (ok_sg (σ' := [some (.ref p), some (hD F ss ns), some s.d, some (.tup (s.cars.map CarT.d)), some (.tup (s.calls.map callD)), some (.tup (s.panels.map panD)), some (.bl s.fire), some (.tup (s.harms.map Hm.d)), some (.int way), some (.int c), some (.int (s.car c).f), some (.bl (s.car c).o), some (.tup ((s.car c).own.map .int)), none]) rfl ?_)⟩
  have t12 := t1.trans t2
  have hp2' : Pot M2 p (k + 30) := hp2.mono (by omega)
  have hpl := hp2.lt
  have hown : ∀ i ∈ (s.car c).own, 0 ≤ i ∧ i < 10 := by
    have ec : s.cars[c.toNat]? = some (s.car c) := by
      unfold St.car
      rw [List.getD_eq_getElem?_getD, List.getElem?_eq_getElem (by omega)]
      rfl
    exact hs.dig _ (List.mem_of_getElem? ec)
  have hol : (s.car c).own.length ≤ 3 := by
    have ec : s.cars[c.toNat]? = some (s.car c) := by
      unfold St.car
      rw [List.getD_eq_getElem?_getD, List.getElem?_eq_getElem (by omega)]
      rfl
    exact hs.own_le hh (List.mem_of_getElem? ec)
  trivial
  refine w_iff ?_
  trivial
  refine ⟨fun q => ?_, fun q0 => ?_⟩
  · trivial
    refine o_slLo c0 (by rw [List.length_map]; omega) ?_
    trivial
    refine o_addt (by rw [sl, List.length_take, List.length_map]; simp; omega) ?_
    trivial
    refine o_slHi (by omega) (by rw [List.length_map]; omega) ?_
    refine o_addt (by rw [sl, List.length_append, List.length_take, List.length_drop, List.length_map]; simp; omega) ?_
    have e := put_map (g := CarT.d) (l := s.cars) (x := ⟨(s.car c).f, !(s.car c).o, (s.car c).own⟩) c0 (by omega)
    have e : (s.cars.map CarT.d).take c.toNat ++ [D.tup [.int (s.car c).f, .bl (!(s.car c).o), .tup ((s.car c).own.map .int)]] ++ (s.cars.map CarT.d).drop (c + 1).toNat = _ := e
    rw [e]
    trivial
    exact h _ M2 (hs.car' (y := ⟨(s.car c).f, !(s.car c).o, (s.car c).own⟩) ⟨c0, c1⟩ rfl rfl hown) hp2' t12
  trivial
  refine w_iff ?_
  trivial
  refine ⟨fun q => ?_, fun q1 => ?_⟩
  · trivial
    refine o_slLo c0 (by rw [List.length_map]; omega) ?_
    trivial
    refine w_compG (ds := (s.car c).own.map .int) (fun d => match d with | .int i => .int (9 - i) | _ => .non) ?_ (by rw [sl, List.length_map]; omega) (fun d hd => ?_) ?_
    · trivial
      exact s_tup
    · obtain ⟨i, _, rfl⟩ := List.mem_map.mp hd
      refine ⟨_, rfl, ?_⟩
      trivial
      exact ⟨rfl, rfl⟩
    have eo : ((s.car c).own.map D.int).map (fun d => match d with | .int i => D.int (9 - i) | _ => .non) = ((s.car c).own.map fun i => 9 - i).map .int := by
      rw [List.map_map, List.map_map]
      rfl
    rw [eo]
    trivial
    refine o_addt (by rw [sl, List.length_take, List.length_map]; simp; omega) ?_
    trivial
    refine o_slHi (by omega) (by rw [List.length_map]; omega) ?_
    refine o_addt (by rw [sl, List.length_append, List.length_take, List.length_drop, List.length_map]; simp; omega) ?_
    have e := put_map (g := CarT.d) (l := s.cars) (x := ⟨(s.car c).f, (s.car c).o, (s.car c).own.map fun i => 9 - i⟩) c0 (by omega)
    have e : (s.cars.map CarT.d).take c.toNat ++ [D.tup [.int (s.car c).f, .bl (s.car c).o, .tup (((s.car c).own.map fun i => 9 - i).map .int)]] ++ (s.cars.map CarT.d).drop (c + 1).toNat = _ := e
    rw [e]
    trivial
    refine h _ M2 (hs.car' (y := ⟨(s.car c).f, (s.car c).o, (s.car c).own.map fun i => 9 - i⟩) ⟨c0, c1⟩ rfl (List.length_map _) fun i hi => ?_) hp2' t12
    obtain ⟨j, hj, rfl⟩ := List.mem_map.mp hi
    have := hown j hj
    omega
  trivial
  refine w_iffc (fun k => k = true → s.fire = false) ?_ (fun q => ?_) fun _ => ?_
  · trivial
    refine ⟨fun q => ?_, fun q => ?_⟩
    · trivial
      refine ⟨fun q => ?_, fun q => ?_⟩
      · exact ⟨rfl, _, rfl, fun z => by cases z⟩
      · trivial
        exact ⟨rfl, _, rfl, fun _ => q⟩
    · exact ⟨rfl, _, rfl, fun z => by cases z⟩
  · have q := q rfl
    trivial
    refine callsT hh ?_
    intro cs M3 q1 q2 q3 q4 q5 q6
    trivial
    have hp3 := q6.pot hp2
    refine someT hp3 q1 (by omega) (by omega) (by omega) (by omega) (by omega) ?_
    intro es M4 u1 u2 u3
    have := u1.length_le
    trivial
    exact h { s with calls := es } M4 ⟨hs.f, hs.c, hs.own, hs.dig, hs.nd, fun x hx => q4 x (u1.subset hx), q5.sublist (u1.map _), by show es.length ≤ 16; omega, hs.p, hs.pf, hs.pp, (fun z => by have z : s.fire = true := z; rw [q] at z; cases z), hs.h, hs.hp, hs.h1⟩ (u2.mono (by omega)) (t12.trans (q6.later.trans u3))
  trivial
  refine w_iffc (fun k => k = true → s.fire = false) ?_ (fun q => ?_) fun _ => ?_
  · trivial
    refine ⟨fun q => ?_, fun q => ?_⟩
    · trivial
      refine ⟨fun q => ?_, fun q => ?_⟩
      · exact ⟨rfl, _, rfl, fun z => by cases z⟩
      · trivial
        exact ⟨rfl, _, rfl, fun _ => q⟩
    · exact ⟨rfl, _, rfl, fun z => by cases z⟩
  · have q := q rfl
    trivial
    refine o_slLo c0 (by rw [List.length_map]; omega) ?_
    trivial
    refine hD0 ?_
    trivial
    refine ⟨⟨by omega, by omega⟩, ?_⟩
    trivial
    have hz : ((List.range F.toNat).map fun (i : Nat) => (i : Int)).length = F.toNat := by simp
    refine someT (g := D.int) (ds := (List.range F.toNat).map fun (i : Nat) => (i : Int)) hp2.push (by rw [← lrg_is]; exact last_at) (by omega) (by omega) (by omega) (by rw [hz]; omega) (by rw [hz]; omega) ?_
    intro es M4 u1 u2 u3
    have := u1.length_le
    rw [hz] at this u2
    trivial
    refine o_addt (by rw [sl, List.length_take, List.length_map]; simp; omega) ?_
    trivial
    refine o_slHi (by omega) (by rw [List.length_map]; omega) ?_
    refine o_addt (by rw [sl, List.length_append, List.length_take, List.length_drop, List.length_map]; simp; omega) ?_
    have e := put_map (g := panD) (l := s.panels) (x := es) c0 (by omega)
    have e : (s.panels.map panD).take c.toNat ++ [D.tup (es.map .int)] ++ (s.panels.map panD).drop (c + 1).toNat = _ := e
    rw [e]
    trivial
    have pe : (∀ f ∈ es, 0 ≤ f ∧ f < F) ∧ es.Pairwise (· < ·) := by
      refine ⟨fun f hf => ?_, List.Pairwise.sublist u1 ?_⟩
      · obtain ⟨j, hj, rfl⟩ := List.mem_map.mp (u1.subset hf)
        have := List.mem_range.mp hj
        omega
      · refine List.pairwise_map.mpr (List.pairwise_lt_range.imp fun {a b} hab => ?_)
        omega
    refine h { s with panels := s.panels.set c.toNat es } M4 ⟨hs.f, hs.c, hs.own, hs.dig, hs.nd, hs.k, hs.kp, hs.k1, by rw [List.length_set]; exact hs.p, fun l hl => ?_, fun l hl => ?_, (fun z => by have z : s.fire = true := z; rw [q] at z; cases z), hs.h, hs.hp, hs.h1⟩ (u2.mono (by omega)) (t12.trans (Later.push.trans u3))
    · rcases List.mem_or_eq_of_mem_set hl with hl | rfl
      · exact hs.pf l hl
      · exact pe.1
    · rcases List.mem_or_eq_of_mem_set hl with hl | rfl
      · exact hs.pp l hl
      · exact pe.2
  trivial
  refine w_iff ?_
  trivial
  refine ⟨fun q => ?_, fun q => ?_⟩
  · trivial
    refine o_eqnil (pls_harms _) ?_
    trivial
    refine ⟨fun q => ?_, fun q => ?_⟩
    · trivial
      refine h { s with harms := [.end_ c] } M2 ⟨hs.f, hs.c, hs.own, hs.dig, hs.nd, hs.k, hs.kp, hs.k1, hs.p, hs.pf, hs.pp, hs.fi, fun x hx => ?_, by simp, by simp⟩ hp2' t12
      rw [List.mem_singleton.mp hx]
      exact ⟨c0, c1⟩
    · trivial
      exact h { s with harms := [] } M2 ⟨hs.f, hs.c, hs.own, hs.dig, hs.nd, hs.k, hs.kp, hs.k1, hs.p, hs.pf, hs.pp, hs.fi, by simp, by simp, by simp⟩ hp2' t12
  · trivial
    rw [List.length_map]
    refine o_rep (by omega) (by omega) (by simp) ?_
    trivial
    refine ⟨rfl, ?_⟩
    trivial
    rw [copies_empty]
    refine h { s with calls := [], panels := List.replicate _ [], fire := !s.fire } M2 ⟨hs.f, hs.c, hs.own, hs.dig, hs.nd, by simp, by simp, by simp, ?_, fun l hl => ?_, fun l hl => ?_, fun _ => ⟨rfl, fun l hl => (List.mem_replicate.mp hl).2⟩, hs.h, hs.hp, hs.h1⟩ hp2' t12
    · show (List.replicate _ _).length = _
      rw [List.length_replicate]
      omega
    · rw [(List.mem_replicate.mp hl).2]
      simp
    · rw [(List.mem_replicate.mp hl).2]
      simp
end

end Ev

set_option maxRecDepth 100000
set_option maxHeartbeats 2000000
namespace Ev
open PySem
local macro_rules
  | `(tactic| trivial) => `(tactic| repeat with_reducible first
    | (refine g_ev ?_; first | refine w_var (by with_unfolding_all rfl) ?_ | refine w_lit ?_ | refine w_ix ?_ | refine w_cmp ?_ | refine w_tup ?_ | refine w_bin ?_ | refine w_call1 ?_ | refine w_call2 ?_ | refine w_call3 ?_ | refine w_call4 ?_ | refine w_call ?_ | refine w_all0 ?_ | refine w_bf ?_ | refine w_lst ?_ | refine w_bop ?_ | refine w_nt ?_ | refine w_x1 ?_ | refine w_ite ?_ | refine w_slc ?_ | refine w_cst ?_ | refine w_neg ?_ | refine w_append ?_ | refine w_lrg ?_ | refine w_chain ?_ | refine w_x2 ?_ | refine w_fst ?_ | refine w_join ?_ | refine w_count ?_ | refine w_rev ?_ | refine w_dix ?_)
    | refine m_d ?_ | refine m_l ?_ | refine isB ?_ | refine isI ?_ | refine w_nx ?_
    | (refine g_evs ?_; first | refine w_evs ?_ | refine w_evs0 ?_)
    | (refine g_exs ?_; first | refine w_exs ?_ | refine w_exs0 ?_)
    | (refine g_ex ?_; first | refine w_if1 ?_ | refine w_if2 ?_ | refine w_set ?_ | refine w_ret ?_ | refine w_expr ?_ | refine w_par ?_ | refine w_unp ?_ | refine w_put ?_)
    | refine w_rt ?_ | refine w_end ?_
    | (refine g_evB ?_; first | refine w_evBo ?_ | refine w_evBa ?_ | refine w_evB0 ?_)
    | (refine g_evT ?_; first | refine w_evT ?_ | refine w_evT0 ?_)
    | (refine g_op ?_; first | refine o_add ?_ | refine o_eq ?_ | refine o_isi ?_ | refine o_sub ?_ | refine b_lent ?_ | refine o_gt ?_ | refine o_lt ?_ | refine o_eqs ?_ | refine o_nes ?_ | refine b_tuple ?_ | refine b_int ?_ | refine o_gei ?_ | refine o_lei ?_ | refine o_nei ?_ | refine b_min ?_ | refine b_max ?_ | refine b_repr_b ?_)
    | (refine g_br ?_; first | refine br_nt ?_ | refine br_tt ?_ | refine br_ff ?_ | refine br_isiT (by with_unfolding_all rfl) ?_ | refine br_isiF (by with_unfolding_all rfl) ?_ )
    | (refine g_evI ?_; first | refine w_seq ?_ | refine w_rng1 ?_ | refine w_rng2 ?_ | refine w_rng3 ?_ | refine w_enum ?_ | refine w_zip ?_)
    | (refine g_evO ?_; first | refine w_evO ?_ | refine w_evO0 ?_)
    | (refine g_evF ?_; first | refine w_evF0 ?_ | refine w_txt ?_ ?_ | refine w_val ?_)
    | refine w_lit ?_)
theorem reprL {ds : List D} (n0 : nices ds = true) (p0 : pls 39 ds = true) (hz : szs ds ≤ 1000000) : ∃ t : Str, ∀ (M : MH) (P : TV → Prop), P (.d (.str t)) → Op (bfop M .repr [.lst ds]) P := by
  obtain ⟨b1, b2⟩ := nices_ok ds n0
  have l1 := lstText_le (PyData.shownAll (vals ds))
  refine ⟨(PyData.list (vals ds)).shown, fun M P h => b_repr (p := .list (vals ds)) ?_ b1 ?_ h⟩
  · show (pdAll (pd M 39) ds).map PyData.list = _
    rw [pdAll_val (Nat.le_refl _) p0]
    rfl
  · rw [sl]
    show (listText (PyData.shownAll (vals ds))).length ≤ _
    omega
theorem reprD {d : D} (n0 : nice d = true) (p0 : pl 40 d = true) (hz : sz d ≤ 1000000) : ∃ t : Str, ∀ (M : MH) (P : TV → Prop), P (.d (.str t)) → Op (bfop M .repr [.d d]) P := by
  obtain ⟨b1, b2⟩ := nice_ok d n0
  refine ⟨(val d).shown, fun M P h => b_repr (p := val d) (pd_val p0 (Nat.le_refl _)) b1 ?_ h⟩
  rw [sl]
  omega
theorem Hs.sz1 {F : Int} {ss ns : List Int} (hh : Hs F ss ns) : Ev.sz (hD F ss ns) ≤ 100 := by
  have h1 := sz_ints (is := ss) fun i hi => by have := hh.s i hi; omega
  have h2 := sz_ints (is := ns) fun i hi => by have := hh.n i hi; omega
  have h3 : Ev.sz (.int F) ≤ 11 := sz_i (by have := hh.f0; omega) (by have := hh.f1; omega)
  have := hh.l1
  have := hh.len
  unfold hD
  rw [sz_tup]
  show Ev.sz (.int F) + (Ev.sz (.tup (ss.map .int)) + (Ev.sz (.tup (ns.map .int)) + 0)) + 1 ≤ 100
  omega
section
variable {fs : Nat → Option Fn}
variable [Has fs 0 fn_law_draw] [Has fs 1 fn_law_house] [Has fs 2 fn_law_calls] [Has fs 3 fn_law_plain] [Has fs 4 fn_law_condition] [Has fs 17 fn_law_places] [Has fs 18 fn_law_notes] [Has fs 19 fn_law_some] [Has fs 20 fn_law_harms] [Has fs 21 fn_law_stand]
  [Has fs 34 fn_is_integer] [Has fs 35 fn_is_between] [Has fs 36 fn_are_integers] [Has fs 37 fn_is_a_house] [Has fs 38 fn_need_house] [Has fs 39 fn_are_apart] [Has fs 40 fn_are_places] [Has fs 41 fn_are_notes] [Has fs 42 fn_are_cars] [Has fs 43 fn_is_a_floor] [Has fs 44 fn_is_a_call]
  [Has fs 45 fn_is_rising] [Has fs 46 fn_are_calls] [Has fs 47 fn_are_rising_integers] [Has fs 48 fn_are_panels] [Has fs 49 fn_is_a_car] [Has fs 50 fn_is_a_harm] [Has fs 51 fn_are_harms] [Has fs 52 fn_is_a_stand] [Has fs 53 fn_need_stand] [Has fs 54 fn_is_composed] [Has fs 55 fn_is_plain] [Has fs 56 fn_is_a_condition] [Has fs 57 fn_need_condition] [Has fs 58 fn_parts_of] [Has fs 59 fn_lit_floors] [Has fs 60 fn_plain_of_car] [Has fs 61 fn_true_at] [Has fs 62 fn_holds]
  [Has fs 63 fn_law_true] [Has fs 66 fn_law_near] [Has fs 67 fn_pushed_in] [Has fs 68 fn_opposite] [Has fs 69 fn_law_integer] [Has fs 70 fn_law_is_plain] [Has fs 71 fn_law_size] [Has fs 72 fn_law_right_k12]
theorem right_k12 {n : Nat} {M : MH} {p : Nat} {P : D → MH → Prop} (hp : Pot M p 0) (h : ∀ M', P (.bl true) M') : Ok (run fs (n + 20) 72 [.ref p] M) P := by
  have hbig : 10 ^ 20 < 2 ^ 500 := by decide +kernel
  have he : (100 : Nat) ^ 6 = 1000000000000 := by decide +kernel
  have he9 : (100 : Nat) ^ 8 = 10000000000000000 := by decide +kernel
  with_reducible refine w_fn (fn := fn_law_right_k12) rfl ?_
  simp only [fn_law_right_k12, b_law_right_k12]
  trivial
  refine houseT hp (by omega) (by decide) (by decide) (by decide) (by decide) ?_
  intro F ss ns M1 hh _ _ hp1 t1
  trivial
  refine draw' hp1 (by decide) (by decide) (by omega) ?_
  intro r1 M2 a0 a1 hp2 t2
  obtain ⟨z, hz, ha⟩ := in_at (l := [.int 2, .int 6, .int 14, .int 30]) (i := r1) a0 (by simpa using a1)
  refine o_ixl ha ?_
  obtain ⟨room, rfl, z0, z1⟩ : ∃ zi : Int, z = .int zi ∧ 1 ≤ zi ∧ zi ≤ 30 := by
    simp at hz
    rcases hz with rfl | rfl | rfl | rfl <;> exact ⟨_, rfl, by decide, by decide⟩
  trivial
  refine draw' hp2 (by decide) (by decide) (by omega) ?_
  intro r2 M3 b0 b1 hp3 t3
  trivial
  have hpw : (100 : Nat) ^ (r2.toNat + 2) ≤ 100 ^ 6 := Nat.pow_le_pow_right (by decide) (by omega)
  have hpw2 : (100 : Nat) ^ (r2.toNat + 4) ≤ 100 ^ 8 := Nat.pow_le_pow_right (by decide) (by omega)
  refine condN (lv := r2.toNat) (by omega) hh (by omega) hp3 z0 (by omega) (by omega) ?_
  intro x M4 x1 x2 x3 hp4 t4
  trivial
  have xn : x.n ≤ 30 := by omega
  have xl : x.lv ≤ 5 := by omega
  have hp4 : Pot M4 p (22 + 100 ^ 6) := hp4.mono (by omega)
  clear hpw hpw2 hp3 hp2 hp1
  have hpl := hp4.lt
  have hne : M4.length ≠ p := by omega
  have hp5 : Pot (M4 ++ [MO.lst []]) p (22 + 100 ^ 6) := hp4.push
  have hst : (M4 ++ [MO.lst []])[M4.length]? = some (.lst (([] : List St).map St.d)) := last_at
  generalize hM5 : M4 ++ [MO.lst []] = M5 at hp5 hst
  generalize M4.length = st at hst hne
  with_reducible refine w_for ?_
  trivial
  refine ⟨by decide, rng 0 8 1, fun _ => rfl, fun i σ M' => ∃ o4, ∃ sts : List St, σ = [some (.ref p), some (hD F ss ns), some x.d, some (.ref st), o4, none, none, none, none] ∧ M'[st]? = some (.lst (sts.map St.d)) ∧ sts.length = 2 * i ∧ (∀ s ∈ sts, StOk F ss ns s) ∧ Pot M' p (22 + 100 ^ 6 + i * 130), ⟨_, [], rfl, hst, rfl, by simp, hp5.mono (by omega)⟩, ?_, ?_⟩
  · rintro i d σ M6 hd ⟨o4, sts, rfl, e1, e3, e4, hp6⟩
    obtain ⟨hi, rfl⟩ := rng_at hd
    have hi : i < 8 := hi
    refine ⟨_, rfl, ?_⟩
    trivial
    refine ⟨rfl, ?_⟩
    trivial
    refine standT hh hp6 (by omega) ?_
    intro s M7 hs hp7 t7
    trivial
    have f1 : M7[st]? = some (.lst (sts.map St.d)) := by
      rw [t7.at_ _ (List.getElem?_eq_some_iff.mp e1).1 hne]
      exact e1
    refine o_app f1 (by rw [List.length_map, sl]; omega) ?_
    trivial
    refine ⟨rfl, ?_⟩
    trivial
    have f3 := (List.getElem?_eq_some_iff.mp f1).1
    have f4 : (M7.set st (MO.lst (sts.map St.d ++ [s.d])))[st]? = some (.lst ((sts ++ [s]).map St.d)) := by
      rw [List.getElem?_set_self f3, List.map_append]
      rfl
    have hp8 : Pot (M7.set st (MO.lst (sts.map St.d ++ [s.d]))) p (22 + 100 ^ 6 + i * 130 + 100) := Later.pot_set hp7 hne
    generalize M7.set st (MO.lst (sts.map St.d ++ [s.d])) = M8 at f4 hp8
    refine o_ixr f4 (by rw [List.map_append]; exact at_last) ?_
    trivial
    refine nearT hh hs hp8 (by omega) ?_
    intro s2 M9 hs2 hp9 t9
    trivial
    have f5 : M9[st]? = some (.lst ((sts ++ [s]).map St.d)) := by
      rw [t9.at_ _ (List.getElem?_eq_some_iff.mp f4).1 hne]
      exact f4
    refine o_app f5 (by rw [List.length_map, sl]; simp; omega) ?_
    trivial
    have f6 := (List.getElem?_eq_some_iff.mp f5).1
    refine ⟨_, sts ++ [s] ++ [s2], rfl, by rw [List.getElem?_set_self f6, List.map_append (l₁ := sts ++ [s])]; rfl, by simp [e3]; omega, fun y hy => ?_, Later.pot_set (hp9.mono (by rw [Nat.succ_mul]; omega)) hne⟩
    rcases List.mem_append.mp hy with hy | hy
    · rcases List.mem_append.mp hy with hy | hy
      · exact e4 y hy
      · rw [List.mem_singleton.mp hy]; exact hs
    · rw [List.mem_singleton.mp hy]; exact hs2
  rintro σ M6 ⟨o4, sts, rfl, e1, e3, e4, hp6⟩
  clear hp6 hp5 hp4
  trivial
  obtain ⟨nx, sx⟩ := Cnd.shows hh x x3
  obtain ⟨t, ht⟩ := reprL (ds := [hD F ss ns, x.d]) (by show (nice (hD F ss ns) && (nice x.d && true)) = true; rw [hh.nice, nx]; rfl) (by show (pl 39 (hD F ss ns) && (pl 39 x.d && true)) = true; rw [hD_pl, Cnd.pl_ok x (by omega)]; rfl) (by have := hh.sz1; show sz (hD F ss ns) + (sz x.d + 0) ≤ _; omega)
  refine ht _ _ ?_
  trivial
  have on := opp_n true x
  have ol := opp_lv true x
  have oo := opp_ok true x x3
  refine opposite_ok hh x3 (by omega) (by omega) ?_
  intro M7 o7
  trivial
  refine law_size_ok 6 (x := opp true x) (l := 6) (by omega) (by omega) oo (opp_flat true x) (by omega) ?_
  intro M8 o8
  trivial
  refine br_decF (decide_eq_false (by omega)) ?_
  trivial
  refine ht _ _ ?_
  trivial
  refine br_t (beq_self_eq_true _) ?_
  trivial
  have hself : ∀ b : Bool, ((PyData.bool b).shown == (PyData.bool b).shown) = true := fun b => beq_self_eq_true _
  have stay : ∀ {Ma Mb : MH}, Only Ma Mb → Ma[st]? = some (.lst (sts.map St.d)) → Mb[st]? = some (.lst (sts.map St.d)) := fun {Ma Mb} o h1 => by rw [o.at_ _ (List.getElem?_eq_some_iff.mp h1).1]; exact h1
  have f1 := stay (o7.trans o8) e1
  with_reducible refine w_forI ?_
  trivial
  refine o_srcr f1 ⟨sts.map St.d, fun i σ M' => ∃ o7 o8, σ = [some (.ref p), some (hD F ss ns), some x.d, some (.ref st), o4, some (.str t), some (opp true x).d, o7, o8] ∧ M'[st]? = some (.lst (sts.map St.d)), ?_, ⟨_, _, rfl, f1⟩, ?_, ?_⟩
  · rintro i σ M' ⟨_, _, _, h1⟩
    exact rd_at h1
  · rintro j d σ M9 hd ⟨o7, o8, rfl, f1⟩
    rw [List.getElem?_map] at hd
    obtain ⟨s, hs, rfl⟩ := Option.map_eq_some_iff.mp hd
    have hs := e4 s (List.mem_of_getElem? hs)
    have et : tr s (opp true x) = !tr s x := tr_opp s true x
    refine ⟨_, rfl, ?_⟩
    trivial
    refine law_true_ok hh hs 6 (by omega) (by omega) x3 ?_
    intro Ma oa
    trivial
    refine law_true_ok hh hs 6 (by omega) (by omega) oo ?_
    intro Mb ob
    rw [et]
    trivial
    refine br_t (hself _) ?_
    trivial
    refine holds_ok hh hs oo (by omega) (by omega) ?_
    intro Mc oc
    rw [et]
    trivial
    refine br_t (hself _) ?_
    trivial
    exact ⟨_, _, rfl, stay (oa.trans (ob.trans oc)) f1⟩
  rintro σ M9 ⟨o7, o8, rfl, f1⟩
  trivial
  refine opposite_ok hh x3 (by omega) (by omega) ?_
  intro Ma oa
  trivial
  obtain ⟨ny, sy⟩ := Cnd.shows hh (opp true x) oo
  obtain ⟨t2, ht2⟩ := reprD (d := (opp true x).d) ny (Cnd.pl_ok _ (by omega)) (by omega)
  refine ht2 _ _ ?_
  trivial
  refine ht2 _ _ ?_
  trivial
  rw [beq_self_eq_true]
  exact h _
variable [Has fs 15 fn_law_pot] [Has fs 73 fn_law_k12]
theorem law_k12_holds : ∀ ns : List Int, ns.length ≤ 63 → ∃ M', run fs 40 73 [scrD ns] [] = .ok (.bl true) M' := by
  intro ns hns
  have h : Ok (run fs (39 + 1) 73 [scrD ns] []) (fun r M' => r = .bl true) := by
    refine w_fn (fn := fn_law_k12) rfl ?_
    simp only [fn_law_k12, b_law_k12]
    trivial
    with_reducible refine w_for ?_
    trivial
    refine b_lenc ?_
    trivial
    have hl : ((ns.map D.int).length : Int) = ns.length := by simp
    rw [hl]
    generalize hm : (if (if (ns.length : Int) < 3 then (ns.length : Int) else 3) > 1 then (if (ns.length : Int) < 3 then (ns.length : Int) else 3) else 1) = m
    have m0 : 0 ≤ m := by rw [← hm]; split <;> split <;> omega
    have m1 : m ≤ 3 := by rw [← hm]; split <;> split <;> omega
    refine ⟨small_is (by omega) (by omega), rng 0 m.toNat 1, fun _ => rfl, fun i σ M' => ∃ o, σ = [some (scrD ns), o], ⟨none, rfl⟩, ?_, ?_⟩
    · rintro i d σ M' hi ⟨o, rfl⟩
      obtain ⟨hi2, rfl⟩ := rng_at hi
      refine ⟨_, rfl, ?_⟩
      have e : (0 : Int) + (i : Nat) * 1 = (i : Nat) := by omega
      rw [e]
      trivial
      refine pot_ok (n := 38) (ns := ns) (k := i) ?_
      intro M1 _ hp _
      trivial
      refine right_k12 (n := 19) hp ?_
      intro M2
      trivial
      exact ⟨_, rfl⟩
    · rintro σ M' ⟨o, rfl⟩
      trivial
      rfl
  obtain ⟨a, M, e, rfl⟩ := h.is
  exact ⟨M, e⟩
end

end Ev

namespace K12
open Ev PySem
instance : Has T.at 0 Ev.fn_law_draw := ⟨rfl⟩
instance : Has T.at 1 Ev.fn_law_house := ⟨rfl⟩
instance : Has T.at 2 Ev.fn_law_calls := ⟨rfl⟩
instance : Has T.at 3 Ev.fn_law_plain := ⟨rfl⟩
instance : Has T.at 4 Ev.fn_law_condition := ⟨rfl⟩
instance : Has T.at 17 Ev.fn_law_places := ⟨rfl⟩
instance : Has T.at 18 Ev.fn_law_notes := ⟨rfl⟩
instance : Has T.at 19 Ev.fn_law_some := ⟨rfl⟩
instance : Has T.at 20 Ev.fn_law_harms := ⟨rfl⟩
instance : Has T.at 21 Ev.fn_law_stand := ⟨rfl⟩
instance : Has T.at 66 Ev.fn_law_near := ⟨rfl⟩
instance : Has T.at 34 Ev.fn_is_integer := ⟨rfl⟩
instance : Has T.at 35 Ev.fn_is_between := ⟨rfl⟩
instance : Has T.at 36 Ev.fn_are_integers := ⟨rfl⟩
instance : Has T.at 37 Ev.fn_is_a_house := ⟨rfl⟩
instance : Has T.at 38 Ev.fn_need_house := ⟨rfl⟩
instance : Has T.at 54 Ev.fn_is_composed := ⟨rfl⟩
instance : Has T.at 43 Ev.fn_is_a_floor := ⟨rfl⟩
instance : Has T.at 44 Ev.fn_is_a_call := ⟨rfl⟩
instance : Has T.at 49 Ev.fn_is_a_car := ⟨rfl⟩
instance : Has T.at 55 Ev.fn_is_plain := ⟨rfl⟩
instance : Has T.at 56 Ev.fn_is_a_condition := ⟨rfl⟩
instance : Has T.at 57 Ev.fn_need_condition := ⟨rfl⟩
instance : Has T.at 58 Ev.fn_parts_of := ⟨rfl⟩
instance : Has T.at 67 Ev.fn_pushed_in := ⟨rfl⟩
instance : Has T.at 68 Ev.fn_opposite := ⟨rfl⟩
instance : Has T.at 69 Ev.fn_law_integer := ⟨rfl⟩
instance : Has T.at 70 Ev.fn_law_is_plain := ⟨rfl⟩
instance : Has T.at 71 Ev.fn_law_size := ⟨rfl⟩
instance : Has T.at 63 Ev.fn_law_true := ⟨rfl⟩
instance : Has T.at 39 Ev.fn_are_apart := ⟨rfl⟩
instance : Has T.at 40 Ev.fn_are_places := ⟨rfl⟩
instance : Has T.at 41 Ev.fn_are_notes := ⟨rfl⟩
instance : Has T.at 42 Ev.fn_are_cars := ⟨rfl⟩
instance : Has T.at 45 Ev.fn_is_rising := ⟨rfl⟩
instance : Has T.at 46 Ev.fn_are_calls := ⟨rfl⟩
instance : Has T.at 47 Ev.fn_are_rising_integers := ⟨rfl⟩
instance : Has T.at 48 Ev.fn_are_panels := ⟨rfl⟩
instance : Has T.at 50 Ev.fn_is_a_harm := ⟨rfl⟩
instance : Has T.at 51 Ev.fn_are_harms := ⟨rfl⟩
instance : Has T.at 52 Ev.fn_is_a_stand := ⟨rfl⟩
instance : Has T.at 53 Ev.fn_need_stand := ⟨rfl⟩
instance : Has T.at 59 Ev.fn_lit_floors := ⟨rfl⟩
instance : Has T.at 60 Ev.fn_plain_of_car := ⟨rfl⟩
instance : Has T.at 61 Ev.fn_true_at := ⟨rfl⟩
instance : Has T.at 62 Ev.fn_holds := ⟨rfl⟩
instance : Has T.at 72 Ev.fn_law_right_k12 := ⟨rfl⟩
instance : Has T.at 15 Ev.fn_law_pot := ⟨rfl⟩
instance : Has T.at 73 Ev.fn_law_k12 := ⟨rfl⟩
end K12
theorem PySem.Challenge.cw_hoistsure_k12_opposite_conditions_holds : PySem.Challenge.rw_hoistsure_k12_opposite_conditions.Holds :=
  K12.given Ev.law_k12_holds
