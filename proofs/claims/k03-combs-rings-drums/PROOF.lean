import PyProof.Rows.All
import Wide.All
import OpenK.AllK
import Wide.FinOn
import HandS.ForMost
import HandS.Slots
import HandS.Property
import HandS.Star
import HandS.Conv
import HandS.Wide
import HandS.IsInst
import HandS.SortInts
import HandS.Zip
import HandS.TupAny
import HandS.Deep
import HandS.Style
import HandS.NoneIn
import HandS.RaiseMore
import KE.GoesEnum
import KE.GoesMore
import KE.KDictZip
import KE.KItemsList
import HandS.Small
import HandS.Words
import HandS.Ends
import HandS.Text
import PySem.Challenge.RW_threeroadcars_k03_whole_combs_rings_and
set_option Elab.async false
set_option linter.all false
section
set_option maxRecDepth 100000
/-! Vi, part A: the data, the small syntax, what it reckons (den, exec). -/
namespace Vi
open PySem L2

/-! ### data -/
inductive D where
  | non | bl (b : Bool) | int (i : Int) | str (s : Str)
  | tup (xs : List D) | lst (o : Bool) (xs : List D) | dic (o : Bool) (kvs : List (Key × D)) | dit (o : Bool) (kvs : List (List Key × D))
  | ins (o : Bool) (c : Str) (fs : List (Str × D)) | scr (ns : List Int)
  deriving Inhabited

def D.own : D → Bool
  | .lst o _ => o | .dic o _ => o | .dit o _ => o | .ins o _ _ => o | _ => false
def D.frz : D → D
  | .lst _ xs => .lst false xs | .dic _ kvs => .dic false kvs | .dit _ kvs => .dit false kvs | .ins _ c fs => .ins false c fs | d => d
@[simp] theorem D.frz_own (d : D) : d.frz.own = false := by cases d <;> rfl
@[simp] theorem D.frz_frz (d : D) : d.frz.frz = d.frz := by cases d <;> rfl
theorem D.frz_of (d : D) (h : d.own = false) : d.frz = d := by
  cases d <;> first | rfl | (simp only [D.own] at h; subst h; rfl)

abbrev Ev := List (Option D)
def getV (env : Ev) (i : Nat) : Option D := (env[i]?).bind id

/-! ### syntax -/
inductive Op where
  | add | sub | mul | fdiv | mod | pow | neg
  | eq | ne | lt | le | gt | ge | isin | notin | isN | notN
  | idx | slc (lo hi : Bool) | rev
  | len | abs | max2 | min2 | max3 | min4 | maxL | minL | sum | sorted | list | tuple | int | str | repr | all | any | dict | isi (ts : List String)
  | lenset | sortedset | maxvals | listzip | listrange
  | join | split | get1 | get2 | index | count
  | isb | notb
inductive Mu where
  | append | extend | pop | popAt | update | setdefault
mutual
inductive T where
  | v (i : Nat) | t (ts : Ts)
inductive Ts where
  | nil | cons (a : T) (r : Ts)
end
mutual
inductive E where
  | lit (d : D) | var (i : Nat) | vz (i : Nat) | gl (x : Str) (d : D)
  | op (o : Op) (es : Es) | opm (o : Op) (a : E) (es : Es) | slc (a : E) (b c : Bool) (es : Es)
  | chain (o p : Op) (a b c : E)
  | an (es : Es) | orr (es : Es) | nt (e : E) | ite (c a b : E)
  | tup (es : Es) | lst (es : Es) | dnew (t : Bool)
  | call (f : Str) (es : Es) | make (c q : Str) (es : Es)
  | attr (e : E) (f : Str) | prop (c q f : Str) (e : E) | lenI (c q : Str) (e : E) | meth (q m : Str) (es : Es)
  | mut (m : Mu) (i : Nat) (es : Es)
  | comp (elt : E) (tg : T) (it : I) (ifs : Es) (own : List Nat)
inductive Es where
  | nil | cons (star : Bool) (e : E) (r : Es)
inductive I where
  | val (e : E) | range (es : Es) | enum (e : E) | zip (a b : E) | items (e : E)
end
mutual
inductive S where
  | asg (tg : T) (e : E) | par (is : List Nat) (es : Es) | setix (i : Nat) (ix e : E) | setat (i : Nat) (cn f : Str) (e : E)
  | exp (e : E) | ret (e : E) | retN | iff (c : E) (a b : Ss) | whl (c : E) (a : Ss) | forr (tg : T) (it : I) (a : Ss)
  | pass | brk | cont | rais
inductive Ss where
  | nil | cons (s : S) (r : Ss)
end

/-! ### what operations give -/
def line : Nat := sizeLine
-- data that == tells apart item by item
mutual
def eqD : D → D → Bool
  | .non, .non => true
  | .bl a, .bl b => a == b
  | .int a, .int b => a == b
  | .bl a, .int b => (if a then 1 else 0) == b
  | .int a, .bl b => a == (if b then 1 else 0)
  | .str a, .str b => a == b
  | .tup a, .tup b => eqDs a b
  | .lst _ a, .lst _ b => eqDs a b
  | _, _ => false
def eqDs : List D → List D → Bool
  | [], [] => true
  | a :: as, b :: bs => eqD a b && eqDs as bs
  | [], _ :: _ => false
  | _ :: _, [] => false
end
-- plain data: none, truths, integers, texts of real signs, tuples, lists, not too deep
mutual
def plain : Nat → D → Bool
  | _, .non => true
  | _, .bl _ => true
  | _, .int _ => true
  | _, .str s => PyData.strOk s
  | n + 1, .tup xs => plains n xs
  | n + 1, .lst _ xs => plains n xs
  | 0, .tup _ => false
  | 0, .lst _ _ => false
  | _, .dic _ _ => false
  | _, .dit _ _ => false
  | _, .ins _ _ _ => false
  | _, .scr _ => false
def plains : Nat → List D → Bool
  | _, [] => true
  | n, x :: xs => plain n x && plains n xs
end
-- as the library's data
mutual
def toPy : D → PyData
  | .non => .none
  | .bl b => .bool b
  | .int i => .int i
  | .str s => .str s
  | .tup xs => .tuple (toPys xs)
  | .lst _ xs => .list (toPys xs)
  | .dic _ _ => .none
  | .dit _ _ => .none
  | .ins _ _ _ => .none
  | .scr _ => .none
def toPys : List D → List PyData
  | [] => []
  | x :: xs => toPy x :: toPys xs
end
def allI : List D → Option (List Int)
  | [] => some []
  | .int i :: r => (allI r).map (i :: ·)
  | _ => none
def allB : List D → Option (List Bool)
  | [] => some []
  | .bl i :: r => (allB r).map (i :: ·)
  | _ => none
def allS : List D → Option (List Str)
  | [] => some []
  | .str i :: r => (allS r).map (i :: ·)
  | _ => none
def keyD : D → Option Key
  | .int i => some (.inl i)
  | .str s => some (.inr s)
  | _ => none
def keysD : List D → Option (List Key)
  | [] => some []
  | d :: r => (keyD d).bind fun k => (keysD r).map (k :: ·)
def ofKey : Key → D
  | .inl i => .int i
  | .inr s => .str s
section
variable {κ : Type} [DecidableEq κ]
def valD (kvs : List (κ × D)) (k : κ) : Option D := (kvs.find? fun kv => decide (kv.1 = k)).map (·.2)
def putD (kvs : List (κ × D)) (k : κ) (v : D) : List (κ × D) :=
  if (kvs.any fun kv => decide (kv.1 = k)) = true then kvs.map (fun kv => if kv.1 = k then (kv.1, v) else kv) else kvs ++ [(k, v)]
end
-- pairs (key, value), as a dict
def pairsD : List D → Option (List (Key × D))
  | [] => some []
  | .tup [k, v] :: r => (keyD k).bind fun k => (pairsD r).map ((k, v) :: ·)
  | _ => none
def mergeD (kvs more : List (Key × D)) : List (Key × D) := more.foldl (fun acc kv => putD acc kv.1 kv.2) kvs
-- sorting
def ltS (a b : Str) : Bool := decide (a.cps.toList < b.cps.toList)
def insS (x : Str) : List Str → List Str
  | [] => [x]
  | y :: r => if ltS y x then y :: insS x r else x :: y :: r
def srtS : List Str → List Str
  | [] => []
  | x :: r => insS x (srtS r)
def insI (x : Int) : List Int → List Int
  | [] => [x]
  | y :: r => if y < x then y :: insI x r else x :: y :: r
def srtI : List Int → List Int
  | [] => []
  | x :: r => insI x (srtI r)
def maxI : List Int → Int
  | [] => 0
  | [x] => x
  | x :: y :: r => max x (maxI (y :: r))
def minI : List Int → Int
  | [] => 0
  | [x] => x
  | x :: y :: r => min x (minI (y :: r))
def flatD : D → Bool
  | .non => true
  | .bl _ => true
  | .int _ => true
  | .str _ => true
  | _ => false
def scalD : D → D → Bool
  | .non, .non => true | .non, .int _ => true | .int _, .non => true | .non, .bl _ => true | .bl _, .non => true | .non, .str _ => true | .str _, .non => true
  | .int _, .int _ => true | .bl _, .bl _ => true | .str _, .str _ => true
  | .int _, .str _ => true | .str _, .int _ => true | .bl _, .str _ => true | .str _, .bl _ => true
  | _, _ => false
def eqOp (a b : D) : Option Bool := if scalD a b then some (eqD a b) else if plain 60 a && plain 60 b then some (eqD a b) else none
def inOp : D → D → Option Bool
  | x, .lst _ ys => if flatD x && ys.all flatD then some (ys.any fun y => eqD y x) else if plain 60 x && plains 60 ys then some (ys.any fun y => eqD y x) else none
  | x, .tup ys => if flatD x && ys.all flatD then some (ys.any fun y => eqD y x) else none
  | .str a, .str b => some (!(Builtin.Str.occurrences b a 0 b.length 1).isEmpty)
  | .int a, .dic _ kvs => some (valD kvs (.inl a)).isSome
  | .str a, .dic _ kvs => some (valD kvs (.inr a)).isSome
  | .tup ks, .dit _ kvs => (keysD ks).map fun k => (valD kvs k).isSome
  | _, _ => none
def cutD (xs : List D) (lo hi : Option Int) : List D := (xs.drop (HT.sIx xs.length 0 lo)).take (HT.sIx xs.length xs.length hi - HT.sIx xs.length 0 lo)
def slcOp (x : D) (lo hi : Option Int) : Option D := match x with
  | .lst _ xs => some (.lst true (cutD xs lo hi))
  | .tup xs => some (.tup (cutD xs lo hi))
  | .scr ns => some (.lst true (cutD (ns.map .int) lo hi))
  | _ => none
def intOf : D → Option Int
  | .int i => some i
  | _ => none
def tyOf : D → Option String
  | .non => some "NoneType" | .bl _ => some "bool" | .int _ => some "int" | .str _ => some "str" | .tup _ => some "tuple" | .lst _ _ => some "list"
  | .dic _ _ => some "dict" | .dit _ _ => none | .ins _ _ _ => none | .scr _ => none
def kidOf (t : String) : List String := if t = "bool" then ["bool", "int"] else [t]
def zipD : List D → List D → List D
  | x :: xs, y :: ys => .tup [x, y] :: zipD xs ys
  | _, _ => []
def wordsOk (n : Nat) (ys : List Str) : Bool := decide ((ys.map Str.length).sum + n * ys.length ≤ line)
def addOp : D → D → Option D
  | .int a, .int b => some (.int (a + b))
  | .str a, .str b => if a.length + b.length ≤ line then some (.str (a ++ b)) else none
  | .lst _ a, .lst _ b => if a.length + b.length ≤ line then some (.lst true (a ++ b)) else none
  | .tup a, .tup b => if a.length + b.length ≤ line then some (.tup (a ++ b)) else none
  | _, _ => none
def subOp : D → D → Option D
  | .int a, .int b => some (.int (a - b))
  | _, _ => none
def mulOp : D → D → Option D
  | .int a, .int b => if a.natAbs.log2 + b.natAbs.log2 < 1000000 then some (.int (a * b)) else none
  | _, _ => none
def fdivOp : D → D → Option D
  | .int a, .int b => if 0 < b ∧ b.natAbs.log2 < 9000 then some (.int (a / b)) else if b ≠ 0 ∧ b.natAbs < 1073741824 then some (.int (a.fdiv b)) else none
  | _, _ => none
def modOp : D → D → Option D
  | .int a, .int b => if 0 < b then some (.int (a % b)) else if b ≠ 0 then some (.int (a.fmod b)) else none
  | _, _ => none
def powOp : D → D → Option D
  | .int a, .int b => if 0 ≤ b ∧ b < 1000 ∧ a.natAbs.log2 < 100000 then some (.int (a ^ b.toNat)) else none
  | _, _ => none
def ltOp : D → D → Option D
  | .int a, .int b => some (.bl (decide (a < b)))
  | .str a, .str b => some (.bl (ltS a b))
  | _, _ => none
def leOp : D → D → Option D
  | .int a, .int b => some (.bl (decide (a ≤ b)))
  | _, _ => none
def gtOp : D → D → Option D
  | .int a, .int b => some (.bl (decide (b < a)))
  | _, _ => none
def geOp : D → D → Option D
  | .int a, .int b => some (.bl (decide (b ≤ a)))
  | _, _ => none
def isNOp : D → Bool
  | .non => true
  | _ => false
def isbOp : D → D → Option Bool
  | .bl a, .bl b => some (a == b)
  | _, _ => none
def lenOk : D → Option D
  | .int n => if 0 ≤ n ∧ n.natAbs.log2 < 62 then some (.int n) else none
  | _ => none
def idxOp : D → D → Option D
  | .lst _ xs, .int i => atI xs i
  | .tup xs, .int i => atI xs i
  | .scr ns, .int i => (atI ns i).map .int
  | .str s, .int i => if s.length ≤ line then (atI s.cps.toList i).map fun c => .str ⟨#[c]⟩ else none
  | .dic _ kvs, .int k => valD kvs (.inl k)
  | .dic _ kvs, .str k => valD kvs (.inr k)
  | .dit _ kvs, .tup k => (keysD k).bind (valD kvs)
  | _, _ => none
def lenOp : D → Option D
  | .lst _ xs => some (.int xs.length)
  | .tup xs => some (.int xs.length)
  | .scr ns => some (.int ns.length)
  | .str s => if s.length ≤ line then some (.int s.length) else none
  | .dic _ kvs => some (.int kvs.length)
  | _ => none
def negOp : D → Option D
  | .int a => some (.int (-a))
  | _ => none
def absOp : D → Option D
  | .int a => some (.int (if a < 0 then -a else a))
  | _ => none
def int2 (f : Int → Int → Int) : D → D → Option D
  | .int a, .int b => some (.int (f a b))
  | _, _ => none
def seqOf : D → Option (List D)
  | .lst _ xs => some xs
  | .tup xs => some xs
  | _ => none
def sortOp : D → Option D
  | .lst _ xs => match allI xs with
    | some ns => some (.lst true ((srtI ns).map .int))
    | none => (allS xs).bind fun ns => if ns.length < 64 then some (.lst true ((srtS ns).map .str)) else none
  | .dic _ kvs => (allS (kvs.map fun kv => ofKey kv.1)).bind fun ns => if ns.length < 64 then some (.lst true ((srtS ns).map .str)) else none
  | _ => none
def listOp : D → Option D
  | .lst _ xs => some (.lst true xs)
  | .str s => if s.length ≤ line then some (.lst true (s.cps.toList.map fun c => .str ⟨#[c]⟩)) else none
  | .tup xs => some (.lst true xs)
  | .dic _ kvs => some (.lst true (kvs.map fun kv => ofKey kv.1))
  | _ => none
def intOp : D → Option D
  | .int a => some (.int a)
  | .bl a => some (.int (if a then 1 else 0))
  | _ => none
def strOp : D → Option D
  | .int a => if a.natAbs.log2 < 1920 then some (.str (toString a)) else none
  | .str s => some (.str s)
  | _ => none
def boolsOp (f : List Bool → Bool) : D → Option D
  | .lst _ xs => (allB xs).map fun bs => .bl (f bs)
  | _ => none
def dictOp : D → Option D
  | .lst _ xs => (pairsD xs).map fun kvs => .dic true (mergeD [] kvs)
  | _ => none
def lensetOp : D → Option D
  | .lst _ xs => (allI xs).bind fun ns => if ns.length ≤ 4000 then some (.int ((ns.foldl PyProof.Rows.step_dedup []).length : Nat)) else none
  | _ => none
def maxvalsOp : D → Option D
  | .dic _ kvs => (allI (kvs.map (·.2))).bind fun ns => if ns = [] then none else some (.int (maxI ns))
  | _ => none
def listzipOp : D → D → Option D
  | .lst _ xs, .lst _ ys => some (.lst true (zipD xs ys))
  | .tup xs, .tup ys => some (.lst true (zipD xs ys))
  | .lst _ xs, .tup ys => some (.lst true (zipD xs ys))
  | .tup xs, .lst _ ys => some (.lst true (zipD xs ys))
  | _, _ => none
def listrangeOp : D → Option D
  | .int a => if -16777216 ≤ a ∧ a ≤ 16777216 then some (.lst true ((List.range a.toNat).map fun i => .int (i : Nat))) else none
  | _ => none
def joinOp : D → D → Option D
  | .str s, .lst _ xs => (allS xs).bind fun ys => if wordsOk s.length ys then some (.str (Txt.join s ys)) else none
  | _, _ => none
def splitOp : D → D → Option D
  | .str s, .str t => if t.length ≠ 0 ∧ s.length + 2 ≤ line then some (.lst true ((Txt.split s t).map .str)) else none
  | _, _ => none
def getOp (d : D) : D → D → Option D
  | .dic _ kvs, k => (keyD k).map fun k => (valD kvs k).getD d
  | _, _ => none
def max3Op : D → D → D → Option D
  | .int a, .int b, .int c => some (.int (max a (max b c)))
  | _, _, _ => none
def min4Op : D → D → D → D → Option D
  | .int a, .int b, .int c, .int d => some (.int (min a (min b (min c d))))
  | _, _, _, _ => none
def opSem : Op → List D → Option D
  | .add, [a, b] => addOp a b
  | .sub, [a, b] => subOp a b
  | .mul, [a, b] => mulOp a b
  | .fdiv, [a, b] => fdivOp a b
  | .mod, [a, b] => modOp a b
  | .pow, [a, b] => powOp a b
  | .neg, [a] => negOp a
  | .eq, [a, b] => (eqOp a b).map .bl
  | .ne, [a, b] => (eqOp a b).map fun c => .bl (!c)
  | .lt, [a, b] => ltOp a b
  | .le, [a, b] => leOp a b
  | .gt, [a, b] => gtOp a b
  | .ge, [a, b] => geOp a b
  | .isin, [a, b] => (inOp a b).map .bl
  | .notin, [a, b] => (inOp a b).map fun c => .bl (!c)
  | .isb, [a, b] => (isbOp a b).map .bl
  | .notb, [a, b] => (isbOp a b).map fun c => .bl (!c)
  | .isN, [a] => some (.bl (isNOp a))
  | .notN, [a] => some (.bl (!isNOp a))
  | .idx, [a, b] => idxOp a b
  | .slc true true, [x, .int l, .int h] => slcOp x (some l) (some h)
  | .slc true false, [x, .int l] => slcOp x (some l) none
  | .slc false true, [x, .int h] => slcOp x none (some h)
  | .slc false false, [x] => slcOp x none none
  | .len, [a] => lenOp a
  | .abs, [a] => absOp a
  | .max2, [a, b] => int2 (fun a b => if b > a then b else a) a b
  | .min2, [a, b] => int2 (fun a b => if b < a then b else a) a b
  | .max3, [a, b, c] => max3Op a b c
  | .min4, [a, b, c, d] => min4Op a b c d
  | .maxL, [a] => (seqOf a).bind fun xs => (allI xs).bind fun ns => if ns = [] then none else some (.int (maxI ns))
  | .minL, [a] => (seqOf a).bind fun xs => (allI xs).bind fun ns => if ns = [] then none else some (.int (minI ns))
  | .sum, [a] => (seqOf a).bind fun xs => (allI xs).map fun ns => .int ns.sum
  | .sorted, [a] => sortOp a
  | .list, [a] => listOp a
  | .tuple, [a] => (seqOf a).map .tup
  | .int, [a] => intOp a
  | .str, [a] => strOp a
  | .repr, [d] => if plain 60 d && (toPy d).showable && decide ((toPy d).shown.length ≤ line) then some (.str (toPy d).shown) else none
  | .all, [a] => boolsOp (fun bs => bs.all id) a
  | .any, [a] => boolsOp (fun bs => bs.any id) a
  | .dict, [a] => dictOp a
  | .isi ts, [d] => (tyOf d).map fun t => .bl ((kidOf t).any ts.contains)
  | .lenset, [a] => lensetOp a
  | .maxvals, [a] => maxvalsOp a
  | .listzip, [a, b] => listzipOp a b
  | .listrange, [a] => listrangeOp a
  | .join, [a, b] => joinOp a b
  | .split, [a, b] => splitOp a b
  | .get2, [a, k, d] => if flatD d then getOp d a k else none
  | .get1, [a, k] => getOp .non a k
  | _, _ => none
def muSem : Mu → D → List D → Option (D × D)
  | .append, .lst true xs, [y] => if xs.length < line then some (.non, .lst true (xs ++ [y])) else none
  | .extend, .lst true xs, [.lst _ ys] => if xs.length + ys.length ≤ line then some (.non, .lst true (xs ++ ys)) else none
  | .pop, .lst true xs, [] => (xs.getLast?).map fun y => (y, .lst true xs.dropLast)
  | .popAt, .lst true xs, [.int i] => (ixN xs.length i).bind fun k => (xs[k]?).map fun y => (y, .lst true (xs.eraseIdx k))
  | _, _, _ => none
def setOp : D → D → D → Option D
  | .lst true xs, .int i, v => (ixN xs.length i).map fun k => .lst true (xs.set k v)
  | .dic true kvs, .int k, v => if kvs.length < line then some (.dic true (putD kvs (.inl k) v)) else none
  | .dic true kvs, .str k, v => if kvs.length < line then some (.dic true (putD kvs (.inr k) v)) else none
  | .dit true kvs, .tup k, v => if kvs.length < line then (keysD k).map fun k => .dit true (putD kvs k v) else none
  | _, _, _ => none

/-! ### what the syntax reckons -/
abbrev Phi := Str → List D → Option (D × List (Option D))
inductive Ar where
  | v (d : D) | r (i : Nat)
def peekA (env : Ev) : Ar → Option D
  | .v d => some d
  | .r i => getV env i
def peekAs (env : Ev) : List Ar → Option (List D)
  | [] => some []
  | a :: r => (peekA env a).bind fun d => (peekAs env r).map (d :: ·)
def moveAs : List Ar → Ev → Option (List D × Ev)
  | [], env => some ([], env)
  | .v d :: r, env => (moveAs r env).map fun q => (d :: q.1, q.2)
  | .r i :: r, env => (getV env i).bind fun d => (moveAs r (if d.own then env.set i none else env)).map fun q => (d :: q.1, q.2)
def backAs : List Ar → List D → List (Option D) → Ev → Ev
  | .r i :: r, d :: ds, f :: fs, env => backAs r ds fs (if d.own then env.set i f else env)
  | .v _ :: r, _ :: ds, _ :: fs, env => backAs r ds fs env
  | _, _, _, env => env
def boolOf : D → Option Bool
  | .bl b => some b
  | _ => none
def itemsOf : D → Option (List D)
  | .lst _ xs => some xs
  | .tup xs => some xs
  | _ => none
def walkOf : D → Option (List D)
  | .lst _ xs => some xs
  | .tup xs => some xs
  | .str s => some (s.cps.toList.map fun c => .str ⟨#[c]⟩)
  | .dic false kvs => some (kvs.map fun kv => ofKey kv.1)
  | .scr ns => some (ns.map .int)
  | _ => none
def numbered : Nat → List D → List D
  | _, [] => []
  | n, x :: r => .tup [.int (n : Nat), x] :: numbered (n + 1) r
mutual
def bindT (pin : List Nat) : T → D → Ev → Option Ev
  | .v i, d, env => if i ∈ pin ∨ env.length ≤ i then none else some (env.set i (some d))
  | .t ts, d, env => (itemsOf d).bind fun xs => bindTs pin ts xs env
def bindTs (pin : List Nat) : Ts → List D → Ev → Option Ev
  | .nil, [], env => some env
  | .cons a r, x :: xs, env => (bindT pin a x env).bind fun e => bindTs pin r xs e
  | .nil, _ :: _, _ => none
  | .cons _ _, [], _ => none
end
def wipeE (env : Ev) : List Nat → Ev
  | [] => env
  | v :: vs => (wipeE env vs).set v none
def recvOk : Op → D → Bool
  | .join, .str _ => true
  | .split, .str _ => true
  | .get1, .dic _ _ => true
  | .get2, .dic _ _ => true
  | _, _ => false
def slcOn (d : D) : Bool → Bool → List Int → Option D
  | true, true, [l, h] => slcOp d (some l) (some h)
  | true, false, [l] => slcOp d (some l) none
  | false, true, [h] => slcOp d none (some h)
  | false, false, [] => slcOp d none none
  | _, _, _ => none
def isIns (c : Str) : D → Bool
  | .ins false c' _ => decide (c' = c)
  | _ => false
def isOwnL : D → Bool
  | .lst true _ => true
  | _ => false
def compL (body : D → Ev → Option (Option D × Ev)) : List D → List D → Ev → Option (List D × Ev)
  | [], acc, env => some (acc, env)
  | x :: xs, acc, env => if acc.length < line then (body x env).bind fun q => compL body xs (match q.1 with | some y => acc ++ [y] | none => acc) q.2 else none
abbrev Hid := Option (Nat × D)
def unhide (env : Ev) : Hid → Ev
  | none => env
  | some (i, d) => env.set i (some d)
def zipOf (a b : D) (env : Ev) : Option (List D × Hid × Ev) := match a, b with
  | .lst _ xs, .lst _ ys => some (zipD xs ys, none, env)
  | .tup xs, .tup ys => some (zipD xs ys, none, env)
  | .lst _ xs, .tup ys => some (zipD xs ys, none, env)
  | .tup xs, .lst _ ys => some (zipD xs ys, none, env)
  | _, _ => none
def itemsL : D → Option (List D)
  | .lst _ xs => some xs
  | .tup xs => some xs
  | _ => none
def rangeD (lo hi : Int) : List D := (List.range (hi - lo).toNat).map fun k => .int (lo + (k : Nat))
def smallI (i : Int) : Bool := decide (i.natAbs.log2 < 62)
mutual
def den (φ : Phi) : E → Ev → Option (D × Ev)
  | .lit d, env => some (d, env)
  | .var i, env => (getV env i).map fun d => (d.frz, env.set i (some d.frz))
  | .vz i, env => (getV env i).map fun d => (d.frz, env.set i (some d.frz))
  | .gl _ d, env => some (d, env)
  | .opm o a es, env => (denP φ a env).bind fun q => (peekA q.2 q.1).bind fun d0 => if recvOk o d0 then (denA φ es q.2).bind fun r => (peekAs r.2 (q.1 :: r.1)).bind fun ds => (opSem o ds).map fun d => (d, r.2) else none
  | .slc a b c es, env => (denP φ a env).bind fun q => (denO φ es q.2).bind fun r => (peekA r.2 q.1).bind fun d => (allI r.1).bind fun ns => (slcOn d b c ns).map fun x => (x, r.2)
  | .op o es, env => (denA φ es env).bind fun q => (peekAs q.2 q.1).bind fun ds => (opSem o ds).map fun d => (d, q.2)
  | .chain o p a b c, env => (denP φ a env).bind fun qa => (denP φ b qa.2).bind fun qb => (peekAs qb.2 [qa.1, qb.1]).bind fun ds => (opSem o ds).bind fun k => (boolOf k).bind fun k =>
      if k then (denP φ c qb.2).bind fun qc => (peekAs qc.2 [qb.1, qc.1]).bind fun es => (opSem p es).map fun d => (d, qc.2) else some (.bl false, qb.2)
  | .an es, env => denAn φ es env
  | .orr es, env => denOr φ es env
  | .nt e, env => (den φ e env).bind fun q => (boolOf q.1).map fun b => (.bl (!b), q.2)
  | .ite c a b, env => (den φ c env).bind fun q => (boolOf q.1).bind fun k => if k then den φ a q.2 else den φ b q.2
  | .tup es, env => (denF φ es env).bind fun q => if q.1.length ≤ line then some (.tup q.1, q.2) else none
  | .lst es, env => (denF φ es env).bind fun q => if q.1.length ≤ line then some (.lst true q.1, q.2) else none
  | .dnew t, env => some (if t then .dit true [] else .dic true [], env)
  | .call f es, env => (denA φ es env).bind fun q => (moveAs q.1 q.2).bind fun m => (φ f m.1).map fun r => (r.1, backAs q.1 m.1 r.2 m.2)
  | .meth f _ es, env => (denA φ es env).bind fun q => (moveAs q.1 q.2).bind fun m => (φ f m.1).map fun r => (r.1, backAs q.1 m.1 r.2 m.2)
  | .make c f es, env => (denA φ es env).bind fun q => (moveAs q.1 q.2).bind fun m => (φ f (.ins true c [] :: m.1)).bind fun r => match r.1, r.2 with
      | .non, some (.ins true c' fs) :: fin => if c' = c then some (.ins true c fs, backAs q.1 m.1 fin m.2) else none
      | _, _ => none
  | .attr e f, env => (denP φ e env).bind fun q => (peekA q.2 q.1).bind fun d => match d with
      | .ins _ _ fs => (fs.lookup f).map fun v => (v, q.2)
      | _ => none
  | .lenI c f e, env => (den φ e env).bind fun q => if isIns c q.1 then (φ f [q.1]).bind fun r => (lenOk r.1).map fun d => (d, q.2) else none
  | .prop c f _ e, env => (den φ e env).bind fun q => if isIns c q.1 then (φ f [q.1]).map fun r => (r.1, q.2) else none
  | .mut m i es, env => (getV env i).bind fun d0 => if isOwnL d0 then (denF φ es env).bind fun q => (getV q.2 i).bind fun d => (muSem m d q.1).map fun r => (r.1, q.2.set i (some r.2)) else none
  | .comp elt tg it ifs own, env => (denI φ it env).bind fun q =>
      (compL (fun x e => (bindT [] tg x e).bind fun e1 => (denAl φ ifs e1).bind fun b => if b.1 then (den φ elt b.2).map fun y => (some y.1.frz, wipeE y.2 own) else some (none, wipeE b.2 own)) q.1 [] (wipeE q.2.2 own)).map fun r =>
        (.lst true r.1, unhide r.2 q.2.1)
def denP (φ : Phi) : E → Ev → Option (Ar × Ev)
  | .var i, env => (getV env i).map fun _ => (.r i, env)
  | e, env => (den φ e env).map fun q => (.v q.1, q.2)
def denA (φ : Phi) : Es → Ev → Option (List Ar × Ev)
  | .nil, env => some ([], env)
  | .cons true _ _, _ => none
  | .cons false e r, env => (denP φ e env).bind fun q => (denA φ r q.2).map fun s => (q.1 :: s.1, s.2)
def denF (φ : Phi) : Es → Ev → Option (List D × Ev)
  | .nil, env => some ([], env)
  | .cons true e r, env => (denP φ e env).bind fun q => (peekA q.2 q.1).bind fun d => (itemsOf d).bind fun xs => (denF φ r q.2).map fun s => (xs ++ s.1, s.2)
  | .cons false e r, env => (den φ e env).bind fun q => (denF φ r q.2).map fun s => (q.1.frz :: s.1, s.2)
def denO (φ : Phi) : Es → Ev → Option (List D × Ev)
  | .nil, env => some ([], env)
  | .cons true _ _, _ => none
  | .cons false e r, env => (den φ e env).bind fun q => (denO φ r q.2).map fun s => (q.1 :: s.1, s.2)
def denAn (φ : Phi) : Es → Ev → Option (D × Ev)
  | .nil, _ => none
  | .cons _ e .nil, env => den φ e env
  | .cons _ e r, env => (den φ e env).bind fun q => (boolOf q.1).bind fun b => if b then denAn φ r q.2 else some (.bl false, q.2)
def denOr (φ : Phi) : Es → Ev → Option (D × Ev)
  | .nil, _ => none
  | .cons _ e .nil, env => den φ e env
  | .cons _ e r, env => (den φ e env).bind fun q => (boolOf q.1).bind fun b => if b then some (.bl true, q.2) else denOr φ r q.2
def denAl (φ : Phi) : Es → Ev → Option (Bool × Ev)
  | .nil, env => some (true, env)
  | .cons _ e r, env => (den φ e env).bind fun q => (boolOf q.1).bind fun b => if b then denAl φ r q.2 else some (false, q.2)
def denI (φ : Phi) : I → Ev → Option (List D × Hid × Ev)
  | .val e, env => (denP φ e env).bind fun q => (peekA q.2 q.1).bind fun d => (walkOf d).map fun xs => match q.1 with
      | .r i => if d.own then (xs, some (i, d), q.2.set i none) else (xs, none, q.2)
      | .v _ => (xs, none, q.2)
  | .range es, env => (denA φ es env).bind fun q => (peekAs q.2 q.1).bind fun ds => match ds with
      | [.int n] => if smallI n then some (rangeD 0 n, none, q.2) else none
      | [.int a, .int b] => if smallI a && smallI b then some (rangeD a b, none, q.2) else none
      | [.int a, .int b, .int (-1)] => if smallI a && smallI b then some ((List.range (a - b).toNat).map fun k => .int (a - (k : Nat)), none, q.2) else none
      | _ => none
  | .enum e, env => (den φ e env).bind fun q => (itemsL q.1).map fun xs => (numbered 0 xs, none, q.2)
  | .zip a b, env => (den φ a env).bind fun q => (den φ b q.2).bind fun p => zipOf q.1 p.1 p.2
  | .items e, env => (den φ e env).bind fun q => match q.1.frz with
      | .dic false kvs => some (kvs.map fun kv => .tup [ofKey kv.1, kv.2], none, q.2)
      | _ => none
end
inductive Fl where
  | nx | rt (d : D) | bk | ct
def forL (body : D → Ev → Option (Fl × Ev)) : List D → Ev → Option (Fl × Ev)
  | [], env => some (.nx, env)
  | x :: xs, env => (body x env).bind fun q => match q.1 with
      | .nx => forL body xs q.2
      | .ct => forL body xs q.2
      | .bk => some (.nx, q.2)
      | .rt d => some (.rt d, q.2)
def whlL (c : Ev → Option (Bool × Ev)) (body : Ev → Option (Fl × Ev)) : Nat → Ev → Option (Fl × Ev)
  | 0, _ => none
  | n + 1, env => (c env).bind fun k => if k.1 then (body k.2).bind fun q => match q.1 with
      | .nx => whlL c body n q.2
      | .ct => whlL c body n q.2
      | .bk => some (.nx, q.2)
      | .rt d => some (.rt d, q.2) else some (.nx, k.2)
def setPar : List Nat → List D → Ev → Ev
  | i :: is, d :: ds, env => setPar is ds (env.set i (some d))
  | _, _, env => env
def denT (φ : Phi) (e : E) (env : Ev) : Option (Bool × Ev) := (den φ e env).bind fun q => (boolOf q.1).map fun b => (b, q.2)
mutual
def exec (w : Nat) (φ : Phi) (pin : List Nat) : S → Ev → Option (Fl × Ev)
  | .asg tg e, env => (den φ e env).bind fun q => (bindT pin tg q.1 q.2).map fun e => (.nx, e)
  | .par is es, env => (denO φ es env).bind fun q => if is.length = q.1.length ∧ is.all (fun i => !pin.contains i && decide (i < q.2.length)) then some (.nx, setPar is q.1 q.2) else none
  | .setix i ix e, env => (den φ e env).bind fun q => (getV q.2 i).bind fun _ => (denP φ ix q.2).bind fun p => (peekA p.2 p.1).bind fun k => (getV p.2 i).bind fun d => (setOp d k q.1.frz).map fun d' => (.nx, p.2.set i (some d'))
  | .setat i cn f e, env => (den φ e env).bind fun q => (getV q.2 i).bind fun d => match d with
      | .ins true c fs => if c = cn then some (.nx, q.2.set i (some (.ins true c (putD fs f q.1.frz)))) else none
      | _ => none
  | .exp e, env => (den φ e env).map fun q => (.nx, q.2)
  | .ret (.var i), env => if i ∈ pin then (den φ (.var i) env).map fun q => (.rt q.1, q.2) else (getV env i).map fun d => (.rt d, env.set i none)
  | .ret e, env => (den φ e env).map fun q => (.rt q.1, q.2)
  | .retN, env => some (.rt .non, env)
  | .iff c a b, env => (denT φ c env).bind fun k => if k.1 then execs w φ pin a k.2 else execs w φ pin b k.2
  | .whl c a, env => whlL (denT φ c) (execs w φ pin a) w env
  | .forr tg it a, env => (denI φ it env).bind fun q =>
      (forL (fun x e => (bindT ((q.2.1.map (·.1)).toList ++ pin) tg x e).bind fun e => execs w φ ((q.2.1.map (·.1)).toList ++ pin) a e) q.1 q.2.2).map fun r => (r.1, unhide r.2 q.2.1)
  | .pass, env => some (.nx, env)
  | .brk, env => some (.bk, env)
  | .cont, env => some (.ct, env)
  | .rais, _ => none
def execs (w : Nat) (φ : Phi) (pin : List Nat) : Ss → Ev → Option (Fl × Ev)
  | .nil, env => some (.nx, env)
  | .cons s r, env => (exec w φ pin s env).bind fun q => match q.1 with
      | .nx => execs w φ pin r q.2
      | f => some (f, q.2)
end
structure Fn where
  np : Nat
  nv : Nat
  body : Ss
def pinsOf : Nat → List D → List Nat
  | _, [] => []
  | n, d :: r => if d.own then n :: pinsOf (n + 1) r else pinsOf (n + 1) r
def callD (w : Nat) (φ : Phi) (f : Fn) (ds : List D) : Option (D × List (Option D)) :=
  if ds.length = f.np then (execs w φ (pinsOf 0 ds) f.body (ds.map some ++ List.replicate (f.nv - f.np) none)).bind fun q => match q.1 with
    | .nx => some (.non, q.2.take f.np)
    | .rt d => some (d, q.2.take f.np)
    | _ => none
  else none
abbrev Pr := List (Str × Fn)
def phi (w : Nat) (p : Pr) : Nat → Phi
  | 0, _, _ => none
  | k + 1, f, ds => (p.lookup f).bind fun fn => callD w (phi w p k) fn ds
end Vi
end
section
set_option maxRecDepth 100000
/-! Vi, part B: how data lies in the heap; frames. -/
namespace Vi
open PySem PySem.Spec PyProof.Rows L2

/-- what is known of a class with slots: its address, its slots' places -/
structure CI where
  adr : Addr
  slots : List (Str × Nat)
/-- the text's facts: the written part, the classes by name -/
structure Tx where
  K : PySem.W.Frag
  ct : List (Str × CI)

section
variable (T : Tx) (G : Hp)
mutual
inductive Rep : D → V → Prop where
  | non : Rep .non .non
  | bl (b : Bool) : Rep (.bl b) (.bl b)
  | int (i : Int) : Rep (.int i) (.int i)
  | str (s : Str) : Rep (.str s) (.str s)
  | tup {a : Addr} {vs : List V} {xs : List D} : G a = some (.tup vs) → Reps xs vs → vs.length ≤ line → Rep (.tup xs) (.ref a)
  | lst {a : Addr} {vs : List V} {xs : List D} : G a = some (.lst vs) → Reps xs vs → vs.length ≤ line → Rep (.lst false xs) (.ref a)
  | scr {a : Addr} {ns : List Int} : SqL T.K G a (ns.map V.int) → ns.length ≤ line → Rep (.scr ns) (.ref a)
  | dic {a : Addr} {o : Obj} {kvs : List (Key × V)} {ds : List (Key × D)} : G a = some (.frz o (.dK kvs)) → RepK ds kvs → kvs.length ≤ line → Rep (.dic false ds) (.ref a)
  | dit {a : Addr} {o : Obj} {kvs : List (List Key × V)} {ds : List (List Key × D)} : G a = some (.frz o (.dT kvs)) → RepT ds kvs → kvs.length ≤ line → Rep (.dit false ds) (.ref a)
  | ins {a dx : Addr} {c : Str} {ci : CI} {vs : List (Option V)} {fs : List (Str × D)} : T.ct.lookup c = some ci → SlX.Slt G a ci.adr dx vs → RepF ci vs fs → Rep (.ins false c fs) (.ref a)
inductive Reps : List D → List V → Prop where
  | nil : Reps [] []
  | cons {d : D} {v : V} {ds : List D} {vs : List V} : Rep d v → Reps ds vs → Reps (d :: ds) (v :: vs)
inductive RepK : List (Key × D) → List (Key × V) → Prop where
  | nil : RepK [] []
  | cons {k : Key} {d : D} {v : V} {ds : List (Key × D)} {vs : List (Key × V)} : Rep d v → RepK ds vs → RepK ((k, d) :: ds) ((k, v) :: vs)
inductive RepT : List (List Key × D) → List (List Key × V) → Prop where
  | nil : RepT [] []
  | cons {k : List Key} {d : D} {v : V} {ds : List (List Key × D)} {vs : List (List Key × V)} : Rep d v → RepT ds vs → RepT ((k, d) :: ds) ((k, v) :: vs)
inductive RepF : CI → List (Option V) → List (Str × D) → Prop where
  | nil (ci : CI) (vs : List (Option V)) : RepF ci vs []
  | cons {ci : CI} {vs : List (Option V)} {f : Str} {i : Nat} {d : D} {v : V} {fs : List (Str × D)} : ci.slots.lookup f = some i → vs[i]? = some (some v) → Rep d v → RepF ci vs fs → RepF ci vs ((f, d) :: fs)
end
end

/-- every known thing of the one stands in the other -/
def GSub (G H : Hp) : Prop := ∀ a u, G a = some u → H a = some u
theorem GSub.refl (G : Hp) : GSub G G := fun _ _ e => e
theorem GSub.trans {A B C : Hp} (x : GSub A B) (y : GSub B C) : GSub A C := fun a u e => y a u (x a u e)
theorem GSub.rd {G H : Hp} (x : GSub G H) {a : Addr} {u : HO} (r : Rd G a u) : Rd H a u := by
  rcases r with r | ⟨o, r⟩
  · exact .inl (x _ _ r)
  · exact .inr ⟨o, x _ _ r⟩
theorem GSub.sqt {G H : Hp} (x : GSub G H) {K : PySem.W.Frag} {a : Addr} {vs : List V} (r : SqT K G a vs) : SqT K H a vs := r.imp x.rd id
theorem GSub.sql {G H : Hp} (x : GSub G H) {K : PySem.W.Frag} {a : Addr} {vs : List V} (r : SqL K G a vs) : SqL K H a vs := r.imp x.rd id
theorem GSub.slt {G H : Hp} (x : GSub G H) {a C dx : Addr} {vs : List (Option V)} (r : SlX.Slt G a C dx vs) : SlX.Slt H a C dx vs := by
  rcases r with ⟨h1, h2⟩ | ⟨h1, h2⟩
  · exact .inl ⟨x _ _ h1, h2⟩
  · exact .inr ⟨x _ _ h1, x _ _ h2⟩
theorem GSub.non {G H : Hp} (x : GSub G H) {a : Addr} (h : H a = none) : G a = none := by
  cases e : G a with
  | none => rfl
  | some u => rw [x _ _ e] at h; cases h
theorem GSub.updL {G H : Hp} (x : GSub G H) {p : Addr} (hp : G p = none) (o : HO) : GSub G (upd H p o) := fun a u e => by
  rw [upd_ne (fun z => by subst z; rw [e] at hp; cases hp)]; exact x _ _ e
theorem GSub.upds {G H : Hp} (x : GSub G H) (p : Addr) (o : HO) : GSub (L2.upd G p o) (L2.upd H p o) := fun a u e => by
  by_cases h : a = p
  · subst h; rw [upd_same] at e ⊢; exact e
  · rw [upd_ne h] at e ⊢; exact x _ _ e
theorem GSub.updr {G : Hp} {p : Addr} (hp : G p = none) (o : HO) : GSub G (L2.upd G p o) := (GSub.refl G).updL hp o

section
variable {T : Tx} {G G' : Hp}
mutual
theorem Rep.mono (x : GSub G G') : ∀ {d : D} {v : V}, Rep T G d v → Rep T G' d v
  | _, _, .non => .non
  | _, _, .bl b => .bl b
  | _, _, .int b => .int b
  | _, _, .str b => .str b
  | _, _, .tup h r l => .tup (x _ _ h) (Reps.mono x r) l
  | _, _, .lst h r l => .lst (x _ _ h) (Reps.mono x r) l
  | _, _, .scr h l => .scr (x.sql h) l
  | _, _, .dic h r l => .dic (x _ _ h) (RepK.mono x r) l
  | _, _, .dit h r l => .dit (x _ _ h) (RepT.mono x r) l
  | _, _, .ins h s r => .ins h (x.slt s) (RepF.mono x r)
theorem Reps.mono (x : GSub G G') : ∀ {d : List D} {v : List V}, Reps T G d v → Reps T G' d v
  | _, _, .nil => .nil
  | _, _, .cons h r => .cons (Rep.mono x h) (Reps.mono x r)
theorem RepK.mono (x : GSub G G') : ∀ {d : List (Key × D)} {v : List (Key × V)}, RepK T G d v → RepK T G' d v
  | _, _, .nil => .nil
  | _, _, .cons h r => .cons (Rep.mono x h) (RepK.mono x r)
theorem RepT.mono (x : GSub G G') : ∀ {d : List (List Key × D)} {v : List (List Key × V)}, RepT T G d v → RepT T G' d v
  | _, _, .nil => .nil
  | _, _, .cons h r => .cons (Rep.mono x h) (RepT.mono x r)
theorem RepF.mono (x : GSub G G') : ∀ {ci : CI} {vs : List (Option V)} {fs : List (Str × D)}, RepF T G ci vs fs → RepF T G' ci vs fs
  | _, _, _, .nil ci vs => .nil ci vs
  | _, _, _, .cons a b h r => .cons a b (Rep.mono x h) (RepF.mono x r)
end
theorem Rep.noown {d : D} {v : V} (h : Rep T G d v) : d.own = false := by cases h <;> rfl
theorem Reps.length {ds : List D} {vs : List V} (h : Reps T G ds vs) : ds.length = vs.length := by
  induction ds generalizing vs with
  | nil => cases h; rfl
  | cons d ds ih => cases h with | cons a b => simp [ih b]
theorem RepK.length {ds : List (Key × D)} {vs : List (Key × V)} (h : RepK T G ds vs) : ds.length = vs.length := by
  induction ds generalizing vs with
  | nil => cases h; rfl
  | cons d ds ih => cases h with | cons a b => simp [ih b]
theorem RepT.length {ds : List (List Key × D)} {vs : List (List Key × V)} (h : RepT T G ds vs) : ds.length = vs.length := by
  induction ds generalizing vs with
  | nil => cases h; rfl
  | cons d ds ih => cases h with | cons a b => simp [ih b]
theorem Reps.get {ds : List D} {vs : List V} (h : Reps T G ds vs) {i : Nat} {d : D} (e : ds[i]? = some d) : ∃ v, vs[i]? = some v ∧ Rep T G d v := by
  induction ds generalizing vs i with
  | nil => simp at e
  | cons x ds ih =>
    cases h with
    | cons a b =>
      cases i with
      | zero => simp at e; subst e; exact ⟨_, rfl, a⟩
      | succ i => simp at e; obtain ⟨v, h1, h2⟩ := ih b e; exact ⟨v, by simpa using h1, h2⟩
theorem Reps.get' {ds : List D} {vs : List V} (h : Reps T G ds vs) {i : Nat} {v : V} (e : vs[i]? = some v) : ∃ d, ds[i]? = some d ∧ Rep T G d v := by
  have hl := h.length
  have hi : i < ds.length := by rw [hl]; exact (List.getElem?_eq_some_iff.mp e).1
  obtain ⟨v', h1, h2⟩ := h.get (List.getElem?_eq_getElem hi)
  rw [e] at h1; cases h1
  exact ⟨_, List.getElem?_eq_getElem hi, h2⟩
theorem Reps.append {as bs : List D} {vs ws : List V} (h : Reps T G as vs) (k : Reps T G bs ws) : Reps T G (as ++ bs) (vs ++ ws) := by
  induction as generalizing vs with
  | nil => cases h; exact k
  | cons x as ih => cases h with | cons a b => exact .cons a (ih b)
theorem Reps.drop {as : List D} {vs : List V} (n : Nat) (h : Reps T G as vs) : Reps T G (as.drop n) (vs.drop n) := by
  induction n generalizing as vs with
  | zero => exact h
  | succ n ih =>
    cases h with
    | nil => exact .nil
    | cons a b => exact ih b
theorem Reps.take {as : List D} {vs : List V} (n : Nat) (h : Reps T G as vs) : Reps T G (as.take n) (vs.take n) := by
  induction n generalizing as vs with
  | zero => exact .nil
  | succ n ih =>
    cases h with
    | nil => exact .nil
    | cons a b => exact .cons a (ih b)
theorem Reps.set {as : List D} {vs : List V} (h : Reps T G as vs) (i : Nat) {d : D} {v : V} (r : Rep T G d v) : Reps T G (as.set i d) (vs.set i v) := by
  induction as generalizing vs i with
  | nil => cases h; exact .nil
  | cons x as ih =>
    cases h with
    | cons a b =>
      cases i with
      | zero => exact .cons r b
      | succ i => exact .cons a (ih b i)
theorem Reps.eraseIdx {as : List D} {vs : List V} (h : Reps T G as vs) (i : Nat) : Reps T G (as.eraseIdx i) (vs.eraseIdx i) := by
  induction as generalizing vs i with
  | nil => cases h; exact .nil
  | cons x as ih =>
    cases h with
    | cons a b =>
      cases i with
      | zero => exact b
      | succ i => exact .cons a (ih b i)
theorem Reps.dropLast {as : List D} {vs : List V} (h : Reps T G as vs) : Reps T G as.dropLast vs.dropLast := by
  rw [List.dropLast_eq_take, List.dropLast_eq_take, h.length]
  exact h.take _
theorem RepF.look {ci : CI} {vs : List (Option V)} {fs : List (Str × D)} (h : RepF T G ci vs fs) {f : Str} {d : D} (e : fs.lookup f = some d) :
    ∃ i v, ci.slots.lookup f = some i ∧ vs[i]? = some (some v) ∧ Rep T G d v := by
  induction fs with
  | nil => simp at e
  | cons p fs ih =>
    cases h with
    | @cons _ _ g i d' v' _ h1 h2 h3 h4 =>
      rw [List.lookup_cons] at e
      split at e
      · rename_i hb
        have : f = g := by simpa using hb
        subst this
        cases e
        exact ⟨i, v', h1, h2, h3⟩
      · exact ih h4 e
end

/-! ### owned things -/
inductive RepO (T : Tx) (G H : Hp) : D → V → List Addr → Prop where
  | frz {d : D} {v : V} : Rep T G d v → RepO T G H d v []
  | lst {a : Addr} {vs : List V} {xs : List D} : H a = some (.lst vs) → Reps T G xs vs → vs.length ≤ line → RepO T G H (.lst true xs) (.ref a) [a]
  | dic {a : Addr} {kvs : List (Key × V)} {ds : List (Key × D)} : H a = some (.dK kvs) → RepK T G ds kvs → kvs.length ≤ line → RepO T G H (.dic true ds) (.ref a) [a]
  | dit {a : Addr} {kvs : List (List Key × V)} {ds : List (List Key × D)} : H a = some (.dT kvs) → RepT T G ds kvs → kvs.length ≤ line → RepO T G H (.dit true ds) (.ref a) [a]
  | ins {a dx : Addr} {c : Str} {ci : CI} {vs : List (Option V)} {fs : List (Str × D)} : T.ct.lookup c = some ci → SlX.Slt H a ci.adr dx vs → (∃ u, H dx = some u) → dx ≠ a → RepF T G ci vs fs → RepO T G H (.ins true c fs) (.ref a) [a, dx]

/-- a value as it is looked at: owned or frozen -/
def PRep (T : Tx) (G H : Hp) (d : D) (v : V) : Prop := ∃ as, RepO T G H d v as
inductive PReps (T : Tx) (G H : Hp) : List D → List V → Prop where
  | nil : PReps T G H [] []
  | cons {d : D} {v : V} {ds : List D} {vs : List V} : PRep T G H d v → PReps T G H ds vs → PReps T G H (d :: ds) (v :: vs)

section
variable {T : Tx} {G H G' H' : Hp} {d : D} {v : V} {as : List Addr}
theorem RepO.addr (h : RepO T G H d v as) : ∀ a ∈ as, ∃ u, H a = some u := by
  cases h with
  | frz _ => intro a ha; simp at ha
  | lst h _ _ => intro a ha; simp at ha; subst ha; exact ⟨_, h⟩
  | dic h _ _ => intro a ha; simp at ha; subst ha; exact ⟨_, h⟩
  | dit h _ _ => intro a ha; simp at ha; subst ha; exact ⟨_, h⟩
  | ins _ s e _ _ =>
    intro a ha
    simp at ha
    rcases ha with rfl | rfl
    · rcases s with ⟨h, _⟩ | ⟨h, _⟩
      · exact ⟨_, h⟩
      · exact ⟨_, h⟩
    · exact e
theorem RepO.nodup (h : RepO T G H d v as) : as.Nodup := by
  cases h with
  | ins _ _ _ n _ => simp [Ne.symm n]
  | _ => simp
theorem RepO.nown (h : RepO T G H d v as) (e : d.own = false) : Rep T G d v ∧ as = [] := by
  cases h with
  | frz r => exact ⟨r, rfl⟩
  | _ => simp [D.own] at e
theorem RepO.frame (h : RepO T G H d v as) (g : GSub G G') (k : ∀ a u, a ∈ as → H a = some u → H' a = some u) : RepO T G' H' d v as := by
  cases h with
  | frz r => exact .frz (r.mono g)
  | lst h r l => exact .lst (k _ _ (by simp) h) (r.mono g) l
  | dic h r l => exact .dic (k _ _ (by simp) h) (r.mono g) l
  | dit h r l => exact .dit (k _ _ (by simp) h) (r.mono g) l
  | ins h s e n r =>
    refine .ins h ?_ ?_ n (r.mono g)
    · rcases s with ⟨h1, h2⟩ | ⟨h1, h2⟩
      · exact .inl ⟨k _ _ (by simp) h1, h2⟩
      · exact .inr ⟨k _ _ (by simp) h1, k _ _ (by simp) h2⟩
    · obtain ⟨u, e⟩ := e
      exact ⟨u, k _ _ (by simp) e⟩
end

/-- the frame of a step: O owned ahead, O' owned behind -/
structure Fm (G H : Hp) (O : List Addr) (G' H' : Hp) (O' : List Addr) : Prop where
  g : GSub G G'
  same : ∀ a u, H a = some u → a ∉ O → H' a = some u
  fresh : ∀ a ∈ O', a ∈ O ∨ H a = none
  gnew : ∀ a u, G' a = some u → G a = some u ∨ a ∈ O ∨ H a = none
theorem Fm.refl (G H : Hp) (O : List Addr) : Fm G H O G H O := ⟨.refl G, fun _ _ e _ => e, fun _ h => .inl h, fun _ _ e => .inl e⟩
theorem Fm.back {G H G' H' : Hp} {O O' : List Addr} (f : Fm G H O G' H' O') {a : Addr} (h : H' a = none) : a ∈ O ∨ H a = none := by
  by_cases ho : a ∈ O
  · exact .inl ho
  · cases e : H a with
    | none => exact .inr rfl
    | some u => rw [f.same _ _ e ho] at h; cases h
theorem Fm.trans {G H G1 H1 G2 H2 : Hp} {O O1 O2 : List Addr} (x : Fm G H O G1 H1 O1) (y : Fm G1 H1 O1 G2 H2 O2) : Fm G H O G2 H2 O2 where
  g := x.g.trans y.g
  same := fun a u e n => y.same a u (x.same a u e n) fun z => by
    rcases x.fresh a z with h | h
    · exact n h
    · rw [e] at h; cases h
  fresh := fun a h => by
    rcases y.fresh a h with h | h
    · exact x.fresh a h
    · exact x.back h
  gnew := fun a u e => by
    rcases y.gnew a u e with h | h | h
    · exact x.gnew a u h
    · exact .inr (x.fresh a h)
    · exact .inr (x.back h)
/-- what is not in O stays -/
theorem Fm.repO {T : Tx} {G H G' H' : Hp} {O O' as : List Addr} {d : D} {v : V} (f : Fm G H O G' H' O') (h : RepO T G H d v as) (n : ∀ a ∈ as, a ∉ O) : RepO T G' H' d v as :=
  h.frame f.g fun a u ha e => f.same a u e (n a ha)
theorem Fm.gnone {G H G' H' : Hp} {O O' : List Addr} (f : Fm G H O G' H' O') {a : Addr} (h : G a = none) (n : a ∉ O) (e : ∃ u, H a = some u) : G' a = none := by
  obtain ⟨u, e⟩ := e
  cases q : G' a with
  | none => rfl
  | some w =>
    rcases f.gnew a w q with z | z | z
    · rw [h] at z; cases z
    · exact absurd z n
    · rw [e] at z; cases z
/-- the step with more owned things beside it -/
theorem Fm.wide {G H G' H' : Hp} {O O' : List Addr} (f : Fm G H O G' H' O') (P : List Addr) : Fm G H (O ++ P) G' H' (O' ++ P) where
  g := f.g
  same := fun a u e n => f.same a u e fun z => n (List.mem_append_left _ z)
  fresh := fun a h => by
    rcases List.mem_append.mp h with h | h
    · exact (f.fresh a h).imp (List.mem_append_left _) id
    · exact .inl (List.mem_append_right _ h)
  gnew := fun a u e => (f.gnew a u e).imp id (Or.imp (List.mem_append_left _) id)
theorem Fm.iff {G H G' H' : Hp} {O O' P P' : List Addr} (f : Fm G H O G' H' O') (h : ∀ a, a ∈ O ↔ a ∈ P) (h' : ∀ a, a ∈ P' → a ∈ O') : Fm G H P G' H' P' where
  g := f.g
  same := fun a u e n => f.same a u e fun z => n ((h a).mp z)
  fresh := fun a q => (f.fresh a (h' a q)).imp (h a).mp id
  gnew := fun a u e => (f.gnew a u e).imp id (Or.imp (h a).mp id)
theorem Fm.more {G H G' H' : Hp} {O O' P : List Addr} (f : Fm G H O G' H' O') (h : ∀ a, a ∈ O → a ∈ P) : Fm G H P G' H' O' where
  g := f.g
  same := fun a u e n => f.same a u e fun z => n (h a z)
  fresh := fun a q => (f.fresh a q).imp (h a) id
  gnew := fun a u e => (f.gnew a u e).imp id (Or.imp (h a) id)
theorem Fm.less {G H G' H' : Hp} {O O' P : List Addr} (f : Fm G H O G' H' O') (h : ∀ a, a ∈ P → a ∈ O') : Fm G H O G' H' P :=
  ⟨f.g, f.same, fun a q => f.fresh a (h a q), f.gnew⟩

/-! ### the slots -/
inductive ERep (T : Tx) (G H : Hp) : Ev → List (Option V) → List Addr → Prop where
  | nil : ERep T G H [] [] []
  | no {env : Ev} {x : Option V} {σ : List (Option V)} {O : List Addr} : ERep T G H env σ O → ERep T G H (none :: env) (x :: σ) O
  | is {d : D} {v : V} {as : List Addr} {env : Ev} {σ : List (Option V)} {O : List Addr} : RepO T G H d v as → ERep T G H env σ O → ERep T G H (some d :: env) (some v :: σ) (as ++ O)
structure SR (T : Tx) (G H : Hp) (env : Ev) (σ : List (Option V)) (O : List Addr) : Prop where
  rep : ERep T G H env σ O
  nd : O.Nodup
  gn : ∀ a ∈ O, G a = none
  gs : GSub G H
section
variable {T : Tx} {G H G' H' : Hp} {env : Ev} {σ : List (Option V)} {O O' : List Addr}
theorem ERep.addr (h : ERep T G H env σ O) : ∀ a ∈ O, ∃ u, H a = some u := by
  induction h with
  | nil => intro a ha; simp at ha
  | no _ ih => exact ih
  | is r _ ih =>
    intro a ha
    rcases List.mem_append.mp ha with h | h
    · exact r.addr a h
    · exact ih a h
theorem ERep.length (h : ERep T G H env σ O) : env.length = σ.length := by
  induction h with
  | nil => rfl
  | no _ ih => simp [ih]
  | is _ _ ih => simp [ih]
theorem ERep.frame (h : ERep T G H env σ O) (g : GSub G G') (k : ∀ a u, a ∈ O → H a = some u → H' a = some u) : ERep T G' H' env σ O := by
  induction h with
  | nil => exact .nil
  | no _ ih => exact .no (ih k)
  | is r _ ih => exact .is (r.frame g fun a u ha => k a u (List.mem_append_left _ ha)) (ih fun a u ha => k a u (List.mem_append_right _ ha))
/-- a slot taken out -/
theorem ERep.out (h : ERep T G H env σ O) {i : Nat} {d : D} (e : getV env i = some d) :
    ∃ v as O', σ[i]? = some (some v) ∧ RepO T G H d v as ∧ ERep T G H (env.set i none) σ O' ∧ O.Perm (as ++ O') := by
  induction h generalizing i with
  | nil => simp [getV] at e
  | @no env x σ O h ih =>
    cases i with
    | zero => simp [getV] at e
    | succ i =>
      obtain ⟨v, as, O', h1, h2, h3, h4⟩ := ih (i := i) (by simpa [getV] using e)
      exact ⟨v, as, O', by simpa using h1, h2, .no h3, h4⟩
  | @is d0 v0 as0 env σ O r h ih =>
    cases i with
    | zero =>
      simp [getV] at e
      subst e
      exact ⟨v0, as0, O, rfl, r, .no h, .refl _⟩
    | succ i =>
      obtain ⟨v, as, O', h1, h2, h3, h4⟩ := ih (i := i) (by simpa [getV] using e)
      refine ⟨v, as, as0 ++ O', by simpa using h1, h2, .is r h3, ?_⟩
      refine (List.Perm.append_left as0 h4).trans ?_
      rw [← List.append_assoc, ← List.append_assoc]
      exact List.Perm.append_right _ List.perm_append_comm
/-- a slot put in where none is -/
theorem ERep.into (h : ERep T G H env σ O) {i : Nat} {d : D} {v : V} {as : List Addr} (e : getV env i = none) (hi : σ[i]? = some (some v)) (r : RepO T G H d v as) :
    ∃ O', ERep T G H (env.set i (some d)) σ O' ∧ O'.Perm (as ++ O) := by
  induction h generalizing i with
  | nil => simp at hi
  | @no env x σ O h ih =>
    cases i with
    | zero =>
      simp at hi
      subst hi
      exact ⟨as ++ O, .is r h, .refl _⟩
    | succ i =>
      obtain ⟨O', h1, h2⟩ := ih (i := i) (by simpa [getV] using e) (by simpa using hi)
      exact ⟨O', .no h1, h2⟩
  | @is d0 v0 as0 env σ O r0 h ih =>
    cases i with
    | zero => simp [getV] at e
    | succ i =>
      obtain ⟨O', h1, h2⟩ := ih (i := i) (by simpa [getV] using e) (by simpa using hi)
      refine ⟨as0 ++ O', .is r0 h1, ?_⟩
      refine (List.Perm.append_left as0 h2).trans ?_
      rw [← List.append_assoc, ← List.append_assoc]
      exact List.Perm.append_right _ List.perm_append_comm
/-- a slot stored -/
theorem ERep.put (h : ERep T G H env σ O) {i : Nat} {d : D} {v : V} {as : List Addr} (hi : i < env.length) (r : RepO T G H d v as) :
    ∃ O' gone, ERep T G H (env.set i (some d)) (σ.set i (some v)) (O') ∧ (as ++ O).Perm (O' ++ gone) := by
  induction h generalizing i with
  | nil => simp at hi
  | @no env x σ O h ih =>
    cases i with
    | zero => exact ⟨as ++ O, [], .is r h, by simp⟩
    | succ i =>
      obtain ⟨O', gone, h1, h2⟩ := ih (i := i) (by simpa using hi)
      exact ⟨O', gone, .no h1, h2⟩
  | @is d0 v0 as0 env σ O r0 h ih =>
    cases i with
    | zero =>
      refine ⟨as ++ O, as0, .is r h, ?_⟩
      refine (List.Perm.append_left as List.perm_append_comm).trans ?_
      rw [← List.append_assoc]
    | succ i =>
      obtain ⟨O', gone, h1, h2⟩ := ih (i := i) (by simpa using hi)
      refine ⟨as0 ++ O', gone, .is r0 h1, ?_⟩
      rw [List.append_assoc]
      refine List.Perm.trans ?_ (List.Perm.append_left as0 h2)
      rw [← List.append_assoc, ← List.append_assoc]
      exact List.Perm.append_right _ List.perm_append_comm
theorem ERep.get (h : ERep T G H env σ O) {i : Nat} {d : D} (e : getV env i = some d) : ∃ v as, σ[i]? = some (some v) ∧ RepO T G H d v as ∧ ∀ a ∈ as, a ∈ O := by
  obtain ⟨v, as, O', h1, h2, h3, h4⟩ := h.out e
  exact ⟨v, as, h1, h2, fun a ha => h4.mem_iff.mpr (List.mem_append_left _ ha)⟩
/-- a slot forgotten -/
theorem ERep.wipe1 (h : ERep T G H env σ O) (i : Nat) (x : Option V) : ∃ O' gone, ERep T G H (env.set i none) (σ.set i x) O' ∧ O.Perm (O' ++ gone) := by
  induction h generalizing i with
  | nil => exact ⟨[], [], by simpa using ERep.nil, .refl _⟩
  | @no env y σ O h ih =>
    cases i with
    | zero => exact ⟨O, [], .no h, by simp⟩
    | succ i =>
      obtain ⟨O', gone, h1, h2⟩ := ih i
      exact ⟨O', gone, .no h1, h2⟩
  | @is d0 v0 as0 env σ O r0 h ih =>
    cases i with
    | zero => exact ⟨O, as0, .no h, List.perm_append_comm⟩
    | succ i =>
      obtain ⟨O', gone, h1, h2⟩ := ih i
      refine ⟨as0 ++ O', gone, .is r0 h1, ?_⟩
      rw [List.append_assoc]
      exact List.Perm.append_left _ h2

theorem SR.frame {P P' : List Addr} (h : SR T G H env σ O) (f : Fm G H P G' H' P') (n : ∀ a ∈ O, a ∉ P) (gs : GSub G' H') : SR T G' H' env σ O where
  rep := h.rep.frame f.g fun a u ha e => f.same a u e (n a ha)
  nd := h.nd
  gn := fun a ha => f.gnone (h.gn a ha) (n a ha) (h.rep.addr a ha)
  gs := gs
end
end Vi
end
section
set_option maxRecDepth 100000
/-! Vi, part C: operations on values do what opSem says. -/
namespace Vi
open PySem PySem.Spec PyProof.Rows L2

section
variable {T : Tx} {G H : Hp} {v : V} {Q : VK}
theorem PRep.non (h : PRep T G H .non v) : v = .non := by obtain ⟨_, r⟩ := h; cases r with | frz r => cases r; rfl
theorem PRep.int {i : Int} (h : PRep T G H (.int i) v) : v = .int i := by obtain ⟨_, r⟩ := h; cases r with | frz r => cases r; rfl
theorem PRep.bl {i : Bool} (h : PRep T G H (.bl i) v) : v = .bl i := by obtain ⟨_, r⟩ := h; cases r with | frz r => cases r; rfl
theorem PRep.str {i : Str} (h : PRep T G H (.str i) v) : v = .str i := by obtain ⟨_, r⟩ := h; cases r with | frz r => cases r; rfl
theorem PRep.lst {o : Bool} {xs : List D} (gs : GSub G H) (h : PRep T G H (.lst o xs) v) : ∃ a vs, v = .ref a ∧ H a = some (.lst vs) ∧ Reps T G xs vs ∧ vs.length ≤ line := by
  obtain ⟨_, r⟩ := h
  cases r with
  | frz r => cases r with | lst h1 h2 h3 => exact ⟨_, _, rfl, gs _ _ h1, h2, h3⟩
  | lst h1 h2 h3 => exact ⟨_, _, rfl, h1, h2, h3⟩
theorem PRep.scr {ns : List Int} (gs : GSub G H) (h : PRep T G H (.scr ns) v) : ∃ a, v = .ref a ∧ SqL T.K H a (ns.map V.int) ∧ ns.length ≤ line := by
  obtain ⟨_, r⟩ := h
  cases r with
  | frz r => cases r with | scr h1 l => exact ⟨_, rfl, gs.sql h1, l⟩
theorem PRep.tup {xs : List D} (gs : GSub G H) (h : PRep T G H (.tup xs) v) : ∃ a vs, v = .ref a ∧ H a = some (.tup vs) ∧ Reps T G xs vs ∧ vs.length ≤ line ∧ G a = some (.tup vs) := by
  obtain ⟨_, r⟩ := h
  cases r with
  | frz r => cases r with | tup h1 h2 h3 => exact ⟨_, _, rfl, gs _ _ h1, h2, h3, h1⟩
theorem PRep.dic {o : Bool} {xs : List (Key × D)} (gs : GSub G H) (h : PRep T G H (.dic o xs) v) : ∃ a vs, v = .ref a ∧ Rd H a (.dK vs) ∧ RepK T G xs vs ∧ vs.length ≤ line := by
  obtain ⟨_, r⟩ := h
  cases r with
  | frz r => cases r with | dic h1 h2 h3 => exact ⟨_, _, rfl, .inr ⟨_, gs _ _ h1⟩, h2, h3⟩
  | dic h1 h2 h3 => exact ⟨_, _, rfl, .inl h1, h2, h3⟩
theorem PRep.dit {o : Bool} {xs : List (List Key × D)} (gs : GSub G H) (h : PRep T G H (.dit o xs) v) : ∃ a vs, v = .ref a ∧ Rd H a (.dT vs) ∧ RepT T G xs vs ∧ vs.length ≤ line := by
  obtain ⟨_, r⟩ := h
  cases r with
  | frz r => cases r with | dit h1 h2 h3 => exact ⟨_, _, rfl, .inr ⟨_, gs _ _ h1⟩, h2, h3⟩
  | dit h1 h2 h3 => exact ⟨_, _, rfl, .inl h1, h2, h3⟩
theorem PRep.ins {o : Bool} {c : Str} {fs : List (Str × D)} (gs : GSub G H) (h : PRep T G H (.ins o c fs) v) : ∃ a dx ci vs, v = .ref a ∧ T.ct.lookup c = some ci ∧ SlX.Slt H a ci.adr dx vs ∧ RepF T G ci vs fs := by
  obtain ⟨_, r⟩ := h
  cases r with
  | frz r => cases r with | ins h1 h2 h3 => exact ⟨_, _, _, _, rfl, h1, gs.slt h2, h3⟩
  | ins h1 h2 _ _ h3 => exact ⟨_, _, _, _, rfl, h1, h2, h3⟩
theorem PRep.mono {G' H' : Hp} {d : D} (h : PRep T G H d v) (g : GSub G G') (k : ∀ a u, H a = some u → H' a = some u) : PRep T G' H' d v := by
  obtain ⟨as, r⟩ := h
  exact ⟨as, r.frame g fun a u _ e => k a u e⟩

/-- what an operation leaves -/
def Post (T : Tx) (G H : Hp) (d : D) (Q : VK) : Prop := ∀ v H' G' as, Fm G H [] G' H' as → GSub G' H' → RepO T G' H' d v as → (∀ a ∈ as, G' a = none) → Q v H'
theorem Post.atom {d : D} (p : Post T G H d Q) (gs : GSub G H) (r : Rep T G d v) : Q v H := p v H G [] (Fm.refl G H []) gs (.frz r) (by simp)
theorem Fm.newG {p : Addr} (gs : GSub G H) (hp : H p = none) (o : HO) : Fm G H [] (upd G p o) (upd H p o) [] where
  g := .updr (gs.non hp) o
  same := fun a u e _ => by rw [upd_ne (ne_of_none e hp)]; exact e
  fresh := fun a h => by simp at h
  gnew := fun a u e => by
    by_cases h : a = p
    · subst h; exact .inr (.inr hp)
    · rw [upd_ne h] at e; exact .inl e
theorem Fm.newO {p : Addr} (gs : GSub G H) (hp : H p = none) (o : HO) : Fm G H [] G (upd H p o) [p] where
  g := .refl G
  same := fun a u e _ => by rw [upd_ne (ne_of_none e hp)]; exact e
  fresh := fun a h => by simp at h; subst h; exact .inr hp
  gnew := fun a u e => .inl e
theorem Post.newT {xs : List D} {vs : List V} (p : Post T G H (.tup xs) Q) (gs : GSub G H) (r : Reps T G xs vs) (l : vs.length ≤ line) {a : Addr} (ha : H a = none) : Q (.ref a) (upd H a (.tup vs)) :=
  p _ _ _ [] (Fm.newG gs ha _) (gs.upds a _) (.frz (.tup upd_same (r.mono (.updr (gs.non ha) _)) l)) (by simp)
theorem Post.newL {xs : List D} {vs : List V} (p : Post T G H (.lst true xs) Q) (gs : GSub G H) (r : Reps T G xs vs) (l : vs.length ≤ line) {a : Addr} (ha : H a = none) : Q (.ref a) (upd H a (.lst vs)) :=
  p _ _ _ [a] (Fm.newO gs ha _) (gs.updL (gs.non ha) _) (.lst upd_same r l) (by intro b hb; simp at hb; subst hb; exact gs.non ha)
theorem Post.newD {xs : List (Key × D)} {vs : List (Key × V)} (p : Post T G H (.dic true xs) Q) (gs : GSub G H) (r : RepK T G xs vs) (l : vs.length ≤ line) {a : Addr} (ha : H a = none) : Q (.ref a) (upd H a (.dK vs)) :=
  p _ _ _ [a] (Fm.newO gs ha _) (gs.updL (gs.non ha) _) (.dic upd_same r l) (by intro b hb; simp at hb; subst hb; exact gs.non ha)
theorem Reps.ints : ∀ {xs : List D} {ns : List Int} {vs : List V}, allI xs = some ns → Reps T G xs vs → vs = ns.map V.int
  | [], ns, vs, e, r => by simp [allI] at e; subst e; cases r; rfl
  | .int i :: xs, ns, vs, e, r => by
    simp only [allI, Option.map_eq_some_iff] at e
    obtain ⟨ms, e, rfl⟩ := e
    cases r with | cons a b => cases a; rw [Reps.ints e b]; rfl
  | .non :: _, _, _, e, _ => by simp [allI] at e
  | .bl _ :: _, _, _, e, _ => by simp [allI] at e
  | .str _ :: _, _, _, e, _ => by simp [allI] at e
  | .tup _ :: _, _, _, e, _ => by simp [allI] at e
  | .lst _ _ :: _, _, _, e, _ => by simp [allI] at e
  | .dic _ _ :: _, _, _, e, _ => by simp [allI] at e
  | .dit _ _ :: _, _, _, e, _ => by simp [allI] at e
  | .ins _ _ _ :: _, _, _, e, _ => by simp [allI] at e
  | .scr _ :: _, _, _, e, _ => by simp [allI] at e
theorem Reps.strs : ∀ {xs : List D} {ns : List Str} {vs : List V}, allS xs = some ns → Reps T G xs vs → vs = ns.map V.str
  | [], ns, vs, e, r => by simp [allS] at e; subst e; cases r; rfl
  | .str i :: xs, ns, vs, e, r => by
    simp only [allS, Option.map_eq_some_iff] at e
    obtain ⟨ms, e, rfl⟩ := e
    cases r with | cons a b => cases a; rw [Reps.strs e b]; rfl
  | .non :: _, _, _, e, _ => by simp [allS] at e
  | .bl _ :: _, _, _, e, _ => by simp [allS] at e
  | .int _ :: _, _, _, e, _ => by simp [allS] at e
  | .tup _ :: _, _, _, e, _ => by simp [allS] at e
  | .lst _ _ :: _, _, _, e, _ => by simp [allS] at e
  | .dic _ _ :: _, _, _, e, _ => by simp [allS] at e
  | .dit _ _ :: _, _, _, e, _ => by simp [allS] at e
  | .ins _ _ _ :: _, _, _, e, _ => by simp [allS] at e
  | .scr _ :: _, _, _, e, _ => by simp [allS] at e
theorem Reps.bools : ∀ {xs : List D} {ns : List Bool} {vs : List V}, allB xs = some ns → Reps T G xs vs → vs = ns.map V.bl
  | [], ns, vs, e, r => by simp [allB] at e; subst e; cases r; rfl
  | .bl i :: xs, ns, vs, e, r => by
    simp only [allB, Option.map_eq_some_iff] at e
    obtain ⟨ms, e, rfl⟩ := e
    cases r with | cons a b => cases a; rw [Reps.bools e b]; rfl
  | .non :: _, _, _, e, _ => by simp [allB] at e
  | .str _ :: _, _, _, e, _ => by simp [allB] at e
  | .int _ :: _, _, _, e, _ => by simp [allB] at e
  | .tup _ :: _, _, _, e, _ => by simp [allB] at e
  | .lst _ _ :: _, _, _, e, _ => by simp [allB] at e
  | .dic _ _ :: _, _, _, e, _ => by simp [allB] at e
  | .dit _ _ :: _, _, _, e, _ => by simp [allB] at e
  | .ins _ _ _ :: _, _, _, e, _ => by simp [allB] at e
  | .scr _ :: _, _, _, e, _ => by simp [allB] at e
theorem reps_ints : ∀ (ns : List Int), Reps T G (ns.map D.int) (ns.map V.int)
  | [] => .nil
  | n :: ns => .cons (.int n) (reps_ints ns)
theorem reps_strs : ∀ (ns : List Str), Reps T G (ns.map D.str) (ns.map V.str)
  | [] => .nil
  | n :: ns => .cons (.str n) (reps_strs ns)
theorem RepK.val {ds : List (Key × D)} {kvs : List (Key × V)} (h : RepK T G ds kvs) (k : Key) : (∀ d, valD ds k = some d → ∃ v, valV kvs k = some v ∧ Rep T G d v) ∧ (valD ds k = none → valV kvs k = none) := by
  induction ds generalizing kvs with
  | nil => cases h; exact ⟨fun d e => by simp [valD] at e, fun _ => rfl⟩
  | cons p ds ih =>
    cases h with
    | @cons k' d' v' _ vs a b =>
      obtain ⟨i1, i2⟩ := ih b
      by_cases e : k' = k
      · subst e
        refine ⟨fun d q => ?_, fun q => ?_⟩
        · simp [valD] at q
          subst q
          exact ⟨v', by simp [valV], a⟩
        · simp [valD] at q
      · have e1 : valD ((k', d') :: ds) k = valD ds k := by simp [valD, e]
        have e2 : valV ((k', v') :: vs) k = valV vs k := by simp [valV, e]
        rw [e1, e2]
        exact ⟨i1, i2⟩
theorem RepK.any {ds : List (Key × D)} {kvs : List (Key × V)} (h : RepK T G ds kvs) (k : Key) : (ds.any fun kv => decide (kv.1 = k)) = (kvs.any fun kv => decide (kv.1 = k)) := by
  induction ds generalizing kvs with
  | nil => cases h; rfl
  | cons p ds ih => cases h with | cons a b => simp only [List.any_cons]; rw [ih b]
theorem RepK.repl {ds : List (Key × D)} {kvs : List (Key × V)} (h : RepK T G ds kvs) (k : Key) {d : D} (r : Rep T G d v) :
    RepK T G (ds.map fun kv => if kv.1 = k then (kv.1, d) else kv) (kvs.map fun kv => if kv.1 = k then (kv.1, v) else kv) := by
  induction ds generalizing kvs with
  | nil => cases h; exact .nil
  | cons p ds ih =>
    cases h with
    | @cons k' d' v' _ vs a b =>
      simp only [List.map_cons]
      by_cases e : k' = k
      · subst e
        simp only [if_true]
        exact .cons r (ih b)
      · simp only [if_neg e]
        exact .cons a (ih b)
theorem RepK.snoc {ds : List (Key × D)} {kvs : List (Key × V)} (h : RepK T G ds kvs) (k : Key) {d : D} (r : Rep T G d v) : RepK T G (ds ++ [(k, d)]) (kvs ++ [(k, v)]) := by
  induction ds generalizing kvs with
  | nil => cases h; exact .cons r .nil
  | cons p ds ih =>
    cases h with
    | cons a b => exact .cons a (ih b)
theorem RepK.put {ds : List (Key × D)} {kvs : List (Key × V)} (h : RepK T G ds kvs) (k : Key) {d : D} (r : Rep T G d v) : RepK T G (putD ds k d) (putK kvs k v) := by
  unfold putD putK
  rw [← h.any k]
  split
  · exact h.repl k r
  · exact h.snoc k r
theorem RepK.keys {ds : List (Key × D)} {kvs : List (Key × V)} (h : RepK T G ds kvs) : ds.map (·.1) = kvs.map (·.1) := by
  induction ds generalizing kvs with
  | nil => cases h; rfl
  | cons p ds ih => cases h with | cons a b => simp only [List.map_cons, ih b]
theorem RepK.vals {ds : List (Key × D)} {kvs : List (Key × V)} (h : RepK T G ds kvs) : Reps T G (ds.map (·.2)) (kvs.map (·.2)) := by
  induction ds generalizing kvs with
  | nil => cases h; exact .nil
  | cons p ds ih => cases h with | cons a b => exact .cons a (ih b)
theorem RepT.val {ds : List (List Key × D)} {kvs : List (List Key × V)} (h : RepT T G ds kvs) (k : List Key) : (∀ d, valD ds k = some d → ∃ v, valV kvs k = some v ∧ Rep T G d v) ∧ (valD ds k = none → valV kvs k = none) := by
  induction ds generalizing kvs with
  | nil => cases h; exact ⟨fun d e => by simp [valD] at e, fun _ => rfl⟩
  | cons p ds ih =>
    cases h with
    | @cons k' d' v' _ vs a b =>
      obtain ⟨i1, i2⟩ := ih b
      by_cases e : k' = k
      · subst e
        refine ⟨fun d q => ?_, fun q => ?_⟩
        · simp [valD] at q
          subst q
          exact ⟨v', by simp [valV], a⟩
        · simp [valD] at q
      · have e1 : valD ((k', d') :: ds) k = valD ds k := by simp [valD, e]
        have e2 : valV ((k', v') :: vs) k = valV vs k := by simp [valV, e]
        rw [e1, e2]
        exact ⟨i1, i2⟩
theorem RepT.any {ds : List (List Key × D)} {kvs : List (List Key × V)} (h : RepT T G ds kvs) (k : List Key) : (ds.any fun kv => decide (kv.1 = k)) = (kvs.any fun kv => decide (kv.1 = k)) := by
  induction ds generalizing kvs with
  | nil => cases h; rfl
  | cons p ds ih => cases h with | cons a b => simp only [List.any_cons]; rw [ih b]
theorem RepT.repl {ds : List (List Key × D)} {kvs : List (List Key × V)} (h : RepT T G ds kvs) (k : List Key) {d : D} (r : Rep T G d v) :
    RepT T G (ds.map fun kv => if kv.1 = k then (kv.1, d) else kv) (kvs.map fun kv => if kv.1 = k then (kv.1, v) else kv) := by
  induction ds generalizing kvs with
  | nil => cases h; exact .nil
  | cons p ds ih =>
    cases h with
    | @cons k' d' v' _ vs a b =>
      simp only [List.map_cons]
      by_cases e : k' = k
      · subst e
        simp only [if_true]
        exact .cons r (ih b)
      · simp only [if_neg e]
        exact .cons a (ih b)
theorem RepT.snoc {ds : List (List Key × D)} {kvs : List (List Key × V)} (h : RepT T G ds kvs) (k : List Key) {d : D} (r : Rep T G d v) : RepT T G (ds ++ [(k, d)]) (kvs ++ [(k, v)]) := by
  induction ds generalizing kvs with
  | nil => cases h; exact .cons r .nil
  | cons p ds ih =>
    cases h with
    | cons a b => exact .cons a (ih b)
theorem RepT.put {ds : List (List Key × D)} {kvs : List (List Key × V)} (h : RepT T G ds kvs) (k : List Key) {d : D} (r : Rep T G d v) : RepT T G (putD ds k d) (putK kvs k v) := by
  unfold putD putK
  rw [← h.any k]
  split
  · exact h.repl k r
  · exact h.snoc k r
theorem Reps.keysV : ∀ {xs : List D} {ks : List Key} {vs : List V}, keysD xs = some ks → Reps T G xs vs → vs = ks.map kV
  | [], ks, vs, e, r => by simp [keysD] at e; subst e; cases r; rfl
  | d :: xs, ks, vs, e, r => by
    simp only [keysD, Option.bind_eq_some_iff, Option.map_eq_some_iff] at e
    obtain ⟨k, e1, ms, e2, rfl⟩ := e
    cases r with
    | cons a b =>
      rw [Reps.keysV e2 b]
      cases d <;> simp [keyD] at e1 <;> subst e1 <;> cases a <;> rfl

/-- the reading of an operation -/
def rD (T : Tx) (o : Op) : List V → Hp → VK → Prop := fun xs H Q => ∃ G ds d, GSub G H ∧ PReps T G H ds xs ∧ opSem o ds = some d ∧ Post T G H d Q
theorem PReps.inv0 {xs : List V} (h : PReps T G H [] xs) : xs = [] := by cases h; rfl
theorem PReps.inv1 {d : D} {xs : List V} (h : PReps T G H [d] xs) : ∃ v, xs = [v] ∧ PRep T G H d v := by
  cases h with | cons a b => cases b; exact ⟨_, rfl, a⟩
theorem PReps.inv2 {d e : D} {xs : List V} (h : PReps T G H [d, e] xs) : ∃ v u, xs = [v, u] ∧ PRep T G H d v ∧ PRep T G H e u := by
  cases h with | cons a b => obtain ⟨u, rfl, r⟩ := b.inv1; exact ⟨_, _, rfl, a, r⟩
theorem PReps.inv3 {d e f : D} {xs : List V} (h : PReps T G H [d, e, f] xs) : ∃ v u w, xs = [v, u, w] ∧ PRep T G H d v ∧ PRep T G H e u ∧ PRep T G H f w := by
  cases h with | cons a b => obtain ⟨u, w, rfl, r, r'⟩ := b.inv2; exact ⟨_, _, _, rfl, a, r, r'⟩
theorem PReps.inv4 {d e f g : D} {xs : List V} (h : PReps T G H [d, e, f, g] xs) : ∃ v u w z, xs = [v, u, w, z] ∧ PRep T G H d v ∧ PRep T G H e u ∧ PRep T G H f w ∧ PRep T G H g z := by
  cases h with | cons a b => obtain ⟨u, w, z, rfl, r, r', r''⟩ := b.inv3; exact ⟨_, _, _, _, rfl, a, r, r', r''⟩
theorem PReps.len {ds : List D} {xs : List V} (h : PReps T G H ds xs) : ds.length = xs.length := by
  induction ds generalizing xs with
  | nil => cases h; rfl
  | cons d ds ih => cases h with | cons a b => simp [ih b]
/-- two operands -/
def rB (T : Tx) (o : Op) : R2 := fun x y H Q => rD T o [x, y] H Q
def rU1 (T : Tx) (o : Op) : V → Hp → VK → Prop := fun x H Q => rD T o [x] H Q
theorem rB.get {o : Op} {x y : V} {H : Hp} {Q : VK} (h : rB T o x y H Q) : ∃ G a b d, GSub G H ∧ PRep T G H a x ∧ PRep T G H b y ∧ opSem o [a, b] = some d ∧ Post T G H d Q := by
  obtain ⟨G, ds, d, gs, pr, e, p⟩ := h
  cases pr with
  | cons r1 pr =>
    cases pr with
    | cons r2 pr => cases pr; exact ⟨G, _, _, d, gs, r1, r2, e, p⟩
theorem rU1.get {o : Op} {x : V} {H : Hp} {Q : VK} (h : rU1 T o x H Q) : ∃ G a d, GSub G H ∧ PRep T G H a x ∧ opSem o [a] = some d ∧ Post T G H d Q := by
  obtain ⟨G, ds, d, gs, pr, e, p⟩ := h
  cases pr with
  | cons r1 pr => cases pr; exact ⟨G, _, d, gs, r1, e, p⟩
end

theorem OpR.imp {X : Cx} {f : Value → Value → Sem Value} {r r' : R2} (h : OpR X f r) (i : ∀ x y H Q, r' x y H Q → r x y H Q) : OpR X f r' :=
  fun pins s σ H x y v u Q I rx ry q => h pins s σ H x y v u Q I rx ry (i x y H Q q)
theorem CallR.imp {X : Cx} {f : Value} {r r' : List V → Hp → VK → Prop} (h : CallR X f r) (i : ∀ xs H Q, r' xs H Q → r xs H Q) : CallR X f r' :=
  fun pins s σ H xs us Q I r q => h pins s σ H xs us Q I r (i xs H Q q)
theorem UnR.imp {X : Cx} {f : Value → Sem Value} {r r' : V → Hp → VK → Prop} (h : UnR X f r) (i : ∀ x H Q, r' x H Q → r x H Q) : UnR X f r' :=
  fun pins s σ H x v Q I rx q => h pins s σ H x v Q I rx (i x H Q q)
theorem IxR.imp {X : Cx} {r r' : R2} (h : IxR X r) (i : ∀ x y H Q, r' x y H Q → r x y H Q) : IxR X r' :=
  fun value slice pins s σ H x y v u Q I rx ry q e => h value slice pins s σ H x y v u Q I rx ry (i x y H Q q) e
theorem MtR.imp {X : Cx} {id : String} {r r' : V → List V → Hp → VK → Prop} (h : MtR X id r) (i : ∀ x xs H Q, r' x xs H Q → r x xs H Q) : MtR X id r' :=
  fun pins s σ H x xs v us Q I rx r q => h pins s σ H x xs v us Q I rx r (i x xs H Q q)

end Vi
end
section
set_option maxRecDepth 100000
/-! Vi, part D: the operations, one by one. -/
namespace Vi
open PySem PySem.Spec PyProof.Rows L2

section
variable {X : Cx} {T : Tx}
theorem ok_add (hK : X.K = T.K) : OpR X (binaryOp .Add) (rB T .add) := by
  refine OpR.imp (OpR.or (OpR.or (OpR.or op_add op_add_str) op_cat) op_catA) fun x y H Q h => ?_
  obtain ⟨G, a, b, d, gs, ra, rb, e, p⟩ := h.get
  simp only [opSem] at e
  unfold addOp at e
  split at e
  · cases e
    rw [ra.int, rb.int]
    exact .inl (.inl (.inl ⟨_, _, rfl, rfl, p.atom gs (.int _)⟩))
  · split at e
    · cases e
      rename_i hc
      rw [ra.str, rb.str]
      exact .inl (.inl (.inr ⟨_, _, rfl, rfl, hc, p.atom gs (.str _)⟩))
    · cases e
  · split at e
    · cases e
      rename_i hc
      obtain ⟨a1, vs, rfl, h1, r1, l1⟩ := ra.lst gs
      obtain ⟨a2, ws, rfl, h2, r2, l2⟩ := rb.lst gs
      have hl : vs.length + ws.length ≤ line := by rw [← r1.length, ← r2.length]; exact hc
      exact .inl (.inr ⟨_, _, _, _, rfl, rfl, h1, h2, hl, fun q hq => p.newL gs (r1.append r2) (by rw [List.length_append]; exact hl) hq⟩)
    · cases e
  · split at e
    · cases e
      rename_i hc
      obtain ⟨a1, vs, rfl, h1, r1, l1, g1⟩ := ra.tup gs
      obtain ⟨a2, ws, rfl, h2, r2, l2, g2⟩ := rb.tup gs
      have hl : vs.length + ws.length ≤ line := by rw [← r1.length, ← r2.length]; exact hc
      refine .inr ⟨_, _, _, _, rfl, rfl, .of h1, .of h2, hl, fun q => ?_, fun _ q => ?_, fun _ _ a ha => p.newT gs (r1.append r2) (by rw [List.length_append]; exact hl) ha⟩
      · subst q
        cases r1
        exact p.atom gs (.tup g2 (by simpa using r2) l2)
      · subst q
        cases r2
        exact p.atom gs (.tup g1 (by simpa using r1) l1)
    · cases e
  · cases e
theorem ok_sub : OpR X (binaryOp .Sub) (rB T .sub) := by
  refine OpR.imp op_sub fun x y H Q h => ?_
  obtain ⟨G, a, b, d, gs, ra, rb, e, p⟩ := h.get
  simp only [opSem] at e
  unfold subOp at e
  split at e
  · cases e
    rw [ra.int, rb.int]
    exact ⟨_, _, rfl, rfl, p.atom gs (.int _)⟩
  · cases e
theorem ok_mul : OpR X (binaryOp .Mult) (rB T .mul) := by
  refine OpR.imp op_mulW fun x y H Q h => ?_
  obtain ⟨G, a, b, d, gs, ra, rb, e, p⟩ := h.get
  simp only [opSem] at e
  unfold mulOp at e
  split at e
  · split at e
    · cases e
      rename_i h
      rw [ra.int, rb.int]
      exact ⟨_, _, rfl, rfl, h, p.atom gs (.int _)⟩
    · cases e
  · cases e
theorem ok_fdiv : OpR X (binaryOp .FloorDiv) (rB T .fdiv) := by
  refine OpR.imp (OpR.or op_fdivW op_fdivN) fun x y H Q h => ?_
  obtain ⟨G, a, b, d, gs, ra, rb, e, p⟩ := h.get
  simp only [opSem] at e
  unfold fdivOp at e
  split at e
  · rw [ra.int, rb.int]
    split at e
    · cases e
      rename_i h
      exact .inl ⟨_, _, rfl, rfl, h, p.atom gs (.int _)⟩
    · split at e
      · cases e
        rename_i h
        exact .inr ⟨_, _, rfl, rfl, h, p.atom gs (.int _)⟩
      · cases e
  · cases e
theorem ok_mod : OpR X (binaryOp .Mod) (rB T .mod) := by
  refine OpR.imp (OpR.or op_mod op_modN) fun x y H Q h => ?_
  obtain ⟨G, a, b, d, gs, ra, rb, e, p⟩ := h.get
  simp only [opSem] at e
  unfold modOp at e
  split at e
  · rw [ra.int, rb.int]
    split at e
    · cases e
      rename_i h
      exact .inl ⟨_, _, rfl, rfl, h, p.atom gs (.int _)⟩
    · split at e
      · cases e
        rename_i h
        exact .inr ⟨_, _, rfl, rfl, h, p.atom gs (.int _)⟩
      · cases e
  · cases e
theorem op_powW : OpR X (binaryOp .Pow) (rI (fun i j => 0 ≤ j ∧ (i.natAbs.log2 + 1) * j ≤ 134217728) fun i j => .int (i ^ j.toNat)) :=
  opI fun i j t u s Q E c q => pow_int c.1 (by
    have : (Builtin.Int.intBits i : Int) ≤ i.natAbs.log2 + 1 := by
      unfold Builtin.Int.intBits
      split <;> omega
    have h2 := Int.mul_le_mul_of_nonneg_right this c.1
    have h3 := c.2
    have e : ((2 : Int) ^ 27) = 134217728 := by decide
    rw [e]
    omega) q
theorem ok_pow : OpR X (binaryOp .Pow) (rB T .pow) := by
  refine OpR.imp op_powW fun x y H Q h => ?_
  obtain ⟨G, a, b, d, gs, ra, rb, e, p⟩ := h.get
  simp only [opSem] at e
  unfold powOp at e
  split at e
  · rw [ra.int, rb.int]
    split at e
    · cases e
      rename_i h
      refine ⟨_, _, rfl, rfl, ⟨h.1, ?_⟩, p.atom gs (.int _)⟩
      have h2 := h.2
      exact Int.le_trans (Int.mul_le_mul (show _ ≤ (100000 : Int) by omega) (show _ ≤ (1000 : Int) by omega) h.1 (by decide)) (by decide)
    · cases e
  · cases e
theorem ok_neg : UnR X (unaryOp .USub) (rU1 T .neg) := by
  refine UnR.imp un_neg fun x H Q h => ?_
  obtain ⟨G, a, d, gs, ra, e, p⟩ := h.get
  simp only [opSem] at e
  unfold negOp at e
  split at e
  · cases e
    rw [ra.int]
    exact ⟨_, rfl, p.atom gs (.int _)⟩
  · cases e

/-! ### comparisons -/
theorem op_isBl : OpR X (compareOp .Is) (fun x y H Q => ∃ a b : Bool, x = V.bl a ∧ y = V.bl b ∧ Q (.bl (a == b)) H) := by
  intro pins s σ H x y v u Q I rx ry h
  obtain ⟨a, b, rfl, rfl, q⟩ := h
  cases rx; cases ry
  exact wpAny_is_plain rfl (fin_bl I q (by cases a <;> cases b <;> rfl))
theorem op_notBl : OpR X (compareOp .IsNot) (fun x y H Q => ∃ a b : Bool, x = V.bl a ∧ y = V.bl b ∧ Q (.bl (!(a == b))) H) := by
  intro pins s σ H x y v u Q I rx ry h
  obtain ⟨a, b, rfl, rfl, q⟩ := h
  cases rx; cases ry
  exact wpAny_isNot_plain rfl (fin_bl I q (by cases a <;> cases b <;> rfl))
theorem ok_isb : OpR X (compareOp .Is) (rB T .isb) := by
  refine OpR.imp op_isBl fun x y H Q h => ?_
  obtain ⟨G, a, b, d, gs, ra, rb, e, p⟩ := h.get
  simp only [opSem] at e
  unfold isbOp at e
  split at e
  · cases e; rw [ra.bl, rb.bl]
    exact ⟨_, _, rfl, rfl, p.atom gs (.bl _)⟩
  · cases e
theorem ok_notb : OpR X (compareOp .IsNot) (rB T .notb) := by
  refine OpR.imp op_notBl fun x y H Q h => ?_
  obtain ⟨G, a, b, d, gs, ra, rb, e, p⟩ := h.get
  simp only [opSem] at e
  unfold isbOp at e
  split at e
  · cases e; rw [ra.bl, rb.bl]
    exact ⟨_, _, rfl, rfl, p.atom gs (.bl _)⟩
  · cases e
theorem ok_lt : OpR X (compareOp .Lt) (rB T .lt) := by
  refine OpR.imp (OpR.or op_lt op_lt_str) fun x y H Q h => ?_
  obtain ⟨G, a, b, d, gs, ra, rb, e, p⟩ := h.get
  simp only [opSem] at e
  unfold ltOp at e
  split at e
  · cases e; rw [ra.int, rb.int]
    exact .inl ⟨_, _, rfl, rfl, p.atom gs (.bl _)⟩
  · cases e; rw [ra.str, rb.str]
    exact .inr ⟨_, _, rfl, rfl, p.atom gs (.bl _)⟩
  · cases e
theorem ok_le : OpR X (compareOp .LtE) (rB T .le) := by
  refine OpR.imp op_le fun x y H Q h => ?_
  obtain ⟨G, a, b, d, gs, ra, rb, e, p⟩ := h.get
  simp only [opSem] at e
  unfold leOp at e
  split at e
  · cases e; rw [ra.int, rb.int]
    exact ⟨_, _, rfl, rfl, p.atom gs (.bl _)⟩
  · cases e
theorem ok_gt : OpR X (compareOp .Gt) (rB T .gt) := by
  refine OpR.imp op_gt fun x y H Q h => ?_
  obtain ⟨G, a, b, d, gs, ra, rb, e, p⟩ := h.get
  simp only [opSem] at e
  unfold gtOp at e
  split at e
  · cases e; rw [ra.int, rb.int]
    exact ⟨_, _, rfl, rfl, p.atom gs (.bl _)⟩
  · cases e
theorem ok_ge : OpR X (compareOp .GtE) (rB T .ge) := by
  refine OpR.imp op_ge fun x y H Q h => ?_
  obtain ⟨G, a, b, d, gs, ra, rb, e, p⟩ := h.get
  simp only [opSem] at e
  unfold geOp at e
  split at e
  · cases e; rw [ra.int, rb.int]
    exact ⟨_, _, rfl, rfl, p.atom gs (.bl _)⟩
  · cases e
mutual
theorem plain_dp {G H : Hp} (gs : GSub G H) : ∀ (n : Nat) (d : D) (v : V), plain n d = true → PRep T G H d v → Dp T.K H v (toPy d) ∧ (toPy d).canLay0 = true ∧ (toPy d).depth ≤ n
  | _, .non, _, _, r => by rw [r.non]; exact ⟨.non, rfl, Nat.zero_le _⟩
  | _, .bl b, _, _, r => by rw [r.bl]; exact ⟨.bl b, rfl, Nat.zero_le _⟩
  | _, .int i, _, _, r => by rw [r.int]; exact ⟨.int i, rfl, Nat.zero_le _⟩
  | _, .str s, _, h, r => by
    rw [r.str]
    refine ⟨.str s, ?_, Nat.zero_le _⟩
    simpa [plain, toPy, PyData.canLay0] using h
  | n + 1, .tup xs, _, h, r => by
    obtain ⟨a, vs, rfl, h1, r1, _, _⟩ := r.tup gs
    have h' : plains n xs = true := by simpa [plain] using h
    obtain ⟨q1, q2, q3⟩ := plains_dp gs n xs vs h' r1
    refine ⟨.tup (.of h1) q1, by simpa [toPy, PyData.canLay0] using q2, ?_⟩
    simp only [toPy, PyData.depth]
    omega
  | n + 1, .lst o xs, _, h, r => by
    obtain ⟨a, vs, rfl, h1, r1, _⟩ := r.lst gs
    have h' : plains n xs = true := by simpa [plain] using h
    obtain ⟨q1, q2, q3⟩ := plains_dp gs n xs vs h' r1
    refine ⟨.lst (.of h1) q1, by simpa [toPy, PyData.canLay0] using q2, ?_⟩
    simp only [toPy, PyData.depth]
    omega
  | 0, .tup xs, _, h, _ => by simp [plain] at h
  | 0, .lst o xs, _, h, _ => by simp [plain] at h
  | _, .dic _ _, _, h, _ => by simp [plain] at h
  | _, .dit _ _, _, h, _ => by simp [plain] at h
  | _, .ins _ _ _, _, h, _ => by simp [plain] at h
  | _, .scr _, _, h, _ => by simp [plain] at h
theorem plains_dp {G H : Hp} (gs : GSub G H) : ∀ (n : Nat) (ds : List D) (vs : List V), plains n ds = true → Reps T G ds vs → DpAll T.K H vs (toPys ds) ∧ PyData.canLayAll0 (toPys ds) = true ∧ PyData.depthAll (toPys ds) ≤ n
  | _, [], _, _, r => by cases r; exact ⟨.nil, rfl, Nat.zero_le _⟩
  | n, x :: xs, _, h, r => by
    cases r with
    | cons a b =>
      have h' : plain n x = true ∧ plains n xs = true := by simpa [plains] using h
      obtain ⟨q1, q2, q3⟩ := plain_dp gs n x _ h'.1 ⟨_, .frz a⟩
      obtain ⟨p1, p2, p3⟩ := plains_dp gs n xs _ h'.2 b
      refine ⟨.cons q1 p1, by simp [toPys, PyData.canLayAll0, q2, p2], ?_⟩
      simp only [toPys, PyData.depthAll]
      omega
end
theorem plain_shaped {G H : Hp} (gs : GSub G H) {d : D} {v : V} (h : plain 60 d = true) (r : PRep T G H d v) : Dp T.K H v (toPy d) ∧ SeqAt.shaped (toPy d) = true := by
  obtain ⟨q1, q2, q3⟩ := plain_dp gs 60 d v h r
  refine ⟨q1, ?_⟩
  unfold SeqAt.shaped
  rw [q2, Bool.true_and]
  exact decide_eq_true (by omega)
mutual
theorem eqv_py : ∀ (n : Nat) (a b : D), plain n a = true → plain n b = true → PyData.eqv (toPy a) (toPy b) = eqD a b
  | _, .non, .non, _, _ => by simp [toPy, PyData.eqv, eqD]
  | _, .non, .bl _, _, _ => by simp [toPy, PyData.eqv, eqD]
  | _, .non, .int _, _, _ => by simp [toPy, PyData.eqv, eqD]
  | _, .non, .str _, _, _ => by simp [toPy, PyData.eqv, eqD]
  | _, .non, .tup _, _, _ => by simp [toPy, PyData.eqv, eqD]
  | _, .non, .lst _ _, _, _ => by simp [toPy, PyData.eqv, eqD]
  | _, .bl _, .non, _, _ => by simp [toPy, PyData.eqv, eqD]
  | _, .bl _, .bl _, _, _ => by simp [toPy, PyData.eqv, eqD]
  | _, .bl _, .int _, _, _ => by simp [toPy, PyData.eqv, eqD]
  | _, .bl _, .str _, _, _ => by simp [toPy, PyData.eqv, eqD]
  | _, .bl _, .tup _, _, _ => by simp [toPy, PyData.eqv, eqD]
  | _, .bl _, .lst _ _, _, _ => by simp [toPy, PyData.eqv, eqD]
  | _, .int _, .non, _, _ => by simp [toPy, PyData.eqv, eqD]
  | _, .int _, .bl _, _, _ => by simp [toPy, PyData.eqv, eqD]
  | _, .int _, .int _, _, _ => by simp [toPy, PyData.eqv, eqD]
  | _, .int _, .str _, _, _ => by simp [toPy, PyData.eqv, eqD]
  | _, .int _, .tup _, _, _ => by simp [toPy, PyData.eqv, eqD]
  | _, .int _, .lst _ _, _, _ => by simp [toPy, PyData.eqv, eqD]
  | _, .str _, .non, _, _ => by simp [toPy, PyData.eqv, eqD]
  | _, .str _, .bl _, _, _ => by simp [toPy, PyData.eqv, eqD]
  | _, .str _, .int _, _, _ => by simp [toPy, PyData.eqv, eqD]
  | _, .str _, .str _, _, _ => by simp [toPy, PyData.eqv, eqD]
  | _, .str _, .tup _, _, _ => by simp [toPy, PyData.eqv, eqD]
  | _, .str _, .lst _ _, _, _ => by simp [toPy, PyData.eqv, eqD]
  | _, .tup _, .non, _, _ => by simp [toPy, PyData.eqv, eqD]
  | _, .tup _, .bl _, _, _ => by simp [toPy, PyData.eqv, eqD]
  | _, .tup _, .int _, _, _ => by simp [toPy, PyData.eqv, eqD]
  | _, .tup _, .str _, _, _ => by simp [toPy, PyData.eqv, eqD]
  | _, .tup _, .lst _ _, _, _ => by simp [toPy, PyData.eqv, eqD]
  | _, .lst _ _, .non, _, _ => by simp [toPy, PyData.eqv, eqD]
  | _, .lst _ _, .bl _, _, _ => by simp [toPy, PyData.eqv, eqD]
  | _, .lst _ _, .int _, _, _ => by simp [toPy, PyData.eqv, eqD]
  | _, .lst _ _, .str _, _, _ => by simp [toPy, PyData.eqv, eqD]
  | _, .lst _ _, .tup _, _, _ => by simp [toPy, PyData.eqv, eqD]
  | n + 1, .tup xs, .tup ys, h, k => by
    simp only [toPy, PyData.eqv, eqD]
    exact eqvs_py n xs ys (by simpa [plain] using h) (by simpa [plain] using k)
  | n + 1, .lst _ xs, .lst _ ys, h, k => by
    simp only [toPy, PyData.eqv, eqD]
    exact eqvs_py n xs ys (by simpa [plain] using h) (by simpa [plain] using k)
  | 0, .tup _, .tup _, h, _ => by simp [plain] at h
  | 0, .lst _ _, .lst _ _, h, _ => by simp [plain] at h
  | _, .dic _ _, _, h, _ => by simp [plain] at h
  | _, .dit _ _, _, h, _ => by simp [plain] at h
  | _, .ins _ _ _, _, h, _ => by simp [plain] at h
  | _, .scr _, _, h, _ => by simp [plain] at h
  | _, _, .dic _ _, _, h => by simp [plain] at h
  | _, _, .dit _ _, _, h => by simp [plain] at h
  | _, _, .ins _ _ _, _, h => by simp [plain] at h
  | _, _, .scr _, _, h => by simp [plain] at h
theorem eqvs_py : ∀ (n : Nat) (a b : List D), plains n a = true → plains n b = true → PyData.eqvAll (toPys a) (toPys b) = eqDs a b
  | _, [], [], _, _ => by simp [toPys, PyData.eqvAll, eqDs]
  | _, [], _ :: _, _, _ => by simp [toPys, PyData.eqvAll, eqDs]
  | _, _ :: _, [], _, _ => by simp [toPys, PyData.eqvAll, eqDs]
  | n, x :: xs, y :: ys, h, k => by
    have h' : plain n x = true ∧ plains n xs = true := by simpa [plains] using h
    have k' : plain n y = true ∧ plains n ys = true := by simpa [plains] using k
    simp only [toPys, PyData.eqvAll, eqDs]
    rw [eqv_py n x y h'.1 k'.1, eqvs_py n xs ys h'.2 k'.2]
end
theorem scal_rep {G H : Hp} {a b : D} {x y : V} (h : scalD a b = true) (ra : PRep T G H a x) (rb : PRep T G H b y) : scal x y = true ∧ decide (x = y) = eqD a b := by
  cases a <;> cases b <;> simp [scalD] at h
  all_goals (first | rw [ra.non] | rw [ra.int] | rw [ra.str] | rw [ra.bl])
  all_goals (first | rw [rb.non] | rw [rb.int] | rw [rb.str] | rw [rb.bl])
  all_goals (refine ⟨rfl, ?_⟩)
  all_goals (simp [eqD])
  all_goals (first | done | (rw [← Bool.beq_eq_decide_eq]) | rfl)
theorem ok_eq (hK : X.K = T.K) (hu : X.A.units + 64 < cLine) : OpR X (compareOp .Eq) (rB T .eq) := by
  refine OpR.imp (OpR.or op_eq (op_eqD hu)) fun x y H Q h => ?_
  obtain ⟨G, a, b, d, gs, ra, rb, e, p⟩ := h.get
  simp only [opSem, Option.map_eq_some_iff] at e
  obtain ⟨c, e, rfl⟩ := e
  unfold eqOp at e
  split at e
  · cases e
    rename_i h
    obtain ⟨h1, h2⟩ := scal_rep h ra rb
    exact .inl ⟨h1, by rw [h2]; exact p.atom gs (.bl _)⟩
  · split at e
    · cases e
      rename_i h
      rw [Bool.and_eq_true] at h
      obtain ⟨d1, s1⟩ := plain_shaped gs h.1 ra
      obtain ⟨d2, s2⟩ := plain_shaped gs h.2 rb
      refine .inr ⟨_, _, hK ▸ d1, hK ▸ d2, s1, s2, ?_⟩
      rw [eqv_py 60 a b h.1 h.2]
      exact p.atom gs (.bl _)
    · cases e
theorem ok_ne (hK : X.K = T.K) (hu : X.A.units + 64 < cLine) : OpR X (compareOp .NotEq) (rB T .ne) := by
  refine OpR.imp (OpR.or op_ne (op_neD hu)) fun x y H Q h => ?_
  obtain ⟨G, a, b, d, gs, ra, rb, e, p⟩ := h.get
  simp only [opSem, Option.map_eq_some_iff] at e
  obtain ⟨c, e, rfl⟩ := e
  unfold eqOp at e
  split at e
  · cases e
    rename_i h
    obtain ⟨h1, h2⟩ := scal_rep h ra rb
    exact .inl ⟨h1, by rw [h2]; exact p.atom gs (.bl _)⟩
  · split at e
    · cases e
      rename_i h
      rw [Bool.and_eq_true] at h
      obtain ⟨d1, s1⟩ := plain_shaped gs h.1 ra
      obtain ⟨d2, s2⟩ := plain_shaped gs h.2 rb
      refine .inr ⟨_, _, hK ▸ d1, hK ▸ d2, s1, s2, ?_⟩
      rw [eqv_py 60 a b h.1 h.2]
      exact p.atom gs (.bl _)
    · cases e
end
end Vi
end
section
set_option maxRecDepth 100000
/-! Vi, part E: in, places, slices, built-in functions. -/
namespace Vi
open PySem PySem.Spec PyProof.Rows L2

section
variable {X : Cx} {T : Tx}
theorem flat_rep {G H : Hp} {d : D} {x : V} (h : flatD d = true) (r : PRep T G H d x) : flatV x = true := by
  cases d <;> simp [flatD] at h
  · rw [r.non]; rfl
  · rw [r.bl]; rfl
  · rw [r.int]; rfl
  · rw [r.str]; rfl
theorem flat_eq {G H : Hp} {a b : D} {x y : V} (ha : flatD a = true) (hb : flatD b = true) (ra : PRep T G H a x) (rb : PRep T G H b y) : eqV x y = eqD a b := by
  cases a <;> cases b <;> simp [flatD] at ha hb
  all_goals (first | rw [ra.non] | rw [ra.int] | rw [ra.str] | rw [ra.bl])
  all_goals (first | rw [rb.non] | rw [rb.int] | rw [rb.str] | rw [rb.bl])
  all_goals (simp [eqV, eqD])
theorem flats {G : Hp} : ∀ {ds : List D} {vs : List V}, ds.all flatD = true → Reps T G ds vs → vs.all flatV = true
  | [], _, _, r => by cases r; rfl
  | d :: ds, _, h, r => by
    cases r with
    | cons a b =>
      simp only [List.all_cons, Bool.and_eq_true] at h ⊢
      exact ⟨flat_rep (H := G) h.1 ⟨_, .frz a⟩, flats h.2 b⟩
theorem flat_any {G H : Hp} {x : D} {v : V} (hx : flatD x = true) (rx : PRep T G H x v) : ∀ {ds : List D} {vs : List V}, ds.all flatD = true → Reps T G ds vs → inV v vs = ds.any fun y => eqD y x
  | [], _, _, r => by cases r; rfl
  | d :: ds, _, h, r => by
    cases r with
    | cons a b =>
      simp only [List.all_cons, Bool.and_eq_true] at h
      unfold inV
      simp only [List.any_cons]
      rw [flat_eq h.1 hx ⟨_, .frz a⟩ rx]
      exact congrArg _ (flat_any hx rx h.2 b)
theorem deep_any {x : D} (hx : plain 60 x = true) : ∀ {ds : List D}, plains 60 ds = true → ((toPys ds).any fun z => PyData.eqv z (toPy x)) = ds.any fun y => eqD y x
  | [], _ => rfl
  | d :: ds, h => by
    have h' : plain 60 d = true ∧ plains 60 ds = true := by simpa [plains] using h
    simp only [toPys, List.any_cons]
    rw [eqv_py 60 d x h'.1 hx, deep_any hx h'.2]
theorem op_inDict (hu : X.A.units + 1 < cLine) : OpR X (compareOp .In) (fun x y H Q => ∃ a o, y = .ref a ∧ DGet H a x o ∧ Q (.bl o.isSome) H) := by
  intro pins s σ H x y v u Q I rx ry h
  obtain ⟨a, o, rfl, g, q⟩ := h
  cases ry
  exact d_in hu I g rx fun s' I' => ⟨.bl _, H, I', rfl, q⟩
theorem op_notinDict (hu : X.A.units + 1 < cLine) : OpR X (compareOp .NotIn) (fun x y H Q => ∃ a o, y = .ref a ∧ DGet H a x o ∧ Q (.bl (!o.isSome)) H) := by
  intro pins s σ H x y v u Q I rx ry h
  obtain ⟨a, o, rfl, g, q⟩ := h
  cases ry
  exact d_notIn hu I g rx fun s' I' => ⟨.bl _, H, I', rfl, q⟩
theorem val_some {G : Hp} {ds : List (Key × D)} {kvs : List (Key × V)} (r : RepK T G ds kvs) (k : Key) : (valV kvs k).isSome = (valD ds k).isSome := by
  cases e : valD ds k with
  | none => rw [(r.val k).2 e]; rfl
  | some d => obtain ⟨v, h, _⟩ := (r.val k).1 d e; rw [h]; rfl
theorem valT_some {G : Hp} {ds : List (List Key × D)} {kvs : List (List Key × V)} (r : RepT T G ds kvs) (k : List Key) : (valV kvs k).isSome = (valD ds k).isSome := by
  cases e : valD ds k with
  | none => rw [(r.val k).2 e]; rfl
  | some d => obtain ⟨v, h, _⟩ := (r.val k).1 d e; rw [h]; rfl
/-- a tuple of keys is tracked -/
def NoKT (T : Tx) : Prop := ∀ a (o : Obj), T.K.lookup a = some o → o.cls = .type "tuple" → False
theorem ok_in (hK : X.K = T.K) (hu : X.A.units + 65 < cLine) : OpR X (compareOp .In) (rB T .isin) := by
  refine OpR.imp (OpR.or (OpR.or (OpR.or op_in_seq (op_inD hu)) op_in_str) (op_inDict (by omega))) fun x y H Q h => ?_
  obtain ⟨G, a, b, d, gs, ra, rb, e, p⟩ := h.get
  simp only [opSem, Option.map_eq_some_iff] at e
  obtain ⟨c, e, rfl⟩ := e
  unfold inOp at e
  split at e
  · obtain ⟨q, vs, rfl, h1, r1, l1⟩ := rb.lst gs
    split at e
    · cases e
      rename_i hc
      rw [Bool.and_eq_true] at hc
      refine .inl (.inl (.inl ⟨q, vs, rfl, .inl (.of h1), flat_rep hc.1 ra, flats hc.2 r1, ?_⟩))
      simp only [Bool.false_eq_true, if_false]
      rw [flat_any hc.1 ra hc.2 r1]
      exact p.atom gs (.bl _)
    · split at e
      · cases e
        rename_i hc
        rw [Bool.and_eq_true] at hc
        obtain ⟨d1, s1⟩ := plain_shaped gs hc.1 ra
        obtain ⟨q1, q2, q3⟩ := plains_dp gs 60 _ _ hc.2 r1
        refine .inl (.inl (.inr ⟨_, _, hK ▸ d1, hK ▸ (Dp.lst (.of h1) q1 : Dp T.K H _ _), s1, ?_, ?_⟩))
        · unfold SeqAt.shaped
          simp only [PyData.canLay0, q2, Bool.true_and, PyData.depth]
          exact decide_eq_true (by omega)
        · rw [deep_any hc.1 hc.2]
          exact p.atom gs (.bl _)
      · cases e
  · obtain ⟨q, vs, rfl, h1, r1, l1, _⟩ := rb.tup gs
    split at e
    · cases e
      rename_i hc
      rw [Bool.and_eq_true] at hc
      refine .inl (.inl (.inl ⟨q, vs, rfl, .inr (.of h1), flat_rep hc.1 ra, flats hc.2 r1, ?_⟩))
      simp only [Bool.false_eq_true, if_false]
      rw [flat_any hc.1 ra hc.2 r1]
      exact p.atom gs (.bl _)
    · cases e
  · cases e
    rw [ra.str, rb.str]
    exact .inl (.inr ⟨_, _, rfl, rfl, p.atom gs (.bl _)⟩)
  · cases e
    obtain ⟨q, kvs, rfl, h1, r1, l1⟩ := rb.dic gs
    rw [ra.int]
    refine .inr ⟨q, valV kvs (.inl _), rfl, .inl ⟨kvs, .inl _, h1, rfl, rfl⟩, ?_⟩
    rw [val_some r1]
    exact p.atom gs (.bl _)
  · cases e
    obtain ⟨q, kvs, rfl, h1, r1, l1⟩ := rb.dic gs
    rw [ra.str]
    refine .inr ⟨q, valV kvs (.inr _), rfl, .inl ⟨kvs, .inr _, h1, rfl, rfl⟩, ?_⟩
    rw [val_some r1]
    exact p.atom gs (.bl _)
  · simp only [Option.map_eq_some_iff] at e
    obtain ⟨ks, e, rfl⟩ := e
    obtain ⟨q, kvs, rfl, h1, r1, l1⟩ := rb.dit gs
    obtain ⟨t, vs, rfl, h2, r2, l2, _⟩ := ra.tup gs
    have := r2.keysV e
    subst this
    refine .inr ⟨q, valV kvs ks, rfl, .inr ⟨kvs, ks, t, h1, rfl, h2, rfl⟩, ?_⟩
    rw [valT_some r1]
    exact p.atom gs (.bl _)
  · cases e
theorem ok_notin (hK : X.K = T.K) (hu : X.A.units + 65 < cLine) : OpR X (compareOp .NotIn) (rB T .notin) := by
  refine OpR.imp (OpR.or (OpR.or (OpR.or op_notIn_seq (op_notInD hu)) op_notIn_str) (op_notinDict (by omega))) fun x y H Q h => ?_
  obtain ⟨G, a, b, d, gs, ra, rb, e, p⟩ := h.get
  simp only [opSem, Option.map_eq_some_iff] at e
  obtain ⟨c, e, rfl⟩ := e
  unfold inOp at e
  split at e
  · obtain ⟨q, vs, rfl, h1, r1, l1⟩ := rb.lst gs
    split at e
    · cases e
      rename_i hc
      rw [Bool.and_eq_true] at hc
      refine .inl (.inl (.inl ⟨q, vs, rfl, .inl (.of h1), flat_rep hc.1 ra, flats hc.2 r1, ?_⟩))
      simp only [if_true]
      rw [flat_any hc.1 ra hc.2 r1]
      exact p.atom gs (.bl _)
    · split at e
      · cases e
        rename_i hc
        rw [Bool.and_eq_true] at hc
        obtain ⟨d1, s1⟩ := plain_shaped gs hc.1 ra
        obtain ⟨q1, q2, q3⟩ := plains_dp gs 60 _ _ hc.2 r1
        refine .inl (.inl (.inr ⟨_, _, hK ▸ d1, hK ▸ (Dp.lst (.of h1) q1 : Dp T.K H _ _), s1, ?_, ?_⟩))
        · unfold SeqAt.shaped
          simp only [PyData.canLay0, q2, Bool.true_and, PyData.depth]
          exact decide_eq_true (by omega)
        · rw [deep_any hc.1 hc.2]
          exact p.atom gs (.bl _)
      · cases e
  · obtain ⟨q, vs, rfl, h1, r1, l1, _⟩ := rb.tup gs
    split at e
    · cases e
      rename_i hc
      rw [Bool.and_eq_true] at hc
      refine .inl (.inl (.inl ⟨q, vs, rfl, .inr (.of h1), flat_rep hc.1 ra, flats hc.2 r1, ?_⟩))
      simp only [if_true]
      rw [flat_any hc.1 ra hc.2 r1]
      exact p.atom gs (.bl _)
    · cases e
  · cases e
    rw [ra.str, rb.str]
    exact .inl (.inr ⟨_, _, rfl, rfl, p.atom gs (.bl _)⟩)
  · cases e
    obtain ⟨q, kvs, rfl, h1, r1, l1⟩ := rb.dic gs
    rw [ra.int]
    refine .inr ⟨q, valV kvs (.inl _), rfl, .inl ⟨kvs, .inl _, h1, rfl, rfl⟩, ?_⟩
    rw [val_some r1]
    exact p.atom gs (.bl _)
  · cases e
    obtain ⟨q, kvs, rfl, h1, r1, l1⟩ := rb.dic gs
    rw [ra.str]
    refine .inr ⟨q, valV kvs (.inr _), rfl, .inl ⟨kvs, .inr _, h1, rfl, rfl⟩, ?_⟩
    rw [val_some r1]
    exact p.atom gs (.bl _)
  · simp only [Option.map_eq_some_iff] at e
    obtain ⟨ks, e, rfl⟩ := e
    obtain ⟨q, kvs, rfl, h1, r1, l1⟩ := rb.dit gs
    obtain ⟨t, vs, rfl, h2, r2, l2, _⟩ := ra.tup gs
    have := r2.keysV e
    subst this
    refine .inr ⟨q, valV kvs ks, rfl, .inr ⟨kvs, ks, t, h1, rfl, h2, rfl⟩, ?_⟩
    rw [valT_some r1]
    exact p.atom gs (.bl _)
  · cases e
theorem isN_rep {G H : Hp} {d : D} {x : V} (r : PRep T G H d x) : decide (x = .non) = isNOp d := by
  obtain ⟨as, r⟩ := r
  cases r with
  | frz r => cases r <;> simp [isNOp]
  | lst _ _ _ => simp [isNOp]
  | dic _ _ _ => simp [isNOp]
  | dit _ _ _ => simp [isNOp]
  | ins _ _ _ _ _ => simp [isNOp]

/-! ### places -/
theorem ix_dict (hu : X.A.units + 1 < cLine) : IxR X (fun x y H Q => ∃ a v, x = .ref a ∧ DGet H a y (some v) ∧ Q v H) := by
  intro value slice pins s σ H x y v u Q I rx ry h hs
  obtain ⟨a, w, rfl, g, q⟩ := h
  cases rx
  exact tail_any (dict_typeIs I g) PySem.F.slot_dict_getitem.lookup (d_getItem hu I g ry fun w' s' I' r => ⟨w, H, I', r, q⟩) hs
theorem Reps.atI {G : Hp} {ds : List D} {vs : List V} (r : Reps T G ds vs) {i : Int} {d : D} (e : atI ds i = some d) : ∃ v, L2.atI vs i = some v ∧ Rep T G d v := by
  unfold L2.atI at e ⊢
  rw [← r.length]
  cases h : ixN ds.length i with
  | none => rw [h] at e; cases e
  | some j =>
    rw [h] at e
    obtain ⟨v, h1, h2⟩ := r.get (i := j) e
    exact ⟨v, h1, h2⟩
theorem atI_map {α β : Type} (f : α → β) (xs : List α) (i : Int) : atI (xs.map f) i = (atI xs i).map f := by
  unfold atI
  rw [List.length_map]
  cases ixN xs.length i with
  | none => rfl
  | some j => simp
theorem ok_idx (hK : X.K = T.K) (hu : X.A.units + 1 < cLine) : IxR X (rB T .idx) := by
  refine IxR.imp (IxR.or ix_seq (ix_dict hu)) fun x y H Q h => ?_
  obtain ⟨G, a, b, d, gs, ra, rb, e, p⟩ := h.get
  simp only [opSem] at e
  unfold idxOp at e
  split at e
  · obtain ⟨q, vs, rfl, h1, r1, l1⟩ := ra.lst gs
    obtain ⟨v, e1, r⟩ := r1.atI e
    rw [rb.int]
    exact .inl (.inl ⟨q, vs, _, v, rfl, rfl, .of h1, e1, p.atom gs r⟩)
  · obtain ⟨q, vs, rfl, h1, r1, l1, _⟩ := ra.tup gs
    obtain ⟨v, e1, r⟩ := r1.atI e
    rw [rb.int]
    exact .inl (.inr (.inl ⟨q, vs, _, v, rfl, rfl, .of h1, e1, p.atom gs r⟩))
  · obtain ⟨q, rfl, h1, _⟩ := ra.scr gs
    rw [rb.int]
    simp only [Option.map_eq_some_iff] at e
    obtain ⟨n, e, rfl⟩ := e
    refine .inl (.inl ⟨q, _, _, .int n, rfl, rfl, hK ▸ h1, ?_, p.atom gs (.int _)⟩)
    rw [atI_map, e]; rfl
  · split at e
    · rename_i hc
      simp only [Option.map_eq_some_iff] at e
      obtain ⟨c, e, rfl⟩ := e
      rw [ra.str, rb.int]
      exact .inl (.inr (.inr ⟨_, _, c, rfl, rfl, hc, e, p.atom gs (.str _)⟩))
    · cases e
  · obtain ⟨q, kvs, rfl, h1, r1, l1⟩ := ra.dic gs
    rw [rb.int]
    obtain ⟨v, e1, r⟩ := (r1.val _).1 d e
    exact .inr ⟨q, v, rfl, .inl ⟨kvs, .inl _, h1, rfl, e1.symm⟩, p.atom gs r⟩
  · obtain ⟨q, kvs, rfl, h1, r1, l1⟩ := ra.dic gs
    rw [rb.str]
    obtain ⟨v, e1, r⟩ := (r1.val _).1 d e
    exact .inr ⟨q, v, rfl, .inl ⟨kvs, .inr _, h1, rfl, e1.symm⟩, p.atom gs r⟩
  · simp only [Option.bind_eq_some_iff] at e
    obtain ⟨ks, e, e2⟩ := e
    obtain ⟨q, kvs, rfl, h1, r1, l1⟩ := ra.dit gs
    obtain ⟨t, vs, rfl, h2, r2, l2, _⟩ := rb.tup gs
    have := r2.keysV e
    subst this
    obtain ⟨v, e1, r⟩ := (r1.val _).1 d e2
    exact .inr ⟨q, v, rfl, .inr ⟨kvs, ks, t, h1, rfl, h2, e1.symm⟩, p.atom gs r⟩
  · cases e
theorem Reps.cut {G : Hp} {ds : List D} {vs : List V} (r : Reps T G ds vs) (lo hi : Option Int) : Reps T G (cutD ds lo hi) (cutV vs lo hi) := by
  unfold cutD cutV
  rw [r.length]
  exact (r.drop _).take _
theorem SlR.imp {r r' : V → Option Int → Option Int → Hp → VK → Prop} (h : SlR X r) (i : ∀ x lo hi H Q, r' x lo hi H Q → r x lo hi H Q) : SlR X r' :=
  fun pins s σ H x v vl vu lo hi sl Q I rx a b c q => h pins s σ H x v vl vu lo hi sl Q I rx a b c (i x lo hi H Q q)
theorem ok_slc (hK : X.K = T.K) : SlR X (fun x lo hi H Q => ∃ G a d, GSub G H ∧ PRep T G H a x ∧ slcOp a lo hi = some d ∧ Post T G H d Q) := by
  refine SlR.imp (SlR.or sl_list sl_tupA) fun x lo hi H Q h => ?_
  obtain ⟨G, a, d, gs, ra, e, p⟩ := h
  unfold slcOp at e
  split at e
  · cases e
    obtain ⟨q, vs, rfl, h1, r1, l1⟩ := ra.lst gs
    exact .inl ⟨q, vs, rfl, .of h1, fun b hb => p.newL gs (r1.cut lo hi) (Nat.le_trans (cutV_length _ _ _) l1) hb⟩
  · cases e
    obtain ⟨q, vs, rfl, h1, r1, l1, g1⟩ := ra.tup gs
    refine .inr ⟨q, vs, rfl, .of h1, fun w => ?_, fun _ b hb => p.newT gs (r1.cut lo hi) (Nat.le_trans (cutV_length _ _ _) l1) hb⟩
    have e1 : cutV vs lo hi = vs := by
      unfold cutV
      rw [w.1, w.2]
      simp
    exact p.atom gs (.tup g1 (by have := r1.cut lo hi; rw [e1] at this; exact this) l1)
  · cases e
    obtain ⟨q, rfl, h1, hl⟩ := ra.scr gs
    exact .inl ⟨q, _, rfl, hK ▸ h1, fun b hb => p.newL gs ((reps_ints _).cut lo hi) (Nat.le_trans (cutV_length _ _ _) (by simpa using hl)) hb⟩
  · cases e
end
end Vi
end
section
set_option maxRecDepth 100000
/-! Vi, part F: built-in functions. -/
namespace Vi
open PySem PySem.Spec PyProof.Rows L2

theorem rD.get1 {T : Tx} {o : Op} {xs : List V} {H : Hp} {Q : VK} (n1 : ∀ ds d, opSem o ds = some d → ds.length = 1) (h : rD T o xs H Q) :
    ∃ G a v d, xs = [v] ∧ GSub G H ∧ PRep T G H a v ∧ opSem o [a] = some d ∧ Post T G H d Q := by
  obtain ⟨G, ds, d, gs, pr, e, p⟩ := h
  match ds, n1 _ _ e with
  | [a], _ =>
    obtain ⟨v, rfl, r⟩ := pr.inv1
    exact ⟨G, a, v, d, rfl, gs, r, e, p⟩
theorem rD.get2 {T : Tx} {o : Op} {xs : List V} {H : Hp} {Q : VK} (n1 : ∀ ds d, opSem o ds = some d → ds.length = 2) (h : rD T o xs H Q) :
    ∃ G a b v u d, xs = [v, u] ∧ GSub G H ∧ PRep T G H a v ∧ PRep T G H b u ∧ opSem o [a, b] = some d ∧ Post T G H d Q := by
  obtain ⟨G, ds, d, gs, pr, e, p⟩ := h
  match ds, n1 _ _ e with
  | [a, b], _ =>
    obtain ⟨v, u, rfl, r, r'⟩ := pr.inv2
    exact ⟨G, a, b, v, u, d, rfl, gs, r, r', e, p⟩
/-- how many operands -/
theorem ar1 {o : Op} (h : ∀ ds : List D, ds.length ≠ 1 → opSem o ds = none) : ∀ ds d, opSem o ds = some d → ds.length = 1 := fun ds d e => by
  by_cases q : ds.length = 1
  · exact q
  · rw [h ds q] at e; cases e

section
variable {X : Cx} {T : Tx}
theorem len1 (o : Op) (ho : ∀ a b r, opSem o [] = none ∧ opSem o (a :: b :: r) = none) : ∀ ds d, opSem o ds = some d → ds.length = 1
  | [], _, e => by rw [(ho .non .non []).1] at e; cases e
  | [_], _, _ => rfl
  | a :: b :: r, _, e => by rw [(ho a b r).2] at e; cases e
theorem len2 (o : Op) (ho : ∀ a b c r, opSem o [] = none ∧ opSem o [a] = none ∧ opSem o (a :: b :: c :: r) = none) : ∀ ds d, opSem o ds = some d → ds.length = 2
  | [], _, e => by rw [(ho .non .non .non []).1] at e; cases e
  | [a], _, e => by rw [(ho a .non .non []).2.1] at e; cases e
  | [_, _], _, _ => rfl
  | a :: b :: c :: r, _, e => by rw [(ho a b c r).2.2] at e; cases e
theorem call_len_dict : CallR X (.builtin "len") (fun xs H Q => ∃ p kvs, xs = [.ref p] ∧ Rd H p (.dK kvs) ∧ Q (.int kvs.length) H) := by
  intro pins s σ H xs us Q I r h
  obtain ⟨p, kvs, rfl, hd, q⟩ := h
  rw [Vals.ref1 r]
  exact d_len I hd fun t s' I' => ⟨.int _, H, I', ⟨_, rfl⟩, q⟩
theorem ok_len (hK : X.K = T.K) : CallR X (.builtin "len") (rD T .len) := by
  refine CallR.imp (CallR.or (CallR.or call_len_seq call_len_str) call_len_dict) fun xs H Q h => ?_
  obtain ⟨G, a, v, d, rfl, gs, ra, e, p⟩ := rD.get1 (len1 _ (fun _ _ _ => ⟨rfl, rfl⟩)) h
  simp only [opSem] at e
  unfold lenOp at e
  split at e
  · cases e
    obtain ⟨q, vs, rfl, h1, r1, _⟩ := ra.lst gs
    exact .inl (.inl ⟨q, vs, rfl, .inl (.of h1), by rw [← r1.length]; exact p.atom gs (.int _)⟩)
  · cases e
    obtain ⟨q, vs, rfl, h1, r1, _⟩ := ra.tup gs
    exact .inl (.inl ⟨q, vs, rfl, .inr (.of h1), by rw [← r1.length]; exact p.atom gs (.int _)⟩)
  · cases e
    obtain ⟨q, rfl, h1, _⟩ := ra.scr gs
    exact .inl (.inl ⟨q, _, rfl, .inl (hK ▸ h1), by rw [List.length_map]; exact p.atom gs (.int _)⟩)
  · split at e
    · cases e
      rename_i hc
      rw [ra.str]
      exact .inl (.inr ⟨_, rfl, hc, p.atom gs (.int _)⟩)
    · cases e
  · cases e
    obtain ⟨q, vs, rfl, h1, r1, _⟩ := ra.dic gs
    exact .inr ⟨q, vs, rfl, h1, by rw [← r1.length]; exact p.atom gs (.int _)⟩
  · cases e
theorem ok_abs : CallR X (.builtin "abs") (rD T .abs) := by
  refine CallR.imp call_abs fun xs H Q h => ?_
  obtain ⟨G, a, v, d, rfl, gs, ra, e, p⟩ := rD.get1 (len1 _ (fun _ _ _ => ⟨rfl, rfl⟩)) h
  simp only [opSem] at e
  unfold absOp at e
  split at e
  · cases e
    rw [ra.int]
    exact ⟨_, rfl, p.atom gs (.int _)⟩
  · cases e
theorem ok_max2 (hc : X.calm = true) : CallR X (.builtin "max") (rD T .max2) := by
  refine CallR.imp (call_max2 hc) fun xs H Q h => ?_
  obtain ⟨G, a, b, v, u, d, rfl, gs, ra, rb, e, p⟩ := rD.get2 (len2 _ (fun _ _ _ _ => ⟨rfl, rfl, rfl⟩)) h
  simp only [opSem] at e
  unfold int2 at e
  split at e
  · cases e
    rw [ra.int, rb.int]
    exact ⟨_, _, rfl, p.atom gs (.int _)⟩
  · cases e
theorem ok_min2 (hc : X.calm = true) : CallR X (.builtin "min") (rD T .min2) := by
  refine CallR.imp (call_min2 hc) fun xs H Q h => ?_
  obtain ⟨G, a, b, v, u, d, rfl, gs, ra, rb, e, p⟩ := rD.get2 (len2 _ (fun _ _ _ _ => ⟨rfl, rfl, rfl⟩)) h
  simp only [opSem] at e
  unfold int2 at e
  split at e
  · cases e
    rw [ra.int, rb.int]
    exact ⟨_, _, rfl, p.atom gs (.int _)⟩
  · cases e
theorem ok_int : CallR X (.type "int") (rD T .int) := by
  refine CallR.imp call_int1 fun xs H Q h => ?_
  obtain ⟨G, a, v, d, rfl, gs, ra, e, p⟩ := rD.get1 (len1 _ (fun _ _ _ => ⟨rfl, rfl⟩)) h
  simp only [opSem] at e
  unfold intOp at e
  split at e
  · cases e
    rw [ra.int]
    exact .inl ⟨_, rfl, p.atom gs (.int _)⟩
  · cases e
    rw [ra.bl]
    exact .inr ⟨_, rfl, p.atom gs (.int _)⟩
  · cases e

/-! ### what walks a row of integers -/
theorem ints_at {items : List Value} {ns : List Int} (hi : IntsAre items ns) : ∀ (i : Nat) (v : Value), items.toArray[i]? = some v → ∃ t, v = Value.int (ns.getD i 0) t := by
  intro i v e
  have e' : items[i]? = some v := by simpa using e
  clear e
  induction hi generalizing i with
  | nil => simp at e'
  | cons a t r ih =>
    cases i with
    | zero => simp at e'; subst e'; exact ⟨_, rfl⟩
    | succ i => simpa using ih i (by simpa using e')
/-- a source of integers: it is walked, what stood stays -/
def ISrc (prog : Program) (w : World) (A : Around) (x : Value) (s : Shared) (ns : List Int) : Prop :=
  ∀ (Q : Value → Shared → Prop) (E : Value → Shared → Prop),
    (∀ (h2 : Heap) (I : Addr) (fp wr : List Addr) (P : Nat → Value → Prop) (St : Nat → Heap → Prop), Walks prog w A.in1 I fp wr ns.length P St → St 0 h2 → (∀ b ∈ fp, b < h2.objs.size) → (∀ i v, P i v → ∃ t, v = Value.int (ns.getD i 0) t) →
      (∀ h' : Heap, (∀ b o, b ∉ wr → h2.get? b = some o → h'.get? b = some o) → ∀ b o, s.heap.get? b = some o → h'.get? b = some o) → Q (.ref I) { s with heap := h2 }) →
    wpAny (model prog w) A.in1 (pyIter x) Q E s
variable {prog : Program} {w : World} {A : Around} {E : Value → Shared → Prop} {s : Shared}
theorem preSum_getD : ∀ (ns : List Int), preSum (fun i => ns.getD i 0) ns.length = ns.sum := by
  intro ns
  have h : ∀ k, k ≤ ns.length → preSum (fun i => ns.getD i 0) k = (ns.take k).sum := by
    intro k
    induction k with
    | zero => intro _; simp [preSum]
    | succ k ih =>
      intro hk
      simp only [preSum]
      rw [ih (by omega), List.take_succ_eq_append_getElem (by omega), List.sum_append]
      have e : ns.getD k 0 = ns[k] := by rw [List.getD_eq_getElem?_getD, List.getElem?_eq_getElem (by omega)]; rfl
      rw [e]
      simp
  rw [h ns.length (Nat.le_refl _), List.take_length]
theorem sum_src {x : Value} {ns : List Int} {Q : Value → Shared → Prop} (S : ISrc prog w A x s ns)
    (h : ∀ h' tk t', (∀ b o, s.heap.get? b = some o → h'.get? b = some o) → Q (.int ns.sum t') { s with heap := h', toks := tk }) : wpAny (model prog w) A (call (.builtin "sum") [x]) Q E s := by
  refine call_sum_walkG (S _ _ fun h2 I fp wr P St W st hf hv hk => ⟨I, fp, wr, _, P, St, fun i => ns.getD i 0, rfl, W, st, hf, hv, fun h' tk t' k => ?_⟩)
  rw [preSum_getD]
  exact h h' tk t' (hk h' k)
theorem arg_ge (f : Nat → Int) (n : Nat) : argBest (fun i j => decide (f i > f j)) n ≤ n ∧ ∀ j, j ≤ n → f j ≤ f (argBest (fun i j => decide (f i > f j)) n) := argBest_gt f n
theorem arg_le (f : Nat → Int) (n : Nat) : argBest (fun i j => decide (f i < f j)) n ≤ n ∧ ∀ j, j ≤ n → f (argBest (fun i j => decide (f i < f j)) n) ≤ f j := argBest_lt f n
theorem maxI_spec : ∀ {ns : List Int}, ns ≠ [] → maxI ns ∈ ns ∧ ∀ a ∈ ns, a ≤ maxI ns
  | [], h => absurd rfl h
  | [x], _ => by simp [maxI]
  | x :: y :: r, _ => by
    obtain ⟨h1, h2⟩ := maxI_spec (ns := y :: r) (by simp)
    simp only [maxI]
    constructor
    · by_cases h : x ≤ maxI (y :: r)
      · rw [Int.max_eq_right h]; exact List.mem_cons_of_mem _ h1
      · rw [Int.max_eq_left (by omega)]; exact List.mem_cons_self
    · intro a ha
      rcases List.mem_cons.mp ha with rfl | ha
      · omega
      · have := h2 a ha; omega
theorem minI_spec : ∀ {ns : List Int}, ns ≠ [] → minI ns ∈ ns ∧ ∀ a ∈ ns, minI ns ≤ a
  | [], h => absurd rfl h
  | [x], _ => by simp [minI]
  | x :: y :: r, _ => by
    obtain ⟨h1, h2⟩ := minI_spec (ns := y :: r) (by simp)
    simp only [minI]
    constructor
    · by_cases h : x ≤ minI (y :: r)
      · rw [Int.min_eq_left h]; exact List.mem_cons_self
      · rw [Int.min_eq_right (by omega)]; exact List.mem_cons_of_mem _ h1
    · intro a ha
      rcases List.mem_cons.mp ha with rfl | ha
      · omega
      · have := h2 a ha; omega
theorem max_src {x : Value} {ns : List Int} {Q : Value → Shared → Prop} (S : ISrc prog w A x s ns) (hn : ns ≠ [])
    (h : ∀ h' tk t', (∀ b o, s.heap.get? b = some o → h'.get? b = some o) → Q (.int (maxI ns) t') { s with heap := h', toks := tk }) : wpAny (model prog w) A (call (.builtin "max") [x]) Q E s := by
  have hp : 0 < ns.length := List.length_pos_iff.mpr hn
  refine call_max_walk (S _ _ fun h2 I fp wr P St W st hf hv hk => ⟨I, fp, wr, _, P, St, _, rfl, W, st, hf, hp, CmpOf.ints_gt (fun i => ns.getD i 0) hv, fun v h' tk hP k => ?_⟩)
  obtain ⟨t, rfl⟩ := hv _ _ hP
  obtain ⟨h1, h2⟩ := arg_ge (fun i => ns.getD i 0) (ns.length - 1)
  have e : ns.getD (argBest (fun i j => decide (ns.getD i 0 > ns.getD j 0)) (ns.length - 1)) 0 = maxI ns := by
    obtain ⟨m1, m2⟩ := maxI_spec hn
    refine Int.le_antisymm ?_ ?_
    · refine m2 _ ?_
      have hlt : argBest (fun i j => decide (ns.getD i 0 > ns.getD j 0)) (ns.length - 1) < ns.length := by omega
      rw [List.getD_eq_getElem?_getD, List.getElem?_eq_getElem hlt]
      exact List.getElem_mem _
    · obtain ⟨j, hj, e⟩ := List.getElem_of_mem m1
      have := h2 j (by omega)
      rw [List.getD_eq_getElem?_getD, List.getElem?_eq_getElem hj] at this
      simp only [Option.getD_some] at this
      rw [e] at this
      exact this
  rw [e]
  exact h h' tk t (hk h' k)
theorem min_src {x : Value} {ns : List Int} {Q : Value → Shared → Prop} (S : ISrc prog w A x s ns) (hn : ns ≠ [])
    (h : ∀ h' tk t', (∀ b o, s.heap.get? b = some o → h'.get? b = some o) → Q (.int (minI ns) t') { s with heap := h', toks := tk }) : wpAny (model prog w) A (call (.builtin "min") [x]) Q E s := by
  have hp : 0 < ns.length := List.length_pos_iff.mpr hn
  refine call_min_walk (S _ _ fun h2 I fp wr P St W st hf hv hk => ⟨I, fp, wr, _, P, St, _, rfl, W, st, hf, hp, CmpOf.ints_lt (fun i => ns.getD i 0) hv, fun v h' tk hP k => ?_⟩)
  obtain ⟨t, rfl⟩ := hv _ _ hP
  obtain ⟨h1, h2⟩ := arg_le (fun i => ns.getD i 0) (ns.length - 1)
  have e : ns.getD (argBest (fun i j => decide (ns.getD i 0 < ns.getD j 0)) (ns.length - 1)) 0 = minI ns := by
    obtain ⟨m1, m2⟩ := minI_spec hn
    refine Int.le_antisymm ?_ ?_
    · obtain ⟨j, hj, e⟩ := List.getElem_of_mem m1
      have := h2 j (by omega)
      rw [List.getD_eq_getElem?_getD (i := j), List.getElem?_eq_getElem hj] at this
      simp only [Option.getD_some] at this
      rw [e] at this
      exact this
    · refine m2 _ ?_
      have hlt : argBest (fun i j => decide (ns.getD i 0 < ns.getD j 0)) (ns.length - 1) < ns.length := by omega
      rw [List.getD_eq_getElem?_getD, List.getElem?_eq_getElem hlt]
      exact List.getElem_mem _
  rw [e]
  exact h h' tk t (hk h' k)
theorem src_list {l : Addr} {its : List Value} {ns : List Int} (hh : A.handled = none) (hl : s.heap.IsList l its.toArray) (hi : IntsAre its ns) : ISrc prog w A (.ref l) s ns := by
  intro Q E h
  have hlen : its.length = ns.length := hi.length
  refine iter_any hl fun s2 e2 q hne => ?_
  subst e2
  have W := Walks.list (prog := prog) (w := w) (A := A.in1) hh s.heap.objs.size l hne its.toArray
  have hsz : its.toArray.size = ns.length := by rw [List.size_toArray]; exact hlen
  rw [hsz] at W
  refine h _ _ _ _ _ _ W q (fun b hb => ?_) (ints_at hi) fun h' k b o e => ?_
  · rw [Heap.size_push]
    simp at hb
    obtain ⟨o, e, _⟩ := hl
    rcases hb with e' | e'
    · rw [e']; exact Nat.lt_succ_self _
    · rw [e']; exact Nat.lt_succ_of_lt (Heap.lt_size e)
  · refine k b o (fun z => ?_) (Heap.get?_push_of_some _ e)
    simp at z
    subst z
    exact absurd (Heap.lt_size e) (Nat.lt_irrefl _)
theorem src_tuple {l : Addr} {its : List Value} {ns : List Int} (hh : A.handled = none) (hl : s.heap.IsTuple l its.toArray) (hi : IntsAre its ns) : ISrc prog w A (.ref l) s ns := by
  intro Q E h
  have hlen : its.length = ns.length := hi.length
  have hlt : l < s.heap.objs.size := by obtain ⟨o, e, _⟩ := hl; exact Heap.lt_size e
  refine wpAny_pyIter_tuple hl ?_
  have W := Walks.tuple (prog := prog) (w := w) (A := A.in1) hh s.heap.objs.size l (Nat.ne_of_lt hlt) its.toArray
  have hsz : its.toArray.size = ns.length := by rw [List.size_toArray]; exact hlen
  rw [hsz] at W
  refine h _ _ _ _ _ _ W ⟨⟨_, Heap.get?_push_size _ rfl, rfl, rfl⟩, hl.push _⟩ (fun b hb => ?_) (ints_at hi) fun h' k b o e => ?_
  · rw [Heap.size_push]
    simp at hb
    rcases hb with e' | e'
    · rw [e']; exact Nat.lt_succ_self _
    · rw [e']; exact Nat.lt_succ_of_lt hlt
  · refine k b o (fun z => ?_) (Heap.get?_push_of_some _ e)
    simp at z
    subst z
    exact absurd (Heap.lt_size e) (Nat.lt_irrefl _)
/-- a row of integers: a list, a tuple -/
theorem src_of {pins : List (Addr × Obj)} {σ : L2.St} {G H : Hp} {s : Shared} {a : D} {xs : List D} {ns : List Int} {v : V} {u : Value} (hc : X.calm = true) (I : Inv X pins σ H s) (gs : GSub G H) (ra : PRep T G H a v) (r : RelV v u)
    (e1 : seqOf a = some xs) (e2 : allI xs = some ns) : ISrc X.prog X.w X.A u s ns := by
  unfold seqOf at e1
  split at e1
  · cases e1
    obtain ⟨q, vs, rfl, h1, r1, _⟩ := ra.lst gs
    cases r
    have := r1.ints e2
    subst this
    obtain ⟨its, rv, pl, _⟩ := I.list (.of h1)
    exact src_list (I.ok.hd hc) pl.isList rv.ints
  · cases e1
    obtain ⟨q, vs, rfl, h1, r1, _⟩ := ra.tup gs
    cases r
    have := r1.ints e2
    subst this
    obtain ⟨its, rv, pl, _⟩ := I.tuple (.of h1)
    exact src_tuple (I.ok.hd hc) pl rv.ints
  · cases e1
theorem ok_sum (hc : X.calm = true) : CallR X (.builtin "sum") (rD T .sum) := by
  intro pins s σ H xs us Q I r h
  obtain ⟨G, a, v, d, rfl, gs, ra, e, p⟩ := rD.get1 (len1 _ (fun _ _ _ => ⟨rfl, rfl⟩)) h
  simp only [opSem, Option.bind_eq_some_iff, Option.map_eq_some_iff] at e
  obtain ⟨ys, e1, ns, e2, rfl⟩ := e
  obtain ⟨u, rfl, ru⟩ := vals1 r
  exact sum_src (src_of hc I gs ra ru e1 e2) fun h' tk t' k => ⟨.int _, H, I.kept k, ⟨_, rfl⟩, p.atom gs (.int _)⟩
theorem ok_maxL (hc : X.calm = true) : CallR X (.builtin "max") (rD T .maxL) := by
  intro pins s σ H xs us Q I r h
  obtain ⟨G, a, v, d, rfl, gs, ra, e, p⟩ := rD.get1 (len1 _ (fun _ _ _ => ⟨rfl, rfl⟩)) h
  simp only [opSem, Option.bind_eq_some_iff] at e
  obtain ⟨ys, e1, ns, e2, e⟩ := e
  split at e
  · cases e
  · cases e
    rename_i hn
    obtain ⟨u, rfl, ru⟩ := vals1 r
    exact max_src (src_of hc I gs ra ru e1 e2) hn fun h' tk t' k => ⟨.int _, H, I.kept k, ⟨_, rfl⟩, p.atom gs (.int _)⟩
theorem ok_minL (hc : X.calm = true) : CallR X (.builtin "min") (rD T .minL) := by
  intro pins s σ H xs us Q I r h
  obtain ⟨G, a, v, d, rfl, gs, ra, e, p⟩ := rD.get1 (len1 _ (fun _ _ _ => ⟨rfl, rfl⟩)) h
  simp only [opSem, Option.bind_eq_some_iff] at e
  obtain ⟨ys, e1, ns, e2, e⟩ := e
  split at e
  · cases e
  · cases e
    rename_i hn
    obtain ⟨u, rfl, ru⟩ := vals1 r
    exact min_src (src_of hc I gs ra ru e1 e2) hn fun h' tk t' k => ⟨.int _, H, I.kept k, ⟨_, rfl⟩, p.atom gs (.int _)⟩
theorem signs_at (x : List Nat) : ∀ (us : List Value), us.length = x.length → (∀ (j : Nat) (v : Value), us[j]? = some v → ∃ c u, x[j]? = some c ∧ v = .str ⟨#[c]⟩ u) → Vals (x.map fun c => V.str ⟨#[c]⟩) us := by
  induction x with
  | nil => intro us hl _; cases us; exact .nil; simp at hl
  | cons c x ih =>
    intro us hl h
    cases us with
    | nil => simp at hl
    | cons u us =>
      obtain ⟨c', t, e1, e2⟩ := h 0 u rfl
      simp only [List.getElem?_cons_zero, Option.some.injEq] at e1
      subst e1; subst e2
      refine .cons ⟨t, rfl⟩ (ih us (by simpa using hl) fun j v e => ?_)
      obtain ⟨c', t', a, b⟩ := h (j + 1) v (by simpa using e)
      exact ⟨c', t', by simpa using a, b⟩
theorem call_list_strC (hc : X.calm = true) : CallR X (.type "list") (fun xs H Q => ∃ z : Str, xs = [V.str z] ∧ z.length ≤ line ∧ ∀ l, H l = none → Q (.ref l) (upd H l (.lst (z.cps.toList.map fun c => V.str ⟨#[c]⟩)))) := by
  intro pins s σ H xs us Q I r h
  obtain ⟨z, rfl, hz, q⟩ := h
  obtain ⟨u, rfl, rx⟩ := vals1 r
  obtain ⟨t, rfl⟩ := rx
  have hz' : z.cps.size ≤ sizeLine := hz
  refine call_list_str (I.ok.hd hc) z t (fun h' tk acc' c' kp e hit => ?_) hz'
  have hv : Vals (z.cps.toList.map fun c => V.str ⟨#[c]⟩) acc'.toList := signs_at _ _ (by rw [Array.length_toList, hit.1, Array.length_toList]) fun j v e' => by
    obtain ⟨c, u, a, b⟩ := hit.2 j v (by rw [← Array.getElem?_toList]; exact e')
    exact ⟨c, u, by rw [Array.getElem?_toList]; exact a, b⟩
  exact ⟨.ref s.heap.objs.size, upd H s.heap.objs.size (.lst (z.cps.toList.map fun c => V.str ⟨#[c]⟩)), I.laid (t' := tk) kp (Nat.le_refl _)
    (show ObjOk X.prog X.w _ h' _ (.lst (z.cps.toList.map fun c => V.str ⟨#[c]⟩)) from ⟨by rw [List.length_map, Array.length_toList]; exact hz', acc'.toList, c', hv, by rw [Array.toArray_toList]; exact e⟩), rfl, q _ (I.hok.fresh (Nat.le_refl _))⟩
theorem r_signs (x : List Nat) : Reps T G (x.map fun c => .str ⟨#[c]⟩) (x.map fun c => V.str ⟨#[c]⟩) := by
  induction x with
  | nil => exact .nil
  | cons c x ih => exact .cons (.str _) ih
theorem ok_list (hc : X.calm = true) : CallR X (.type "list") (rD T .list) := by
  refine CallR.imp (CallR.or (CallR.or call_list_of (call_listD hc)) (call_list_strC hc)) fun xs H Q h => ?_
  obtain ⟨G, a, v, d, rfl, gs, ra, e, p⟩ := rD.get1 (len1 _ (fun _ _ _ => ⟨rfl, rfl⟩)) h
  simp only [opSem] at e
  unfold listOp at e
  split at e
  · cases e
    obtain ⟨q, vs, rfl, h1, r1, l1⟩ := ra.lst gs
    exact .inl (.inl ⟨q, vs, rfl, .inl (.of h1), fun b hb => p.newL gs r1 l1 hb⟩)
  · split at e
    · cases e
      rename_i hz
      obtain rfl := ra.str
      exact .inr ⟨_, rfl, hz, fun b hb => p.newL gs (r_signs _) (by rw [List.length_map, Array.length_toList]; exact hz) hb⟩
    · cases e
  · cases e
    obtain ⟨q, vs, rfl, h1, r1, l1, _⟩ := ra.tup gs
    exact .inl (.inl ⟨q, vs, rfl, .inr (.of h1), fun b hb => p.newL gs r1 l1 hb⟩)
  · cases e
    obtain ⟨q, vs, rfl, h1, r1, l1⟩ := ra.dic gs
    refine .inl (.inr ⟨q, vs, rfl, h1, fun b hb => p.newL gs ?_ (by rw [List.length_map]; exact l1) hb⟩)
    have : ∀ {ds : List (Key × D)} {kvs : List (Key × V)}, RepK T G ds kvs → Reps T G (ds.map fun kv => ofKey kv.1) (kvs.map fun kv => kV kv.1) := by
      intro ds
      induction ds with
      | nil => intro kvs r; cases r; exact .nil
      | cons p ds ih =>
        intro kvs r
        cases r with
        | @cons k d v _ vs x y =>
          refine .cons ?_ (ih y)
          cases k with
          | inl i => exact .int i
          | inr i => exact .str i
    exact this r1
  · cases e
theorem ok_tuple : CallR X (.type "tuple") (rD T .tuple) := by
  refine CallR.imp call_tuple_of fun xs H Q h => ?_
  obtain ⟨G, a, v, d, rfl, gs, ra, e, p⟩ := rD.get1 (len1 _ (fun _ _ _ => ⟨rfl, rfl⟩)) h
  simp only [opSem, Option.map_eq_some_iff] at e
  obtain ⟨ys, e, rfl⟩ := e
  unfold seqOf at e
  split at e
  · cases e
    obtain ⟨q, vs, rfl, h1, r1, l1⟩ := ra.lst gs
    exact ⟨q, vs, rfl, .inl ⟨.of h1, fun b hb => p.newT gs r1 l1 hb⟩⟩
  · cases e
    obtain ⟨q, vs, rfl, h1, r1, l1, g1⟩ := ra.tup gs
    exact ⟨q, vs, rfl, .inr ⟨.of h1, p.atom gs (.tup g1 r1 l1)⟩⟩
  · cases e
theorem ok_all (hc : X.calm = true) : CallR X (.builtin "all") (rD T .all) := by
  refine CallR.imp (cr_all hc) fun xs H Q h => ?_
  obtain ⟨G, a, v, d, rfl, gs, ra, e, p⟩ := rD.get1 (len1 _ (fun _ _ _ => ⟨rfl, rfl⟩)) h
  simp only [opSem] at e
  unfold boolsOp at e
  split at e
  · simp only [Option.map_eq_some_iff] at e
    obtain ⟨bs, e, rfl⟩ := e
    obtain ⟨q, vs, rfl, h1, r1, l1⟩ := ra.lst gs
    have := r1.bools e
    subst this
    exact ⟨q, bs, rfl, .of h1, p.atom gs (.bl _)⟩
  · cases e
theorem ok_any (hc : X.calm = true) : CallR X (.builtin "any") (rD T .any) := by
  refine CallR.imp (cr_any hc) fun xs H Q h => ?_
  obtain ⟨G, a, v, d, rfl, gs, ra, e, p⟩ := rD.get1 (len1 _ (fun _ _ _ => ⟨rfl, rfl⟩)) h
  simp only [opSem] at e
  unfold boolsOp at e
  split at e
  · simp only [Option.map_eq_some_iff] at e
    obtain ⟨bs, e, rfl⟩ := e
    obtain ⟨q, vs, rfl, h1, r1, l1⟩ := ra.lst gs
    have := r1.bools e
    subst this
    exact ⟨q, bs, rfl, .of h1, p.atom gs (.bl _)⟩
  · cases e
end
end Vi
end
section
set_option maxRecDepth 100000
/-! Vi, part G: readings of expressions over the slots; freezing. -/
namespace Vi
open PySem PySem.Spec PyProof.Rows L2

/-! ### arguments that have been reckoned -/
inductive AR (T : Tx) (G H : Hp) (σ : L2.St) : List Ar → List V → List Addr → Prop where
  | nil : AR T G H σ [] [] []
  | v {d : D} {v : V} {as : List Addr} {r : List Ar} {vs : List V} {W : List Addr} : RepO T G H d v as → AR T G H σ r vs W → AR T G H σ (.v d :: r) (v :: vs) (as ++ W)
  | r {i : Nat} {v : V} {r : List Ar} {vs : List V} {W : List Addr} : σ[i]? = some (some v) → AR T G H σ r vs W → AR T G H σ (.r i :: r) (v :: vs) W
structure AS (T : Tx) (G H : Hp) (env : Ev) (σ : L2.St) (O : List Addr) (ars : List Ar) (vs : List V) (W : List Addr) : Prop where
  sr : SR T G H env σ O
  ar : AR T G H σ ars vs W
  nd : W.Nodup
  dj : ∀ a ∈ W, a ∉ O
  gn : ∀ a ∈ W, G a = none

section
variable {T : Tx} {G H G' H' G1 H1 G2 H2 : Hp} {env env' env1 env2 : Ev} {σ : L2.St} {O O' O1 O2 W W' W1 W2 : List Addr} {ars r : List Ar} {a : Ar} {v : V} {vs : List V} {d : D} {as : List Addr}
theorem AR.addr (h : AR T G H σ ars vs W) : ∀ a ∈ W, ∃ u, H a = some u := by
  induction h with
  | nil => intro a ha; simp at ha
  | v x _ ih =>
    intro a ha
    rcases List.mem_append.mp ha with h | h
    · exact x.addr a h
    · exact ih a h
  | r _ _ ih => exact ih
theorem AR.frame (h : AR T G H σ ars vs W) (g : GSub G G') (k : ∀ a u, a ∈ W → H a = some u → H' a = some u) : AR T G' H' σ ars vs W := by
  induction h with
  | nil => exact .nil
  | v x _ ih => exact .v (x.frame g fun a u ha => k a u (List.mem_append_left _ ha)) (ih fun a u ha => k a u (List.mem_append_right _ ha))
  | r e _ ih => exact .r e (ih k)
theorem AR.one (h : AR T G H σ [.v d] [v] W) : RepO T G H d v W := by
  cases h with
  | v x y => cases y; simpa using x
theorem AR.one' (h : RepO T G H d v as) : AR T G H σ [.v d] [v] as := by
  have := AR.v (σ := σ) h .nil
  simpa using this
theorem Fm.perm (f : Fm G H O G' H' O') (h : ∀ a, a ∈ O2 → a ∈ O') : Fm G H O G' H' O2 := f.less h
/-- one argument, then the rest -/
theorem AS.cons (x : AS T G1 H1 env1 σ O1 [a] [v] W1) (y : AS T G2 H2 env2 σ O2 r vs W2) (f : Fm G1 H1 O1 G2 H2 (W2 ++ O2)) : AS T G2 H2 env2 σ O2 (a :: r) (v :: vs) (W1 ++ W2) := by
  have keep : ∀ b u, b ∈ W1 → H1 b = some u → H2 b = some u := fun b u hb e => f.same b u e (x.dj b hb)
  have ad := x.ar.addr
  have far : ∀ b ∈ W1, b ∉ W2 ∧ b ∉ O2 := fun b hb => by
    obtain ⟨u, e⟩ := ad b hb
    have q : ∀ c ∈ W2 ++ O2, c ≠ b := fun c hc z => by
      subst z
      rcases f.fresh c hc with z | z
      · exact x.dj c hb z
      · rw [e] at z; cases z
    exact ⟨fun z => q b (List.mem_append_left _ z) rfl, fun z => q b (List.mem_append_right _ z) rfl⟩
  refine ⟨y.sr, ?_, ?_, ?_, ?_⟩
  · cases x.ar with
    | v z z' =>
      cases z'
      have q := AR.v (z.frame f.g fun b u hb => keep b u (by simpa using hb)) y.ar
      simpa using q
    | r z z' => cases z'; exact .r z y.ar
  · refine List.nodup_append.mpr ⟨x.nd, y.nd, fun b hb c hc z => ?_⟩
    subst z
    exact (far b hb).1 hc
  · intro b hb
    rcases List.mem_append.mp hb with h | h
    · exact (far b h).2
    · exact y.dj b h
  · intro b hb
    rcases List.mem_append.mp hb with h | h
    · exact f.gnone (x.gn b h) (x.dj b h) (ad b h)
    · exact y.gn b h
theorem Fm.consA (f1 : Fm G H O G1 H1 (W1 ++ O1)) (f2 : Fm G1 H1 O1 G2 H2 (W2 ++ O2)) : Fm G H O G2 H2 ((W1 ++ W2) ++ O2) := by
  have q := f2.wide W1
  have q2 : Fm G1 H1 (W1 ++ O1) G2 H2 ((W1 ++ W2) ++ O2) := q.iff (fun a => by simp only [List.mem_append]; exact Or.comm) fun a h => by
    simp only [List.mem_append] at h ⊢
    rcases h with (h | h) | h
    · exact .inr h
    · exact .inl (.inl h)
    · exact .inl (.inr h)
  exact f1.trans q2
theorem AR.peeks {ds : List D} (h : AR T G H σ ars vs W) (s : SR T G H env σ O) (e : peekAs env ars = some ds) : PReps T G H ds vs := by
  induction h generalizing ds with
  | nil => simp [peekAs] at e; subst e; exact .nil
  | @v d v as r vs W x _ ih =>
    simp only [peekAs, peekA, Option.bind_some, Option.map_eq_some_iff] at e
    obtain ⟨ds', e, rfl⟩ := e
    exact .cons ⟨_, x⟩ (ih e)
  | @r i v r vs W hi _ ih =>
    simp only [peekAs, peekA, Option.bind_eq_some_iff, Option.map_eq_some_iff] at e
    obtain ⟨d, e1, ds', e, rfl⟩ := e
    obtain ⟨v', as, h1, h2, _⟩ := s.rep.get e1
    rw [hi] at h1; cases h1
    exact .cons ⟨_, h2⟩ (ih e)
/-- a new value beside the state -/
theorem AS.ofPost (s : SR T G H env σ O) (f : Fm G H [] G' H' as) (gs : GSub G' H') (r : RepO T G' H' d v as) (gn : ∀ a ∈ as, G' a = none) : AS T G' H' env σ O [.v d] [v] as where
  sr := s.frame f (fun _ _ => by simp) gs
  ar := .one' r
  nd := r.nodup
  dj := fun a ha ho => by
    rcases f.fresh a ha with z | z
    · simp at z
    · obtain ⟨u, e⟩ := s.rep.addr a ho
      rw [e] at z; cases z
  gn := gn
theorem Fm.post (f1 : Fm G H O G1 H1 (W1 ++ O1)) (f : Fm G1 H1 [] G' H' as) : Fm G H O G' H' (as ++ O1) :=
  (f1.less fun a h => List.mem_append_right _ h).trans (f.wide O1)
end

/-! ### readings -/
def rd1 (T : Tx) (m : Ev → Option (Ar × Ev)) : TE := fun σ H Q => ∃ G env O a env', SR T G H env σ O ∧ m env = some (a, env') ∧ ∀ v H' G' O' W, AS T G' H' env' σ O' [a] [v] W → Fm G H O G' H' (W ++ O') → Q v H'
def rdL (T : Tx) (m : Ev → Option (List Ar × Ev)) : TA := fun σ H Q => ∃ G env O a env', SR T G H env σ O ∧ m env = some (a, env') ∧ ∀ vs H' G' O' W, AS T G' H' env' σ O' a vs W → Fm G H O G' H' (W ++ O') → Q vs H'
abbrev rdP (T : Tx) (φ : Phi) (e : E) : TE := rd1 T (denP φ e)
abbrev rdE (T : Tx) (φ : Phi) (e : E) : TE := rd1 T fun env => (den φ e env).map fun q => (.v q.1, q.2)
def rdz (T : Tx) (m : Ev → Option (D × Ev)) : TE := fun σ H Q => ∃ G env O d env', SR T G H env σ O ∧ m env = some (d, env') ∧ ∀ v H' G' O', SR T G' H' env' σ O' → Rep T G' d v → Fm G H O G' H' O' → Q v H'
def rdf (T : Tx) (m : Ev → Option (List D × Ev)) : TA := fun σ H Q => ∃ G env O ds env', SR T G H env σ O ∧ m env = some (ds, env') ∧ ∀ vs H' G' O', SR T G' H' env' σ O' → Reps T G' ds vs → Fm G H O G' H' O' → Q vs H'
abbrev rdZ (T : Tx) (φ : Phi) (e : E) : TE := rdz T fun env => (den φ e env).map fun q => (q.1.frz, q.2)
abbrev rdA (T : Tx) (φ : Phi) (es : Es) : TA := rdL T (denA φ es)
abbrev rdF (T : Tx) (φ : Phi) (es : Es) : TA := rdf T (denF φ es)
abbrev rdO (T : Tx) (φ : Phi) (es : Es) : TA := rdL T fun env => (denO φ es env).map fun q => (q.1.map .v, q.2)
def rdT (T : Tx) (m : Ev → Option (Bool × Ev)) : TT := fun σ H Q => ∃ G env O b env', SR T G H env σ O ∧ m env = some (b, env') ∧ ∀ H' G' O', SR T G' H' env' σ O' → Fm G H O G' H' O' → Q b H'

theorem _root_.L2.PE.imp {X : Cx} {x : Expr} {t t' : TE} (h : PE X x t) (i : ∀ σ H Q, t' σ H Q → t σ H Q) : PE X x t' := ⟨fun pins s σ H Q I q => h.run pins s σ H Q I (i σ H Q q)⟩
theorem _root_.L2.PT.imp {X : Cx} {x : Expr} {t t' : TT} (h : PT X x t) (i : ∀ σ H Q, t' σ H Q → t σ H Q) : PT X x t' := ⟨fun pins s σ H Q I q => h.run pins s σ H Q I (i σ H Q q)⟩
theorem _root_.L2.PW.imp {X : Cx} {x : Expr} {t t' : TT} (h : PW X x t) (i : ∀ σ H Q, t' σ H Q → t σ H Q) : PW X x t' := ⟨fun wh pins s σ H Q I q => h.run wh pins s σ H Q I (i σ H Q q)⟩
theorem _root_.L2.PA.imp {X : Cx} {x : List Expr} {t t' : TA} (h : PA X x t) (i : ∀ σ H Q, t' σ H Q → t σ H Q) : PA X x t' := ⟨fun pos pins s σ H Q I q => h.run pos pins s σ H Q I (i σ H Q q)⟩
theorem _root_.L2.PS.imp {X : Cx} {x : Stmt} {t t' : TS} (h : PS X x t) (i : ∀ D σ H, t' D σ H → t D σ H) : PS X x t' := ⟨fun pins s σ H D I q => h.run pins s σ H D I (i D σ H q)⟩
theorem _root_.L2.PSs.imp {X : Cx} {x : List Stmt} {t t' : TS} (h : PSs X x t) (i : ∀ D σ H, t' D σ H → t D σ H) : PSs X x t' := ⟨fun pins s σ H D I q => h.run pins s σ H D I (i D σ H q)⟩

theorem denP_of {φ : Phi} {e : E} (h : ∀ i, e ≠ .var i) (env : Ev) : denP φ e env = (den φ e env).map fun q => (.v q.1, q.2) := by
  cases e <;> first | (simp only [denP]; done) | exact absurd rfl (h _)

section
variable {T : Tx} {φ : Phi} {σ : L2.St} {H : Hp}
theorem rdA_nil {Q : List V → Hp → Prop} (h : rdA T φ .nil σ H Q) : tNil σ H Q := by
  obtain ⟨G, env, O, a, env', s, e, k⟩ := h
  simp only [denA, Option.some.injEq, Prod.mk.injEq] at e
  obtain ⟨rfl, rfl⟩ := e
  exact k [] H G O [] ⟨s, .nil, .nil, by simp, by simp⟩ (Fm.refl _ _ _)
/-- a reading, then one of a row behind it -/
theorem rdL_cons {m1 : Ev → Option (Ar × Ev)} {m2 m : Ev → Option (List Ar × Ev)} (hm : ∀ env a env', m env = some (a, env') → ∃ x env1 r, m1 env = some (x, env1) ∧ m2 env1 = some (r, env') ∧ a = x :: r) {Q : List V → Hp → Prop} (h : rdL T m σ H Q) :
    tCons (rd1 T m1) (rdL T m2) σ H Q := by
  obtain ⟨G, env, O, a, env', s, e, k⟩ := h
  obtain ⟨x, env1, r, e1, e2, rfl⟩ := hm _ _ _ e
  refine ⟨G, env, O, x, env1, s, e1, fun v H1 G1 O1 W1 A1 f1 => ?_⟩
  refine ⟨G1, env1, O1, r, env', A1.sr, e2, fun vs H2 G2 O2 W2 A2 f2 => ?_⟩
  exact k _ H2 G2 O2 (W1 ++ W2) (A1.cons A2 f2) (f1.consA f2)
theorem rdA_cons {e : E} {r : Es} {Q : List V → Hp → Prop} (h : rdA T φ (.cons false e r) σ H Q) : tCons (rdP T φ e) (rdA T φ r) σ H Q :=
  rdL_cons (fun env a env' q => by
    simp only [denA, Option.bind_eq_some_iff, Option.map_eq_some_iff, Prod.mk.injEq] at q
    obtain ⟨⟨x, env1⟩, e1, ⟨s, env2⟩, e2, rfl, rfl⟩ := q
    exact ⟨x, env1, s, e1, e2, rfl⟩) h
theorem rdF_nil {Q : List V → Hp → Prop} (h : rdF T φ .nil σ H Q) : tNil σ H Q := by
  obtain ⟨G, env, O, a, env', s, e, k⟩ := h
  simp only [denF, Option.some.injEq, Prod.mk.injEq] at e
  obtain ⟨rfl, rfl⟩ := e
  exact k [] H G O s .nil (Fm.refl _ _ _)
theorem rdF_cons {e : E} {r : Es} {Q : List V → Hp → Prop} (h : rdF T φ (.cons false e r) σ H Q) : tCons (rdZ T φ e) (rdF T φ r) σ H Q := by
  obtain ⟨G, env, O, a, env', s, q, k⟩ := h
  simp only [denF, Option.bind_eq_some_iff, Option.map_eq_some_iff, Prod.mk.injEq] at q
  obtain ⟨⟨x, env1⟩, e1, ⟨ds, env2⟩, e2, rfl, rfl⟩ := q
  refine ⟨G, env, O, x.frz, env1, s, by simp only [e1, Option.map_some], fun v H1 G1 O1 s1 r1 f1 => ?_⟩
  exact ⟨G1, env1, O1, ds, env2, s1, e2, fun vs H2 G2 O2 s2 r2 f2 => k _ H2 G2 O2 s2 (.cons (r1.mono f2.g) r2) (f1.trans f2)⟩
theorem rdF_star {K : PySem.W.Frag} {e : E} {r : Es} {Q : List V → Hp → Prop} (h : rdF T φ (.cons true e r) σ H Q) : StX.tStar K (rdP T φ e) (rdF T φ r) σ H Q := by
  obtain ⟨G, env, O, a, env', s, q, k⟩ := h
  simp only [denF, Option.bind_eq_some_iff, Option.map_eq_some_iff, Prod.mk.injEq] at q
  obtain ⟨⟨x, env1⟩, e1, d, e2, xs, e3, ⟨ds, env2⟩, e4, rfl, rfl⟩ := q
  refine ⟨G, env, O, x, env1, s, e1, fun v H1 G1 O1 W1 A1 f1 => ?_⟩
  have pr : PReps T G1 H1 [d] [v] := A1.ar.peeks A1.sr (by simp only [peekAs, e2, Option.bind_some, Option.map_some])
  obtain ⟨_, e5, pr⟩ := pr.inv1
  cases e5
  have f1' : Fm G H O G1 H1 O1 := f1.less fun a h => List.mem_append_right _ h
  have fin : ∀ ys, Reps T G1 xs ys → rdF T φ r σ H1 fun vs H2 => Q (ys ++ vs) H2 := fun ys ry =>
    ⟨G1, env1, O1, ds, env2, A1.sr, e4, fun vs H2 G2 O2 s2 r2 f2 => k _ H2 G2 O2 s2 ((ry.mono f2.g).append r2) (f1'.trans f2)⟩
  unfold itemsOf at e3
  split at e3
  · cases e3
    obtain ⟨a, ys, rfl, h1, ry, _⟩ := pr.lst A1.sr.gs
    exact ⟨a, ys, rfl, .inr (.of h1), fin ys ry⟩
  · cases e3
    obtain ⟨a, ys, rfl, h1, ry, _⟩ := pr.tup A1.sr.gs
    exact ⟨a, ys, rfl, .inl (.of h1), fin ys ry⟩
  · cases e3
theorem rdO_nil {Q : List V → Hp → Prop} (h : rdO T φ .nil σ H Q) : tNil σ H Q := by
  obtain ⟨G, env, O, a, env', s, e, k⟩ := h
  simp only [denO, Option.map_some, Option.some.injEq, Prod.mk.injEq] at e
  obtain ⟨rfl, rfl⟩ := e
  exact k [] H G O [] ⟨s, .nil, .nil, by simp, by simp⟩ (Fm.refl _ _ _)
theorem rdO_cons {e : E} {r : Es} {Q : List V → Hp → Prop} (h : rdO T φ (.cons false e r) σ H Q) : tCons (rdE T φ e) (rdO T φ r) σ H Q :=
  rdL_cons (fun env a env' q => by
    simp only [denO, Option.bind_eq_some_iff, Option.map_eq_some_iff, Prod.mk.injEq] at q
    obtain ⟨⟨a', env2⟩, ⟨⟨x, env1⟩, e1, ⟨s, env3⟩, e2, e3⟩, rfl, rfl⟩ := q
    simp only [Prod.mk.injEq] at e3
    obtain ⟨rfl, rfl⟩ := e3
    exact ⟨.v x, env1, s.map .v, by rw [e1]; rfl, by rw [e2]; rfl, rfl⟩) h
/-- the end of an operation -/
theorem rdE_op {o : Op} {es : Es} {Q : VK} (h : rdE T φ (.op o es) σ H Q) : rdA T φ es σ H fun vs H1 => rD T o vs H1 Q := by
  obtain ⟨G, env, O, a, env', s, e, k⟩ := h
  simp only [den, Option.map_eq_some_iff, Option.bind_eq_some_iff, Prod.mk.injEq] at e
  obtain ⟨⟨d, env2⟩, ⟨⟨ars, env1⟩, e1, ds, e2, d', e3, e4⟩, rfl, rfl⟩ := e
  simp only [Prod.mk.injEq] at e4
  obtain ⟨rfl, rfl⟩ := e4
  refine ⟨G, env, O, ars, env1, s, e1, fun vs H1 G1 O1 W1 A1 f1 => ?_⟩
  refine ⟨G1, ds, d', A1.sr.gs, A1.ar.peeks A1.sr e2, e3, fun v H' G' as f gs r gn => ?_⟩
  exact k v H' G' O1 as (.ofPost A1.sr f gs r gn) (f1.post f)
theorem rdE_op1 {o : Op} {a : E} {Q : VK} (h : rdE T φ (.op o (.cons false a .nil)) σ H Q) : rdP T φ a σ H fun x H1 => rD T o [x] H1 Q := by
  have q := rdA_cons (rdE_op h)
  obtain ⟨G, env, O, r, env', s, e, k⟩ := q
  exact ⟨G, env, O, r, env', s, e, fun v H' G' O' W A f => by simpa [tNil] using rdA_nil (k v H' G' O' W A f)⟩
theorem rdE_op2 {o : Op} {a b : E} {Q : VK} (h : rdE T φ (.op o (.cons false a (.cons false b .nil))) σ H Q) : rdP T φ a σ H fun x H1 => rdP T φ b σ H1 fun y H2 => rD T o [x, y] H2 Q := by
  have q := rdA_cons (rdE_op h)
  obtain ⟨G, env, O, r, env', s, e, k⟩ := q
  refine ⟨G, env, O, r, env', s, e, fun v H' G' O' W A f => ?_⟩
  have q2 := rdA_cons (k v H' G' O' W A f)
  obtain ⟨G2, env2, O2, r2, env2', s2, e2, k2⟩ := q2
  exact ⟨G2, env2, O2, r2, env2', s2, e2, fun v2 H2 G2' O2' W2 A2 f2 => by simpa [tNil] using rdA_nil (k2 v2 H2 G2' O2' W2 A2 f2)⟩
end

/-! ### freezing -/
section
variable {X : Cx} {pins : List (Addr × Obj)} {σ : L2.St} {s : Shared} {T : Tx} {G H : Hp} {d : D} {v : V} {as : List Addr}
theorem freezeV (I : Inv X pins σ H s) (gs : GSub G H) (r : RepO T G H d v as) (gn : ∀ a ∈ as, G a = none) :
    ∃ G' H', Inv X pins σ H' s ∧ Rep T G' d.frz v ∧ GSub G G' ∧ GSub G' H' ∧ (∀ b, b ∉ as → H' b = H b) ∧ (∀ b u, G' b = some u → G b = some u ∨ b ∈ as) ∧ (∀ b, H b = none → H' b = none) := by
  cases r with
  | frz r => exact ⟨G, H, I, by rw [D.frz_of _ r.noown]; exact r, .refl G, gs, fun _ _ => rfl, fun _ _ e => .inl e, fun _ e => e⟩
  | @lst a vs xs h r l =>
    have ga : G a = none := gn a (by simp)
    refine ⟨upd G a (.lst vs), H, I, .lst upd_same (r.mono (.updr ga _)) l, .updr ga _, fun b u e => ?_, fun _ _ => rfl, fun b u e => ?_, fun _ e => e⟩
    · by_cases hb : b = a
      · subst hb; rw [upd_same] at e; cases e; exact h
      · rw [upd_ne hb] at e; exact gs _ _ e
    · by_cases hb : b = a
      · exact .inr (by simp [hb])
      · rw [upd_ne hb] at e; exact .inl e
  | @dic a kvs ds h r l =>
    have ga : G a = none := gn a (by simp)
    obtain ⟨od, I'⟩ := I.lock h trivial
    refine ⟨upd G a (.frz od (.dK kvs)), upd H a (.frz od (.dK kvs)), I', .dic upd_same (r.mono (.updr ga _)) l, .updr ga _, gs.upds a _, fun b hb => upd_ne (by simpa using hb), fun b u e => ?_, fun b e => ?_⟩
    · by_cases hb : b = a
      · exact .inr (by simp [hb])
      · rw [upd_ne hb] at e; exact .inl e
    · rw [upd_ne (fun z => by rw [z, h] at e; cases e)]; exact e
  | @dit a kvs ds h r l =>
    have ga : G a = none := gn a (by simp)
    obtain ⟨od, I'⟩ := I.lock h trivial
    refine ⟨upd G a (.frz od (.dT kvs)), upd H a (.frz od (.dT kvs)), I', .dit upd_same (r.mono (.updr ga _)) l, .updr ga _, gs.upds a _, fun b hb => upd_ne (by simpa using hb), fun b u e => ?_, fun b e => ?_⟩
    · by_cases hb : b = a
      · exact .inr (by simp [hb])
      · rw [upd_ne hb] at e; exact .inl e
    · rw [upd_ne (fun z => by rw [z, h] at e; cases e)]; exact e
  | @ins a dx c ci vs fs h sl hx ne r =>
    have ga : G a = none := gn a (by simp)
    have gd : G dx = none := gn dx (by simp)
    obtain ⟨ux, hx⟩ := hx
    obtain ⟨ua, ha⟩ : ∃ ua, H a = some ua := by
      rcases sl with ⟨h1, _⟩ | ⟨h1, _⟩
      · exact ⟨_, h1⟩
      · exact ⟨_, h1⟩
    have g1 : GSub G (upd (upd G a ua) dx ux) := ((GSub.refl G).updL ga ua).updL gd ux |> fun z => z
    have e1 : upd (upd G a ua) dx ux a = some ua := by rw [upd_ne (Ne.symm ne), upd_same]
    have e2 : upd (upd G a ua) dx ux dx = some ux := upd_same
    refine ⟨upd (upd G a ua) dx ux, H, I, .ins (dx := dx) h ?_ (r.mono g1), g1, fun b u e => ?_, fun _ _ => rfl, fun b u e => ?_, fun _ e => e⟩
    · rcases sl with ⟨h1, h2⟩ | ⟨h1, h2⟩
      · rw [ha] at h1; cases h1; exact .inl ⟨e1, h2⟩
      · rw [ha] at h1; cases h1
        rw [hx] at h2; cases h2
        exact .inr ⟨e1, e2⟩
    · by_cases hb : b = dx
      · subst hb; rw [upd_same] at e; cases e; exact hx
      · rw [upd_ne hb] at e
        by_cases hb2 : b = a
        · subst hb2; rw [upd_same] at e; cases e; exact ha
        · rw [upd_ne hb2] at e; exact gs _ _ e
    · by_cases hb : b = dx
      · exact .inr (by simp [hb])
      · rw [upd_ne hb] at e
        by_cases hb2 : b = a
        · exact .inr (by simp [hb2])
        · rw [upd_ne hb2] at e; exact .inl e
/-- an owned value beside the state, frozen -/
theorem AS.freeze {env : Ev} {O W : List Addr} (I : Inv X pins σ H s) (A : AS T G H env σ O [.v d] [v] W) :
    ∃ G' H', Inv X pins σ H' s ∧ AS T G' H' env σ O [.v d.frz] [v] [] ∧ Fm G H W G' H' [] := by
  obtain ⟨G', H', I', r, g, gs, h1, h2, h3⟩ := freezeV I A.sr.gs A.ar.one A.gn
  have fm : Fm G H W G' H' [] := ⟨g, fun a u e n => by rw [h1 a n]; exact e, by simp, fun a u e => (h2 a u e).imp id .inl⟩
  exact ⟨G', H', I', ⟨A.sr.frame fm (fun a ha hw => A.dj a hw ha) gs, .one' (.frz r), .nil, by simp, by simp⟩, fm⟩
theorem Fm.frz {G H G1 H1 G2 H2 : Hp} {O O1 W1 : List Addr} (f1 : Fm G H O G1 H1 (W1 ++ O1)) (f2 : Fm G1 H1 W1 G2 H2 []) : Fm G H O G2 H2 ([] ++ O1) := f1.trans (f2.wide O1)
end
section
variable {X : Cx} {T : Tx} {φ : Phi}
theorem PE.z {x : Expr} {m : Ev → Option (D × Ev)} (h : PE X x (rd1 T fun env => (m env).map fun q => (.v q.1, q.2))) : PE X x (rdz T fun env => (m env).map fun q => (q.1.frz, q.2)) := ⟨fun pins s σ H Q I q => by
  obtain ⟨G, env, O, a, env', sr, e, k⟩ := q
  simp only [Option.map_eq_some_iff, Prod.mk.injEq] at e
  obtain ⟨⟨d, env1⟩, e, rfl, rfl⟩ := e
  refine thn (h.run pins s σ H (fun v H' => ∃ G' O' W, AS T G' H' env1 σ O' [.v d] [v] W ∧ Fm G H O G' H' (W ++ O')) I ⟨G, env, O, .v d, env1, sr, by show Option.map _ (m env) = _; rw [e]; rfl, fun v H' G' O' W A f => ⟨G', O', W, A, f⟩⟩) fun u s' ⟨v, H1, I1, rv, G1, O1, W1, A1, f1⟩ => ?_
  obtain ⟨G2, H2, I2, A2, f2⟩ := A1.freeze I1
  exact ⟨v, H2, I2, rv, k v H2 G2 O1 A2.sr (A2.ar.one.nown (D.frz_own d)).1 (f1.frz f2)⟩⟩
end
end Vi
end
section
set_option maxRecDepth 100000
/-! Vi, part H: the slots read; the calls of one's own functions. -/
namespace Vi
open PySem PySem.Spec PyProof.Rows L2

section
variable {T : Tx} {G H G' H' : Hp} {env : Ev} {σ σ' : L2.St} {O O' : List Addr}
theorem ERep.cong (h : ERep T G H env σ O) (hl : σ'.length = σ.length) (k : ∀ i d, getV env i = some d → σ'[i]? = σ[i]?) : ERep T G H env σ' O := by
  induction h generalizing σ' with
  | nil => cases σ' with
    | nil => exact .nil
    | cons a r => simp at hl
  | no h ih =>
    cases σ' with
    | nil => simp at hl
    | cons a r => exact .no (ih (by simpa using hl) fun i d e => by simpa using k (i + 1) d (by simpa [getV] using e))
  | is r h ih =>
    cases σ' with
    | nil => simp at hl
    | cons a q =>
      have e := k 0 _ (by simp [getV]; rfl)
      simp at e
      subst e
      exact .is r (ih (by simpa using hl) fun i d e => by simpa using k (i + 1) d (by simpa [getV] using e))
theorem getV_set {i j : Nat} {d : Option D} : getV (env.set i d) j = if i = j then (if i < env.length then d else none) else getV env j := by
  unfold getV
  rw [List.getElem?_set]
  split
  · split
    · rfl
    · rfl
  · rfl
theorem getV_lt {i : Nat} {d : D} (h : getV env i = some d) : i < env.length := by
  unfold getV at h
  cases e : env[i]? with
  | none => rw [e] at h; cases h
  | some x => exact (List.getElem?_eq_some_iff.mp e).1
theorem set_same {i : Nat} {d : D} (h : getV env i = some d) : env.set i (some d) = env := by
  unfold getV at h
  cases e : env[i]? with
  | none => rw [e] at h; cases h
  | some x =>
    rw [e] at h
    cases x with
    | none => cases h
    | some y => cases h; obtain ⟨hl, he⟩ := List.getElem?_eq_some_iff.mp e; rw [← he]; exact List.set_getElem_self hl
/-- a slot's value read where it stands -/
theorem SR.get (s : SR T G H env σ O) {i : Nat} {d : D} (e : getV env i = some d) : ∃ v, σ[i]? = some (some v) ∧ PRep T G H d v := by
  obtain ⟨v, as, h1, h2, _⟩ := s.rep.get e
  exact ⟨v, h1, as, h2⟩
/-- a slot's value taken out -/
theorem SR.out (s : SR T G H env σ O) {i : Nat} {d : D} (e : getV env i = some d) : ∃ v as O', σ[i]? = some (some v) ∧ AS T G H (env.set i none) σ O' [.v d] [v] as ∧ Fm G H O G H (as ++ O') ∧ (∀ a, a ∈ O ↔ a ∈ as ∨ a ∈ O') := by
  obtain ⟨v, as, O', h1, h2, h3, h4⟩ := s.rep.out e
  have nd := h4.nodup_iff.mp s.nd
  obtain ⟨n1, n2, n3⟩ := List.nodup_append.mp nd
  have mem : ∀ a, a ∈ O ↔ a ∈ as ∨ a ∈ O' := fun a => by rw [h4.mem_iff, List.mem_append]
  refine ⟨v, as, O', h1, ⟨⟨h3, n2, fun a ha => s.gn a ((mem a).mpr (.inr ha)), s.gs⟩, .one' h2, n1, fun a ha hb => n3 a ha a hb rfl, fun a ha => s.gn a ((mem a).mpr (.inl ha))⟩, ⟨.refl G, fun _ _ e _ => e, fun a ha => .inl ((mem a).mpr (List.mem_append.mp ha)), fun _ _ e => .inl e⟩, mem⟩
/-- a value put into a slot that holds none, beside others -/
theorem AS.into {i : Nat} {d : D} {v : V} {W : List Addr} (A : AS T G H env σ O [.v d] [v] W) (e : getV env i = none) (hi : σ[i]? = some (some v)) : ∃ O', SR T G H (env.set i (some d)) σ O' ∧ (∀ a, a ∈ O' ↔ a ∈ W ∨ a ∈ O) := by
  obtain ⟨O', h1, h2⟩ := A.sr.rep.into e hi A.ar.one
  have mem : ∀ a, a ∈ O' ↔ a ∈ W ∨ a ∈ O := fun a => by rw [h2.mem_iff, List.mem_append]
  refine ⟨O', ⟨h1, ?_, fun a ha => ?_, A.sr.gs⟩, mem⟩
  · exact h2.nodup_iff.mpr (List.nodup_append.mpr ⟨A.nd, A.sr.nd, fun a ha b hb z => A.dj a ha (z ▸ hb)⟩)
  · rcases (mem a).mp ha with z | z
    · exact A.gn a z
    · exact A.sr.gn a z
/-- a value stored into a slot -/
theorem AS.put {i : Nat} {d : D} {v : V} {W : List Addr} (A : AS T G H env σ O [.v d] [v] W) (hi : i < env.length) : ∃ O', SR T G H (env.set i (some d)) (σ.set i (some v)) O' ∧ (∀ a, a ∈ O' → a ∈ W ++ O) := by
  obtain ⟨O', gone, h1, h2⟩ := A.sr.rep.put hi A.ar.one
  have nd : (W ++ O).Nodup := List.nodup_append.mpr ⟨A.nd, A.sr.nd, fun a ha b hb z => A.dj a ha (z ▸ hb)⟩
  have mem : ∀ a, a ∈ O' → a ∈ W ++ O := fun a ha => h2.mem_iff.mpr (List.mem_append_left _ ha)
  refine ⟨O', ⟨h1, (List.nodup_append.mp (h2.nodup_iff.mp nd)).1, fun a ha => ?_, A.sr.gs⟩, mem⟩
  rcases List.mem_append.mp (mem a ha) with z | z
  · exact A.gn a z
  · exact A.sr.gn a z
end

/-! ### the text by names -/
structure Cf where
  N : List Str
  bl : List Str
  gl : List (Str × D)
  fs : List Str
  cl : List (Str × Str)
  pr : List (Str × Str × Str)
  sa : List (Str × Str)
  ln : List (Str × Str) := []
/-- atoms -/
inductive Atm : D → V → Prop where
  | non : Atm .non .non
  | bl (b : Bool) : Atm (.bl b) (.bl b)
  | int (b : Int) : Atm (.int b) (.int b)
  | str (b : Str) : Atm (.str b) (.str b)
theorem Atm.rep {T : Tx} {G : Hp} {d : D} {v : V} (h : Atm d v) : Rep T G d v := by
  cases h with
  | non => exact .non
  | bl b => exact .bl b
  | int b => exact .int b
  | str b => exact .str b

/-- what is left of the parameters' owned things -/
def maskF : List D → List (Option D) → List (Option D)
  | d :: ds, f :: fs => (if d.own then f else none) :: maskF ds fs
  | _, _ => []
/-- what a function of the name f promises -/
def spF (T : Tx) (φ : Phi) (f : Str) (vs : List V) (H : Hp) (Q : VK) : Prop := ∃ G ds d fin W, SR T G H (ds.map some) (vs.map some) W ∧ φ f ds = some (d, fin) ∧
  ∀ v H' G' O' as, AS T G' H' (maskF ds fin) (vs.map some) O' [.v d] [v] as → Fm G H W G' H' (as ++ O') → Q v H'
abbrev XN : XK := fun _ _ _ => False
abbrev CN : CXT := fun _ _ _ _ _ _ => False
structure FnG (P : Program) (w : World) (K : PySem.W.Frag) (mg : Str → Option Value) (base : Heap) (k : Nat) (f : Addr) (fd : FuncData) (ps : List Str) (sp : List V → Hp → VK → Prop) : Prop where
  len : ∀ vs H Q, sp vs H Q → vs.length = ps.length
  run : ∀ (A : Around) (outer : List Env) (s : Shared) (H : Hp) (args : Args) (us : List Value) (vs : List V) (Q : VK), A.guards = some [] → Room k A → Env0 P w K mg base A outer s H → BindsTo s fd args (ps.zip us) → Vals vs us → sp vs H Q →
    codeAny (model P w) A (.call (.ref f) args) (CR CN outer P w H s Q XN) s
/-- a function that stands at f -/
def FnH (T : Tx) (φ : Phi) (k : Nat) (P : Program) (w : World) (K : PySem.W.Frag) (mg : Str → Option Value) (base : Heap) (q : Str) (f : Addr) : Prop :=
  PySem.W.keepIn K (.ref f) = true ∧ ∃ fd ps, Binds K fd ps [] ∧ FnG P w K mg base k f fd ps (spF T φ q)
/-- a class with slots -/
structure ClH (T : Tx) (K : PySem.W.Frag) (ci : CI) : Prop where
  cls : SlX.SCls K ci.adr
  slot : ∀ f i, ci.slots.lookup f = some i → ∃ p, SlX.Slot1 K ci.adr f p i
  inj : ∀ f g i, ci.slots.lookup f = some i → ci.slots.lookup g = some i → f = g
/-- an own __len__ -/
structure LenOf (K : PySem.W.Frag) (C g : Addr) : Prop where
  fnd : PySem.W.findIn K (.ref C) "__len__" = some (some (.ref g))
  tin : PySem.W.typeIn K (.ref g) = some (.type "function")
/-- the context -/
structure Gd (c : Cf) (T : Tx) (k : Nat) (φ : Phi) (sc : Scope) (X : Cx) : Prop where
  hK : X.K = T.K
  hN : X.N = c.N
  nd : c.N.Nodup
  calm : X.calm = true
  room : Room (k + 1) X.A
  gds : X.A.guards = some []
  scp : ∀ x k, sc.names.lookup x = some k → X.env.scope.names.lookup x = some k ∨ (k = .free ∧ X.env.scope.names.lookup x = some .cell)
  cel : ∀ x, sc.names.lookup x = some .cell → X.fn x = true
  bl : ∀ x ∈ c.bl, X.mg x = none
  gl : ∀ x d, c.gl.lookup x = some d → ∃ u v, X.mg x = some u ∧ RelV v u ∧ Atm d v
  fs : ∀ x ∈ c.fs, ∃ f, X.mg x = some (.ref f) ∧ FnH T φ k X.prog X.w X.K X.mg X.base x f
  ct : ∀ x ci, T.ct.lookup x = some ci → ClH T X.K ci
  cl : ∀ x q, c.cl.lookup x = some q → ∃ ci f, T.ct.lookup x = some ci ∧ X.mg x = some (.ref ci.adr) ∧ Mk X.K ci.adr f ∧ FnH T φ k X.prog X.w X.K X.mg X.base q f
  pr : ∀ p ∈ c.pr, ∃ ci a g, T.ct.lookup p.1 = some ci ∧ PropOf X.K ci.adr p.2.1 a g ∧ FnH T φ k X.prog X.w X.K X.mg X.base p.2.2 g
  sa : ∀ p ∈ c.sa, ∃ ci i, T.ct.lookup p.1 = some ci ∧ ci.slots.lookup p.2 = some i
  ln : ∀ p ∈ c.ln, ∃ ci g, T.ct.lookup p.1 = some ci ∧ LenOf X.K ci.adr g ∧ FnH T φ k X.prog X.w X.K X.mg X.base p.2 g

def isLoc (sc : Scope) (x : Str) : Bool := match sc.names.lookup x with
  | some .local => true
  | some .cell => true
  | _ => false
def isVis (sc : Scope) (x : Str) : Bool := match sc.names.lookup x with
  | some .local => true
  | some .cell => true
  | some .free => true
  | _ => false
def isGlb (sc : Scope) (x : Str) : Bool := match sc.names.lookup x with
  | some .globalImplicit => true
  | _ => false

section
variable {c : Cf} {T : Tx} {k : Nat} {φ : Phi} {sc : Scope} {X : Cx}
theorem Gd.vis (g : Gd c T k φ sc X) {x : Str} (h : isVis sc x = true) : Vis X.env.scope x := by
  unfold isVis at h
  split at h
  · rename_i e
    rcases g.scp x _ e with z | ⟨z, _⟩
    · exact .inl z
    · cases z
  · rename_i e
    rcases g.scp x _ e with z | ⟨z, _⟩
    · exact .inr (.inl z)
    · cases z
  · rename_i e
    rcases g.scp x _ e with z | ⟨_, z⟩
    · exact .inr (.inr z)
    · exact .inr (.inl z)
  · cases h
theorem Gd.loc (g : Gd c T k φ sc X) {x : Str} (h : isLoc sc x = true) : Loc X.env.scope x ∧ (X.fn x = true ∨ X.env.scope.names.lookup x = some .local) := by
  unfold isLoc at h
  split at h
  · rename_i e
    rcases g.scp x _ e with z | ⟨z, _⟩
    · exact ⟨.inl z, .inr z⟩
    · cases z
  · rename_i e
    rcases g.scp x _ e with z | ⟨z, _⟩
    · exact ⟨.inr z, .inl (g.cel x e)⟩
    · cases z
  · cases h
theorem Gd.glb (g : Gd c T k φ sc X) {x : Str} (h : isGlb sc x = true) : Gl X x := by
  unfold isGlb at h
  split at h
  · rename_i e
    rcases g.scp x _ e with z | ⟨z, _⟩
    · exact z
    · cases z
  · cases h
theorem Gd.room0 (g : Gd c T k φ sc X) : Room k X.A := g.room.mono (Nat.le_succ k)
theorem Gd.nX (g : Gd c T k φ sc X) : X.N.Nodup := by rw [g.hN]; exact g.nd
theorem Gd.u64 (g : Gd c T k φ sc X) : X.A.units + 65 < cLine := by have := g.room.un; omega

/-! ### names -/
theorem pe_varP (g : Gd c T k φ sc X) {i : Nat} {x : Str} {pos : Pos} (hi : c.N[i]? = some x) (hv : isVis sc x = true) (hd : (x == ("__debug__" : Str)) = false) (hcd : (x == ("__classdict__" : Str)) = false) : PE X (.Name x pos) (rdP T φ (.var i)) := by
  refine PE.imp (pe_var (i := i) (by rw [g.hN]; exact hi) (g.vis hv) hd hcd) fun σ H Q h => ?_
  obtain ⟨G, env, O, a, env', s, e, q⟩ := h
  simp only [denP, Option.map_eq_some_iff, Prod.mk.injEq] at e
  obtain ⟨d, e, rfl, rfl⟩ := e
  obtain ⟨v, h1, _⟩ := s.get e
  exact ⟨v, h1, q v H G O [] ⟨s, .r h1 .nil, .nil, by simp, by simp⟩ (Fm.refl _ _ _)⟩
theorem pe_varE (g : Gd c T k φ sc X) {i : Nat} {x : Str} {pos : Pos} (hi : c.N[i]? = some x) (hv : isVis sc x = true) (hd : (x == ("__debug__" : Str)) = false) (hcd : (x == ("__classdict__" : Str)) = false) : PE X (.Name x pos) (rdE T φ (.var i)) := by
  refine ⟨fun pins s σ H Q I h => ?_⟩
  obtain ⟨G, env, O, a, env', sr, e, q⟩ := h
  simp only [den, Option.map_map, Option.map_eq_some_iff, Function.comp, Prod.mk.injEq] at e
  obtain ⟨d, e, rfl, rfl⟩ := e
  obtain ⟨v, as, O', h1, A, f1, mem⟩ := sr.out e
  refine thn ((pe_var (i := i) (by rw [g.hN]; exact hi) (g.vis hv) hd hcd).run pins s σ H (fun x H' => x = v ∧ H' = H) I ⟨v, h1, rfl, rfl⟩) fun u s' ⟨x, H1, I1, rv, e1, e2⟩ => ?_
  subst e1 e2
  obtain ⟨G2, H2, I2, A2, f2⟩ := A.freeze I1
  have n0 : getV (env.set i none) i = none := by rw [getV_set]; simp
  obtain ⟨O2, s2, m2⟩ := A2.into n0 h1
  rw [List.set_set] at s2
  have r2 : RepO T G2 H2 d.frz x [] := A2.ar.one
  refine ⟨x, H2, I2, rv, q x H2 G2 O2 [] ⟨s2, .one' r2, .nil, by simp, by simp⟩ ?_⟩
  exact (f1.frz f2).less fun a ha => by
    rcases (m2 a).mp (by simpa using ha) with z | z
    · simp at z
    · simpa using z
theorem pe_varV (g : Gd c T k φ sc X) {i : Nat} {x : Str} {pos : Pos} (hi : c.N[i]? = some x) (hv : isVis sc x = true) (hd : (x == ("__debug__" : Str)) = false) (hcd : (x == ("__classdict__" : Str)) = false) : PE X (.Name x pos) (rdE T φ (.vz i)) :=
  PE.imp (pe_varE g hi hv hd hcd) fun σ H Q h => by
    obtain ⟨G, env, O, a, env', sr, e, q⟩ := h
    exact ⟨G, env, O, a, env', sr, by simpa only [den] using e, q⟩
theorem rdE_atom {d : D} {v : V} {e : E} (h : ∀ env, den φ e env = some (d, env)) (a : Atm d v) {σ : L2.St} {H : Hp} {Q : VK} (q : rdE T φ e σ H Q) : Q v H := by
  obtain ⟨G, env, O, x, env', s, e1, k⟩ := q
  simp only [h, Option.map_some, Option.some.injEq, Prod.mk.injEq] at e1
  obtain ⟨rfl, rfl⟩ := e1
  exact k v H G O [] ⟨s, .one' (.frz a.rep), .nil, by simp, by simp⟩ (Fm.refl _ _ _)

/-! ### own functions -/
theorem run_fnG {f : Addr} {fd : FuncData} {ps : List Str} {sp : List V → Hp → VK → Prop} {j : Nat} {pins : List (Addr × Obj)} {σ : L2.St} {H : Hp} {s : Shared} {Q : VK} {us : List Value} {vs : List V} (F : FnG X.prog X.w X.K X.mg X.base j f fd ps sp) (hr : Room j X.A) (hg : X.A.guards = some [])
    (hb : Binds X.K fd ps []) (I : Inv X pins σ H s) (r : Vals vs us) (h : sp vs H Q) : wpAny (model X.prog X.w) X.A (call (.ref f) us) (EP X pins σ Q) X.xe s := by
  have hl : (us ++ []).length = ps.length := by rw [List.append_nil, ← r.length]; exact F.len _ _ _ h
  have bt := hb s us I.kIn hl
  rw [List.append_nil] at bt
  have go := F.run X.A X.stack s H ⟨us, []⟩ us vs Q hg hr I.env0 bt r h
  refine wpAny_call (codeAny_mono go fun res s' hq => ?_)
  match res, hq with
  | .ok (.ret _), hq => exact I.after hq
theorem pe_callG {x : Str} {f : Addr} {fd : FuncData} {ps : List Str} {sp : List V → Hp → VK → Prop} {j : Nat} {p pos : Pos} {e : Expr} {es : List Expr} {t : TA} (F : FnG X.prog X.w X.K X.mg X.base j f fd ps sp) (hr : Room j X.A) (hg : X.A.guards = some []) (hx : Gl X x) (hm : X.mg x = some (.ref f))
    (hk : PySem.W.keepIn X.K (.ref f) = true) (hb : Binds X.K fd ps []) (ha : PA X (e :: es) t) (hd : (x == ("__debug__" : Str)) = false) (he : starEach (e :: es) X.env = (false, eval e X.env) :: starEach es X.env) (hp : (backTo pos (starEach es X.env)).any (·.1) = false) :
    PE X (.Call (.Name x p) (e :: es) [] pos) (fun σ H Q => t σ H fun vs H1 => sp vs H1 Q) := ⟨fun pins s σ H Q I h =>
  wpAny_Call_Name_kw (ld_glob I hx hm (PySem.W.callWith_K (h₀ := X.base) I.ok.mod.kin hk (thn (ha.run pos pins s σ H _ I h) fun us s1 ⟨vs, H1, I1, r, q⟩ => ⟨I1.kIn, run_fnG F hr hg hb I1 r q⟩) he hp) hd)⟩
end
end Vi
end
section
set_option maxRecDepth 100000
/-! Vi, part I: calls of own functions and classes, properties, attributes, displays. -/
namespace Vi
open PySem PySem.Spec PyProof.Rows L2

section
variable {T : Tx} {G H G' H' G0 H0 : Hp} {env : Ev} {σ : L2.St} {O : List Addr}
theorem SR.wipe (s : SR T G H env σ O) (i : Nat) : ∃ O', SR T G H (env.set i none) σ O' ∧ ∀ a, a ∈ O' → a ∈ O := by
  cases e : getV env i with
  | none =>
    have hs : env.set i none = env ∨ ¬ i < env.length := by
      by_cases hi : i < env.length
      · refine .inl ?_
        unfold getV at e
        rw [List.getElem?_eq_getElem hi] at e
        have : env[i] = none := by simpa using e
        rw [← this]; exact List.set_getElem_self hi
      · exact .inr hi
    rcases hs with z | z
    · exact ⟨O, by rw [z]; exact s, fun _ h => h⟩
    · refine ⟨O, ?_, fun _ h => h⟩
      rw [List.set_eq_of_length_le (by omega)]
      exact s
  | some d =>
    obtain ⟨v, as, O', h1, A, f, m⟩ := s.out e
    exact ⟨O', A.sr, fun a h => (m a).mpr (.inr h)⟩
theorem moves {ars : List Ar} {vs : List V} {W : List Addr} (h : AR T G H σ ars vs W) : ∀ {env : Ev} {O : List Addr} {ds : List D} {env2 : Ev}, SR T G H env σ O → W.Nodup → (∀ a ∈ W, a ∉ O) → (∀ a ∈ W, G a = none) → moveAs ars env = some (ds, env2) →
    ∃ O2 W2, SR T G H env2 σ O2 ∧ ERep T G H (ds.map some) (vs.map some) W2 ∧ W2.Nodup ∧ (∀ a ∈ W2, a ∉ O2) ∧ (∀ a ∈ W2, G a = none) ∧ ∀ a, a ∈ W2 ∨ a ∈ O2 → a ∈ W ∨ a ∈ O := by
  induction h with
  | nil =>
    intro env O ds env2 s _ _ _ e
    simp only [moveAs, Option.some.injEq, Prod.mk.injEq] at e
    obtain ⟨rfl, rfl⟩ := e
    exact ⟨O, [], s, .nil, .nil, by simp, by simp, by simp⟩
  | @v d v as r vs W1 x y ih =>
    intro env O ds env2 s nd dj gn e
    simp only [moveAs, Option.map_eq_some_iff] at e
    obtain ⟨⟨ds1, env1⟩, e, e2⟩ := e
    simp only [Prod.mk.injEq] at e2
    obtain ⟨rfl, rfl⟩ := e2
    obtain ⟨n1, n2, n3⟩ := List.nodup_append.mp nd
    obtain ⟨O2, W2, s2, er, nd2, dj2, gn2, sub⟩ := ih s n2 (fun a ha => dj a (List.mem_append_right _ ha)) (fun a ha => gn a (List.mem_append_right _ ha)) e
    have far : ∀ a ∈ as, a ∉ W2 ∧ a ∉ O2 := fun a ha => by
      have q : ¬ (a ∈ W2 ∨ a ∈ O2) := fun z => by
        rcases sub a z with z | z
        · exact n3 a ha a z rfl
        · exact dj a (List.mem_append_left _ ha) z
      exact ⟨fun z => q (.inl z), fun z => q (.inr z)⟩
    refine ⟨O2, as ++ W2, s2, .is x er, List.nodup_append.mpr ⟨n1, nd2, fun a ha b hb z => (far a ha).1 (z ▸ hb)⟩, fun a ha => ?_, fun a ha => ?_, fun a ha => ?_⟩
    · rcases List.mem_append.mp ha with z | z
      · exact (far a z).2
      · exact dj2 a z
    · rcases List.mem_append.mp ha with z | z
      · exact gn a (List.mem_append_left _ z)
      · exact gn2 a z
    · rcases ha with z | z
      · rcases List.mem_append.mp z with z | z
        · exact .inl (List.mem_append_left _ z)
        · exact (sub a (.inl z)).imp (List.mem_append_right _) id
      · exact (sub a (.inr z)).imp (List.mem_append_right _) id
  | @r i v r vs W1 hi y ih =>
    intro env O ds env2 s nd dj gn e
    simp only [moveAs, Option.bind_eq_some_iff, Option.map_eq_some_iff] at e
    obtain ⟨d, e0, ⟨ds1, env1⟩, e, e2⟩ := e
    simp only [Prod.mk.injEq] at e2
    obtain ⟨rfl, rfl⟩ := e2
    obtain ⟨v', as, O', h1, A, f, mem⟩ := s.out e0
    rw [hi] at h1
    cases h1
    by_cases ho : d.own = true
    · rw [if_pos ho] at e
      obtain ⟨O2, W2, s2, er, nd2, dj2, gn2, sub⟩ := ih A.sr nd (fun a ha z => dj a ha ((mem a).mpr (.inr z))) gn e
      have far : ∀ a ∈ as, a ∉ W2 ∧ a ∉ O2 := fun a ha => by
        have q : ¬ (a ∈ W2 ∨ a ∈ O2) := fun z => by
          rcases sub a z with z | z
          · exact dj a z ((mem a).mpr (.inl ha))
          · exact A.dj a ha z
        exact ⟨fun z => q (.inl z), fun z => q (.inr z)⟩
      refine ⟨O2, as ++ W2, s2, .is A.ar.one er, List.nodup_append.mpr ⟨A.nd, nd2, fun a ha b hb z => (far a ha).1 (z ▸ hb)⟩, fun a ha => ?_, fun a ha => ?_, fun a ha => ?_⟩
      · rcases List.mem_append.mp ha with z | z
        · exact (far a z).2
        · exact dj2 a z
      · rcases List.mem_append.mp ha with z | z
        · exact A.gn a z
        · exact gn2 a z
      · rcases ha with z | z
        · rcases List.mem_append.mp z with z | z
          · exact .inr ((mem a).mpr (.inl z))
          · exact (sub a (.inl z)).imp id fun q => (mem a).mpr (.inr q)
        · exact (sub a (.inr z)).imp id fun q => (mem a).mpr (.inr q)
    · rw [if_neg ho] at e
      obtain ⟨rr, rfl⟩ := A.ar.one.nown (by simpa using ho)
      obtain ⟨O2, W2, s2, er, nd2, dj2, gn2, sub⟩ := ih s nd dj gn e
      exact ⟨O2, W2, s2, by simpa using ERep.is (.frz rr) er, nd2, dj2, gn2, sub⟩
theorem backs {ars : List Ar} {vs : List V} {W0 : List Addr} (h : AR T G0 H0 σ ars vs W0) : ∀ {env : Ev} {O W : List Addr} {ds : List D} {fin : List (Option D)}, ERep T G H (maskF ds fin) (vs.map some) W → SR T G H env σ O → W.Nodup → (∀ a ∈ W, a ∉ O) → (∀ a ∈ W, G a = none) →
    ∃ O3, SR T G H (backAs ars ds fin env) σ O3 ∧ ∀ a, a ∈ O3 → a ∈ W ∨ a ∈ O := by
  induction h with
  | nil =>
    intro env O W ds fin er s _ _ _
    refine ⟨O, ?_, fun a h => .inr h⟩
    cases ds <;> cases fin <;> exact s
  | @v d v as r vs W1 x y ih =>
    intro env O W ds fin er s nd dj gn
    cases ds with
    | nil => exact absurd er.length (by simp [maskF])
    | cons d0 ds =>
      cases fin with
      | nil => exact absurd er.length (by simp [maskF])
      | cons f fin =>
        simp only [maskF, List.map_cons] at er
        cases hq : (if d0.own = true then f else none) with
        | none =>
          rw [hq] at er
          cases er with
          | no er => exact ih er s nd dj gn
        | some d1 =>
          rw [hq] at er
          cases er with
          | @is _ _ as _ _ O' x er =>
            obtain ⟨n1, n2, n3⟩ := List.nodup_append.mp nd
            obtain ⟨O3, q1, q2⟩ := ih er s n2 (fun a ha => dj a (List.mem_append_right _ ha)) (fun a ha => gn a (List.mem_append_right _ ha))
            exact ⟨O3, q1, fun a ha => (q2 a ha).imp (List.mem_append_right _) id⟩
  | @r i v r vs W1 hi y ih =>
    intro env O W ds fin er s nd dj gn
    cases ds with
    | nil => exact absurd er.length (by simp [maskF])
    | cons d0 ds =>
      cases fin with
      | nil => exact absurd er.length (by simp [maskF])
      | cons f fin =>
        simp only [maskF, List.map_cons] at er
        simp only [backAs]
        by_cases ho : d0.own = true
        · rw [if_pos ho] at er ⊢
          obtain ⟨Ow, sw, mw⟩ := s.wipe i
          cases f with
          | none =>
            cases er with
            | no er =>
              obtain ⟨O3, q1, q2⟩ := ih er sw nd (fun a ha z => dj a ha (mw a z)) gn
              exact ⟨O3, q1, fun a ha => (q2 a ha).imp id (mw a)⟩
          | some d1 =>
            cases er with
            | @is _ _ as _ _ O' x er =>
              obtain ⟨n1, n2, n3⟩ := List.nodup_append.mp nd
              have A : AS T G H (env.set i none) σ Ow [.v d1] [v] as := ⟨sw, .one' x, n1, fun a ha z => dj a (List.mem_append_left _ ha) (mw a z), fun a ha => gn a (List.mem_append_left _ ha)⟩
              obtain ⟨Op, sp, mp⟩ := A.into (by rw [getV_set]; simp) hi
              rw [List.set_set] at sp
              obtain ⟨O3, q1, q2⟩ := ih er sp n2 (fun a ha z => by
                rcases (mp a).mp z with z | z
                · exact n3 a z a ha rfl
                · exact dj a (List.mem_append_right _ ha) (mw a z)) (fun a ha => gn a (List.mem_append_right _ ha))
              refine ⟨O3, q1, fun a ha => ?_⟩
              rcases q2 a ha with z | z
              · exact .inl (List.mem_append_right _ z)
              · rcases (mp a).mp z with z | z
                · exact .inl (List.mem_append_left _ z)
                · exact .inr (mw a z)
        · rw [if_neg ho] at er ⊢
          cases er with
          | no er => exact ih er s nd dj gn
end

section
variable {T : Tx} {φ : Phi} {σ : L2.St} {H : Hp}
/-- the end of a call: what the callee leaves, put back -/
theorem call_end {f : Str} {es : Es} {Q : VK} {res : D → List (Option D) → Option (D × List (Option D))} {fst : Ev → Option (D × Ev)} {mk : List D → Option (D × List (Option D))}
    (G : Hp) (env : Ev) (O : List Addr) (ars : List Ar) (env1 : Ev) (s : SR T G H env σ O) (e1 : denA φ es env = some (ars, env1)) {P : List V → Hp → Prop}
    (h : ∀ vs H1 G1 O1 W1, AS T G1 H1 env1 σ O1 ars vs W1 → Fm G H O G1 H1 (W1 ++ O1) → P vs H1) : rdA T φ es σ H P := ⟨G, env, O, ars, env1, s, e1, h⟩
theorem rdE_call {f : Str} {es : Es} {Q : VK} (h : rdE T φ (.call f es) σ H Q) : rdA T φ es σ H fun vs H1 => spF T φ f vs H1 Q := by
  obtain ⟨G, env, O, a, env', s, e, k⟩ := h
  simp only [den, Option.map_eq_some_iff, Option.bind_eq_some_iff, Prod.mk.injEq] at e
  obtain ⟨⟨d, env3⟩, ⟨⟨ars, env1⟩, e1, ⟨ds, env2⟩, e2, ⟨d', fin⟩, e3, e4⟩, rfl, rfl⟩ := e
  simp only [Prod.mk.injEq] at e4
  obtain ⟨rfl, rfl⟩ := e4
  refine ⟨G, env, O, ars, env1, s, e1, fun vs H1 G1 O1 W1 A1 f1 => ?_⟩
  obtain ⟨O2, W2, s2, er, nd2, dj2, gn2, sub⟩ := moves A1.ar A1.sr A1.nd A1.dj A1.gn e2
  refine ⟨G1, ds, d', fin, W2, ⟨er, nd2, gn2, A1.sr.gs⟩, e3, fun v H' G' O' as A' f' => ?_⟩
  have s3 := s2.frame f' (fun a ha hw => dj2 a hw ha) A'.sr.gs
  have freshO : ∀ a, a ∈ as ++ O' → a ∉ O2 := fun a ha z => by
    rcases f'.fresh a ha with q | q
    · exact dj2 a q z
    · obtain ⟨u, hu⟩ := s2.rep.addr a z
      rw [hu] at q; cases q
  obtain ⟨O3, q1, q2⟩ := backs A1.ar A'.sr.rep s3 A'.sr.nd (fun a ha => freshO a (List.mem_append_right _ ha)) A'.sr.gn
  refine k v H' G' O3 as ⟨q1, .one' A'.ar.one, A'.nd, fun a ha z => ?_, A'.gn⟩ ?_
  · rcases q2 a z with z | z
    · exact A'.dj a ha z
    · exact freshO a (List.mem_append_left _ ha) z
  · have f2 : Fm G H O G1 H1 (W2 ++ O2) := f1.less fun a ha => by
      simp only [List.mem_append] at ha ⊢
      exact sub a ha
    refine (f2.trans (f'.wide O2)).less fun a ha => ?_
    simp only [List.mem_append] at ha ⊢
    rcases ha with z | z
    · exact .inl (.inl z)
    · rcases q2 a z with z | z
      · exact .inl (.inr z)
      · exact .inr z
theorem rdE_make {cn q : Str} {ci : CI} (hc : T.ct.lookup cn = some ci) {es : Es} {Q : VK} (h : rdE T φ (.make cn q es) σ H Q) : rdA T φ es σ H fun vs H1 => ∀ x dx, H1 x = none → H1 dx = none → dx ≠ x →
    spF T φ q (.ref x :: vs) (upd (upd H1 dx (.own x)) x (.ins ci.adr dx [])) (fun v H2 => v = .non ∧ Q (.ref x) H2) := by
  obtain ⟨G, env, O, a, env', s, e, k⟩ := h
  simp only [den, Option.map_eq_some_iff, Option.bind_eq_some_iff, Prod.mk.injEq] at e
  obtain ⟨⟨d, env3⟩, ⟨⟨ars, env1⟩, e1, ⟨ds, env2⟩, e2, ⟨d', fin0⟩, e3, e4⟩, rfl, rfl⟩ := e
  refine ⟨G, env, O, ars, env1, s, e1, fun vs H1 G1 O1 W1 A1 f1 => ?_⟩
  split at e4
  · rename_i c' fs fin h1 h2
    simp only at h1 h2
    subst h1 h2
    split at e4
    · rename_i hcc
      subst hcc
      simp only [Option.some.injEq, Prod.mk.injEq] at e4
      obtain ⟨rfl, rfl⟩ := e4
      intro x dx hx hdx nex
      obtain ⟨O2, W2, s2, er, nd2, dj2, gn2, sub⟩ := moves A1.ar A1.sr A1.nd A1.dj A1.gn e2
      have keep : ∀ a u, H1 a = some u → (upd (upd H1 dx (.own x)) x (.ins ci.adr dx [])) a = some u := fun a u e => by
        rw [upd_ne (ne_of_none e hx), upd_ne (ne_of_none e hdx)]; exact e
      have gs1 : GSub G1 (upd (upd H1 dx (.own x)) x (.ins ci.adr dx [])) := fun a u e => keep a u (A1.sr.gs a u e)
      have gx : G1 x = none := A1.sr.gs.non hx
      have gdx : G1 dx = none := A1.sr.gs.non hdx
      have hX : (upd (upd H1 dx (.own x)) x (.ins ci.adr dx [])) x = some (.ins ci.adr dx []) := upd_same
      have hD : (upd (upd H1 dx (.own x)) x (.ins ci.adr dx [])) dx = some (.own x) := by rw [upd_ne nex, upd_same]
      have er1 : ERep T G1 (upd (upd H1 dx (.own x)) x (.ins ci.adr dx [])) (some (.ins true c' []) :: ds.map some) (some (.ref x) :: vs.map some) ([x, dx] ++ W2) :=
        .is (.ins hc (.inl ⟨hX, rfl⟩) ⟨_, hD⟩ nex (.nil _ _)) (er.frame (.refl _) fun a u _ e => keep a u e)
      have w2a : ∀ a ∈ W2, a ≠ x ∧ a ≠ dx := fun a ha => by
        obtain ⟨u, hu⟩ := er.addr a ha
        exact ⟨ne_of_none hu hx, ne_of_none hu hdx⟩
      have f0 : Fm G1 H1 (W2 ++ O2) G1 (upd (upd H1 dx (.own x)) x (.ins ci.adr dx [])) (([x, dx] ++ W2) ++ O2) := by
        refine ⟨.refl _, fun a u e _ => keep a u e, fun a ha => ?_, fun a u e => .inl e⟩
        simp only [List.mem_append, List.mem_cons, List.not_mem_nil, or_false] at ha ⊢
        rcases ha with ((rfl | rfl) | z) | z
        · exact .inr hx
        · exact .inr hdx
        · exact .inl (.inl z)
        · exact .inl (.inr z)
      refine ⟨G1, .ins true c' [] :: ds, .non, some (.ins true c' fs) :: fin, [x, dx] ++ W2, ⟨er1, ?_, fun a ha => ?_, gs1⟩, e3, fun v H' G' O' as A' f' => ?_⟩
      · refine List.nodup_append.mpr ⟨by simp [Ne.symm nex], nd2, fun a ha b hb z => ?_⟩
        subst z
        simp only [List.mem_cons, List.not_mem_nil, or_false] at ha
        rcases ha with z | z
        · exact (w2a a hb).1 z
        · exact (w2a a hb).2 z
      · rcases List.mem_append.mp ha with z | z
        · simp only [List.mem_cons, List.not_mem_nil, or_false] at z
          rcases z with rfl | rfl
          · exact gx
          · exact gdx
        · exact gn2 a z
      · have hv : v = .non := (show PRep T G' H' .non v from ⟨_, A'.ar.one⟩).non
        refine ⟨hv, ?_⟩
        -- the instance, taken out of the callee's slots
        have er' := A'.sr.rep
        have hm : maskF (.ins true c' [] :: ds) (some (.ins true c' fs) :: fin) = some (.ins true c' fs) :: maskF ds fin := by simp [maskF, D.own]
        rw [hm] at er'
        cases er' with
        | @is _ _ xs _ _ Of rx er' =>
          obtain ⟨n1, n2, n3⟩ := List.nodup_append.mp A'.sr.nd
          have s2' : SR T G1 (upd (upd H1 dx (.own x)) x (.ins ci.adr dx [])) env2 σ O2 := ⟨s2.rep.frame (.refl _) fun a u _ e => keep a u e, s2.nd, s2.gn, gs1⟩
          have o2a : ∀ a ∈ O2, a ∉ [x, dx] ++ W2 := fun a ha z => by
            obtain ⟨u, hu⟩ := s2.rep.addr a ha
            rcases List.mem_append.mp z with z | z
            · simp only [List.mem_cons, List.not_mem_nil, or_false] at z
              rcases z with rfl | rfl
              · rw [hu] at hx; cases hx
              · rw [hu] at hdx; cases hdx
            · exact dj2 a z ha
          have s3 := s2'.frame f' o2a A'.sr.gs
          have freshO : ∀ a, a ∈ as ++ (xs ++ Of) → a ∉ O2 := fun a ha z => by
            rcases f'.fresh a ha with q | q
            · exact o2a a z q
            · obtain ⟨u, hu⟩ := s2'.rep.addr a z
              rw [hu] at q; cases q
          obtain ⟨O3, q1, q2⟩ := backs A1.ar er' s3 n2 (fun a ha => freshO a (List.mem_append_right _ (List.mem_append_right _ ha))) (fun a ha => A'.sr.gn a (List.mem_append_right _ ha))
          refine k (.ref x) H' G' O3 xs ⟨q1, .one' rx, n1, fun a ha z => ?_, fun a ha => A'.sr.gn a (List.mem_append_left _ ha)⟩ ?_
          · rcases q2 a z with z | z
            · exact n3 a ha a z rfl
            · exact freshO a (List.mem_append_right _ (List.mem_append_left _ ha)) z
          · have f2 : Fm G H O G1 H1 (W2 ++ O2) := f1.less fun a ha => by
              simp only [List.mem_append] at ha ⊢
              exact sub a ha
            refine ((f2.trans f0).trans (f'.wide O2)).less fun a ha => ?_
            simp only [List.mem_append] at ha ⊢
            rcases ha with z | z
            · exact .inl (.inr (.inl z))
            · rcases q2 a z with z | z
              · exact .inl (.inr (.inr z))
              · exact .inr z
    · cases e4
  · cases e4
end

section
variable {c : Cf} {T : Tx} {k : Nat} {φ : Phi} {sc : Scope} {X : Cx}
theorem guards_make {A : Around} {C : Addr} {us : List Value} (h : A.guards = some []) : (A.under (.builtin "type.__call__" ⟨.ref C :: us, []⟩)).guards = some [] := by
  simp [Around.under, Code.guards, Code.isGuard, guardIds, pushGuards, h]
theorem run_makeG {C f : Addr} {fd : FuncData} {ps : List Str} {sp : List V → Hp → VK → Prop} {j : Nat} {pins : List (Addr × Obj)} {σ : L2.St} {H : Hp} {s : Shared} {Q : VK} {us : List Value} {vs : List V} (M : Mk X.K C f) (F : FnG X.prog X.w X.K X.mg X.base j f fd ps sp) (hr : Room (j + 1) X.A) (hg : X.A.guards = some [])
    (hb : Binds X.K fd ps []) (I : Inv X pins σ H s) (r : Vals vs us) (h : ∀ x dx, H x = none → H dx = none → dx ≠ x → sp (.ref x :: vs) (upd (upd H dx (.own x)) x (.ins C dx [])) (fun v H2 => v = .non ∧ Q (.ref x) H2)) :
    wpAny (model X.prog X.w) X.A (call (.ref C) us) (EP X pins σ Q) X.xe s := by
  have I2 := I.made (C := C)
  have go := h (s.heap.objs.size + 1) s.heap.objs.size (I.hok.fresh (Nat.le_succ _)) (I.hok.fresh (Nat.le_refl _)) (Nat.ne_of_lt (Nat.lt_succ_self _))
  have rv : Vals (V.ref (s.heap.objs.size + 1) :: vs) (Value.ref (s.heap.objs.size + 1) :: us) := .cons rfl r
  have bt := hb _ (Value.ref (s.heap.objs.size + 1) :: us) I2.kIn (by rw [List.append_nil, ← rv.length]; exact F.len _ _ _ go)
  rw [List.append_nil] at bt
  refine wpAny_call (make_map (f := f) I.kIn M.makes M.init (beq_iff_eq.mp M.fn) (codeAny_mono (F.run _ X.stack _ _ ⟨Value.ref (s.heap.objs.size + 1) :: us, []⟩ _ _ _ (guards_make hg) (hr.make C us []) (I2.env0.make C us []) bt rv go) fun res s' hq => ?_))
  match res, hq with
  | .ok (.ret u), hq =>
    obtain ⟨v, H', I3, ru, ev, q⟩ := I2.after hq
    subst ev
    exact ⟨ru, V.ref (s.heap.objs.size + 1), H', I3, rfl, q⟩
theorem pe_makeG {x : Str} {C f : Addr} {fd : FuncData} {ps : List Str} {sp : List V → Hp → VK → Prop} {j : Nat} {p pos : Pos} {e : Expr} {es : List Expr} {t : TA} (M : Mk X.K C f) (F : FnG X.prog X.w X.K X.mg X.base j f fd ps sp) (hr : Room (j + 1) X.A) (hg : X.A.guards = some []) (hx : Gl X x) (hm : X.mg x = some (.ref C))
    (hb : Binds X.K fd ps []) (ha : PA X (e :: es) t) (hd : (x == ("__debug__" : Str)) = false) (he : starEach (e :: es) X.env = (false, eval e X.env) :: starEach es X.env) (hp : (backTo pos (starEach es X.env)).any (·.1) = false) :
    PE X (.Call (.Name x p) (e :: es) [] pos) (fun σ H Q => t σ H fun vs H1 => ∀ y dy, H1 y = none → H1 dy = none → dy ≠ y → sp (.ref y :: vs) (upd (upd H1 dy (.own y)) y (.ins C dy [])) (fun v H2 => v = .non ∧ Q (.ref y) H2)) := ⟨fun pins s σ H Q I h =>
  wpAny_Call_Name_kw (ld_glob I hx hm (PySem.W.callWith_K (h₀ := X.base) I.ok.mod.kin M.kp (thn (ha.run pos pins s σ H _ I h) fun us s1 ⟨vs, H1, I1, r, q⟩ => ⟨I1.kIn, run_makeG M F hr hg hb I1 r q⟩) he hp) hd)⟩
/-- a property of an instance with slots -/
theorem pe_propG {f : Str} {ci : CI} {a g : Addr} {fd : FuncData} {ps : List Str} {sp : List V → Hp → VK → Prop} {j : Nat} {pos : Pos} {e : Expr} {te : TE} (he : PE X e te) (hc : SlX.SCls X.K ci.adr) (P : PropOf X.K ci.adr f a g) (F : FnG X.prog X.w X.K X.mg X.base j g fd ps sp) (hr : Room (j + 1) X.A) (hg : X.A.guards = some [])
    (hb : Binds X.K fd ps []) (hab : attributeBase e f X.env (eval e X.env) = eval e X.env) :
    PE X (.Attribute e f pos) (fun σ H Q => te σ H fun x H1 => ∃ p dx vs, x = .ref p ∧ SlX.Slt H1 p ci.adr dx vs ∧ sp [.ref p] H1 Q) := by
  refine ⟨fun pins s σ H Q I h => ?_⟩
  refine attr_of hab (thn (he.run pins s σ H _ I h) fun u s1 ⟨x, H1, I1, rx, p, dx, vs, ex, hs, q⟩ => ?_)
  subst ex
  obtain rfl : u = Value.ref p := rx
  obtain ⟨sl, od, r, J, _⟩ := SlX.slt_inst I1 hs
  obtain ⟨rest, hrec⟩ := P.rec_
  have I2 := I1.tok (s1.toks + 1)
  have bt := hb { s1 with toks := s1.toks + 1 } [.ref p] I2.kIn (by rw [List.append_nil]; exact F.len _ _ _ q)
  rw [List.append_nil] at bt
  have hcl : (PySem.W.clsIn X.K ci.adr).isSome = true := hc.ic
  refine PySem.W.get_bind I1.kIn J (PySem.W.plainGet_of (hc.get f)).1 (PySem.W.findObj_data hcl P.at_ P.get P.tak) (PySem.W.plainGet_of (hc.get f)).2 (wpAny_call (PySem.W.prop_get (s := { s1 with toks := s1.toks + 1 }) I1.kIn hrec ?_))
  refine codeAny_mono (F.run X.A.in1 X.stack { s1 with toks := s1.toks + 1 } H1 ⟨[.ref p], []⟩ [.ref p] [.ref p] Q hg hr.in1 I2.env0.in1 bt (.cons rfl .nil) q) fun res s' hq => ?_
  match res, hq with
  | .ok (.ret u), hq =>
    obtain ⟨v, H', I3, rv, q3⟩ := I2.after hq
    show wpAny _ _ (handedOut u) _ _ _
    rw [PySem.W.handedOut_of (handed_of rv)]
    exact wpAny_pure ⟨v, H', I3, rv, q3⟩
theorem call_lenO {ci : CI} {g : Addr} {fd : FuncData} {ps : List Str} {sp : List V → Hp → VK → Prop} {j : Nat} (L : LenOf X.K ci.adr g) (F : FnG X.prog X.w X.K X.mg X.base j g fd ps sp) (hr : Room (j + 1) X.A) (hg : X.A.guards = some []) (hb : Binds X.K fd ps []) :
    CallR X (.builtin "len") (fun xs H Q => ∃ p dx vs, xs = [.ref p] ∧ SlX.Slt H p ci.adr dx vs ∧ sp [.ref p] H (fun v H' => ∃ n : Int, v = .int n ∧ 0 ≤ n ∧ n < 2 ^ 62 ∧ Q v H')) := by
  intro pins s σ H xs us Q I r h
  obtain ⟨p, dx, vs, rfl, hs, q⟩ := h
  obtain ⟨u, rfl, ru⟩ := vals1 r
  obtain rfl : u = Value.ref p := ru
  obtain ⟨sl, od, r0, J, _⟩ := SlX.slt_inst I hs
  have sp0 : PySem.W.Looks (model X.prog X.w) s.heap (specialOf (.ref p) "__len__") (some (.ref g)) := J.type.andThen (PySem.W.looks_findIn I.kIn L.fnd)
  refine Calls.call_function_entry kind_len plain_len entry_len (args_len1 _) ?_
  unfold Builtin.«len»
  refine wpAny_bind (m := oneArg "len" _) (wpAny_pure ?_)
  refine wpAny_bind (m := callSpecial? (.ref p) (PySem.Str.ofString "__len__")) ?_
  unfold callSpecial?
  refine wpAny_bind (sp0.here ?_)
  refine wpAny_holding ?_
  refine wpAny_bind ((PySem.W.bind_fn I.kIn _ L.tin).here ?_)
  have bt := hb s [.ref p] I.kIn (by rw [List.append_nil]; exact F.len _ _ _ q)
  rw [List.append_nil] at bt
  show wpAny _ _ (call (.ref g) ([.ref p] ++ []) >>= fun v => pure (some v)) _ _ s
  refine wpAny_bind (wpAny_call (codeAny_mono (F.run X.A.in1 X.stack s H ⟨[.ref p], []⟩ [.ref p] [.ref p] _ hg hr.in1 I.env0.in1 bt (.cons rfl .nil) q) fun res s' hq => ?_))
  match res, hq with
  | .ok (.ret u), hq =>
    obtain ⟨v, H', I3, rv, n, ev, n0, n1, q3⟩ := I.after hq
    subst ev
    obtain ⟨t, rfl⟩ := rv
    refine wpAny_pure ?_
    refine wpAny_bind (wpAny_holding (wpAny_pure ?_))
    refine wpAny_bind (wpAny_letGo ?_)
    show wpAny _ _ (if n < 0 then _ else _) _ _ _
    rw [if_neg (by omega)]
    show wpAny _ _ (if n ≥ 2 ^ 63 then _ else _) _ _ _
    rw [if_neg (by omega)]
    exact wpAny_bind (wpAny_mkInt (wpAny_pure ⟨_, rfl, .int n, H', I3.tok _, ⟨_, rfl⟩, q3⟩))
end
end Vi
end
section
set_option maxRecDepth 100000
/-! Vi, part J: what is seen of the text; operations by their form. -/
namespace Vi
open PySem PySem.Spec PyProof.Rows L2

/-! ### forms -/
def okX : Expr → Bool
  | .Starred .. => false
  | .Set .. => false
  | .SetComp .. => false
  | .DictComp .. => false
  | .GeneratorExp .. => false
  | .Slice .. => false
  | _ => true
def notLc : Expr → Bool
  | .ListComp .. => false
  | .SetComp .. => false
  | .DictComp .. => false
  | _ => true
def notC0 : Expr → Bool
  | .Call _ [] _ _ => false
  | _ => true
def valX : Expr → Bool
  | .UnaryOp .Not _ _ => false
  | .BoolOp .. => false
  | .IfExp .. => false
  | .Compare .. => false
  | _ => true
section
variable {env : Env} {x : Expr}
theorem ok_star (h : okX x = true) (xs : List Expr) : starEach (x :: xs) env = (false, eval x env) :: starEach xs env := by cases x <;> first | rfl | (simp [okX] at h)
theorem ok_marks (h : okX x = true) (op : CmpOp) : behindInMarks op x = false := by cases x <;> first | rfl | (simp [okX] at h)
theorem ok_fold (h : okX x = true) (v : Value) : foldedSetIterable x env v = pure v := by cases x <;> first | rfl | (simp [okX] at h)
theorem ok_ix (h : okX x = true) : PlainIx x := fun o i => by cases x <;> first | rfl | (simp [okX] at h)
theorem ok_sw (h : notLc x = true) (t : Option Expr) (l : Nat) : swapsWith x t l env = pure false := by cases x <;> first | rfl | (simp [notLc] at h)
theorem ok_base (h : notC0 x = true) (f : Str) : attributeBase x f env (eval x env) = eval x env := by
  cases x with
  | Call a b c d =>
    cases b with
    | nil => simp [notC0] at h
    | cons y ys => cases a <;> rfl
  | _ => rfl
theorem ok_val (h : valX x = true) (whole : Sem Value) : isTrue x env whole = (do let v ← whole; standAt x.pos; holding [v] (truthy v)) := by
  cases x with
  | UnaryOp a b c => cases a <;> first | rfl | (simp [valX] at h)
  | BoolOp => simp [valX] at h
  | IfExp => simp [valX] at h
  | Compare => simp [valX] at h
  | _ => rfl
theorem ok_back : ∀ {xs : List Expr}, xs.all okX = true → ∀ pos, (backTo pos (starEach xs env)).any (·.1) = false
  | [], _, _ => rfl
  | x :: xs, h, pos => by
    simp only [List.all_cons, Bool.and_eq_true] at h
    rw [ok_star h.1]
    show (false || (backTo pos (starEach xs env)).any (·.1)) = false
    rw [ok_back h.2]; rfl
theorem ok_few : ∀ {xs : List Expr}, xs.all okX = true → ∀ pos, (backTo pos (starEach xs env)).all (fun x => !x.1) = true
  | [], _, _ => rfl
  | x :: xs, h, pos => by
    simp only [List.all_cons, Bool.and_eq_true] at h
    rw [ok_star h.1]
    show (!false && (backTo pos (starEach xs env)).all (fun x => !x.1)) = true
    rw [ok_few h.2]; rfl
end

/-! ### rows of expressions -/
inductive PEs (X : Cx) (T : Tx) (φ : Phi) : List Expr → Es → Prop where
  | nil : PEs X T φ [] .nil
  | cons {x : Expr} {e : E} {xs : List Expr} {es : Es} : PE X x (rdP T φ e) → PE X x (rdE T φ e) → okX x = true → PEs X T φ xs es → PEs X T φ (x :: xs) (.cons false e es)
section
variable {X : Cx} {T : Tx} {φ : Phi}
theorem PEs.ok {xs : List Expr} {es : Es} (h : PEs X T φ xs es) : xs.all okX = true := by
  induction h with
  | nil => rfl
  | cons _ _ o _ ih => simp [o, ih]
theorem PEs.pa {xs : List Expr} {es : Es} (h : PEs X T φ xs es) : PA X xs (rdA T φ es) := by
  induction h with
  | nil => exact pa_nil.imp fun σ H Q => rdA_nil
  | cons p _ o _ ih => exact (pa_cons p ih (ok_star o _)).imp fun σ H Q => rdA_cons
theorem PEs.po {xs : List Expr} {es : Es} (h : PEs X T φ xs es) : PA X xs (rdO T φ es) := by
  induction h with
  | nil => exact pa_nil.imp fun σ H Q => rdO_nil
  | cons _ p o _ ih => exact (pa_cons p ih (ok_star o _)).imp fun σ H Q => rdO_cons
/-- a value of a variable read -/
theorem pe_Zof {x : Expr} {e : E} (h : PE X x (rdE T φ e)) : PE X x (rdZ T φ e) := PE.z h
theorem rdP_of {e : E} (h : ∀ i, e ≠ .var i) {x : Expr} (p : PE X x (rdE T φ e)) : PE X x (rdP T φ e) := by
  have : rdP T φ e = rdE T φ e := by
    show rd1 T _ = rd1 T _
    congr 1
    funext env
    exact denP_of h env
  rw [this]; exact p
end

/-! ### operations by their form -/
def callIs (c : Cf) (sc : Scope) (f nm : Str) : Bool := f == nm && isGlb sc f && c.bl.contains f
def tyNames : List String := ["int", "bool", "str", "tuple", "list", "dict"]
def opX (c : Cf) (sc : Scope) : Op → Expr → Option (List Expr)
  | .add, .BinOp a .Add b _ => some [a, b]
  | .sub, .BinOp a .Sub b _ => some [a, b]
  | .mul, .BinOp a .Mult b _ => some [a, b]
  | .fdiv, .BinOp a .FloorDiv b _ => some [a, b]
  | .mod, .BinOp a .Mod b _ => some [a, b]
  | .pow, .BinOp a .Pow b _ => some [a, b]
  | .neg, .UnaryOp .USub a _ => some [a]
  | .eq, .Compare a [.Eq] [b] _ => some [a, b]
  | .isb, .Compare a [.Is] [b] _ => some [a, b]
  | .notb, .Compare a [.IsNot] [b] _ => some [a, b]
  | .ne, .Compare a [.NotEq] [b] _ => some [a, b]
  | .lt, .Compare a [.Lt] [b] _ => some [a, b]
  | .le, .Compare a [.LtE] [b] _ => some [a, b]
  | .gt, .Compare a [.Gt] [b] _ => some [a, b]
  | .ge, .Compare a [.GtE] [b] _ => some [a, b]
  | .isin, .Compare a [.In] [b] _ => some [a, b]
  | .notin, .Compare a [.NotIn] [b] _ => some [a, b]
  | .isN, .Compare a [.Is] [.Constant .none _ _] _ => some [a]
  | .notN, .Compare a [.IsNot] [.Constant .none _ _] _ => some [a]
  | .idx, .Subscript a b _ => some [a, b]
  | .len, .Call (.Name f _) [a] [] _ => if callIs c sc f "len" then some [a] else none
  | .abs, .Call (.Name f _) [a] [] _ => if callIs c sc f "abs" then some [a] else none
  | .int, .Call (.Name f _) [a] [] _ => if callIs c sc f "int" then some [a] else none
  | .max2, .Call (.Name f _) [a, b] [] _ => if callIs c sc f "max" then some [a, b] else none
  | .min2, .Call (.Name f _) [a, b] [] _ => if callIs c sc f "min" then some [a, b] else none
  | .min4, .Call (.Name f _) [a, b, d, e] [] _ => if callIs c sc f "min" then some [a, b, d, e] else none
  | .max3, .Call (.Name f _) [a, b, d] [] _ => if callIs c sc f "max" then some [a, b, d] else none
  | .sum, .Call (.Name f _) [a] [] _ => if callIs c sc f "sum" then some [a] else none
  | .maxL, .Call (.Name f _) [a] [] _ => if callIs c sc f "max" then some [a] else none
  | .minL, .Call (.Name f _) [a] [] _ => if callIs c sc f "min" then some [a] else none
  | .all, .Call (.Name f _) [a] [] _ => if callIs c sc f "all" then some [a] else none
  | .any, .Call (.Name f _) [a] [] _ => if callIs c sc f "any" then some [a] else none
  | .list, .Call (.Name f _) [a] [] _ => if callIs c sc f "list" then some [a] else none
  | .tuple, .Call (.Name f _) [a] [] _ => if callIs c sc f "tuple" then some [a] else none
  | .sorted, .Call (.Name f _) [a] [] _ => if callIs c sc f "sorted" then some [a] else none
  | .repr, .Call (.Name f _) [a] [] _ => if callIs c sc f "repr" then some [a] else none
  | .str, .Call (.Name f _) [a] [] _ => if callIs c sc f "str" then some [a] else none
  | .dict, .Call (.Name f _) [a] [] _ => if callIs c sc f "dict" then some [a] else none
  | .isi [t], .Call (.Name f _) [a, .Name u _] [] _ => if callIs c sc f "isinstance" && callIs c sc u (Str.ofString t) && tyNames.contains t then some [a] else none
  | .lenset, .Call (.Name f _) [.Call (.Name u _) [a] [] _] [] _ => if callIs c sc f "len" && callIs c sc u "set" then some [a] else none
  | .listrange, .Call (.Name f _) [.Call (.Name u _) [a] [] _] [] _ => if callIs c sc f "list" && callIs c sc u "range" then some [a] else none
  | .maxvals, .Call (.Name f _) [.Call (.Attribute a m ap) [] [] cp] [] _ => if callIs c sc f "max" && (m == ("values" : Str)) && notC0 a && (ap.endLine == cp.line) then some [a] else none
  | .listzip, .Call (.Name f _) [.Call (.Name u _) [a, b] [] _] [] _ => if callIs c sc f "list" && callIs c sc u "zip" then some [a, b] else none
  | _, _ => none

section
variable {c : Cf} {T : Tx} {k : Nat} {φ : Phi} {sc : Scope} {X : Cx}
theorem callIs_of (g : Gd c T k φ sc X) {f nm : Str} (h : callIs c sc f nm = true) : f = nm ∧ Gl X f ∧ X.mg f = none := by
  unfold callIs at h
  simp only [Bool.and_eq_true, beq_iff_eq] at h
  obtain ⟨⟨h1, h2⟩, h3⟩ := h
  exact ⟨h1, g.glb h2, g.bl f (by simpa using h3)⟩
theorem bcall {o : Op} {id : String} {x : Str} {p pos : Pos} {y : Expr} {ys : List Expr} {es : Es} (hc : CallR X (.builtin id) (rD T o)) (hg : Gl X x) (hm : X.mg x = none) (hv : bootBuiltins x = some (.builtin id)) (hn : x ≠ "__name__") (hd : (x == ("__debug__" : Str)) = false) (h : PEs X T φ (y :: ys) es) :
    PE X (.Call (.Name x p) (y :: ys) [] pos) (rdE T φ (.op o es)) := by
  have ok := h.ok
  simp only [List.all_cons, Bool.and_eq_true] at ok
  exact (pe_callB hc hg hm hv h.pa hn hd (ok_star ok.1 _) (ok_back ok.2 _)).imp fun σ H Q => rdE_op
theorem tcall {o : Op} {id : String} {x : Str} {p pos : Pos} {y : Expr} {ys : List Expr} {es : Es} (hc : CallR X (.type id) (rD T o)) (hg : Gl X x) (hm : X.mg x = none) (hv : bootBuiltins x = some (.type id)) (hn : x ≠ "__name__") (hd : (x == ("__debug__" : Str)) = false) (h : PEs X T φ (y :: ys) es) :
    PE X (.Call (.Name x p) (y :: ys) [] pos) (rdE T φ (.op o es)) := by
  have ok := h.ok
  simp only [List.all_cons, Bool.and_eq_true] at ok
  exact (pe_callTy hc hg hm hv h.pa hn hd (ok_star ok.1 _) (ok_back ok.2 _)).imp fun σ H Q => rdE_op
theorem bin2 {o : Op} {op : Operator} {a b : Expr} {es : Es} {pos : Pos} (ho : OpR X (binaryOp op) (rB T o)) (h : PEs X T φ [a, b] es) : PE X (.BinOp a op b pos) (rdE T φ (.op o es)) := by
  cases h with
  | cons p1 _ _ h => cases h with
    | cons p2 _ _ h => cases h; exact (pe_op ho p1 p2).imp fun σ H Q => rdE_op2
theorem cmp2 {o : Op} {op : CmpOp} {a b : Expr} {es : Es} {pos : Pos} (ho : OpR X (compareOp op) (rB T o)) (h : PEs X T φ [a, b] es) : PE X (.Compare a [op] [b] pos) (rdE T φ (.op o es)) := by
  cases h with
  | cons p1 _ _ h => cases h with
    | cons p2 _ ok h => cases h; exact (pe_cmpR ho p1 p2 (ok_marks ok _)).imp fun σ H Q => rdE_op2
def rdTE (T : Tx) (φ : Phi) (e : E) : TT := rdT T (denT φ e)
theorem rdT_test {e : E} {σ : L2.St} {H : Hp} {Q : Bool → Hp → Prop} (h : rdTE T φ e σ H Q) : rdE T φ e σ H fun v H1 => ∃ b, v = .bl b ∧ Q b H1 := by
  obtain ⟨G, env, O, b, env', s, e1, k⟩ := h
  simp only [denT, Option.bind_eq_some_iff, Option.map_eq_some_iff, Prod.mk.injEq] at e1
  obtain ⟨⟨d, env1⟩, e1, b', e2, rfl, rfl⟩ := e1
  refine ⟨G, env, O, .v d, env1, s, by simp only [e1, Option.map_some], fun v H' G' O' W A f => ?_⟩
  cases d <;> simp only [boolOf, Option.some.injEq, reduceCtorEq] at e2
  subst e2
  have hv : v = .bl _ := (show PRep T G' H' (.bl _) v from ⟨_, A.ar.one⟩).bl
  exact ⟨_, hv, k H' G' O' A.sr (f.less fun a h => List.mem_append_right _ h)⟩
theorem cmp2T {o : Op} {op : CmpOp} {a b : Expr} {es : Es} {pos : Pos} (ho : OpR X (compareOp op) (rB T o)) (h : PEs X T φ [a, b] es) : PT X (.Compare a [op] [b] pos) (rdTE T φ (.op o es)) := by
  cases h with
  | cons p1 _ _ h => cases h with
    | cons p2 _ ok h => cases h; exact (pt_cmpR ho p1 p2 (ok_marks ok _)).imp fun σ H Q q => rdE_op2 (rdT_test q)
theorem valT {x : Expr} {e : E} (h : PE X x (rdE T φ e)) (hv : valX x = true) : PT X x (rdTE T φ e) := (pt_val h (fun w => ok_val hv w)).imp fun σ H Q q => rdT_test q
/-- both readings of an operation -/
def Both (X : Cx) (T : Tx) (φ : Phi) (x : Expr) (e : E) : Prop := PE X x (rdE T φ e) ∧ PT X x (rdTE T φ e)
theorem both_val {x : Expr} {e : E} (h : PE X x (rdE T φ e)) (hv : valX x = true) : Both X T φ x e := ⟨h, valT h hv⟩
theorem both_cmp {o : Op} {op : CmpOp} {a b : Expr} {es : Es} {pos : Pos} (ho : OpR X (compareOp op) (rB T o)) (h : PEs X T φ [a, b] es) : Both X T φ (.Compare a [op] [b] pos) (.op o es) := ⟨cmp2 ho h, cmp2T ho h⟩
end
end Vi
end
section
set_option maxRecDepth 100000
/-! Vi, part K: targets; walks; comprehensions. -/
namespace Vi
open PySem PySem.Spec PyProof.Rows L2

/-! ### targets -/
mutual
def tgts : T → List Nat
  | .v i => [i]
  | .t ts => tgtss ts
def tgtss : Ts → List Nat
  | .nil => []
  | .cons a r => tgts a ++ tgtss r
end
mutual
def chkT (c : Cf) (sc : Scope) : T → Expr → Bool
  | .v i, .Name y _ => decide (c.N[i]? = some y) && isLoc sc y
  | .t ts, .Tuple xs _ _ => chkTs c sc ts xs
  | _, _ => false
def chkTs (c : Cf) (sc : Scope) : Ts → List Expr → Bool
  | .nil, [] => true
  | .cons a r, x :: xs => chkT c sc a x && chkTs c sc r xs
  | _, _ => false
end
def rdG (T : Tx) (m : D → Ev → Option Ev) (tg : List Nat) : TG := fun v σ H Q => ∃ G env O W d env', AS T G H env σ O [.v d] [v] W ∧ m d env = some env' ∧
  ∀ σ' O', SR T G H env' σ' O' → σ'.length = σ.length → (∀ i, i ∉ tg → σ'[i]? = σ[i]?) → (∀ a, a ∈ O' → a ∈ W ++ O) → Q σ' H
def rdGs (T : Tx) (m : List D → Ev → Option Ev) (tg : List Nat) : TGs := fun vs σ H Q => ∃ G env O ds env', SR T G H env σ O ∧ Reps T G ds vs ∧ m ds env = some env' ∧
  ∀ σ' O', SR T G H env' σ' O' → σ'.length = σ.length → (∀ i, i ∉ tg → σ'[i]? = σ[i]?) → (∀ a, a ∈ O' → a ∈ O) → Q σ' H
theorem _root_.L2.PG.imp {X : Cx} {x : Expr} {t t' : TG} (h : PG X x t) (i : ∀ v σ H Q, t' v σ H Q → t v σ H Q) : PG X x t' := ⟨fun pins s σ H v u Q I r q => h.run pins s σ H v u Q I r (i v σ H Q q)⟩
theorem _root_.L2.PGs.imp {X : Cx} {x : List Expr} {t t' : TGs} (h : PGs X x t) (i : ∀ v σ H Q, t' v σ H Q → t v σ H Q) : PGs X x t' := ⟨fun pins s σ H v u Q I r q => h.run pins s σ H v u Q I r (i v σ H Q q)⟩
theorem _root_.L2.PG.or {X : Cx} {x : Expr} {t t' : TG} (h : PG X x t) (h' : PG X x t') : PG X x (fun v σ H Q => t v σ H Q ∨ t' v σ H Q) := ⟨fun pins s σ H v u Q I r q => q.elim (h.run pins s σ H v u Q I r) (h'.run pins s σ H v u Q I r)⟩
theorem _root_.L2.PI.imp {X : Cx} {tg x : Expr} {t t' : TI} (h : PI X tg x t) (i : ∀ σ H R, t' σ H R → t σ H R) : PI X tg x t' := ⟨fun pins s σ H R I q => h.run pins s σ H R I (i σ H R q)⟩
theorem _root_.L2.PI.or {X : Cx} {tg x : Expr} {t t' : TI} (h : PI X tg x t) (h' : PI X tg x t') : PI X tg x (fun σ H R => t σ H R ∨ t' σ H R) := ⟨fun pins s σ H R I q => q.elim (h.run pins s σ H R I) (h'.run pins s σ H R I)⟩
theorem asg_cons {c : Cf} {sc : Scope} {env : Env} {a : Vi.T} {x : Expr} (h : chkT c sc a x = true) (xs : List Expr) : assignEach (x :: xs) env = (false, assign x env) :: assignEach xs env := by
  cases x <;> first | rfl | (cases a <;> simp [chkT] at h)
theorem asg_len {c : Cf} {sc : Scope} {env : Env} : ∀ {ts : Ts} {xs : List Expr}, chkTs c sc ts xs = true → (assignEach xs env).length = xs.length ∧ (assignEach xs env).findIdx? (·.1) = none
  | .nil, [], _ => ⟨rfl, rfl⟩
  | .cons a r, x :: xs, h => by
    simp only [chkTs, Bool.and_eq_true] at h
    obtain ⟨h1, h2⟩ := asg_len (env := env) h.2
    rw [asg_cons h.1]
    refine ⟨by simp [h1], ?_⟩
    rw [List.findIdx?_cons]
    simp [h2]
  | .nil, _ :: _, h => by simp [chkTs] at h
  | .cons _ _, [], h => by simp [chkTs] at h
section
variable {c : Cf} {T : Tx} {k : Nat} {φ : Phi} {sc : Scope} {X : Cx}
theorem bindTs_len {pin : List Nat} : ∀ {ts : Ts} {xs : List Expr} {ds : List D} {env env' : Ev}, chkTs c sc ts xs = true → bindTs pin ts ds env = some env' → ds.length = xs.length
  | .nil, [], [], _, _, _, _ => rfl
  | .cons a r, x :: xs, d :: ds, env, env', h, e => by
    simp only [chkTs, Bool.and_eq_true] at h
    simp only [bindTs, Option.bind_eq_some_iff] at e
    obtain ⟨e1, _, e⟩ := e
    simp [bindTs_len h.2 e]
  | .nil, [], _ :: _, _, _, _, e => by simp [bindTs] at e
  | .cons _ _, _ :: _, [], _, _, _, e => by simp [bindTs] at e
  | .nil, _ :: _, _, _, _, h, _ => by simp [chkTs] at h
  | .cons _ _, [], _, _, _, h, _ => by simp [chkTs] at h
mutual
theorem pgT (g : Gd c T k φ sc X) (pin : List Nat) : ∀ {tg : Vi.T} {x : Expr}, chkT c sc tg x = true → PG X x (rdG T (bindT pin tg) (tgts tg))
  | .v i, x, h => by
    cases x <;> simp only [chkT, Bool.false_eq_true, Bool.and_eq_true, decide_eq_true_eq] at h
    obtain ⟨h1, h2⟩ := h
    obtain ⟨l1, l2⟩ := g.loc h2
    refine (pg_name (i := i) g.nX (by rw [g.hN]; exact h1) l1 l2).imp fun v σ H Q q => ?_
    obtain ⟨G, env, O, W, d, env', A, e, k⟩ := q
    simp only [bindT] at e
    split at e
    · cases e
    · rename_i hp
      cases e
      have hi : i < env.length := by omega
      obtain ⟨O', s', sub⟩ := A.put hi
      exact k _ O' s' (by simp) (fun j hj => by simp only [tgts, List.mem_singleton] at hj; exact List.getElem?_set_ne (Ne.symm hj)) sub
  | .t ts, x, h => by
    cases x <;> simp only [chkT, Bool.false_eq_true] at h
    rename_i es kk pos
    have ps := pgTs g pin h
    obtain ⟨n1, n2⟩ := asg_len (env := X.env) h
    refine ((pg_tup g.calm ps n1 n2).or (pg_unl g.calm ps n1 n2)).imp fun v σ H Q q => ?_
    obtain ⟨G, env, O, W, d, env', A, e, k⟩ := q
    simp only [bindT, Option.bind_eq_some_iff] at e
    obtain ⟨xs, e1, e2⟩ := e
    have pr : PRep T G H d v := ⟨_, A.ar.one⟩
    have hl := bindTs_len h e2
    have fin : ∀ ys, Reps T G xs ys → rdGs T (bindTs pin ts) (tgtss ts) ys σ H Q := fun ys ry =>
      ⟨G, env, O, xs, env', A.sr, ry, e2, fun σ' O' s' l1 l2 sub => k σ' O' s' l1 l2 fun a ha => List.mem_append_right _ (sub a ha)⟩
    unfold itemsOf at e1
    split at e1
    · cases e1
      obtain ⟨a, ys, rfl, h1, ry, _⟩ := pr.lst A.sr.gs
      exact .inr ⟨a, ys, rfl, .of h1, by rw [← ry.length]; exact hl, fin ys ry⟩
    · cases e1
      obtain ⟨a, ys, rfl, h1, ry, _⟩ := pr.tup A.sr.gs
      exact .inl ⟨a, ys, rfl, .of h1, by rw [← ry.length]; exact hl, fin ys ry⟩
    · cases e1
theorem pgTs (g : Gd c T k φ sc X) (pin : List Nat) : ∀ {ts : Ts} {xs : List Expr}, chkTs c sc ts xs = true → PGs X xs (rdGs T (bindTs pin ts) (tgtss ts))
  | .nil, [], _ => pgs_nil.imp fun vs σ H Q q => by
    obtain ⟨G, env, O, ds, env', s, r, e, k⟩ := q
    cases ds with
    | nil => cases r; simp only [bindTs, Option.some.injEq] at e; subst e; exact ⟨rfl, k σ O s rfl (fun _ _ => rfl) fun _ h => h⟩
    | cons => simp [bindTs] at e
  | .cons a r, x :: xs, h => by
    simp only [chkTs, Bool.and_eq_true] at h
    refine (pgs_cons (pgT g pin h.1) (pgTs g pin h.2) (by rw [asg_cons h.1]; rfl)).imp fun vs σ H Q q => ?_
    obtain ⟨G, env, O, ds, env', s, rr, e, k⟩ := q
    cases ds with
    | nil => simp [bindTs] at e
    | cons d ds =>
      simp only [bindTs, Option.bind_eq_some_iff] at e
      obtain ⟨env1, e1, e2⟩ := e
      cases rr with
      | @cons _ v _ vs rd rs =>
        refine ⟨v, vs, rfl, G, env, O, [], d, env1, ⟨s, .one' (.frz rd), .nil, by simp, by simp⟩, e1, fun σ1 O1 s1 l1 k1 sub1 => ?_⟩
        refine ⟨G, env1, O1, ds, env', s1, rs, e2, fun σ2 O2 s2 l2 k2 sub2 => k σ2 O2 s2 (l2.trans l1) (fun i hi => ?_) fun a ha => by simpa using sub1 a (sub2 a ha)⟩
        simp only [tgtss, List.mem_append, not_or] at hi
        rw [k2 i hi.2, k1 i hi.1]
  | .nil, _ :: _, h => by simp [chkTs] at h
  | .cons _ _, [], h => by simp [chkTs] at h
end
end

/-! ### walks -/
structure ItOk (T : Tx) (J : It) (xs : List D) (G0 H0 : Hp) (W : List Addr) : Prop where
  go : ∀ i G H, GSub G0 G → (∀ a ∈ W, H a = H0 a) → GSub G H → i < xs.length → J.go i H
  stop : ∀ i G H, GSub G0 G → (∀ a ∈ W, H a = H0 a) → GSub G H → xs.length ≤ i → J.stop i H
  yld : ∀ i G H x H', GSub G0 G → (∀ a ∈ W, H a = H0 a) → GSub G H → i < xs.length → J.yld i H x H' → ∃ G' d, xs[i]? = some d ∧ Rep T G' d x ∧ Fm G H [] G' H' [] ∧ GSub G' H'
def HidOk (T : Tx) (G H : Hp) (σ : L2.St) (W : List Addr) : Hid → Prop
  | none => True
  | some (i, d) => ∃ v, σ[i]? = some (some v) ∧ RepO T G H d v W
def rdI (T : Tx) (φ : Phi) (it : I) : TI := fun σ H R => ∃ G env O xs hid env', SR T G H env σ O ∧ denI φ it env = some (xs, hid, env') ∧
  ∀ J H' G' O' W, SR T G' H' env' σ O' → ItOk T J xs G' H' W → W.Nodup → (∀ a ∈ W, a ∉ O') → (∀ a ∈ W, G' a = none) → (∀ a ∈ W, ∃ u, H' a = some u) → HidOk T G' H' σ W hid → Fm G H O G' H' (W ++ O') → R J H'
section
variable {T : Tx} {G0 H0 : Hp} {W : List Addr}
theorem ok_itl {K : PySem.W.Frag} {a : Addr} {vs : List V} {xs : List D} (r : Reps T G0 xs vs) (hs : ∀ G H, GSub G0 G → (∀ a ∈ W, H a = H0 a) → GSub G H → SqL K H a vs) (inj : ∀ H ys, SqL K H a vs → SqL K H a ys → True := by intros; trivial) : ItOk T (Itl K a) xs G0 H0 W where
  go := fun i G H g w gs hi => ⟨vs, vs[i]'(by rw [← r.length]; exact hi), hs G H g w gs, by simp⟩
  stop := fun i G H g w gs hi => ⟨vs, hs G H g w gs, by rw [← r.length]; exact hi⟩
  yld := fun i G H x H' g w gs hi y => by
    obtain ⟨rfl, y⟩ := y
    have e := y vs (hs G H' g w gs)
    obtain ⟨d, e2, rd⟩ := r.get' e
    exact ⟨G, d, e2, rd.mono g, Fm.refl _ _ _, gs⟩
theorem ok_itt {K : PySem.W.Frag} {a : Addr} {vs : List V} {xs : List D} (r : Reps T G0 xs vs) (hs : ∀ G H, GSub G0 G → (∀ a ∈ W, H a = H0 a) → GSub G H → SqT K H a vs) : ItOk T (Itt K a) xs G0 H0 W where
  go := fun i G H g w gs hi => ⟨vs, vs[i]'(by rw [← r.length]; exact hi), hs G H g w gs, by simp⟩
  stop := fun i G H g w gs hi => ⟨vs, hs G H g w gs, by rw [← r.length]; exact hi⟩
  yld := fun i G H x H' g w gs hi y => by
    obtain ⟨rfl, y⟩ := y
    have e := y vs (hs G H' g w gs)
    obtain ⟨d, e2, rd⟩ := r.get' e
    exact ⟨G, d, e2, rd.mono g, Fm.refl _ _ _, gs⟩
theorem ok_its {s : Str} : ItOk T (Its s) (s.cps.toList.map fun c => .str ⟨#[c]⟩) G0 H0 W where
  go := fun i G H g w gs hi => by show i < s.cps.size; simpa using hi
  stop := fun i G H g w gs hi => by show s.cps.size ≤ i; simpa using hi
  yld := fun i G H x H' g w gs hi y => by
    obtain ⟨rfl, c, hc, rfl⟩ := y
    refine ⟨G, .str ⟨#[c]⟩, ?_, .str _, Fm.refl _ _ _, gs⟩
    rw [List.getElem?_map, Array.getElem?_toList, hc]; rfl
theorem ok_itr {lo : Int} {n : Nat} : ItOk T (Itr lo n) ((List.range n).map fun k => .int (lo + (k : Nat))) G0 H0 W where
  go := fun i G H g w gs hi => by show i < n; simpa using hi
  stop := fun i G H g w gs hi => by show n ≤ i; simpa using hi
  yld := fun i G H x H' g w gs hi y => by
    obtain ⟨rfl, rfl⟩ := y
    refine ⟨G, .int (lo + (i : Nat)), ?_, .int _, Fm.refl _ _ _, gs⟩
    simp only [List.length_map, List.length_range] at hi
    rw [List.getElem?_map, List.getElem?_range hi]; rfl
theorem ok_itc {lo : Int} {n : Nat} : ItOk T (Itc lo (-1) n) ((List.range n).map fun k => .int (lo - (k : Nat))) G0 H0 W where
  go := fun i G H g w gs hi => by show i < n; simpa using hi
  stop := fun i G H g w gs hi => by show n ≤ i; simpa using hi
  yld := fun i G H x H' g w gs hi y => by
    obtain ⟨rfl, rfl⟩ := y
    refine ⟨G, .int (lo + (i : Nat) * (-1)), ?_, .int _, Fm.refl _ _ _, gs⟩
    simp only [List.length_map, List.length_range] at hi
    rw [List.getElem?_map, List.getElem?_range hi]
    show some (D.int _) = some (D.int _)
    congr 2
    omega
theorem ok_itk {a : Addr} {o : Obj} {kvs : List (Key × V)} {ds : List (Key × D)} (h : G0 a = some (.frz o (.dK kvs))) (r : RepK T G0 ds kvs) : ItOk T (Itk a o kvs) (ds.map fun kv => ofKey kv.1) G0 H0 W where
  go := fun i G H g w gs hi => ⟨gs _ _ (g _ _ h), by rw [List.length_map, r.length] at hi; exact hi⟩
  stop := fun i G H g w gs hi => ⟨gs _ _ (g _ _ h), by rw [List.length_map, r.length] at hi; exact hi⟩
  yld := fun i G H x H' g w gs hi y => by
    obtain ⟨rfl, k, v, e, rfl⟩ := y
    refine ⟨G, ofKey k, ?_, ?_, Fm.refl _ _ _, gs⟩
    · have e1 : (ds.map (·.1))[i]? = some k := by rw [r.keys, List.getElem?_map, e]; rfl
      rw [List.getElem?_map] at e1 ⊢
      cases e2 : ds[i]? with
      | none => rw [e2] at e1; cases e1
      | some p => rw [e2] at e1; cases e1; rfl
    · cases k with
      | inl z => exact .int z
      | inr z => exact .str z
theorem RepK.at {G0 : Hp} {ds : List (Key × D)} {kvs : List (Key × V)} (r : RepK T G0 ds kvs) : ∀ {i : Nat} {k : Key} {v : V}, kvs[i]? = some (k, v) → ∃ d, ds[i]? = some (k, d) ∧ Rep T G0 d v := by
  induction ds generalizing kvs with
  | nil => cases r; intro i k v e; simp at e
  | cons p ds ih =>
    cases r with
    | @cons k' d' v' _ vs r1 r2 =>
      intro i k v e
      cases i with
      | zero => simp at e; obtain ⟨rfl, rfl⟩ := e; exact ⟨d', rfl, r1⟩
      | succ i => simp at e; obtain ⟨d, h1, h2⟩ := ih r2 e; exact ⟨d, by simpa using h1, h2⟩
theorem Fm.newT {G H : Hp} {a : Addr} (gs : GSub G H) (ha : H a = none) (vs : List V) : Fm G H [] (upd G a (.tup vs)) (upd H a (.tup vs)) [] := Fm.newG gs ha _
theorem ok_iti {a : Addr} {o : Obj} {kvs : List (Key × V)} {ds : List (Key × D)} (h : G0 a = some (.frz o (.dK kvs))) (r : RepK T G0 ds kvs) : ItOk T (Iti a o kvs) (ds.map fun kv => .tup [ofKey kv.1, kv.2]) G0 H0 W where
  go := fun i G H g w gs hi => ⟨gs _ _ (g _ _ h), by rw [List.length_map, r.length] at hi; exact hi⟩
  stop := fun i G H g w gs hi => ⟨gs _ _ (g _ _ h), by rw [List.length_map, r.length] at hi; exact hi⟩
  yld := fun i G H x H' g w gs hi y => by
    obtain ⟨b, k, v, e, rfl, hb, rfl⟩ := y
    have q := r.at e
    obtain ⟨d, e1, rd⟩ := q
    refine ⟨upd G b (.tup [kV k, v]), .tup [ofKey k, d], ?_, ?_, Fm.newT gs hb _, gs.upds b _⟩
    · rw [List.getElem?_map, e1]; rfl
    · refine .tup upd_same (.cons ?_ (.cons (rd.mono (g.trans (.updr (gs.non hb) _))) .nil)) (by show 2 ≤ line; decide)
      cases k with
      | inl z => exact .int z
      | inr z => exact .str z
theorem numbered_get : ∀ (xs : List D) (n i : Nat), (numbered n xs)[i]? = xs[i]?.map fun d => .tup [.int ((n + i : Nat) : Int), d]
  | [], _, _ => by simp [numbered]
  | x :: xs, n, 0 => by simp [numbered]
  | x :: xs, n, i + 1 => by
    simp only [numbered, List.getElem?_cons_succ]
    rw [numbered_get xs (n + 1) i]
    congr 1
    funext d
    congr 4
    omega
theorem numbered_len (xs : List D) : ∀ n, (numbered n xs).length = xs.length := by
  induction xs with
  | nil => intro n; rfl
  | cons x xs ih => intro n; simp [numbered, ih]
theorem ok_ite {K : PySem.W.Frag} {a : Addr} {vs : List V} {xs : List D} (r : Reps T G0 xs vs) (hs : ∀ G H, GSub G0 G → (∀ a ∈ W, H a = H0 a) → GSub G H → SqL K H a vs) : ItOk T (Ite K a) (numbered 0 xs) G0 H0 W where
  go := fun i G H g w gs hi => ⟨vs, vs[i]'(by rw [← r.length, ← numbered_len xs 0]; exact hi), hs G H g w gs, by simp⟩
  stop := fun i G H g w gs hi => ⟨vs, hs G H g w gs, by rw [← r.length, ← numbered_len xs 0]; exact hi⟩
  yld := fun i G H x H' g w gs hi y => by
    obtain ⟨b, v, rfl, hb, rfl, y⟩ := y
    have e := y vs (hs G H g w gs)
    obtain ⟨d, e2, rd⟩ := r.get' e
    refine ⟨upd G b (.tup [.int (i : Nat), v]), .tup [.int ((0 + i : Nat) : Int), d], ?_, ?_, Fm.newT gs hb _, gs.upds b _⟩
    · rw [numbered_get, e2]; rfl
    · rw [Nat.zero_add]
      exact .tup upd_same (.cons (.int _) (.cons (rd.mono (g.trans (.updr (gs.non hb) _))) .nil)) (by show 2 ≤ line; decide)
theorem zipD_get : ∀ (xs ys : List D) (i : Nat) (x y : D), xs[i]? = some x → ys[i]? = some y → (zipD xs ys)[i]? = some (.tup [x, y])
  | x :: xs, y :: ys, 0, _, _, e1, e2 => by simp at e1 e2; subst e1 e2; simp [zipD]
  | x :: xs, y :: ys, i + 1, _, _, e1, e2 => by simp at e1 e2; simp [zipD]; exact zipD_get xs ys i _ _ e1 e2
  | [], _, _, _, _, e1, _ => by simp at e1
  | _ :: _, [], _, _, _, _, e2 => by simp at e2
theorem zipD_len : ∀ (xs ys : List D), (zipD xs ys).length = min xs.length ys.length
  | [], _ => by simp [zipD]
  | _ :: _, [] => by simp [zipD]
  | x :: xs, y :: ys => by simp [zipD, zipD_len xs ys]
theorem ok_itz {K : PySem.W.Frag} {a b : Addr} {vs us : List V} {xs ys : List D} (r : Reps T G0 xs vs) (r' : Reps T G0 ys us) (hs : ∀ G H, GSub G0 G → (∀ a ∈ W, H a = H0 a) → GSub G H → SqL K H a vs ∧ SqL K H b us) : ItOk T (Itz K a b) (zipD xs ys) G0 H0 W where
  go := fun i G H g w gs hi => by
    rw [zipD_len] at hi
    obtain ⟨h1, h2⟩ := hs G H g w gs
    have q1 : i < vs.length := by rw [← r.length]; omega
    have q2 : i < us.length := by rw [← r'.length]; omega
    exact ⟨vs, us, vs[i], us[i], h1, h2, by simp, by simp⟩
  stop := fun i G H g w gs hi => by
    rw [zipD_len] at hi
    obtain ⟨h1, h2⟩ := hs G H g w gs
    refine ⟨vs, us, h1, h2, ?_⟩
    rw [← r.length, ← r'.length]
    omega
  yld := fun i G H x H' g w gs hi y => by
    obtain ⟨t, v, u, rfl, ht, rfl, y1, y2⟩ := y
    obtain ⟨h1, h2⟩ := hs G H g w gs
    obtain ⟨d, e1, rd⟩ := r.get' (y1 vs h1)
    obtain ⟨d', e2, rd'⟩ := r'.get' (y2 us h2)
    have up : GSub G (upd G t (.tup [v, u])) := .updr (gs.non ht) _
    exact ⟨upd G t (.tup [v, u]), .tup [d, d'], zipD_get _ _ _ _ _ e1 e2, .tup upd_same (.cons (rd.mono (g.trans up)) (.cons (rd'.mono (g.trans up)) .nil)) (by show 2 ≤ line; decide), Fm.newT gs ht _, gs.upds t _⟩
theorem ok_itzT {K : PySem.W.Frag} {a b : Addr} {vs us : List V} {xs ys : List D} (r : Reps T G0 xs vs) (r' : Reps T G0 ys us) (hs : ∀ G H, GSub G0 G → (∀ a ∈ W, H a = H0 a) → GSub G H → SqT K H a vs ∧ SqT K H b us) : ItOk T (RZ.ItzT K a b) (zipD xs ys) G0 H0 W where
  go := fun i G H g w gs hi => by
    rw [zipD_len] at hi
    obtain ⟨h1, h2⟩ := hs G H g w gs
    have q1 : i < vs.length := by rw [← r.length]; omega
    have q2 : i < us.length := by rw [← r'.length]; omega
    exact ⟨vs, us, vs[i], us[i], h1, h2, by simp, by simp⟩
  stop := fun i G H g w gs hi => by
    rw [zipD_len] at hi
    obtain ⟨h1, h2⟩ := hs G H g w gs
    refine ⟨vs, us, h1, h2, ?_⟩
    rw [← r.length, ← r'.length]
    omega
  yld := fun i G H x H' g w gs hi y => by
    obtain ⟨t, v, u, rfl, ht, rfl, y1, y2⟩ := y
    obtain ⟨h1, h2⟩ := hs G H g w gs
    obtain ⟨d, e1, rd⟩ := r.get' (y1 vs h1)
    obtain ⟨d', e2, rd'⟩ := r'.get' (y2 us h2)
    have up : GSub G (upd G t (.tup [v, u])) := .updr (gs.non ht) _
    exact ⟨upd G t (.tup [v, u]), .tup [d, d'], zipD_get _ _ _ _ _ e1 e2, .tup upd_same (.cons (rd.mono (g.trans up)) (.cons (rd'.mono (g.trans up)) .nil)) (by show 2 ≤ line; decide), Fm.newT gs ht _, gs.upds t _⟩
end
end Vi
end
section
set_option maxRecDepth 100000
set_option maxHeartbeats 1000000
/-! Vi, part Lt: enumerate of a tuple (own text). -/
namespace Vi.Lt
open PySem PySem.Spec PyProof.Rows L2
theorem meets_enumT {v : Value} {o : Obj} {H : Heap → Prop} (B : Begins v o H) :
    Meets (Builtin.«enumerate.__new__» ⟨[.type "enumerate", v], []⟩) (fun _ R s => H s.heap ∧
      R (.ok (.ret (.ref (s.heap.push o).objs.size))) { s with heap := (s.heap.push o).push { cls := .type "enumerate", data := .fields #[.none, .bool false, .ref s.heap.objs.size, rawInt 0, .none, .none] } }) :=
  .of_wp fun prog w A R s h => by
    obtain ⟨hp, gg, dd, tk, oo⟩ := s
    obtain ⟨h1, h⟩ := h
    have hsub := sub_enumerate
    have qq : ∀ {A' : Around} {E : Value → Shared → Prop} {Q : Value → Shared → Prop}, Q (.ref hp.objs.size) ⟨hp.push o, gg, dd, tk, oo⟩ → wpAny (model prog w) A' (pyIter v) Q E ⟨hp, gg, dd, tk, oo⟩ :=
      fun q => B.iter prog w _ _ ⟨hp, gg, dd, tk, oo⟩ _ h1 q
    wp_walk using qq
    refine wpAny_stack_any fun st => wpAny_pure ?_
    split
    · rename_i c _ _ _ _ _
      cases (c == Value.type "enumerate") <;> (wp_walk using qq; exact ⟨_, rfl, h⟩)
    · wp_walk using qq
      exact ⟨_, rfl, h⟩
section
variable {prog : Program} {w : World} {A : Around} {E : Value → Shared → Prop} {s : Shared}
theorem call_enumT {v : Value} {o : Obj} {H : Heap → Prop} {Q : Value → Shared → Prop} (B : Begins v o H) (h1 : H s.heap)
    (h : ∀ h', IsEnum h' (s.heap.objs.size + 1) s.heap.objs.size 0 .none → h'.get? s.heap.objs.size = some o → h'.objs.size = s.heap.objs.size + 2 →
      (∀ b o, s.heap.get? b = some o → h'.get? b = some o) → Q (.ref (s.heap.objs.size + 1)) { s with heap := h' }) :
    wpAny (model prog w) A (call (.type "enumerate") [v]) Q E s := by
  refine callType_new PySem.F.called_enumerate (by decide) (PySem.F.typeCall_enumerate_1 _) (PySem.F.newCall_enumerate_1 _) (fun obj => PySem.F.args_object_init_2 obj _) PySem.F.entry_enumerate_new (meets_enumT B) ⟨h1, ?_⟩
  have hz : (s.heap.push o).objs.size = s.heap.objs.size + 1 := Heap.size_push ..
  show _ ∧ _
  have he := Heap.get?_push_size (s.heap.push o) (o := { cls := .type "enumerate", data := .fields #[.none, .bool false, .ref s.heap.objs.size, rawInt 0, .none, .none] }) rfl
  rw [hz] at he ⊢
  exact ⟨⟨_, he, rfl⟩, h _ he (Heap.get?_push_of_some _ (Heap.get?_push_size _ B.free)) (by rw [Heap.size_push, hz]) fun b o x => Heap.get?_push_of_some _ (Heap.get?_push_of_some _ x)⟩
end
/-- the tuple at a, each item in a new pair -/
def IteT (K : PySem.W.Frag) (a : Addr) : It :=
  ⟨fun i H => ∃ (xs : List V) (x : V), SqT K H a xs ∧ xs[i]? = some x, fun i H v H' => ∃ T x, v = .ref T ∧ H T = none ∧ H' = upd H T (.tup [.int (i : Nat), x]) ∧ ∀ xs, SqT K H a xs → xs[i]? = some x, fun i H => ∃ xs : List V, SqT K H a xs ∧ xs.length ≤ i⟩
theorem turn_enumT {P : Program} {w : World} {K : PySem.W.Frag} {elts : List Expr} {kk : Nat} {tpos : Pos} (a e it : Addr) :
    Turn P w K (.Tuple elts kk tpos) (IteT K a) [e, it] e (fun i h => (∃ old, IsEnum h e it ((i : Nat) : Int) old) ∧ h.IsTupleIter it a i ∧ e ≠ it ∧ a ≠ it ∧ e ≠ a) where
  mem := by simp
  obj := fun i h st b hb => by
    obtain ⟨⟨old, he⟩, ⟨o, ho, hc, hd⟩, _⟩ := st
    rcases (show b = e ∨ b = it by simpa using hb) with z | z
    · rw [z]; exact ⟨_, he, fun v q => nomatch q⟩
    · rw [z]; exact ⟨o, ho, fun v q => by rw [hd] at q; cases q⟩
  keep := fun i h h' st k => let ⟨⟨old, he⟩, hi, hne⟩ := st; ⟨⟨old, k e (by simp) _ he⟩, hi.at fun o q => k it (by simp) o q, hne⟩
  item := by
    intro X hP hw hK hc i pins s σ H E I hf st hg
    subst hP hw hK
    obtain ⟨⟨old, he⟩, hit, n1, n2, n3⟩ := st
    obtain ⟨xs, x, hq, hx⟩ := hg
    obtain ⟨us, rv, p, hz⟩ := I.tuple hq
    obtain ⟨u, hu, ru⟩ := rv.get hx
    have hel : e < s.heap.objs.size := Heap.lt_size he
    have hil : it < s.heap.objs.size := by obtain ⟨_, q, _⟩ := hit; exact Heap.lt_size q
    have hlt : i < us.toArray.size := by
      rcases Nat.lt_or_ge i us.toArray.size with h | h
      · exact h
      · simp at h; simp [List.getElem?_eq_none h] at hu
    refine wpAny_pyNext_enum_itemC (Draws.tuple (prog := X.prog) (w := X.w) (A := X.A.in1) (I.ok.hd hc) it a n2 us.toArray) he ⟨hit, p⟩ hlt n1 (by simp [n1, n3]) fun y h' tk py ho st' hT hsz hk => ?_
    have ey : y = u := by simp only [List.getElem?_toArray, hu, Option.some.injEq] at py; exact py.symm
    subst ey
    refine ⟨_, rfl, wpAny_letOwnedTupleGo_enum (s := { s with heap := h', toks := tk + 1 }) ho fun h'' he' sb => ?_⟩
    have hT2 : h''.get? s.heap.objs.size = some { cls := .type "tuple", data := .seq #[.int i tk, y] } := (sb.2 _ (Nat.ne_of_gt hel)).trans hT
    have new : ObjOk X.prog X.w (upd H s.heap.objs.size (.tup [.int (i : Nat), x])) h'' s.heap.objs.size (.tup [.int (i : Nat), x]) :=
      ⟨by show 2 ≤ sizeLine; decide, [.int i tk, y], .cons ⟨_, rfl⟩ (.cons ru .nil), ⟨_, hT2, rfl, _, rfl⟩⟩
    have I1 : Inv X pins σ (upd H s.heap.objs.size (.tup [.int (i : Nat), x])) { s with heap := h'', toks := tk + 1 } :=
      I.turnedNew (ch := [e, it]) (fun b ob hb q => (sb.2 b (fun z => hb (by simp [z]))).trans (hk b ob (fun z => hb (by simp [z])) (fun z => hb (by simp [z])) q)) hf (Nat.le_refl _) new
    refine ⟨.ref s.heap.objs.size, _, I1, rfl, ⟨_, x, rfl, I.hok.fresh (Nat.le_refl _), rfl, fun ys hy => by rw [I.tuple_inj hy hq]; exact hx⟩, ⟨⟨y, ?_⟩, st'.1.at fun o q => (sb.2 it (Ne.symm n1)).trans q, n1, n2, n3⟩, fun b hb => ?_⟩
    · rw [show ((i + 1 : Nat) : Int) = (i : Int) + 1 by omega]
      exact he'
    · have hb' : b < s.heap.objs.size := by
        rcases (show b = e ∨ b = it by simpa using hb) with z | z
        · rw [z]; exact hel
        · rw [z]; exact hil
      rw [upd_ne (Nat.ne_of_lt hb')]
      exact (hf b hb).1
  done := by
    intro X hP hw hK hc i pins s σ H E I hf st hg
    subst hP hw hK
    obtain ⟨⟨old, he⟩, hit, n1, n2, n3⟩ := st
    obtain ⟨xs, hq, hx⟩ := hg
    obtain ⟨us, rv, p, hz⟩ := I.tuple hq
    obtain ⟨f0, f1, f2, f3, f4, f5⟩ := hf it (by simp)
    have hl := rv.length
    have hi : us.toArray[i]? = none := by simp; omega
    have hty : s.TypeIs (.ref e) "enumerate" := ⟨_, he, rfl⟩
    have fin : ∀ h', Heap.ExtBut it s.heap h' → (none : Option Value) = none ∧ Inv X pins σ H { s with heap := h' } := fun h' eb => ⟨rfl, I.turned (t' := s.toks) (fun b o hb q => eb b o hb q) f0 f1 f3 f4 f5⟩
    unfold pyNext
    refine wpAny_bind (wpAny_attempt (wpAny_callSpecial?_slot (name := Str.ofString "__next__") hty PySem.F.slot_enumerate_next
      (wpAny_call_entry PySem.F.slot_enumerate_next hty PySem.F.entry_enumerate_next ?_ (PySem.F.args_enumerate_next_1 _))))
    show wpAny _ _ (field (.ref e) 2 >>= _) _ _ _
    refine wpAny_bind (wpAny_field he rfl (x := .ref it) rfl ?_)
    refine wpAny_bind (wpAny_nextOf_tuple_end (I.ok.hd hc) hit p hi fun h' x he' hx' => ?_)
    obtain ⟨o, ho, hcc⟩ := hx'
    refine wpAny_bind (wpAny_isInstance (T := "StopIteration") (b := true) ⟨o, ho, hcc⟩ isSubtype_stop ?_)
    exact wpAny_pure (fin _ he')
  self := fun A i s Q E st h => let ⟨⟨_, he⟩, _⟩ := st; wpAny_pyIter_enum he h
def iEnumT (K : PySem.W.Frag) (ta : TA) : TI := fun σ H R => ta σ H fun vs H1 => ∃ a xs, vs = [.ref a] ∧ SqT K H1 a xs ∧ R (IteT K a) H1
theorem pi_enumT {X : Cx} {e : Expr} {ta : TA} {p pos tpos : Pos} {elts : List Expr} {kk : Nat} (hg : Gl X "enumerate") (hm : X.mg "enumerate" = none) (ha : PA X [e] ta) (hs : starEach [e] X.env = [(false, eval e X.env)]) :
    PI X (.Tuple elts kk tpos) (.Call (.Name "enumerate" p) [e] [] pos) (iEnumT X.K ta) := by
  refine ⟨fun pins s σ H R I h => ?_⟩
  refine Call_ (ld_blt I hg hm boot_enumerate (PyProof.Rows.callWith_type1 (thn (ha.run pos pins s σ H _ I h) fun us s1 ⟨vs, H1, I1, r1, q1⟩ => ?_) hs rfl))
  obtain ⟨a, xs, ex, hq, q⟩ := q1
  subst ex
  cases r1 with
  | cons r rr =>
    cases rr
    cases r
    obtain ⟨its, rv, pp, hz⟩ := I1.tuple hq
    have p2 : s1.heap.IsTuple a its.toArray := pp
    obtain ⟨o1, ho1, _⟩ := id p2
    have la : a < s1.heap.objs.size := Heap.lt_size ho1
    refine call_enumT (begins_tuple a its.toArray) p2 fun h' he hit hsz hk => wpAny_pyIter_enum he ?_
    have I2 : Inv X pins σ H1 { s1 with heap := h' } := I1.kept (t' := s1.toks) hk
    refine ⟨s1.heap.objs.size + 1, [s1.heap.objs.size + 1, s1.heap.objs.size], _, _, H1, rfl, I2, turn_enumT a (s1.heap.objs.size + 1) s1.heap.objs.size, ⟨⟨.none, he⟩, ⟨_, hit, rfl, rfl⟩, Nat.succ_ne_self _, Nat.ne_of_lt la, Nat.ne_of_gt (Nat.lt_succ_of_lt la)⟩, fun b hb => ?_, q⟩
    have hle : s1.heap.objs.size ≤ b := by
      rcases (show b = s1.heap.objs.size + 1 ∨ b = s1.heap.objs.size by simpa using hb) with z | z
      · rw [z]; exact Nat.le_add_right _ _
      · rw [z]; exact Nat.le_refl _
    exact I1.fpOk hle (I1.hok.fresh hle)
end Vi.Lt
namespace Vi
open PySem PySem.Spec PyProof.Rows L2
section
variable {T : Tx} {G0 H0 : Hp} {W : List Addr}
theorem ok_iteT {K : PySem.W.Frag} {a : Addr} {vs : List V} {xs : List D} (r : Reps T G0 xs vs) (hs : ∀ G H, GSub G0 G → (∀ a ∈ W, H a = H0 a) → GSub G H → SqT K H a vs) : ItOk T (Lt.IteT K a) (numbered 0 xs) G0 H0 W where
  go := fun i G H g w gs hi => ⟨vs, vs[i]'(by rw [← r.length, ← numbered_len xs 0]; exact hi), hs G H g w gs, by simp⟩
  stop := fun i G H g w gs hi => ⟨vs, hs G H g w gs, by rw [← r.length, ← numbered_len xs 0]; exact hi⟩
  yld := fun i G H x H' g w gs hi y => by
    obtain ⟨b, v, rfl, hb, rfl, y⟩ := y
    have e := y vs (hs G H g w gs)
    obtain ⟨d, e2, rd⟩ := r.get' e
    refine ⟨upd G b (.tup [.int (i : Nat), v]), .tup [.int ((0 + i : Nat) : Int), d], ?_, ?_, Fm.newT gs hb _, gs.upds b _⟩
    · rw [numbered_get, e2]; rfl
    · rw [Nat.zero_add]
      exact .tup upd_same (.cons (.int _) (.cons (rd.mono (g.trans (.updr (gs.non hb) _))) .nil)) (by show 2 ≤ line; decide)
end
end Vi
end
section
set_option maxRecDepth 100000
set_option maxHeartbeats 1000000
/-! Vi, part Lz: zip of a list and a tuple, in either sequence (own text). -/
namespace Vi.Lz
open PySem PySem.Spec PyProof.Rows L2
/-- a list (true) or a tuple (false) -/
def SqS (K : PySem.W.Frag) (H : Hp) : Bool → Addr → List V → Prop
  | true, a, xs => SqL K H a xs
  | false, a, xs => SqT K H a xs
def IsS (h : Heap) : Bool → Addr → Array Value → Prop
  | true, a, xs => h.IsList a xs
  | false, a, xs => h.IsTuple a xs
def ItS (h : Heap) : Bool → Addr → Addr → Nat → Prop
  | true, it, a, i => h.IsListIter it a i
  | false, it, a, i => h.IsTupleIter it a i
theorem itS_at {h h' : Heap} {l : Bool} {it a : Addr} {i : Nat} (x : ItS h l it a i) (k : ∀ o, h.get? it = some o → h'.get? it = some o) : ItS h' l it a i := by
  cases l
  · exact Heap.IsTupleIter.at x k
  · exact Heap.IsListIter.at x k
theorem isS_lt {h : Heap} {l : Bool} {a : Addr} {xs : Array Value} (x : IsS h l a xs) : a < h.objs.size := by
  cases l
  · obtain ⟨o, ho, _⟩ := x; exact Heap.lt_size ho
  · obtain ⟨o, ho, _⟩ := x; exact Heap.lt_size ho
theorem itS_obj {h : Heap} {l : Bool} {it a : Addr} {i : Nat} (x : ItS h l it a i) : ∃ o, h.get? it = some o ∧ ∀ v, o.data ≠ .cell v := by
  cases l
  · obtain ⟨o, ho, _, d⟩ := x; exact ⟨o, ho, fun v q => by rw [d] at q; cases q⟩
  · obtain ⟨o, ho, _, d⟩ := x; exact ⟨o, ho, fun v q => by rw [d] at q; cases q⟩
theorem side {X : Cx} {pins : List (Addr × Obj)} {σ : L2.St} {H : Hp} {s : Shared} (I : Inv X pins σ H s) {l : Bool} {a : Addr} {xs : List V} (q : SqS X.K H l a xs) : ∃ its : List Value, Vals xs its ∧ IsS s.heap l a its.toArray := by
  cases l
  · obtain ⟨its, rv, p, _⟩ := I.tuple q; exact ⟨its, rv, p⟩
  · obtain ⟨its, rv, p, _⟩ := I.list q; exact ⟨its, rv, p.isList⟩
theorem side_inj {X : Cx} {pins : List (Addr × Obj)} {σ : L2.St} {H : Hp} {s : Shared} (I : Inv X pins σ H s) {l : Bool} {a : Addr} {xs ys : List V} (q : SqS X.K H l a xs) (q' : SqS X.K H l a ys) : xs = ys := by
  cases l
  · exact I.tuple_inj q q'
  · exact I.list_inj q q'
/-- what an iterator draws from its k-th item on -/
theorem drawsS {prog : Program} {w : World} {A : Around} (hh : A.handled = none) (l : Bool) (it a : Addr) (hne : a ≠ it) (items : Array Value) (k : Nat) :
    Draws prog w A it [it, a] (items.size - k) (fun j v => items[k + j]? = some v) (fun j h => ItS h l it a (k + j) ∧ IsS h l a items) := by
  cases l
  · exact {
      live := fun _ _ st => let ⟨o, ho, _⟩ := st.1; ⟨o, ho⟩
      frame := fun _ _ _ st hk => ⟨Heap.IsTupleIter.at st.1 fun o e => hk it (by simp) o e, Heap.IsTuple.at st.2 fun o e => hk a (by simp) o e⟩
      item := fun i s Q E hi st hQ => by
        have hx : items[k + i]? = some (items[k + i]'(by omega)) := by simp
        refine wpAny_nextOf_tuple_item st.1 st.2 hx fun h' hit' hs' => ?_
        exact hQ _ h' s.toks hx ⟨hit', Heap.IsTuple.extBut st.2 hs'.extBut hne⟩ hs'
      done := fun s Q E st hE => wpAny_nextOf_tuple_end hh st.1 st.2 (by simp; omega) hE }
  · exact {
      live := fun _ _ st => let ⟨o, ho, _⟩ := st.1; ⟨o, ho⟩
      frame := fun _ _ _ st hk => ⟨Heap.IsListIter.at st.1 fun o e => hk it (by simp) o e, Heap.IsList.at st.2 fun o e => hk a (by simp) o e⟩
      item := fun i s Q E hi st hQ => by
        have hx : items[k + i]? = some (items[k + i]'(by omega)) := by simp
        refine wpAny_nextOf_list_item st.1 st.2 hx fun h' hit' hs' => ?_
        exact hQ _ h' s.toks hx ⟨hit', Heap.IsList.extBut st.2 hs'.extBut hne⟩ hs'
      done := fun s Q E st hE => wpAny_nextOf_list_end hh st.1 st.2 (by simp; omega) hE }
/-- what stands at a and b at each turn, the items in new pairs -/
def ItzM (K : PySem.W.Frag) (l m : Bool) (a b : Addr) : It :=
  ⟨fun i H => ∃ (xs ys : List V) (x y : V), SqS K H l a xs ∧ SqS K H m b ys ∧ xs[i]? = some x ∧ ys[i]? = some y,
    fun i H v H' => ∃ T x y, v = .ref T ∧ H T = none ∧ H' = upd H T (.tup [x, y]) ∧ (∀ xs, SqS K H l a xs → xs[i]? = some x) ∧ ∀ ys, SqS K H m b ys → ys[i]? = some y,
    fun i H => ∃ xs ys : List V, SqS K H l a xs ∧ SqS K H m b ys ∧ (xs.length ≤ i ∨ ys.length ≤ i)⟩
theorem turn_zipM {P : Program} {w : World} {K : PySem.W.Frag} {elts : List Expr} {kk : Nat} {tpos : Pos} {a b z TI TO i1 i2 : Addr} (l m : Bool) (S : ZipSep2 z TI TO i1 i2 [i1, a] [i2, b]) (n1 : a ≠ i1) (n2 : b ≠ i2) :
    Turn P w K (.Tuple elts kk tpos) (ItzM K l m a b) [z, TI, TO, i1, i2] z (fun i h => IsZip h z TI TO .none ∧ IsTupOf2 h TI (.ref i1) (.ref i2) ∧ (∃ x y, IsTupOf2 h TO x y) ∧ ItS h l i1 a i ∧ ItS h m i2 b i) where
  mem := by simp
  obj := fun i h st c hc => by
    obtain ⟨hz, hTI, ⟨x, y, hTO⟩, h1, h2⟩ := st
    have e' : c = z ∨ c = TI ∨ c = TO ∨ c = i1 ∨ c = i2 := by simpa using hc
    rcases e' with q | q | q | q | q
    · rw [q]; exact ⟨_, hz, fun v q => nomatch q⟩
    · rw [q]; exact ⟨_, hTI, fun v q => nomatch q⟩
    · rw [q]; exact ⟨_, hTO, fun v q => nomatch q⟩
    · rw [q]; exact itS_obj h1
    · rw [q]; exact itS_obj h2
  keep := fun i h h' st k => by
    obtain ⟨hz, hTI, ⟨x, y, hTO⟩, h1, h2⟩ := st
    exact ⟨k z (by simp) _ hz, k TI (by simp) _ hTI, ⟨x, y, k TO (by simp) _ hTO⟩, itS_at h1 fun o q => k i1 (by simp) o q, itS_at h2 fun o q => k i2 (by simp) o q⟩
  item := by
    intro X hP hw hK hc i pins s σ H E I hf st hg
    subst hP hw hK
    obtain ⟨hz, hTI, ⟨x0, y0, hTO⟩, h1, h2⟩ := st
    obtain ⟨xs, ys, x, y, hqx, hqy, hx, hy⟩ := hg
    obtain ⟨its, rv, p⟩ := side I hqx
    obtain ⟨its2, rv2, p2⟩ := side I hqy
    obtain ⟨u, hu, ru⟩ := rv.get hx
    obtain ⟨u2, hu2, ru2⟩ := rv2.get hy
    have hzl : z < s.heap.objs.size := Heap.lt_size hz
    have q1 : i < its.toArray.size := by
      rcases Nat.lt_or_ge i its.toArray.size with h | h
      · exact h
      · simp at h; simp [List.getElem?_eq_none h] at hu
    have q2 : i < its2.toArray.size := by
      rcases Nat.lt_or_ge i its2.toArray.size with h | h
      · exact h
      · simp at h; simp [List.getElem?_eq_none h] at hu2
    refine wpAny_pyNext_zipD2_item (i := 0) S (drawsS (prog := X.prog) (w := X.w) (A := X.A.in1) (I.ok.hd hc) l i1 a n1 its.toArray i) (drawsS (prog := X.prog) (w := X.w) (A := X.A.in1) (I.ok.hd hc) m i2 b n2 its2.toArray i) hz hTI hTO ⟨h1, p⟩ ⟨h2, p2⟩ (by omega) (by omega) fun x1 x2 h' tk y1 y2 b1 b2 d1 d2 b5 b6 b7 => ?_
    have e1 : x1 = u := by simp only [Nat.add_zero, List.getElem?_toArray, hu, Option.some.injEq] at y1; exact y1.symm
    have e2 : x2 = u2 := by simp only [Nat.add_zero, List.getElem?_toArray, hu2, Option.some.injEq] at y2; exact y2.symm
    subst e1 e2
    refine ⟨_, rfl, wpAny_letOwnedTupleGo_zip (s := { s with heap := h', toks := tk }) b1 fun h'' z'' sb => ?_⟩
    have hT2 : h''.get? s.heap.objs.size = some { cls := .type "tuple", data := .seq #[x1, x2] } := (sb.2 _ (Nat.ne_of_gt hzl)).trans b5
    have new : ObjOk X.prog X.w (upd H s.heap.objs.size (.tup [x, y])) h'' s.heap.objs.size (.tup [x, y]) :=
      ⟨by show 2 ≤ sizeLine; decide, [x1, x2], .cons ru (.cons ru2 .nil), ⟨_, hT2, rfl, _, rfl⟩⟩
    have I1 : Inv X pins σ (upd H s.heap.objs.size (.tup [x, y])) { s with heap := h'', toks := tk } :=
      I.turnedNew (ch := [z, TI, TO, i1, i2]) (fun c o hb q => (sb.2 c (fun q' => hb (by simp [q']))).trans (b7 c o (fun q' => hb (by simp [q'])) (fun q' => hb (by simp [q'])) (fun q' => hb (by simp [q'])) (fun q' => hb (by simp [q'])) q)) hf (Nat.le_refl _) new
    have zi1 : i1 ≠ z := fun q => S.zf1 (by simp [← q])
    have zi2 : i2 ≠ z := fun q => S.zf2 (by simp [← q])
    refine ⟨.ref s.heap.objs.size, _, I1, rfl, ⟨_, x, y, rfl, I.hok.fresh (Nat.le_refl _), rfl, fun _ hl => by rw [side_inj I hl hqx]; exact hx, fun _ hl => by rw [side_inj I hl hqy]; exact hy⟩, ⟨z'', ?_, ⟨x1, x2, ?_⟩, ?_, ?_⟩, fun c hcm => ?_⟩
    · exact (sb.2 _ S.TIz).trans (b7 _ _ S.TIz S.TITO S.TIi1 S.TIi2 hTI)
    · exact (sb.2 _ S.TOz).trans b2
    · exact itS_at d1.1 fun o q => (sb.2 _ zi1).trans q
    · exact itS_at d2.1 fun o q => (sb.2 _ zi2).trans q
    · have hlt : c < s.heap.objs.size := by
        have e' : c = z ∨ c = TI ∨ c = TO ∨ c = i1 ∨ c = i2 := by simpa using hcm
        rcases e' with q | q | q | q | q
        · rw [q]; exact hzl
        · rw [q]; exact Heap.lt_size hTI
        · rw [q]; exact Heap.lt_size hTO
        · rw [q]; obtain ⟨_, e1, _⟩ := itS_obj h1; exact Heap.lt_size e1
        · rw [q]; obtain ⟨_, e2, _⟩ := itS_obj h2; exact Heap.lt_size e2
      rw [upd_ne (Nat.ne_of_lt hlt)]
      exact (hf c hcm).1
  done := by
    intro X hP hw hK hc i pins s σ H E I hf st hg
    subst hP hw hK
    obtain ⟨hz, hTI, ⟨x0, y0, hTO⟩, h1, h2⟩ := st
    obtain ⟨xs, ys, hqx, hqy, hend⟩ := hg
    obtain ⟨its, rv, p⟩ := side I hqx
    obtain ⟨its2, rv2, p2⟩ := side I hqy
    have l1 := rv.length
    have l2 := rv2.length
    have s1 : its.toArray.size = its.length := by simp
    have s2 : its2.toArray.size = its2.length := by simp
    exact wpAny_pyNext_zipD2_end (i := 0) S (drawsS (prog := X.prog) (w := X.w) (A := X.A.in1) (I.ok.hd hc) l i1 a n1 its.toArray i) (drawsS (prog := X.prog) (w := X.w) (A := X.A.in1) (I.ok.hd hc) m i2 b n2 its2.toArray i) hz hTI hTO ⟨h1, p⟩ ⟨h2, p2⟩ (by omega) (by omega) (by omega)
      fun h' tk hk => ⟨rfl, I.turnedL (ch := [z, TI, TO, i1, i2]) (fun c o hb q =>
      hk c o (fun q' => hb (by simp [q'])) (fun q' => hb (by simp [q'])) (fun q' => hb (by simp [q'])) (fun q' => hb (by simp [q'])) q) hf⟩
  self := fun A i s Q E st h => wpAny_pyIter_zip st.1 h
def begS : Bool → Addr → Obj
  | true, a => { cls := .type "list_iterator", data := .fields #[.ref a, .int 0 0] }
  | false, a => { cls := .type "tuple_iterator", data := .fields #[.ref a, .int 0 0] }
theorem begins_S (l : Bool) (a : Addr) (items : Array Value) : Begins (.ref a) (begS l a) (fun h => IsS h l a items) := by
  cases l
  · exact begins_tuple a items
  · exact begins_list a items
theorem begS_it {h : Heap} {l : Bool} {it a : Addr} (e : h.get? it = some (begS l a)) : ItS h l it a 0 := by
  cases l
  · exact ⟨_, e, rfl, rfl⟩
  · exact ⟨_, e, rfl, rfl⟩
def iZipM (K : PySem.W.Frag) (ta : TA) : TI := fun σ H R => ta σ H fun vs H1 => ∃ a b l m xs ys, vs = [.ref a, .ref b] ∧ SqS K H1 l a xs ∧ SqS K H1 m b ys ∧ R (ItzM K l m a b) H1
theorem pi_zipM {X : Cx} {e e2 : Expr} {ta : TA} {p pos tpos : Pos} {elts : List Expr} {kk : Nat} (hg : Gl X "zip") (hm : X.mg "zip" = none) (ha : PA X [e, e2] ta)
    (hs : starEach [e, e2] X.env = (false, eval e X.env) :: starEach [e2] X.env := by rfl) (hpl : (backTo pos (starEach [e2] X.env)).any (·.1) = false := by rfl) :
    PI X (.Tuple elts kk tpos) (.Call (.Name "zip" p) [e, e2] [] pos) (iZipM X.K ta) := by
  refine ⟨fun pins s σ H R I h => ?_⟩
  refine Call_ (ld_blt I hg hm PyProof.Rows.boot_zip (PyProof.Rows.callWith_type1 (thn (ha.run pos pins s σ H _ I h) fun us s1 ⟨vs, H1, I1, r1, q1⟩ => ?_) hs hpl))
  obtain ⟨a, b, l, m, xs, ys, ex, hqx, hqy, q⟩ := q1
  subst ex
  cases r1 with
  | cons r rr =>
    cases rr with
    | cons r' rr =>
      cases rr
      cases r
      cases r'
      obtain ⟨its, rv, p1⟩ := side I1 hqx
      obtain ⟨its2, rv2, p2⟩ := side I1 hqy
      have la := isS_lt p1
      have lb := isS_lt p2
      refine zip_begins2 (begins_S l a its.toArray) (begins_S m b its2.toArray) p1 p2 fun h' hz hTI hTO g1 g2 hsz hk => wpAny_pyIter_zip hz ?_
      have I2 : Inv X pins σ H1 { s1 with heap := h' } := I1.kept (t' := s1.toks) hk
      refine ⟨s1.heap.objs.size + 4, [s1.heap.objs.size + 4, s1.heap.objs.size + 2, s1.heap.objs.size + 3, s1.heap.objs.size, s1.heap.objs.size + 1], _, _, H1, rfl, I2, turn_zipM l m (zip_sep2 (fp1 := [a]) (fp2 := [b]) (by simpa using la) (by simpa using lb)) (Nat.ne_of_lt la) (Nat.ne_of_lt (Nat.lt_succ_of_lt lb)), ⟨hz, hTI, ⟨_, _, hTO⟩, begS_it g1, begS_it g2⟩, fun c hcm => ?_, q⟩
      have e' : c = s1.heap.objs.size + 4 ∨ c = s1.heap.objs.size + 2 ∨ c = s1.heap.objs.size + 3 ∨ c = s1.heap.objs.size ∨ c = s1.heap.objs.size + 1 := by simpa using hcm
      have hle : s1.heap.objs.size ≤ c := by
        rcases e' with z | z | z | z | z
        · rw [z]; exact Nat.le_add_right _ _
        · rw [z]; exact Nat.le_add_right _ _
        · rw [z]; exact Nat.le_add_right _ _
        · rw [z]; exact Nat.le_refl _
        · rw [z]; exact Nat.le_add_right _ _
      exact I1.fpOk hle (I1.hok.fresh hle)
end Vi.Lz
namespace Vi
open PySem PySem.Spec PyProof.Rows L2
section
variable {T : Tx} {G0 H0 : Hp} {W : List Addr}
theorem ok_itzM {K : PySem.W.Frag} {a b : Addr} {l m : Bool} {vs us : List V} {xs ys : List D} (r : Reps T G0 xs vs) (r' : Reps T G0 ys us) (hs : ∀ G H, GSub G0 G → (∀ a ∈ W, H a = H0 a) → GSub G H → Lz.SqS K H l a vs ∧ Lz.SqS K H m b us) : ItOk T (Lz.ItzM K l m a b) (zipD xs ys) G0 H0 W where
  go := fun i G H g w gs hi => by
    rw [zipD_len] at hi
    obtain ⟨h1, h2⟩ := hs G H g w gs
    have q1 : i < vs.length := by rw [← r.length]; omega
    have q2 : i < us.length := by rw [← r'.length]; omega
    exact ⟨vs, us, vs[i], us[i], h1, h2, by simp, by simp⟩
  stop := fun i G H g w gs hi => by
    rw [zipD_len] at hi
    obtain ⟨h1, h2⟩ := hs G H g w gs
    refine ⟨vs, us, h1, h2, ?_⟩
    rw [← r.length, ← r'.length]
    omega
  yld := fun i G H x H' g w gs hi y => by
    obtain ⟨t, v, u, rfl, ht, rfl, y1, y2⟩ := y
    obtain ⟨h1, h2⟩ := hs G H g w gs
    obtain ⟨d, e1, rd⟩ := r.get' (y1 vs h1)
    obtain ⟨d', e2, rd'⟩ := r'.get' (y2 us h2)
    have up : GSub G (upd G t (.tup [v, u])) := .updr (gs.non ht) _
    exact ⟨upd G t (.tup [v, u]), .tup [d, d'], zipD_get _ _ _ _ _ e1 e2, .tup upd_same (.cons (rd.mono (g.trans up)) (.cons (rd'.mono (g.trans up)) .nil)) (by show 2 ≤ line; decide), Fm.newT gs ht _, gs.upds t _⟩
end
end Vi
end
section
set_option maxRecDepth 100000
/-! Vi, part L: what is walked; comprehensions. -/
namespace Vi
open PySem PySem.Spec PyProof.Rows L2

section
variable {T : Tx} {G H G' H' G1 H1 : Hp} {σ : L2.St} {O O1 W : List Addr} {v : V}
theorem RepO.seqL {o : Bool} {xs : List D} (r : RepO T G H (.lst o xs) v W) (gs : GSub G H) : ∃ a vs, v = .ref a ∧ Reps T G xs vs ∧ H a = some (.lst vs) ∧ ∀ G' H', GSub G G' → (∀ b ∈ W, H' b = H b) → GSub G' H' → H' a = some (.lst vs) := by
  cases r with
  | frz r => cases r with | lst h1 h2 h3 => exact ⟨_, _, rfl, h2, gs _ _ h1, fun G' H' g _ gs' => gs' _ _ (g _ _ h1)⟩
  | lst h1 h2 h3 => exact ⟨_, _, rfl, h2, h1, fun G' H' _ w _ => by rw [w _ (by simp)]; exact h1⟩
theorem RepO.seqT {xs : List D} (r : RepO T G H (.tup xs) v W) (gs : GSub G H) : ∃ a vs, v = .ref a ∧ Reps T G xs vs ∧ H a = some (.tup vs) ∧ ∀ G' H', GSub G G' → GSub G' H' → H' a = some (.tup vs) := by
  cases r with
  | frz r => cases r with | tup h1 h2 h3 => exact ⟨_, _, rfl, h2, gs _ _ h1, fun G' H' g gs' => gs' _ _ (g _ _ h1)⟩
theorem Fm.updD (f : Fm G H O G1 H1 O1) {a : Addr} (h : H a = none) (o : HO) : Fm G H O G1 (upd H1 a o) O1 :=
  ⟨f.g, fun b u e n => by rw [upd_ne (ne_of_none e h)]; exact f.same b u e n, f.fresh, f.gnew⟩
theorem SR.wipes {env : Ev} (s : SR T G H env σ O) : ∀ vs : List Nat, ∃ O', SR T G H (wipeE env vs) (L2.wipe σ vs) O' ∧ ∀ a, a ∈ O' → a ∈ O
  | [] => ⟨O, s, fun _ h => h⟩
  | i :: vs => by
    obtain ⟨O1, s1, h1⟩ := SR.wipes s vs
    obtain ⟨O2, gone, r, p⟩ := s1.rep.wipe1 i none
    have mem : ∀ a, a ∈ O2 → a ∈ O1 := fun a ha => p.mem_iff.mpr (List.mem_append_left _ ha)
    exact ⟨O2, ⟨r, (List.nodup_append.mp (p.nodup_iff.mp s1.nd)).1, fun a ha => s1.gn a (mem a ha), s1.gs⟩, fun a ha => h1 a (mem a ha)⟩
theorem wipe_get {σ : L2.St} {i : Nat} : ∀ {vs : List Nat}, (wipe σ vs)[i]? = if i ∈ vs then (if i < σ.length then some none else none) else σ[i]?
  | [] => by simp [wipe]
  | j :: vs => by
    unfold wipe
    rw [List.getElem?_set, wipe_get (vs := vs), wipe_length]
    by_cases h : j = i
    · subst h; simp
    · have : i ≠ j := fun e => h e.symm
      simp [h, this]
theorem wipe_same {σ σ2 : L2.St} {own : List Nat} (hl : σ2.length = (wipe σ own).length) (k : ∀ i, i ∉ own → σ2[i]? = (wipe σ own)[i]?) : wipe σ2 own = wipe σ own := by
  apply List.ext_getElem?
  intro i
  rw [wipe_length] at hl
  by_cases h : i ∈ own
  · rw [wipe_get, wipe_get, if_pos h, if_pos h, hl]
  · rw [wipe_get, if_neg h, k i h]
theorem ERep.own_none {env : Ev} {own : List Nat} (h : ERep T G H env (wipe σ own) O) {i : Nat} {d : D} (e : getV env i = some d) : i ∉ own ∧ (wipe σ own)[i]? = σ[i]? := by
  obtain ⟨v, as, O', h1, _⟩ := h.out e
  rw [wipe_get] at h1
  by_cases hi : i ∈ own
  · rw [if_pos hi] at h1; split at h1 <;> cases h1
  · exact ⟨hi, by rw [wipe_get, if_neg hi]⟩
end

section
variable {c : Cf} {T : Tx} {k : Nat} {φ : Phi} {sc : Scope} {X : Cx} {tg x y : Expr}
theorem piVal (g : Gd c T k φ sc X) {e : E} (hp : PE X x (rdP T φ e)) : PI X tg x (rdI T φ (.val e)) := by
  refine ((((pi_list hp).or (pi_tup hp)).or (pi_str hp)).or (pi_keys hp)).imp fun σ H R q => ?_
  obtain ⟨G, env, O, xs, hid, env', s, e0, k⟩ := q
  simp only [denI, Option.bind_eq_some_iff, Option.map_eq_some_iff] at e0
  obtain ⟨⟨r, env1⟩, e1, d, e2, xs', e3, e4⟩ := e0
  have key : ∀ (P : V → Hp → Prop), (∀ v H1 G1 O2 W2, SR T G1 H1 env' σ O2 → RepO T G1 H1 d v W2 → W2.Nodup → (∀ a ∈ W2, a ∉ O2) → (∀ a ∈ W2, G1 a = none) → HidOk T G1 H1 σ W2 hid → Fm G H O G1 H1 (W2 ++ O2) → P v H1) → xs' = xs ∧ rdP T φ e σ H P := by
    intro P K
    cases r with
    | v d0 =>
      simp only [peekA, Option.some.injEq] at e2
      subst e2
      simp only [Prod.mk.injEq] at e4
      obtain ⟨rfl, rfl, rfl⟩ := e4
      exact ⟨rfl, G, env, O, .v d0, env1, s, e1, fun v H1 G1 O1 W1 A f => K v H1 G1 O1 W1 A.sr A.ar.one A.nd A.dj A.gn trivial f⟩
    | r i =>
      simp only [peekA] at e2
      simp only at e4
      split at e4
      · simp only [Prod.mk.injEq] at e4
        obtain ⟨rfl, rfl, rfl⟩ := e4
        refine ⟨rfl, G, env, O, .r i, env1, s, e1, fun v H1 G1 O1 W1 A f => ?_⟩
        cases A.ar with
        | r hi z =>
          cases z
          obtain ⟨v', as, O2, h1, A2, f2, mem⟩ := A.sr.out e2
          rw [hi] at h1
          cases h1
          exact K v H1 G1 O2 as A2.sr A2.ar.one A2.nd A2.dj A2.gn ⟨v, hi, A2.ar.one⟩ (f.trans f2)
      · rename_i ho
        simp only [Prod.mk.injEq] at e4
        obtain ⟨rfl, rfl, rfl⟩ := e4
        refine ⟨rfl, G, env, O, .r i, env1, s, e1, fun v H1 G1 O1 W1 A f => ?_⟩
        cases A.ar with
        | r hi z =>
          cases z
          obtain ⟨v', h1, as, rr⟩ := A.sr.get e2
          rw [hi] at h1
          cases h1
          obtain ⟨r9, e9⟩ := rr.nown (by simpa using ho)
          exact K v H1 G1 O1 [] A.sr (.frz r9) .nil (by simp) (by simp) trivial f
  have ends : ∀ {J : It} {v : V} {H1 G1 : Hp} {O2 W2 : List Addr}, SR T G1 H1 env' σ O2 → RepO T G1 H1 d v W2 → W2.Nodup → (∀ a ∈ W2, a ∉ O2) → (∀ a ∈ W2, G1 a = none) → HidOk T G1 H1 σ W2 hid → Fm G H O G1 H1 (W2 ++ O2) → ItOk T J xs G1 H1 W2 → R J H1 :=
    fun {J v H1 G1 O2 W2} s1 r1 n1 d1 g1 h1 f1 io => k J H1 G1 O2 W2 s1 io n1 d1 g1 r1.addr h1 f1
  unfold walkOf at e3
  split at e3
  · cases e3
    rename_i o ys
    refine .inl (.inl (.inl (key _ fun v H1 G1 O2 W2 s1 r1 n1 d1 g1 h1 f1 => ?_).2))
    obtain ⟨rfl, _⟩ := key (fun _ _ => True) fun _ _ _ _ _ _ _ _ _ _ _ _ => trivial
    obtain ⟨a, vs, rfl, rs, ha, st⟩ := r1.seqL s1.gs
    exact ⟨a, rfl, ⟨vs, .of ha⟩, ends s1 r1 n1 d1 g1 h1 f1 (ok_itl rs fun G' H' q1 q2 q3 => .of (st G' H' q1 q2 q3))⟩
  · cases e3
    refine .inl (.inl (.inr (key _ fun v H1 G1 O2 W2 s1 r1 n1 d1 g1 h1 f1 => ?_).2))
    obtain ⟨rfl, _⟩ := key (fun _ _ => True) fun _ _ _ _ _ _ _ _ _ _ _ _ => trivial
    obtain ⟨a, vs, rfl, rs, ha, st⟩ := r1.seqT s1.gs
    exact ⟨a, rfl, ⟨vs, .of ha⟩, ends s1 r1 n1 d1 g1 h1 f1 (ok_itt rs fun G' H' q1 q2 q3 => .of (st G' H' q1 q3))⟩
  · cases e3
    refine .inl (.inr (key _ fun v H1 G1 O2 W2 s1 r1 n1 d1 g1 h1 f1 => ?_).2)
    obtain ⟨rfl, _⟩ := key (fun _ _ => True) fun _ _ _ _ _ _ _ _ _ _ _ _ => trivial
    obtain rfl := (show PRep T G1 H1 (.str _) v from ⟨_, r1⟩).str
    exact ⟨_, rfl, ends s1 r1 n1 d1 g1 h1 f1 ok_its⟩
  · cases e3
    refine .inr (key _ fun v H1 G1 O2 W2 s1 r1 n1 d1 g1 h1 f1 => ?_).2
    obtain ⟨rfl, _⟩ := key (fun _ _ => True) fun _ _ _ _ _ _ _ _ _ _ _ _ => trivial
    obtain ⟨rr, rfl⟩ := r1.nown rfl
    cases rr with
    | dic hd rk l => exact ⟨_, _, rfl, .inl ⟨_, s1.gs _ _ hd, ends s1 r1 n1 d1 g1 h1 f1 (ok_itk hd rk)⟩⟩
  · cases e3
    refine .inl (.inl (.inl (key _ fun v H1 G1 O2 W2 s1 r1 n1 d1 g1 h1 f1 => ?_).2))
    obtain ⟨rfl, _⟩ := key (fun _ _ => True) fun _ _ _ _ _ _ _ _ _ _ _ _ => trivial
    obtain ⟨rr, rfl⟩ := r1.nown rfl
    cases rr with
    | scr sq l => exact ⟨_, rfl, ⟨_, by rw [g.hK]; exact s1.gs.sql sq⟩, ends s1 r1 n1 d1 g1 h1 f1 (ok_itl (reps_ints _) fun G' H' q1 q2 q3 => by rw [g.hK]; exact q3.sql (q1.sql sq))⟩
  · cases e3
theorem AR.len {G H : Hp} {σ : L2.St} {ars : List Ar} {vs : List V} {W : List Addr} (a : AR T G H σ ars vs W) : ars.length = vs.length := by
  induction a with
  | nil => rfl
  | v _ _ ih => simp [ih]
  | r _ _ ih => simp [ih]
def esLen : Es → Nat
  | .nil => 0
  | .cons _ _ r => esLen r + 1
theorem denA_len : ∀ {es : Es} {env env' : Ev} {ars : List Ar}, denA φ es env = some (ars, env') → ars.length = esLen es
  | .nil, _, _, _, e => by simp only [denA, Option.some.injEq, Prod.mk.injEq] at e; obtain ⟨rfl, _⟩ := e; rfl
  | .cons true _ _, _, _, _, e => by simp [denA] at e
  | .cons false _ r, _, _, _, e => by
    simp only [denA, Option.bind_eq_some_iff, Option.map_eq_some_iff, Prod.mk.injEq] at e
    obtain ⟨q, _, ⟨s, env2⟩, e2, rfl, _⟩ := e
    simp [esLen, denA_len e2]
theorem PEs.len {xs : List Expr} {es : Es} (h : PEs X T φ xs es) : xs.length = esLen es := by
  induction h with
  | nil => rfl
  | cons _ _ _ _ ih => simp [esLen, ih]
theorem piRange (g : Gd c T k φ sc X) {es : Es} {xs : List Expr} {f : Str} {p pos : Pos} (hf : callIs c sc f "range" = true) (h : PEs X T φ xs es) (hl : xs.length ≤ 3) (h0 : xs ≠ []) : PI X tg (.Call (.Name f p) xs [] pos) (rdI T φ (.range es)) := by
  obtain ⟨rfl, hg, hm⟩ := callIs_of g hf
  have ok := h.ok
  have fin : ∀ {σ : L2.St} {H : Hp} {R : It → Hp → Prop}, rdI T φ (.range es) σ H R → rdA T φ es σ H fun vs H1 => ∃ ys,
      ((∃ n, vs = [.int n] ∧ smallI n = true ∧ ys = rangeD 0 n) ∨ (∃ a b, vs = [.int a, .int b] ∧ smallI a = true ∧ smallI b = true ∧ ys = rangeD a b) ∨ (∃ a b, vs = [.int a, .int b, .int (-1)] ∧ smallI a = true ∧ smallI b = true ∧ ys = (List.range (a - b).toNat).map fun k => .int (a - (k : Nat)))) ∧
      ∀ J, (∀ G1 H1, ItOk T J ys G1 H1 []) → R J H1 := fun {σ H R} q => by
    obtain ⟨G, env, O, zs, hid, env', s, e0, k⟩ := q
    simp only [denI, Option.bind_eq_some_iff] at e0
    obtain ⟨⟨ars, env1⟩, e1, ds, e2, e3⟩ := e0
    refine ⟨G, env, O, ars, env1, s, e1, fun vs H1 G1 O1 W1 A f1 => ?_⟩
    have pr := A.ar.peeks A.sr e2
    have f2 : Fm G H O G1 H1 ([] ++ O1) := f1.less fun a ha => List.mem_append_right _ ha
    split at e3
    · split at e3
      · rename_i hs
        cases e3
        obtain ⟨v, rfl, r⟩ := pr.inv1
        rw [r.int]
        exact ⟨_, .inl ⟨_, rfl, hs, rfl⟩, fun J io => k J H1 G1 O1 [] A.sr (io _ _) .nil (by simp) (by simp) (by simp) trivial f2⟩
      · cases e3
    · split at e3
      · rename_i hs
        simp only [Bool.and_eq_true] at hs
        cases e3
        obtain ⟨v, u, rfl, r, r'⟩ := pr.inv2
        rw [r.int, r'.int]
        exact ⟨_, .inr (.inl ⟨_, _, rfl, hs.1, hs.2, rfl⟩), fun J io => k J H1 G1 O1 [] A.sr (io _ _) .nil (by simp) (by simp) (by simp) trivial f2⟩
      · cases e3
    · split at e3
      · rename_i hs
        simp only [Bool.and_eq_true] at hs
        cases e3
        obtain ⟨v, u, w, rfl, r, r', r''⟩ := pr.inv3
        rw [r.int, r'.int, r''.int]
        exact ⟨_, .inr (.inr ⟨_, _, rfl, hs.1, hs.2, rfl⟩), fun J io => k J H1 G1 O1 [] A.sr (io _ _) .nil (by simp) (by simp) (by simp) trivial f2⟩
      · cases e3
    · cases e3
  have sm : ∀ {i : Int}, smallI i = true → -(2 ^ 62) ≤ i ∧ i < 2 ^ 62 := fun {i} h => by
    unfold smallI at h
    simp only [decide_eq_true_eq] at h
    have h2 := lt_two_pow_of_log2_lt h
    omega
  match xs, h, ok, hl, h0 with
  | [a], h, ok, _, _ =>
    simp only [List.all_cons, List.all_nil, Bool.and_true] at ok
    refine (pi_range1 hg hm h.pa (ok_star ok _)).imp fun σ H R q => ?_
    obtain ⟨G, env, O, ars, env1, s, e1, K⟩ := fin q
    refine ⟨G, env, O, ars, env1, s, e1, fun vs H1 G1 O1 W1 A f1 => ?_⟩
    obtain ⟨ys, hv, KJ⟩ := K vs H1 G1 O1 W1 A f1
    have hvl : vs.length = 1 := by rw [← A.ar.len, denA_len e1, ← h.len]; rfl
    rcases hv with ⟨n, rfl, hs, rfl⟩ | ⟨a, b, rfl, _⟩ | ⟨a, b, rfl, _⟩
    · refine ⟨n, rfl, (sm hs).1, (sm hs).2, KJ _ fun G1 H1 => ?_⟩
      have : rangeD 0 n = (List.range n.toNat).map fun k => .int (0 + (k : Nat)) := by unfold rangeD; rw [Int.sub_zero]
      rw [this]; exact ok_itr
    · simp at hvl
    · simp at hvl
  | [a, b], h, ok, _, _ =>
    simp only [List.all_cons, List.all_nil, Bool.and_true, Bool.and_eq_true] at ok
    refine (pi_range2 hg hm h.pa (by rw [ok_star ok.1, ok_star ok.2]; rfl) (ok_star ok.2 _)).imp fun σ H R q => ?_
    obtain ⟨G, env, O, ars, env1, s, e1, K⟩ := fin q
    refine ⟨G, env, O, ars, env1, s, e1, fun vs H1 G1 O1 W1 A f1 => ?_⟩
    obtain ⟨ys, hv, KJ⟩ := K vs H1 G1 O1 W1 A f1
    have hvl : vs.length = 2 := by rw [← A.ar.len, denA_len e1, ← h.len]; rfl
    rcases hv with ⟨n, rfl, _⟩ | ⟨a, b, rfl, h1, h2, rfl⟩ | ⟨a, b, rfl, _⟩
    · simp at hvl
    · exact ⟨a, b, rfl, ⟨(sm h1).1, (sm h1).2, (sm h2).1, (sm h2).2⟩, KJ _ fun G1 H1 => ok_itr⟩
    · simp at hvl
  | [a, b, d], h, ok, _, _ =>
    have ok2 := ok
    simp only [List.all_cons, List.all_nil, Bool.and_true, Bool.and_eq_true] at ok
    refine (pi_range3 hg hm h.pa (ok_star ok.1 _) (ok_back (by simp [ok.2.1, ok.2.2]) _)).imp fun σ H R q => ?_
    obtain ⟨G, env, O, ars, env1, s, e1, K⟩ := fin q
    refine ⟨G, env, O, ars, env1, s, e1, fun vs H1 G1 O1 W1 A f1 => ?_⟩
    obtain ⟨ys, hv, KJ⟩ := K vs H1 G1 O1 W1 A f1
    have hvl : vs.length = 3 := by rw [← A.ar.len, denA_len e1, ← h.len]; rfl
    rcases hv with ⟨n, rfl, _⟩ | ⟨a, b, rfl, _⟩ | ⟨a, b, rfl, h1, h2, rfl⟩
    · simp at hvl
    · simp at hvl
    · exact ⟨a, b, -1, _, rfl, RgC.neg (sm h1).1 (sm h1).2 (sm h2).1 (sm h2).2, KJ _ fun G1 H1 => ok_itc⟩
theorem piItems (g : Gd c T k φ sc X) {e : E} {ts : List Expr} {kk : Nat} {tp apos cpos : Pos} (hp : PE X x (rdE T φ e)) (hb : notC0 x = true) (hl : (apos.endLine == cpos.line) = true) : PI X (.Tuple ts kk tp) (.Call (.Attribute x "items" apos) [] [] cpos) (rdI T φ (.items e)) := by
  refine (pi_items (PE.z hp) (ok_base hb _) hl).imp fun σ H R q => ?_
  obtain ⟨G, env, O, xs, hid, env', s, e0, k⟩ := q
  simp only [denI, Option.bind_eq_some_iff] at e0
  obtain ⟨⟨d, env1⟩, e1, e2⟩ := e0
  split at e2
  · rename_i kvs hd
    simp only at hd
    cases e2
    refine ⟨G, env, O, .dic false kvs, env1, s, by simp only [e1, Option.map_some, hd], fun v H1 G1 O1 sr rr f => ?_⟩
    cases rr with
    | dic hd rk l => exact ⟨_, _, _, rfl, sr.gs _ _ hd, k _ H1 G1 O1 [] sr (ok_iti hd rk) .nil (by simp) (by simp) (by simp) trivial f⟩
  · cases e2
theorem rdO1 {e : E} {σ : L2.St} {H : Hp} {Q : List V → Hp → Prop} (h : ∃ G env O d env', SR T G H env σ O ∧ den φ e env = some (d, env') ∧ ∀ v H' G' O' W, AS T G' H' env' σ O' [.v d] [v] W → Fm G H O G' H' (W ++ O') → Q [v] H') : rdO T φ (.cons false e .nil) σ H Q := by
  obtain ⟨G, env, O, d, env', s, e1, k⟩ := h
  refine ⟨G, env, O, [.v d], env', s, by simp only [denO, e1, Option.bind_some, Option.map_some, List.map_cons, List.map_nil], fun vs H' G' O' W A f => ?_⟩
  cases A.ar with
  | v r z =>
    cases z
    exact k _ H' G' O' _ A f
theorem denO1 {e : E} {env env' : Ev} {ds : List D} (h : denO φ (.cons false e .nil) env = some (ds, env')) : ∃ d, ds = [d] ∧ den φ e env = some (d, env') := by
  simp only [denO, Option.bind_eq_some_iff, Option.map_eq_some_iff, Prod.mk.injEq, Option.some.injEq] at h
  obtain ⟨⟨d, env1⟩, e1, ⟨s, env2⟩, ⟨rfl, rfl⟩, rfl, rfl⟩ := h
  exact ⟨d, rfl, e1⟩
theorem piEnum (g : Gd c T k φ sc X) {e : E} {ts : List Expr} {kk : Nat} {tp p pos : Pos} {f : Str} (hf : callIs c sc f "enumerate" = true) (h : PEs X T φ [x] (.cons false e .nil)) : PI X (.Tuple ts kk tp) (.Call (.Name f p) [x] [] pos) (rdI T φ (.enum e)) := by
  obtain ⟨rfl, hg, hm⟩ := callIs_of g hf
  have ok := h.ok
  simp only [List.all_cons, List.all_nil, Bool.and_true] at ok
  refine ((pi_enum hg hm h.po (by rw [ok_star ok]; rfl)).or (Lt.pi_enumT hg hm h.po (by rw [ok_star ok]; rfl))).imp fun σ H R q => ?_
  obtain ⟨G, env, O, xs, hid, env', s, e0, k⟩ := q
  simp only [denI, Option.bind_eq_some_iff, Option.map_eq_some_iff, Prod.mk.injEq] at e0
  obtain ⟨⟨d, env1⟩, e1, ys, e2, rfl, rfl, rfl⟩ := e0
  simp only at e2
  unfold itemsL at e2
  split at e2
  · cases e2
    refine .inl (rdO1 ⟨G, env, O, _, env1, s, e1, fun v H1 G1 O1 W1 A f => ?_⟩)
    obtain ⟨a, vs, rfl, rs, ha, st⟩ := A.ar.one.seqL A.sr.gs
    exact ⟨a, vs, rfl, .of ha, k _ H1 G1 O1 W1 A.sr (ok_ite rs fun G' H' q1 q2 q3 => .of (st G' H' q1 q2 q3)) A.nd A.dj A.gn A.ar.addr trivial f⟩
  · cases e2
    refine .inr (rdO1 ⟨G, env, O, _, env1, s, e1, fun v H1 G1 O1 W1 A f => ?_⟩)
    obtain ⟨a, vs, rfl, rs, ha, st⟩ := A.ar.one.seqT A.sr.gs
    exact ⟨a, vs, rfl, .of ha, k _ H1 G1 O1 W1 A.sr (ok_iteT rs fun G' H' q1 q2 q3 => .of (st G' H' q1 q3)) A.nd A.dj A.gn A.ar.addr trivial f⟩
  · cases e2
theorem piZip (g : Gd c T k φ sc X) {a b : E} {ts : List Expr} {kk : Nat} {tp p pos : Pos} {f : Str} (hf : callIs c sc f "zip" = true) (h : PEs X T φ [x, y] (.cons false a (.cons false b .nil))) : PI X (.Tuple ts kk tp) (.Call (.Name f p) [x, y] [] pos) (rdI T φ (.zip a b)) := by
  obtain ⟨rfl, hg, hm⟩ := callIs_of g hf
  have ok := h.ok
  simp only [List.all_cons, List.all_nil, Bool.and_true, Bool.and_eq_true] at ok
  refine (Lz.pi_zipM hg hm h.po (ok_star ok.1 _) (ok_back (by simp [ok.2]) _)).imp fun σ H R q => ?_
  obtain ⟨G, env, O, zs, hid, env', s, e0, k⟩ := q
  simp only [denI, Option.bind_eq_some_iff] at e0
  obtain ⟨⟨d, env1⟩, e1, ⟨d', env2⟩, e2, e3⟩ := e0
  refine ⟨G, env, O, [.v d, .v d'], env2, s, by simp only [denO, e1, e2, Option.bind_some, Option.map_some, List.map_cons, List.map_nil], fun vs H1 G1 O1 W1 A f => ?_⟩
  have a1 := A.ar
  cases a1 with
  | @v _ v as _ vs2 W2 r1 a2 =>
    cases a2 with
    | @v _ u bs _ _ _ r2 a3 =>
      cases a3
      have gs := A.sr.gs
      simp only at e3
      unfold zipOf at e3
      split at e3
      · simp only [Option.some.injEq, Prod.mk.injEq] at e3
        obtain ⟨rfl, rfl, rfl⟩ := e3
        obtain ⟨p1, v1, rfl, rs1, ha1, st1⟩ := r1.seqL gs
        obtain ⟨p2, v2, rfl, rs2, ha2, st2⟩ := r2.seqL gs
        exact ⟨p1, p2, true, true, v1, v2, rfl, .of ha1, .of ha2, k _ H1 G1 O1 _ A.sr (ok_itzM rs1 rs2 fun G' H' q1 q2 q3 => ⟨.of (st1 G' H' q1 (fun b hb => q2 b (List.mem_append_left _ hb)) q3), .of (st2 G' H' q1 (fun b hb => q2 b (by simp [hb])) q3)⟩) A.nd A.dj A.gn A.ar.addr trivial f⟩
      · simp only [Option.some.injEq, Prod.mk.injEq] at e3
        obtain ⟨rfl, rfl, rfl⟩ := e3
        obtain ⟨p1, v1, rfl, rs1, ha1, st1⟩ := r1.seqT gs
        obtain ⟨p2, v2, rfl, rs2, ha2, st2⟩ := r2.seqT gs
        exact ⟨p1, p2, false, false, v1, v2, rfl, .of ha1, .of ha2, k _ H1 G1 O1 _ A.sr (ok_itzM rs1 rs2 fun G' H' q1 q2 q3 => ⟨.of (st1 G' H' q1 q3), .of (st2 G' H' q1 q3)⟩) A.nd A.dj A.gn A.ar.addr trivial f⟩
      · simp only [Option.some.injEq, Prod.mk.injEq] at e3
        obtain ⟨rfl, rfl, rfl⟩ := e3
        obtain ⟨p1, v1, rfl, rs1, ha1, st1⟩ := r1.seqL gs
        obtain ⟨p2, v2, rfl, rs2, ha2, st2⟩ := r2.seqT gs
        exact ⟨p1, p2, true, false, v1, v2, rfl, .of ha1, .of ha2, k _ H1 G1 O1 _ A.sr (ok_itzM rs1 rs2 fun G' H' q1 q2 q3 => ⟨.of (st1 G' H' q1 (fun b hb => q2 b (List.mem_append_left _ hb)) q3), .of (st2 G' H' q1 q3)⟩) A.nd A.dj A.gn A.ar.addr trivial f⟩
      · simp only [Option.some.injEq, Prod.mk.injEq] at e3
        obtain ⟨rfl, rfl, rfl⟩ := e3
        obtain ⟨p1, v1, rfl, rs1, ha1, st1⟩ := r1.seqT gs
        obtain ⟨p2, v2, rfl, rs2, ha2, st2⟩ := r2.seqL gs
        exact ⟨p1, p2, false, true, v1, v2, rfl, .of ha1, .of ha2, k _ H1 G1 O1 _ A.sr (ok_itzM rs1 rs2 fun G' H' q1 q2 q3 => ⟨.of (st1 G' H' q1 q3), .of (st2 G' H' q1 (fun b hb => q2 b (by simp [hb])) q3)⟩) A.nd A.dj A.gn A.ar.addr trivial f⟩
      · cases e3
end
end Vi
end
section
set_option maxRecDepth 100000
/-! Vi, part M: comprehensions. -/
namespace Vi
open PySem PySem.Spec PyProof.Rows L2

section
variable {c : Cf} {T : Tx} {k : Nat} {φ : Phi} {sc : Scope} {X : Cx}
theorem Gd.blkS (g : Gd c T k φ sc X) {scope : Scope} {own : List (Str × Nat)} (h : blkC c.N sc scope own = true) : BlkOk X.N X.env.scope scope own := by
  have b := blkOk_by h
  refine ⟨b.kind, b.uniq, by rw [g.hN]; exact b.ix, fun y hy e => ?_, by rw [g.hN]; exact b.own⟩
  rcases b.free y hy e with z | z
  · rcases g.scp _ _ z with q | ⟨q, _⟩
    · exact .inl q
    · cases q
  · rcases g.scp _ _ z with q | ⟨_, q⟩
    · exact .inr q
    · exact .inl q
theorem Gd.blk (g : Gd c T k φ sc X) (scope : Scope) (s : Shared) (H : Hp) (C : Addr) (cl : List (Str × Addr)) (fp : List Addr) : Gd c T k φ scope (X.blk s H scope (compEnvC scope cl C X.env) fp) where
  hK := g.hK
  hN := g.hN
  nd := g.nd
  calm := g.calm
  room := g.room
  gds := g.gds
  scp := fun x kk e => by
    show (relS scope X.env.scope).names.lookup x = some kk ∨ _
    by_cases hf : kk = .free
    · subst hf
      cases q : (relS scope X.env.scope).names.lookup x with
      | none =>
        have : ∀ {names : List (Str × NameKind)} {sc : Scope}, names.lookup x = some NameKind.free → (names.map fun (n, k) => if (k == NameKind.free && sc.kind == .function && sc.names.lookup n == some .cell) then (n, NameKind.cell) else (n, k)).lookup x ≠ none := by
          intro names sc h
          induction names with
          | nil => simp at h
          | cons p r ih =>
            obtain ⟨n, kq⟩ := p
            simp only [List.map_cons]
            cases hx : x == n with
            | true =>
              split
              · simp [List.lookup_cons, hx]
              · simp [List.lookup_cons, hx]
            | false =>
              have h2 : r.lookup x = some .free := by simpa [List.lookup_cons, hx] using h
              split
              · simpa [List.lookup_cons, hx] using ih h2
              · simpa [List.lookup_cons, hx] using ih h2
        exact absurd q (this e)
      | some k' =>
        obtain ⟨k2, h1, h2⟩ := lookup_relS (sc := X.env.scope) q
        rw [e] at h1
        cases h1
        rcases h2 with rfl | ⟨_, rfl⟩
        · exact .inl rfl
        · exact .inr ⟨rfl, q⟩
    · exact .inl (lookup_relS_keep hf e)
  cel := fun x e => by show (scope.names.lookup x == some .cell) = true; rw [e]; rfl
  bl := g.bl
  gl := g.gl
  fs := g.fs
  ct := g.ct
  cl := g.cl
  pr := g.pr
  sa := g.sa
  ln := g.ln

abbrev bodyC (φ : Phi) (elt : E) (tg : Vi.T) (ifs : Es) (own : List Nat) : D → Ev → Option (Option D × Ev) :=
  fun x e => (bindT [] tg x e).bind fun e1 => (denAl φ ifs e1).bind fun b => if b.1 then (den φ elt b.2).map fun y => (some y.1.frz, wipeE y.2 own) else some (none, wipeE b.2 own)

theorem compRd {elt : E} {tg : Vi.T} {it : I} {ifs : Es} {own : List (Str × Nat)} (hsub : ∀ i ∈ tgts tg, i ∈ own.map (·.2)) {σ : L2.St} {H : Hp} {Q : VK} (q : rdE T φ (.comp elt tg it ifs (own.map (·.2))) σ H Q) :
    tLc (rdI T φ it) (rdG T (bindT [] tg) (tgts tg)) (rdT T (denAl φ ifs)) (rdZ T φ elt) (own.map (·.2)) σ H Q := by
  obtain ⟨G, env, O, a, env', s, e0, K⟩ := q
  simp only [den, Option.map_eq_some_iff, Option.bind_eq_some_iff, Prod.mk.injEq] at e0
  obtain ⟨⟨dd, env3⟩, ⟨⟨xs, hid, env1⟩, e1, ⟨r, env2⟩, e2, e3⟩, rfl, rfl⟩ := e0
  simp only [Prod.mk.injEq] at e3
  obtain ⟨rfl, rfl⟩ := e3
  generalize hown : own.map (·.2) = ow at *
  refine ⟨G, env, O, xs, hid, env1, s, e1, fun J H1 G1 O1 W s1 iok nd dj gn ad hk f1 => ?_⟩
  intro Dl hD
  obtain ⟨Ow, sw, mw⟩ := s1.wipes ow
  have wsame : ∀ {G2 H2 : Hp} {O2 : List Addr}, Fm G1 H1 O1 G2 H2 O2 → ∀ a ∈ W, H2 a = H1 a := fun {G2 H2 O2} f a ha => by
    obtain ⟨u, hu⟩ := ad a ha
    rw [f.same a u hu (dj a ha), hu]
  refine ⟨fun i m H => m = xs.length - i ∧ i ≤ xs.length ∧ ∃ G env O acc vs, compL (bodyC φ elt tg ifs ow) (xs.drop i) acc env = some (r, env2) ∧ SR T G H env (L2.wipe σ ow) O ∧ Fm G1 H1 O1 G H O ∧ H Dl = some (.lst vs) ∧ Reps T G acc vs ∧ Dl ∉ O ∧ G Dl = none ∧ vs.length ≤ line,
    ⟨xs.length, by simp, Nat.zero_le _, G1, wipeE env1 ow, Ow, [], [], e2, ?_, ?_, upd_same, .nil, fun z => ?_, s1.gs.non hD, Nat.zero_le _⟩, ?_⟩
  · exact sw.frame (Fm.newO s1.gs hD _) (fun _ _ => by simp) (s1.gs.updL (s1.gs.non hD) _)
  · exact ((Fm.refl G1 H1 O1).less mw).updD hD _
  · obtain ⟨u, hu⟩ := sw.rep.addr _ z
    rw [hu] at hD; cases hD
  rintro i m H ⟨rfl, hi, G, env, O, acc, vs, ec, sr, fm, hH, ra, dO, dG, hl⟩
  by_cases hlt : i < xs.length
  · refine .inr ⟨iok.go i G H fm.g (wsame fm) sr.gs hlt, _, fun H' z => ⟨xs.length - (i + 1), by omega, z⟩, fun x H' y => ?_⟩
    obtain ⟨G', d, ed, rd, f0, gs'⟩ := iok.yld i G H x H' fm.g (wsame fm) sr.gs hlt y
    have ex : xs.drop i = d :: xs.drop (i + 1) := by
      rw [List.drop_eq_getElem_cons hlt]
      rw [List.getElem?_eq_getElem hlt] at ed
      cases ed; rfl
    rw [ex] at ec
    simp only [compL] at ec
    split at ec
    · rename_i hal
      simp only [Option.bind_eq_some_iff] at ec
      obtain ⟨⟨od, env6⟩, ⟨env4, b1, ⟨bb, env5⟩, b2, b3⟩, ec⟩ := ec
      have f0' : Fm G H O G' H' O := (f0.wide O).less fun a ha => by simpa using ha
      have f0'' : Fm G H O G' H' O := ⟨f0'.g, fun a u e _ => f0.same a u e (by simp), f0'.fresh, f0'.gnew⟩
      have sr1 : SR T G' H' env (L2.wipe σ ow) O := sr.frame f0 (fun _ _ => by simp) gs'
      refine ⟨G', env, O, [], d, env4, ⟨sr1, .one' (.frz rd), .nil, by simp, by simp⟩, b1, fun σ2 O2 s2 l2 k2 sub2 => ⟨wipe_same l2 fun j hj => k2 j fun z => hj (hsub j z), ?_⟩⟩
      have k2' : L2.wipe σ2 ow = L2.wipe σ ow := wipe_same l2 fun j hj => k2 j fun z => hj (hsub j z)
      refine ⟨G', env4, O2, bb, env5, s2, b2, fun H3 G3 O3 s3 f3 => ?_⟩
      have f03 : Fm G H O G3 H3 O3 := (f0'.less fun a ha => by simpa using sub2 a ha).trans f3
      have dkeep : ∀ {G4 H4 : Hp} {O4 : List Addr}, Fm G H O G4 H4 O4 → H4 Dl = some (.lst vs) ∧ Dl ∉ O4 ∧ G4 Dl = none := fun {G4 H4 O4} f => ⟨f.same _ _ hH dO, (fun z => by
        rcases f.fresh _ z with q | q
        · exact dO q
        · rw [hH] at q; cases q), f.gnone dG dO ⟨_, hH⟩⟩
      cases bb with
      | true =>
        simp only [if_true, Option.map_eq_some_iff, Prod.mk.injEq] at b3
        obtain ⟨⟨yd, env7⟩, b3, rfl, rfl⟩ := b3
        refine ⟨G3, env5, O3, yd.frz, env7, s3, by simp only [b3, Option.map_some], fun v H4 G4 O4 s4 r4 f4 => ?_⟩
        have f04 := f03.trans f4
        obtain ⟨h4, d4, g4⟩ := dkeep f04
        have hvl : vs.length < line := by rw [← ra.length]; exact hal
        refine ⟨vs, h4, hvl, rfl, hlt, G4, wipeE env7 ow, ?_⟩
        obtain ⟨O5, s5, m5⟩ := s4.wipes ow
        rw [k2'] at s5
        refine ⟨O5, acc ++ [yd.frz], vs ++ [v], ec, ?_, ?_, upd_same, (ra.mono f04.g).append (.cons r4 .nil), fun z => d4 (m5 _ z), g4, by rw [List.length_append]; exact hvl⟩
        · refine ⟨s5.rep.frame (.refl _) fun a u ha e => ?_, s5.nd, s5.gn, s5.gs.updL g4 _⟩
          rw [upd_ne (fun z : a = Dl => d4 (m5 Dl (z ▸ ha)))]; exact e
        · exact ((fm.trans f04).less m5).updD hD _
      | false =>
        simp only [Bool.false_eq_true, if_false, Option.some.injEq, Prod.mk.injEq] at b3
        obtain ⟨rfl, rfl⟩ := b3
        obtain ⟨h4, d4, g4⟩ := dkeep f03
        obtain ⟨O5, s5, m5⟩ := s3.wipes ow
        rw [k2'] at s5
        exact ⟨rfl, hlt, G3, wipeE env5 ow, O5, acc, vs, ec, s5, (fm.trans f03).less m5, h4, ra.mono f03.g, fun z => d4 (m5 _ z), g4, hl⟩
    · cases ec
  · have hi2 : i = xs.length := by omega
    subst hi2
    refine .inl ⟨iok.stop _ G H fm.g (wsame fm) sr.gs (Nat.le_refl _), ?_⟩
    rw [List.drop_length] at ec
    simp only [compL, Option.some.injEq, Prod.mk.injEq] at ec
    obtain ⟨rfl, rfl⟩ := ec
    have s2 : SR T G H env σ O := ⟨sr.rep.cong (by rw [wipe_length]) fun j d e => (sr.rep.own_none e).2.symm, sr.nd, sr.gn, sr.gs⟩
    have dW : Dl ∉ W := fun z => by
      obtain ⟨u, hu⟩ := ad _ z
      rw [hu] at hD; cases hD
    have rep : RepO T G H (.lst true acc) (.ref Dl) [Dl] := .lst hH ra hl
    have big : Fm G1 H1 (W ++ O1) G H (W ++ O) := by
      have q := fm.wide W
      exact q.iff (fun a => by simp only [List.mem_append]; exact Or.comm) fun a h => by simp only [List.mem_append] at h ⊢; exact h.symm
    have freshD : ∀ {P : List Addr}, Fm G1 H1 (W ++ O1) G H P → Fm G1 H1 (W ++ O1) G H ([Dl] ++ P) := fun {P} f => ⟨f.g, f.same, fun a ha => by
      rcases List.mem_append.mp ha with z | z
      · simp only [List.mem_singleton] at z
        subst z; exact .inr hD
      · exact f.fresh a z, f.gnew⟩
    cases hid with
    | none =>
      refine K (.ref Dl) H G O [Dl] ⟨s2, .one' rep, by simp, fun a ha => by simp only [List.mem_singleton] at ha; subst ha; exact dO, fun a ha => by simp only [List.mem_singleton] at ha; subst ha; exact dG⟩ ?_
      exact f1.trans (freshD (big.less fun a h => List.mem_append_right _ h))
    | some p =>
      obtain ⟨j, dj'⟩ := p
      obtain ⟨v, hv, rv⟩ := hk
      obtain ⟨Oq, sq, mq⟩ := s2.wipe j
      have rv2 : RepO T G H dj' v W := fm.repO rv dj
      have ow2 : ∀ a ∈ W, a ∉ O := fun a ha z => by
        rcases fm.fresh a z with q | q
        · exact dj a ha q
        · obtain ⟨u, hu⟩ := ad a ha
          rw [hu] at q; cases q
      have A : AS T G H (env.set j none) σ Oq [.v dj'] [v] W := ⟨sq, .one' rv2, nd, fun a ha z => ow2 a ha (mq a z), fun a ha => fm.gnone (gn a ha) (dj a ha) (ad a ha)⟩
      obtain ⟨O3, s3, m3⟩ := A.into (by rw [getV_set]; simp) hv
      rw [List.set_set] at s3
      refine K (.ref Dl) H G O3 [Dl] ⟨s3, .one' rep, by simp, fun a ha => ?_, fun a ha => by simp only [List.mem_singleton] at ha; subst ha; exact dG⟩ ?_
      · simp only [List.mem_singleton] at ha
        subst ha
        intro z
        rcases (m3 _).mp z with z | z
        · exact dW z
        · exact dO (mq _ z)
      · exact f1.trans (freshD (big.less fun a h => by
          rcases (m3 a).mp h with z | z
          · exact List.mem_append_left _ z
          · exact List.mem_append_right _ (mq a z)))
theorem peComp (g : Gd c T k φ sc X) {elt : E} {tg : Vi.T} {it : I} {ifs : Es} {own : List (Str × Nat)} {xelt xtg xit : Expr} {xifs : List Expr} {scope : Scope} {pos : Pos} (hi : PI X xtg xit (rdI T φ it)) (hb : blkC c.N sc scope own = true)
    (hg : chkT c scope tg xtg = true)
    (ht : ∀ X', Gd c T k φ scope X' → PTs X' xifs (rdT T (denAl φ ifs))) (he : ∀ X', Gd c T k φ scope X' → PE X' xelt (rdZ T φ elt)) (hsub : ∀ i ∈ tgts tg, i ∈ own.map (·.2)) (hf : ∀ x, foldedSetIterable xit X.env x = pure x) :
    PE X (.ListComp xelt [⟨xtg, xit, xifs, 0⟩] scope pos) (rdE T φ (.comp elt tg it ifs (own.map (·.2)))) := by
  refine (pe_lc g.calm g.nX hi (g.blkS hb) (fun s H C cl fp => pgT (g.blk scope s H C cl fp) [] hg) (fun s H C cl fp => ht _ (g.blk scope s H C cl fp)) (fun s H C cl fp => he _ (g.blk scope s H C cl fp)) hf).imp fun σ H Q q => compRd hsub q
end
end Vi
end
section
set_option maxRecDepth 100000
/-! Vi, part N: the rules, one by one. -/
namespace Vi
open PySem PySem.Spec PyProof.Rows L2

section
variable {c : Cf} {T : Tx} {k : Nat} {φ : Phi} {sc : Scope} {X : Cx} {x y z : Expr} {pos : Pos}
theorem AR.peek1 {G H : Hp} {env : Ev} {σ : L2.St} {O W : List Addr} {r : Ar} {v : V} {d : D} (a : AR T G H σ [r] [v] W) (s : SR T G H env σ O) (e : peekA env r = some d) : PRep T G H d v := by
  have pr : PReps T G H [d] [v] := a.peeks s (by simp only [peekAs, e, Option.bind_some, Option.map_some])
  obtain ⟨_, h1, pr⟩ := pr.inv1
  cases h1
  exact pr
theorem AR.ints {G H : Hp} {σ : L2.St} : ∀ {ds : List D} {ns : List Int} {vs : List V} {W : List Addr}, allI ds = some ns → AR T G H σ (ds.map .v) vs W → vs = ns.map V.int
  | [], ns, vs, W, e, a => by simp only [allI, Option.some.injEq] at e; subst e; cases a; rfl
  | q :: ds, ns, vs, W, e, a => by
    cases q <;> simp only [allI, Option.map_eq_some_iff, reduceCtorEq] at e
    obtain ⟨ms, e, rfl⟩ := e
    cases a with
    | v rr a =>
      have h := (show PRep T G H (.int _) _ from ⟨_, rr⟩).int
      rw [h, AR.ints e a]
      rfl
/-- a new thing that is frozen -/
theorem AS.val {G H : Hp} {env : Ev} {σ : L2.St} {O : List Addr} {d : D} {v : V} (s : SR T G H env σ O) (r : Rep T G d v) : AS T G H env σ O [.v d] [v] [] := ⟨s, .one' (.frz r), .nil, by simp, by simp⟩
theorem rdE_tup {es : Es} {σ : L2.St} {H : Hp} {Q : VK} (q : rdE T φ (.tup es) σ H Q) : tTup (rdF T φ es) σ H Q := by
  obtain ⟨G, env, O, a, env', s, e, K⟩ := q
  simp only [den, Option.map_eq_some_iff, Option.bind_eq_some_iff, Prod.mk.injEq] at e
  obtain ⟨⟨d, env3⟩, ⟨⟨ds, env1⟩, e1, e2⟩, rfl, rfl⟩ := e
  split at e2
  · rename_i hl
    simp only [Option.some.injEq, Prod.mk.injEq] at e2
    obtain ⟨rfl, rfl⟩ := e2
    refine ⟨G, env, O, ds, env1, s, e1, fun vs H1 G1 O1 s1 r1 f1 => ⟨by rw [← r1.length]; exact hl, fun p hp => ?_⟩⟩
    have l : vs.length ≤ line := by rw [← r1.length]; exact hl
    have fn := Fm.newG s1.gs hp (.tup vs)
    have s2 := s1.frame fn (fun _ _ => by simp) (s1.gs.upds p _)
    exact K _ _ _ O1 [] (.val s2 (.tup upd_same (r1.mono (.updr (s1.gs.non hp) _)) l)) (f1.trans (fn.wide O1))
  · cases e2
theorem rdE_lst {es : Es} {σ : L2.St} {H : Hp} {Q : VK} (q : rdE T φ (.lst es) σ H Q) : tLst (rdF T φ es) σ H Q := by
  obtain ⟨G, env, O, a, env', s, e, K⟩ := q
  simp only [den, Option.map_eq_some_iff, Option.bind_eq_some_iff, Prod.mk.injEq] at e
  obtain ⟨⟨d, env3⟩, ⟨⟨ds, env1⟩, e1, e2⟩, rfl, rfl⟩ := e
  split at e2
  · rename_i hl
    simp only [Option.some.injEq, Prod.mk.injEq] at e2
    obtain ⟨rfl, rfl⟩ := e2
    refine ⟨G, env, O, ds, env1, s, e1, fun vs H1 G1 O1 s1 r1 f1 => ⟨by rw [← r1.length]; exact hl, fun p hp => ?_⟩⟩
    have l : vs.length ≤ line := by rw [← r1.length]; exact hl
    have fn := Fm.newO s1.gs hp (.lst vs)
    exact K _ _ _ O1 [p] (.ofPost s1 fn (s1.gs.updL (s1.gs.non hp) _) (.lst upd_same r1 l) (by intro a ha; simp only [List.mem_singleton] at ha; subst ha; exact s1.gs.non hp)) (f1.trans (fn.wide O1))
  · cases e2
theorem rdE_dnew {t : Bool} {σ : L2.St} {H : Hp} {Q : VK} (q : rdE T φ (.dnew t) σ H Q) : if t = true then tDNewT σ H Q else tDNewK σ H Q := by
  obtain ⟨G, env, O, a, env', s, e, K⟩ := q
  simp only [den, Option.map_some, Option.some.injEq, Prod.mk.injEq] at e
  obtain ⟨rfl, rfl⟩ := e
  cases t
  · intro p hp
    have fn := Fm.newO s.gs hp (.dK [])
    exact K _ _ _ O [p] (.ofPost s fn (s.gs.updL (s.gs.non hp) _) (.dic upd_same .nil (Nat.zero_le _)) (by intro a ha; simp only [List.mem_singleton] at ha; subst ha; exact s.gs.non hp)) (fn.wide O)
  · intro p hp
    have fn := Fm.newO s.gs hp (.dT [])
    exact K _ _ _ O [p] (.ofPost s fn (s.gs.updL (s.gs.non hp) _) (.dit upd_same .nil (Nat.zero_le _)) (by intro a ha; simp only [List.mem_singleton] at ha; subst ha; exact s.gs.non hp)) (fn.wide O)
theorem rdE_attr (g : Gd c T k φ sc X) {e : E} {f : Str} {σ : L2.St} {H : Hp} {Q : VK} (q : rdE T φ (.attr e f) σ H Q) : SlX.tSl X.K (rdP T φ e) f σ H Q := by
  obtain ⟨G, env, O, a, env', s, e0, K⟩ := q
  simp only [den, Option.map_eq_some_iff, Option.bind_eq_some_iff, Prod.mk.injEq] at e0
  obtain ⟨⟨d, env3⟩, ⟨⟨r, env1⟩, e1, d0, e2, e3⟩, rfl, rfl⟩ := e0
  split at e3
  · simp only [Option.map_eq_some_iff, Prod.mk.injEq] at e3
    obtain ⟨dd, e3, rfl, rfl⟩ := e3
    refine ⟨G, env, O, r, env1, s, e1, fun v H1 G1 O1 W1 A f1 => ?_⟩
    have pr := A.ar.peek1 A.sr e2
    obtain ⟨p, dx, ci, vs, rfl, hc, sl, rf⟩ := pr.ins A.sr.gs
    obtain ⟨i, v, h1, h2, h3⟩ := rf.look e3
    obtain ⟨pp, s1⟩ := (g.ct _ _ hc).slot _ _ h1
    exact ⟨p, ci.adr, dx, pp, vs, i, v, rfl, sl, (g.ct _ _ hc).cls, s1, h2, K v H1 G1 O1 [] (.val A.sr h3) (f1.less fun a h => by simp only [List.nil_append] at h; exact List.mem_append_right _ h)⟩
  · cases e3
theorem peAttr (g : Gd c T k φ sc X) {e : E} {f : Str} (h : PE X x (rdP T φ e)) (hb : notC0 x = true) : PE X (.Attribute x f pos) (rdE T φ (.attr e f)) := (SlX.pe_sl h (ok_base hb f)).imp fun σ H Q => rdE_attr g
theorem peProp (g : Gd c T k φ sc X) {e : E} {cn q f : Str} (h : PE X x (rdE T φ e)) (hb : notC0 x = true) (hp : (cn, f, q) ∈ c.pr) : PE X (.Attribute x f pos) (rdE T φ (.prop cn q f e)) := by
  obtain ⟨ci, a, ga, hc, P, hk, fd, ps, hbd, F⟩ := g.pr _ hp
  refine (pe_propG h (g.ct _ _ hc).cls P F g.room g.gds hbd (ok_base hb f)).imp fun σ H Q r => ?_
  obtain ⟨G, env, O, a, env', s, e0, K⟩ := r
  simp only [den, Option.map_eq_some_iff, Option.bind_eq_some_iff, Prod.mk.injEq] at e0
  obtain ⟨⟨d, env3⟩, ⟨⟨d0, env1⟩, e1, e3⟩, rfl, rfl⟩ := e0
  split at e3
  · rename_i hi
    simp only [Option.map_eq_some_iff, Prod.mk.injEq] at e3
    obtain ⟨⟨dd, fin⟩, e3, rfl, rfl⟩ := e3
    refine ⟨G, env, O, .v d0, env1, s, by simp only [e1, Option.map_some], fun v H1 G1 O1 W1 A f1 => ?_⟩
    unfold isIns at hi
    simp only at hi e3
    split at hi
    · rename_i cn' fs
      simp only [decide_eq_true_eq] at hi
      subst hi
      obtain ⟨rr, hW⟩ := A.ar.one.nown rfl
      subst hW
      have rr2 := rr
      cases rr with
      | @ins p dx _ ci' vs _ hc' sl rf =>
        rw [hc] at hc'
        cases hc'
        refine ⟨p, dx, vs, rfl, A.sr.gs.slt sl, G1, _, _, _, [], ⟨by simpa using ERep.is (.frz rr2) .nil, .nil, by simp, A.sr.gs⟩, e3, fun v' H' G' O' as A' f' => ?_⟩
        have s2 := A.sr.frame f' (fun _ _ => by simp) A'.sr.gs
        refine K v' H' G' O1 as ⟨s2, .one' A'.ar.one, A'.nd, fun b hb ho => ?_, A'.gn⟩ ((f1.trans (f'.wide O1)).less fun b hb => ?_)
        · rcases f'.fresh b (List.mem_append_left _ hb) with z | z
          · simp at z
          · obtain ⟨u, hu⟩ := A.sr.rep.addr b ho
            rw [hu] at z; cases z
        · simp only [List.mem_append] at hb ⊢
          rcases hb with z | z
          · exact .inl (.inl z)
          · exact .inr z
    · cases hi
  · cases e3
theorem peLen (g : Gd c T k φ sc X) {e : E} {cn q f : Str} {p : Pos} (hf : callIs c sc f "len" = true) (h : PE X x (rdE T φ e)) (hp : (cn, q) ∈ c.ln) (hx : okX x = true) : PE X (.Call (.Name f p) [x] [] pos) (rdE T φ (.lenI cn q e)) := by
  obtain ⟨ci, ga, hc, L, hk, fd, ps, hbd, F⟩ := g.ln _ hp
  obtain ⟨rfl, g1, m1⟩ := callIs_of g hf
  refine (pe_callB (call_lenO L F g.room g.gds hbd) g1 m1 boot_len (pa_cons h pa_nil (ok_star hx _)) (by decide) (by decide) (ok_star hx _) rfl).imp fun σ H Q r => ?_
  obtain ⟨G, env, O, a, env', s, e0, K⟩ := r
  simp only [den, Option.map_eq_some_iff, Option.bind_eq_some_iff, Prod.mk.injEq] at e0
  obtain ⟨⟨d, env3⟩, ⟨⟨d0, env1⟩, e1, e3⟩, rfl, rfl⟩ := e0
  split at e3
  · rename_i hi
    simp only [Option.map_eq_some_iff, Option.bind_eq_some_iff, Prod.mk.injEq] at e3
    obtain ⟨⟨dd, fin⟩, e3, d9, e4, rfl, rfl⟩ := e3
    refine ⟨G, env, O, .v d0, env1, s, by simp only [e1, Option.map_some], fun v H1 G1 O1 W1 A f1 => ?_⟩
    unfold isIns at hi
    simp only at hi e3
    split at hi
    · rename_i cn' fs
      simp only [decide_eq_true_eq] at hi
      subst hi
      obtain ⟨rr, hW⟩ := A.ar.one.nown rfl
      subst hW
      have rr2 := rr
      cases rr with
      | @ins p dx _ ci' vs _ hc' sl rf =>
        rw [hc] at hc'
        cases hc'
        refine ⟨p, dx, vs, rfl, A.sr.gs.slt sl, G1, _, _, _, [], ⟨by simpa using ERep.is (.frz rr2) .nil, .nil, by simp, A.sr.gs⟩, e3, fun v' H' G' O' as A' f' => ?_⟩
        have s2 := A.sr.frame f' (fun _ _ => by simp) A'.sr.gs
        cases dd with
        | int n =>
          simp only [lenOk] at e4
          split at e4
          · rename_i hn
            cases e4
            have hv := A'.ar.one
            obtain ⟨rv, hW⟩ := hv.nown rfl
            have ev : v' = .int n := by cases rv; rfl
            have lt := lt_two_pow_of_log2_lt hn.2
            refine ⟨n, ev, hn.1, by omega, ?_⟩
            refine K v' H' G' O1 as ⟨s2, .one' A'.ar.one, A'.nd, fun b hb ho => ?_, A'.gn⟩ ((f1.trans (f'.wide O1)).less fun b hb => ?_)
            · rcases f'.fresh b (List.mem_append_left _ hb) with z | z
              · simp at z
              · obtain ⟨u, hu⟩ := A.sr.rep.addr b ho
                rw [hu] at z; cases z
            · simp only [List.mem_append] at hb ⊢
              rcases hb with z | z
              · exact .inl (.inl z)
              · exact .inr z
          · cases e4
        | _ => simp only [lenOk] at e4; cases e4
    · cases hi
  · cases e3
theorem peCall (g : Gd c T k φ sc X) {es : Es} {xs : List Expr} {f : Str} {p : Pos} (hf : c.fs.contains f = true) (hg : isGlb sc f = true) (hd : (f == ("__debug__" : Str)) = false) (h : PEs X T φ xs es) (h0 : xs ≠ []) : PE X (.Call (.Name f p) xs [] pos) (rdE T φ (.call f es)) := by
  obtain ⟨a, hm, hk, fd, ps, hb, F⟩ := g.fs f (by simpa using hf)
  have ok := h.ok
  cases xs with
  | nil => exact absurd rfl h0
  | cons e r =>
    simp only [List.all_cons, Bool.and_eq_true] at ok
    exact (pe_callG F g.room0 g.gds (g.glb hg) hm hk hb h.pa hd (ok_star ok.1 _) (ok_back ok.2 _)).imp fun σ H Q => rdE_call
theorem peMake (g : Gd c T k φ sc X) {es : Es} {xs : List Expr} {f q : Str} {p : Pos} (hf : c.cl.lookup f = some q) (hg : isGlb sc f = true) (hd : (f == ("__debug__" : Str)) = false) (h : PEs X T φ xs es) (h0 : xs ≠ []) : PE X (.Call (.Name f p) xs [] pos) (rdE T φ (.make f q es)) := by
  obtain ⟨ci, a, hc, hm, M, hk, fd, ps, hb, F⟩ := g.cl f q hf
  have ok := h.ok
  cases xs with
  | nil => exact absurd rfl h0
  | cons e r =>
    simp only [List.all_cons, Bool.and_eq_true] at ok
    exact (pe_makeG M F g.room g.gds (g.glb hg) hm hb h.pa hd (ok_star ok.1 _) (ok_back ok.2 _)).imp fun σ H Q => rdE_make hc
/-- three operands in a chain -/
theorem rdE_chain {o p : Op} {a b d : E} {σ : L2.St} {H : Hp} {Q : VK} (q : rdE T φ (.chain o p a b d) σ H Q) : tChain (rB T o) (rB T p) (rdP T φ a) (rdP T φ b) (rdP T φ d) σ H Q := by
  obtain ⟨G, env, O, r, env', s, e, K⟩ := q
  simp only [den, Option.map_eq_some_iff, Option.bind_eq_some_iff, Prod.mk.injEq] at e
  obtain ⟨⟨dv, env9⟩, ⟨⟨ra, env1⟩, e1, ⟨rb, env2⟩, e2, ds, e3, kd, e4, kb, e5, e6⟩, rfl, rfl⟩ := e
  refine ⟨G, env, O, ra, env1, s, e1, fun va H1 G1 O1 W1 A1 f1 => ?_⟩
  refine ⟨G1, env1, O1, rb, env2, A1.sr, e2, fun vb H2 G2 O2 W2 A2 f2 => ?_⟩
  have A12 := A1.cons A2 f2
  have f12 := f1.consA f2
  cases kd <;> simp only [boolOf, Option.some.injEq, reduceCtorEq] at e5
  subst e5
  rename_i kk
  refine ⟨G2, ds, .bl kk, A2.sr.gs, A12.ar.peeks A12.sr e3, e4, fun v3 H3 G3 as f3 gs3 r3 gn3 => ?_⟩
  obtain ⟨rr, has⟩ := r3.nown rfl
  subst has
  cases rr
  have sz := A2.sr.frame f3 (fun _ _ => by simp) gs3
  refine ⟨kk, rfl, ?_⟩
  have f3w : Fm G2 H2 O2 G3 H3 ([] ++ O2) := f3.wide O2
  -- the middle one stays
  have Wb : AR T G3 H3 σ [rb] [vb] W2 := A2.ar.frame f3.g fun b u hb e => f3.same b u e (by simp)
  have A3 : AS T G3 H3 env2 σ O2 [rb] [vb] W2 := ⟨sz, Wb, A2.nd, A2.dj, fun b hb => f3.gnone (A2.gn b hb) (by simp) (A2.ar.addr b hb)⟩
  have f13 : Fm G H O G3 H3 (W2 ++ O2) := by
    have q1 : Fm G H O G2 H2 (W2 ++ O2) := f12.less fun b hb => by
      simp only [List.mem_append] at hb ⊢
      exact hb.imp Or.inr id
    exact (q1.trans (f3.wide (W2 ++ O2))).less fun b hb => by simpa using hb
  cases kk with
  | true =>
    simp only [if_true, Option.bind_eq_some_iff, Option.map_eq_some_iff, Prod.mk.injEq] at e6
    obtain ⟨⟨rc, env3⟩, e6, es, e7, dd, e8, rfl, rfl⟩ := e6
    refine ⟨G3, env2, O2, rc, env3, sz, e6, fun vc H4 G4 O4 W4 A4 f4 => ?_⟩
    have A34 := A3.cons A4 f4
    refine ⟨G4, es, dd, A4.sr.gs, A34.ar.peeks A34.sr e7, e8, fun v5 H5 G5 as5 f5 gs5 r5 gn5 => ?_⟩
    exact K v5 H5 G5 O4 as5 (.ofPost A4.sr f5 gs5 r5 gn5) ((f13.consA f4).post f5)
  | false =>
    simp only [Bool.false_eq_true, if_false, Option.some.injEq, Prod.mk.injEq] at e6
    obtain ⟨rfl, rfl⟩ := e6
    exact K _ H3 G3 O2 [] (.val sz (.bl false)) (f13.less fun b hb => by simp only [List.nil_append] at hb; exact List.mem_append_right _ hb)
/-- an operation with its receiver looked at first -/
theorem rdE_opm {o : Op} {a : E} {es : Es} {σ : L2.St} {H : Hp} {Q : VK} (q : rdE T φ (.opm o a es) σ H Q) :
    rdP T φ a σ H fun x H1 => (∃ G d, GSub G H1 ∧ PRep T G H1 d x ∧ recvOk o d = true) ∧ rdA T φ es σ H1 fun ys H2 => rD T o (x :: ys) H2 Q := by
  obtain ⟨G, env, O, r, env', s, e, K⟩ := q
  simp only [den, Option.map_eq_some_iff, Option.bind_eq_some_iff, Prod.mk.injEq] at e
  obtain ⟨⟨dv, env9⟩, ⟨⟨ra, env1⟩, e1, d0, e2, e3⟩, rfl, rfl⟩ := e
  split at e3
  · rename_i hr
    simp only [Option.map_eq_some_iff, Option.bind_eq_some_iff, Prod.mk.injEq] at e3
    obtain ⟨⟨rs, env2⟩, e4, ds, e5, dd, e6, rfl, rfl⟩ := e3
    refine ⟨G, env, O, ra, env1, s, e1, fun va H1 G1 O1 W1 A1 f1 => ⟨⟨G1, d0, A1.sr.gs, ?_, hr⟩, ?_⟩⟩
    · have pr : PReps T G1 H1 [d0] [va] := A1.ar.peeks A1.sr (by simp only [peekAs, e2, Option.bind_some, Option.map_some])
      obtain ⟨_, h1, pr⟩ := pr.inv1
      cases h1
      exact pr
    · refine ⟨G1, env1, O1, rs, env2, A1.sr, e4, fun vs H2 G2 O2 W2 A2 f2 => ?_⟩
      have A12 := A1.cons A2 f2
      refine ⟨G2, ds, dd, A2.sr.gs, A12.ar.peeks A12.sr e5, e6, fun v5 H5 G5 as5 f5 gs5 r5 gn5 => ?_⟩
      exact K v5 H5 G5 O2 as5 (.ofPost A2.sr f5 gs5 r5 gn5) ((f1.consA f2).post f5)
  · cases e3
/-- a part of a list, a tuple -/
def slP (T : Tx) : V → Option Int → Option Int → Hp → VK → Prop := fun x lo hi H Q => ∃ G a d, GSub G H ∧ PRep T G H a x ∧ slcOp a lo hi = some d ∧ Post T G H d Q
theorem rdE_slc {a : E} {b d : Bool} {es : Es} {σ : L2.St} {H : Hp} {Q : VK} (q : rdE T φ (.slc a b d es) σ H Q) :
    rdP T φ a σ H fun x H1 => rdO T φ es σ H1 fun ys H2 => ∃ G d0 ns r, GSub G H2 ∧ PRep T G H2 d0 x ∧ ys = ns.map V.int ∧ slcOn d0 b d ns = some r ∧ Post T G H2 r Q := by
  obtain ⟨G, env, O, r, env', s, e, K⟩ := q
  simp only [den, Option.map_eq_some_iff, Option.bind_eq_some_iff, Prod.mk.injEq] at e
  obtain ⟨⟨dv, env9⟩, ⟨⟨ra, env1⟩, e1, ⟨ds, env2⟩, e2, d0, e3, ns, e4, dd, e5, rfl, rfl⟩, rfl, rfl⟩ := e
  refine ⟨G, env, O, ra, env1, s, e1, fun va H1 G1 O1 W1 A1 f1 => ?_⟩
  refine ⟨G1, env1, O1, ds.map .v, env2, A1.sr, by simp only [e2, Option.map_some], fun vs H2 G2 O2 W2 A2 f2 => ?_⟩
  have A12 := A1.cons A2 f2
  have pr : PReps T G2 H2 [d0] [va] := by
    have k1 : ∀ b u, b ∈ W1 → H1 b = some u → H2 b = some u := fun b u hb e => f2.same b u e (A1.dj b hb)
    exact (A1.ar.frame f2.g k1).peeks A2.sr (by simp only [peekAs, e3, Option.bind_some, Option.map_some])
  obtain ⟨_, h1, pr⟩ := pr.inv1
  cases h1
  have hv : vs = ns.map V.int := A2.ar.ints e4
  exact ⟨G2, d0, ns, _, A2.sr.gs, pr, hv, e5, fun v5 H5 G5 as5 f5 gs5 r5 gn5 => K v5 H5 G5 O2 as5 (.ofPost A2.sr f5 gs5 r5 gn5) ((f1.consA f2).post f5)⟩
end
end Vi
end
section
set_option maxRecDepth 100000
/-! Vi, part O: more operations. -/
namespace Vi
open PySem PySem.Spec PyProof.Rows L2

/-! ### sorting -/
theorem insI_perm (x : Int) : ∀ l, (insI x l).Perm (x :: l)
  | [] => .refl _
  | y :: r => by
    unfold insI
    split
    · exact ((insI_perm x r).cons y).trans (.swap x y r)
    · exact .refl _
theorem srtI_perm : ∀ l, (srtI l).Perm l
  | [] => .refl _
  | x :: r => (insI_perm x _).trans ((srtI_perm r).cons x)
theorem insI_sorted (x : Int) : ∀ {l}, l.Pairwise (· ≤ ·) → (insI x l).Pairwise (· ≤ ·)
  | [], _ => by simp [insI]
  | y :: r, h => by
    have h' := List.pairwise_cons.mp h
    unfold insI
    split
    · rename_i hlt
      refine List.pairwise_cons.mpr ⟨fun z hz => ?_, insI_sorted x h'.2⟩
      rcases List.mem_cons.mp ((insI_perm x r).mem_iff.mp hz) with rfl | q
      · omega
      · exact h'.1 z q
    · rename_i hlt
      refine List.pairwise_cons.mpr ⟨fun z hz => ?_, h⟩
      rcases List.mem_cons.mp hz with rfl | q
      · omega
      · have := h'.1 z q; omega
theorem srtI_sorted : ∀ l, (srtI l).Pairwise (· ≤ ·)
  | [] => .nil
  | x :: r => insI_sorted x (srtI_sorted r)
theorem srtI_uniq {ns l : List Int} (p : ns.Perm l) (s : ns.Pairwise (· ≤ ·)) : ns = srtI l :=
  List.Perm.eq_of_pairwise (fun _ _ _ _ a b => Int.le_antisymm a b) s (srtI_sorted l) (p.trans (srtI_perm l).symm)
def leS (a b : Str) : Prop := ltS b a = false
theorem ltS_eq (a b : Str) : ltS a b = ltCps a.cps.toList b.cps.toList := by unfold ltS; rw [PyProof.Rows.ltCps_eq]
theorem leS_anti {a b : Str} (h : leS a b) (k : leS b a) : a = b := by
  unfold leS ltS at h k
  have h1 := of_decide_eq_false h
  have k1 := of_decide_eq_false k
  have e : a.cps.toList = b.cps.toList := by
    rcases Std.lt_trichotomy a.cps.toList b.cps.toList with q | q | q
    · exact absurd q k1
    · exact q
    · exact absurd q h1
  cases a with | mk a => cases b with | mk b => cases a; cases b; simpa using e
theorem leS_trans {a b d : Str} (h : leS a b) (k : leS b d) : leS a d := by
  unfold leS ltS at *
  have h1 := of_decide_eq_false h
  have k1 := of_decide_eq_false k
  refine decide_eq_false fun q => ?_
  have h2 : a.cps.toList ≤ b.cps.toList := by simpa [List.not_lt] using h1
  have k2 : b.cps.toList ≤ d.cps.toList := by simpa [List.not_lt] using k1
  have := List.le_trans h2 k2
  exact absurd q (by simpa [List.not_lt] using this)
theorem ltS_le {a b : Str} (h : ltS a b = true) : leS a b := by
  unfold leS ltS at *
  have h1 := of_decide_eq_true h
  exact decide_eq_false fun q => absurd (List.lt_trans h1 q) (List.lt_irrefl _)
theorem insS_perm (x : Str) : ∀ l, (insS x l).Perm (x :: l)
  | [] => .refl _
  | y :: r => by
    unfold insS
    split
    · exact ((insS_perm x r).cons y).trans (.swap x y r)
    · exact .refl _
theorem srtS_perm : ∀ l, (srtS l).Perm l
  | [] => .refl _
  | x :: r => (insS_perm x _).trans ((srtS_perm r).cons x)
theorem insS_sorted (x : Str) : ∀ {l}, l.Pairwise leS → (insS x l).Pairwise leS
  | [], _ => by simp [insS]
  | y :: r, h => by
    have h' := List.pairwise_cons.mp h
    unfold insS
    split
    · rename_i hlt
      refine List.pairwise_cons.mpr ⟨fun z hz => ?_, insS_sorted x h'.2⟩
      rcases List.mem_cons.mp ((insS_perm x r).mem_iff.mp hz) with rfl | q
      · exact ltS_le hlt
      · exact h'.1 z q
    · rename_i hlt
      have hxy : leS x y := by simpa [leS] using hlt
      refine List.pairwise_cons.mpr ⟨fun z hz => ?_, h⟩
      rcases List.mem_cons.mp hz with rfl | q
      · exact hxy
      · exact leS_trans hxy (h'.1 z q)
theorem srtS_sorted : ∀ l, (srtS l).Pairwise leS
  | [] => .nil
  | x :: r => insS_sorted x (srtS_sorted r)
theorem rising_pw : ∀ (p : Str) (l : List Str), risingS p l = true → (p :: l).Pairwise leS
  | p, [], _ => by simp
  | p, x :: r, h => by
    simp only [risingS, Bool.and_eq_true, Bool.not_eq_true'] at h
    have ih := rising_pw x r h.2
    have hpx : leS p x := by unfold leS; rw [ltS_eq]; exact h.1
    refine List.pairwise_cons.mpr ⟨fun z hz => ?_, ih⟩
    rcases List.mem_cons.mp hz with rfl | q
    · exact hpx
    · exact leS_trans hpx ((List.pairwise_cons.mp ih).1 z q)
theorem sortedS_pw : ∀ (l : List Str), sortedS l = true → l.Pairwise leS
  | [], _ => .nil
  | x :: r, h => rising_pw x r h
theorem srtS_uniq {ns l : List Str} (p : ns.Perm l) (s : sortedS ns = true) : ns = srtS l :=
  List.Perm.eq_of_pairwise (fun _ _ _ _ a b => leS_anti a b) (sortedS_pw ns s) (srtS_sorted l) (p.trans (srtS_perm l).symm)

section
variable {X : Cx} {T : Tx}
theorem keysS : ∀ {kvs : List (Key × D)} {ns : List Str}, allS (kvs.map fun kv => ofKey kv.1) = some ns → kvs.map (·.1) = ns.map Sum.inr
  | [], ns, e => by simp [allS] at e; subst e; rfl
  | (.inr s, d) :: r, ns, e => by
    simp only [List.map_cons, ofKey, allS, Option.map_eq_some_iff] at e
    obtain ⟨ms, e, rfl⟩ := e
    simp [keysS e]
  | (.inl i, d) :: r, ns, e => by simp [ofKey, allS] at e
theorem ok_sorted (hK : X.K = T.K) (hc : X.calm = true) : CallR X (.builtin "sorted") (rD T .sorted) := by
  refine CallR.imp (CallR.or (CallR.or cr_sortedI cr_sortedS) (call_sortedD hc)) fun xs H Q h => ?_
  obtain ⟨G, a, v, d, rfl, gs, ra, e, p⟩ := rD.get1 (len1 _ (fun _ _ _ => ⟨rfl, rfl⟩)) h
  simp only [opSem] at e
  unfold sortOp at e
  split at e
  · obtain ⟨q, vs, rfl, h1, r1, l1⟩ := ra.lst gs
    split at e
    · rename_i ns hn
      cases e
      have hv := r1.ints hn
      subst hv
      refine .inl (.inl ⟨q, ns, rfl, .of h1, fun ns' b pm st hb => ?_⟩)
      rw [srtI_uniq pm st]
      refine p.newL gs (reps_ints _) ?_ hb
      rw [List.length_map, (srtI_perm ns).length_eq]; simpa using l1
    · simp only [Option.bind_eq_some_iff] at e
      obtain ⟨ns, hn, e⟩ := e
      split at e
      · cases e
        rename_i h64
        have hv := r1.strs hn
        subst hv
        refine .inl (.inr ⟨q, ns, rfl, .of h1, h64, fun ns' b pm st hb => ?_⟩)
        rw [srtS_uniq pm st]
        refine p.newL gs (reps_strs _) ?_ hb
        rw [List.length_map, (srtS_perm ns).length_eq]; simpa using l1
      · cases e
  · simp only [Option.bind_eq_some_iff] at e
    obtain ⟨ns, hn, e⟩ := e
    obtain ⟨q, vs, rfl, h1, r1, l1⟩ := ra.dic gs
    split at e
    · cases e
      rename_i h64
      refine .inr ⟨q, vs, ns, rfl, h1, by rw [← r1.keys]; exact keysS hn, h64, fun ns' b pm st hb => ?_⟩
      rw [srtS_uniq pm st]
      refine p.newL gs (reps_strs _) ?_ hb
      rw [List.length_map, (srtS_perm ns).length_eq]
      exact small64 h64
    · cases e
  · cases e
/-! ### texts of data -/
theorem call_repr_dp (hu : X.A.units + 70 < cLine) (hg : X.A.guards = some []) : CallR X (.builtin "repr") (fun xs H Q => ∃ v d, xs = [v] ∧ Dp X.K H v d ∧ d.canLay0 = true ∧ d.depth ≤ 60 ∧ d.showable = true ∧ d.shown.length ≤ sizeLine ∧ Q (.str d.shown) H) := by
  intro pins s σ H xs us Q I r h
  obtain ⟨v, d, rfl, hd, cl, dep, sh, hl, q⟩ := h
  obtain ⟨u, rfl, ru⟩ := vals1 r
  have rd := Dp.reads I d v u hd ru
  obtain ⟨as, rd⟩ := rd
  have big : ∀ {a : Addr}, v = .ref a → wpAny (model X.prog X.w) X.A (call (.builtin "repr") [u]) (EP X pins σ Q) X.xe s := fun {a} ev => by
    subst ev
    cases (show u = Value.ref a from ru)
    exact PySem.repr_of_reads' rd sh (PyData.noDict_hsm (PyData.hasDict_of_canLay _ cl)) hg (by omega) (fun _ _ e => e) (fun h' t tk hk => ⟨.str _, H, I.kept hk, ⟨t, rfl⟩, q⟩) hl
  cases hd with
  | non => cases (show u = Value.none from ru); exact PySem.P.repr_of_none ⟨.str _, H, I.tok _, ⟨_, rfl⟩, by simpa [PyData.shown] using q⟩
  | bl b => cases (show u = Value.bool b from ru); exact PySem.P.repr_of_bool ⟨.str _, H, I.tok _, ⟨_, rfl⟩, by simpa [PyData.shown] using q⟩
  | int i => obtain ⟨t, rfl⟩ := ru; exact PySem.P.repr_of_int (by simpa [PyData.showable] using sh) ⟨.str _, H, I.tok _, ⟨_, rfl⟩, by simpa [PyData.shown] using q⟩
  | str x => obtain ⟨t, rfl⟩ := ru; exact PySem.P.repr_of_str ⟨.str _, H, I.tok _, ⟨_, rfl⟩, by simpa [PyData.shown] using q⟩ (by simpa [PyData.shown] using hl)
  | lst _ _ => exact big rfl
  | tup _ _ => exact big rfl
theorem ok_repr (hK : X.K = T.K) (hu : X.A.units + 70 < cLine) (hg : X.A.guards = some []) : CallR X (.builtin "repr") (rD T .repr) := by
  refine CallR.imp (call_repr_dp hu hg) fun xs H Q h => ?_
  obtain ⟨G, a, v, d, rfl, gs, ra, e, p⟩ := rD.get1 (len1 _ (fun _ _ _ => ⟨rfl, rfl⟩)) h
  simp only [opSem] at e
  split at e
  · rename_i hp
    cases e
    simp only [Bool.and_eq_true, decide_eq_true_eq] at hp
    obtain ⟨q1, q2, q3⟩ := plain_dp gs 60 a v hp.1.1 ra
    exact ⟨v, toPy a, rfl, hK ▸ q1, q2, q3, hp.1.2, hp.2, p.atom gs (.str _)⟩
  · cases e
theorem ok_str : CallR X (.type "str") (rD T .str) := by
  refine CallR.imp (CallR.or call_str_int SkE.call_str_str) fun xs H Q h => ?_
  obtain ⟨G, a, v, d, rfl, gs, ra, e, p⟩ := rD.get1 (len1 _ (fun _ _ _ => ⟨rfl, rfl⟩)) h
  simp only [opSem] at e
  unfold strOp at e
  split at e
  · split at e
    · cases e
      rename_i hh
      rw [ra.int]
      exact .inl ⟨_, rfl, hh, p.atom gs (.str _)⟩
    · cases e
  · cases e
    rw [ra.str]
    exact .inr ⟨_, rfl, p.atom gs (.str _)⟩
  · cases e
theorem pairsD_dp : ∀ {xs : List D} {kvs : List (Key × D)} {vs : List V} {G H : Hp}, GSub G H → pairsD xs = some kvs → Reps T G xs vs → ∃ ps ws, vs = ps.map V.ref ∧ Paired (fun p (kv : Key × V) => SqT T.K H p [kV kv.1, kv.2]) ps ws ∧ RepK T G kvs ws
  | [], kvs, vs, G, H, _, e, r => by simp [pairsD] at e; subst e; cases r; exact ⟨[], [], rfl, .nil, .nil⟩
  | d :: xs, kvs, vs, G, H, gs, e, r => by
    cases d with
    | tup ys =>
      match ys, e with
      | [kd, vd], e =>
        simp only [pairsD, Option.bind_eq_some_iff, Option.map_eq_some_iff] at e
        obtain ⟨k, e1, ms, e2, rfl⟩ := e
        cases r with
        | @cons _ v _ vs r1 r2 =>
          obtain ⟨ps, ws, rfl, pp, rk⟩ := pairsD_dp gs e2 r2
          cases r1 with
          | @tup a us _ h1 h2 h3 =>
            cases h2 with
            | @cons _ u1 _ _ q1 q2 =>
              cases q2 with
              | @cons _ u2 _ _ q2 q3 =>
                cases q3
                have hk : u1 = kV k := by
                  cases kd <;> simp only [keyD, Option.some.injEq, reduceCtorEq] at e1
                  · subst e1; cases q1; rfl
                  · subst e1; cases q1; rfl
                subst hk
                exact ⟨a :: ps, (k, u2) :: ws, rfl, .cons (.of (gs _ _ h1)) pp, .cons q2 rk⟩
      | [], e => simp [pairsD] at e
      | [_], e => simp [pairsD] at e
      | _ :: _ :: _ :: _, e => simp [pairsD] at e
    | _ => simp [pairsD] at e
theorem repK_merge {G : Hp} {ds : List (Key × D)} {vs : List (Key × V)} (r : RepK T G ds vs) : ∀ {as : List (Key × D)} {bs : List (Key × V)}, RepK T G as bs → RepK T G (mergeD as ds) (mergeK bs vs) := by
  induction ds generalizing vs with
  | nil => intro as bs q; cases r; exact q
  | cons p ds ih =>
    intro as bs q
    cases r with
    | @cons k d v _ vs r1 r2 => exact ih r2 (q.put k r1)
theorem ok_dict (hK : X.K = T.K) (hc : X.calm = true) : CallR X (.type "dict") (rD T .dict) := by
  refine CallR.imp (call_dictP hc) fun xs H Q h => ?_
  obtain ⟨G, a, v, d, rfl, gs, ra, e, p⟩ := rD.get1 (len1 _ (fun _ _ _ => ⟨rfl, rfl⟩)) h
  simp only [opSem] at e
  unfold dictOp at e
  split at e
  · simp only [Option.map_eq_some_iff] at e
    obtain ⟨kvs, e, rfl⟩ := e
    obtain ⟨q, vs, rfl, h1, r1, l1⟩ := ra.lst gs
    obtain ⟨ps, ws, rfl, pp, rk⟩ := pairsD_dp gs e r1
    refine ⟨q, ps, ws, rfl, hK ▸ .of h1, hK ▸ pp, fun b hb => p.newD gs (repK_merge rk .nil) ?_ hb⟩
    have h2 := length_mergeK ws []
    have h3 : ws.length = ps.length := (Paired.length pp).symm
    rw [List.length_map] at l1
    simp at h2
    exact Nat.le_trans h2 (h3 ▸ l1)
  · cases e
end
end Vi
end
section
set_option maxRecDepth 100000
/-! Vi, part P: still more operations, by their form. -/
namespace Vi
open PySem PySem.Spec PyProof.Rows L2

section
variable {c : Cf} {T : Tx} {k : Nat} {φ : Phi} {sc : Scope} {X : Cx} {x y z : Expr} {p pos : Pos}
theorem kit_all : (["NoneType", "bool", "int", "str", "tuple", "list", "dict"].all fun a => tyNames.all fun b => kitB a b == some ((kidOf a).any [b].contains)) = true := by decide +kernel
theorem boot_all6 : (tyNames.all fun b => bootBuiltins (Str.ofString b) == some (.type b)) = true := by decide +kernel
theorem tyOf_mem {d : D} {t : String} (h : tyOf d = some t) : t ∈ ["NoneType", "bool", "int", "str", "tuple", "list", "dict"] := by
  cases d <;> simp [tyOf] at h <;> subst h <;> simp
theorem tyX_of {G H : Hp} {d : D} {v : V} {t : String} (gs : GSub G H) (h : tyOf d = some t) (r : PRep T G H d v) : TyX T.K H v (.type t) := by
  cases d with
  | non => rw [r.non]; cases h; exact .base .non
  | bl b => rw [r.bl]; cases h; exact .base (.bl b)
  | int b => rw [r.int]; cases h; exact .base (.int b)
  | str b => rw [r.str]; cases h; exact .base (.str b)
  | tup b => obtain ⟨a, vs, rfl, h1, _⟩ := r.tup gs; cases h; exact .base (.tup h1)
  | lst o b => obtain ⟨a, vs, rfl, h1, _⟩ := r.lst gs; cases h; exact .base (.lst h1)
  | dic o b =>
    obtain ⟨a, vs, rfl, h1, _⟩ := r.dic gs
    cases h
    rcases h1 with h1 | ⟨ob, h1⟩
    · exact .base (.dK h1)
    · exact .fDict h1
  | dit o b => simp [tyOf] at h
  | ins o c b => simp [tyOf] at h
  | scr b => simp [tyOf] at h
theorem peIsi (g : Gd c T k φ sc X) {e : E} {f u : Str} {p2 : Pos} {t : String} (hf : callIs c sc f "isinstance" = true) (hu : callIs c sc u (Str.ofString t) = true) (ht : t ∈ tyNames) (h : PE X x (rdP T φ e)) (ok : okX x = true) :
    PE X (.Call (.Name f p) [x, .Name u p2] [] pos) (rdE T φ (.op (.isi [t]) (.cons false e .nil))) := by
  obtain ⟨rfl, g1, m1⟩ := callIs_of g hf
  obtain ⟨rfl, g2, m2⟩ := callIs_of g hu
  have hb : bootBuiltins (Str.ofString t) = some (.type t) := by
    have q := List.all_eq_true.mp boot_all6 t ht
    simpa using q
  have hn : Str.ofString t ≠ "__name__" ∧ (Str.ofString t == ("__debug__" : Str)) = false := by
    have q : (tyNames.all fun t => decide (Str.ofString t ≠ "__name__") && !(Str.ofString t == ("__debug__" : Str))) = true := by decide +kernel
    have q2 := List.all_eq_true.mp q t ht
    simpa using q2
  refine (pe_callB call_isi g1 m1 PyProof.Rows.boot_isinstance (pa_cons h (pa_cons (pe_bltn (v := .ty t) g2 m2 hb rfl hn.1 hn.2) pa_nil rfl) (ok_star ok _)) (by decide) (by decide) (ok_star ok _) rfl).imp fun σ H Q q => ?_
  have q := rdE_op1 q
  obtain ⟨G, env, O, r, env', s, e1, K⟩ := q
  refine ⟨G, env, O, r, env', s, e1, fun v H1 G1 O1 W1 A1 f1 => ?_⟩
  obtain ⟨G2, a, v', d, ev, gs, ra, e2, P⟩ := rD.get1 (len1 _ (fun _ _ _ => ⟨rfl, rfl⟩)) (K v H1 G1 O1 W1 A1 f1)
  cases ev
  simp only [opSem, Option.map_eq_some_iff] at e2
  obtain ⟨t0, e2, rfl⟩ := e2
  refine ⟨v, .ty t, .type t0, .type t, (kidOf t0).any [t].contains, rfl, .ty t, g.hK ▸ tyX_of gs e2 ra, kit_ty ?_, P.atom gs (.bl _)⟩
  have q := List.all_eq_true.mp (List.all_eq_true.mp kit_all t0 (tyOf_mem e2)) t ht
  simpa using q
/-! ### len(set(xs)) -/
theorem firstMet_dedup (ns : List Int) : ∀ i, i ≤ ns.length → PyProof.Rows.firstMet (fun i => ns.getD i 0) i = (ns.take i).foldl PyProof.Rows.step_dedup []
  | 0, _ => rfl
  | i + 1, hi => by
    rw [PyProof.Rows.firstMet_succ, firstMet_dedup ns i (by omega)]
    have e2 : ns.take (i + 1) = ns.take i ++ [ns.getD i 0] := by
      have hlt : i < ns.length := hi
      rw [List.take_add_one, List.getElem?_eq_getElem hlt]
      simp [List.getD_eq_getElem?_getD, List.getElem?_eq_getElem hlt]
    rw [e2, List.foldl_append]
    simp only [List.foldl_cons, List.foldl_nil]
    first | done | rfl | (unfold PyProof.Rows.step_dedup; rfl)
theorem peLenset (g : Gd c T k φ sc X) {e : E} {f u : Str} {p2 q : Pos} (hf : callIs c sc f "len" = true) (hu : callIs c sc u "set" = true) (ha : PE X x (rdP T φ e)) (ok : okX x = true) :
    PE X (.Call (.Name f p) [.Call (.Name u p2) [x] [] q] [] pos) (rdE T φ (.op .lenset (.cons false e .nil))) := by
  obtain ⟨rfl, hg, hm⟩ := callIs_of g hf
  obtain ⟨rfl, hg2, hm2⟩ := callIs_of g hu
  refine ⟨fun pins s σ H Q I h => ?_⟩
  have h := rdE_op1 h
  have na : starEach [x] X.env = (false, eval x X.env) :: starEach [] X.env := ok_star ok _
  refine Call_ (ld_blt I hg hm boot_len ?_)
  refine PyProof.Rows.callWith_builtin1 (PyProof.Rows.args_cons ?_ rfl) rfl rfl
  refine Call_ (ld_blt I hg2 hm2 boot_set ?_)
  refine PyProof.Rows.callWith_type1 (PyProof.Rows.args_cons (thn (ha.run pins s σ H _ I h) fun v s1 ⟨y, H1, I1, r1, q1⟩ => PyProof.Rows.args_nil ?_) na) na rfl
  obtain ⟨G2, a, v', d, ev, gs, ra, e2, P⟩ := rD.get1 (len1 _ (fun _ _ _ => ⟨rfl, rfl⟩)) q1
  cases ev
  simp only [opSem] at e2
  unfold lensetOp at e2
  split at e2
  · simp only [Option.bind_eq_some_iff] at e2
    obtain ⟨ns, hn, e2⟩ := e2
    split at e2
    · cases e2
      rename_i h4
      obtain ⟨l, vs, rfl, hl, rs, _⟩ := ra.lst gs
      have hv := rs.ints hn
      subst hv
      cases r1
      obtain ⟨its, r, pl, hz⟩ := I1.list (.of hl)
      have hlen : its.toArray.size = ns.length := by rw [List.size_toArray, ← r.length, List.length_map]
      refine call_set_list (I1.ok.hd g.calm) pl.isList (by simpa using RZ.intsAre_vals r) (by rw [hlen]; unfold scanBound; omega) fun h' tk hS hk => ?_
      refine PyProof.Rows.args_nil ?_
      rw [hlen, firstMet_dedup ns ns.length (Nat.le_refl _), List.take_length] at hS
      obtain ⟨o, es, ep, t, ho, hex, hd, _, _, _, hf, hn2⟩ := hS
      have I2 : Inv X pins σ H1 { s1 with heap := h', toks := tk } := I1.kept fun b o e => hk b o (Heap.lt_size e) e
      have hb := PyProof.Rows.length_foldl_step_dedup_le ns []
      refine call_len_set ho hex hd hf (by rw [hn2]; simp only [List.length_nil] at hb; omega) ⟨.int (((ns.foldl PyProof.Rows.step_dedup []).length : Nat) : Int), H1, I2.tok _, ⟨_, by rw [hn2]⟩, P.atom gs (.int _)⟩
    · cases e2
  · cases e2
theorem peListRg (g : Gd c T k φ sc X) {e : E} {f u : Str} {p2 q : Pos} (hf : callIs c sc f "list" = true) (hu : callIs c sc u "range" = true) (ha : PE X x (rdP T φ e)) (ok : okX x = true) :
    PE X (.Call (.Name f p) [.Call (.Name u p2) [x] [] q] [] pos) (rdE T φ (.op .listrange (.cons false e .nil))) := by
  obtain ⟨rfl, hg, hm⟩ := callIs_of g hf
  obtain ⟨rfl, hg2, hm2⟩ := callIs_of g hu
  refine (pe_listRg g.calm hg hm (prg_1 hg2 hm2 ha (ok_star ok _))).imp fun σ H Q h => ?_
  have h := rdE_op1 h
  obtain ⟨G, env, O, r, env', s, e1, K⟩ := h
  refine ⟨G, env, O, r, env', s, e1, fun v H1 G1 O1 W1 A1 f1 => ?_⟩
  obtain ⟨G2, a, v', d, ev, gs, ra, e2, P⟩ := rD.get1 (len1 _ (fun _ _ _ => ⟨rfl, rfl⟩)) (K v H1 G1 O1 W1 A1 f1)
  cases ev
  simp only [opSem] at e2
  unfold listrangeOp at e2
  split at e2
  · split at e2
    · cases e2
      rename_i i hi
      rw [ra.int]
      refine ⟨i, rfl, ⟨by omega, by omega, by omega, by omega, by omega⟩, fun b hb => ?_⟩
      have hr : rgV 0 i = (List.range i.toNat).map fun j => V.int ((j : Nat) : Int) := by
        unfold rgV
        rw [Int.sub_zero]
        congr 1
        funext j
        rw [Int.zero_add]
      rw [hr]
      refine P.newL gs ?_ ?_ hb
      · have : ∀ l : List Nat, Reps T G2 (l.map fun i => D.int ((i : Nat) : Int)) (l.map fun j => V.int ((j : Nat) : Int)) := fun l => by
          induction l with
          | nil => exact .nil
          | cons a l ih => exact .cons (.int _) ih
        exact this _
      · rw [List.length_map, List.length_range]
        show i.toNat ≤ sizeLine
        rw [sizeLine_eq]; omega
    · cases e2
  · cases e2
/-! ### methods of texts and dicts -/
theorem peJoin (g : Gd c T k φ sc X) {a e : E} {apos cpos : Pos} (ho : PE X x (rdP T φ a)) (h : PEs X T φ [y] (.cons false e .nil)) (hb : notC0 x = true) (hl : (apos.endLine == cpos.line) = true) :
    PE X (.Call (.Attribute x "join" apos) [y] [] cpos) (rdE T φ (.opm .join a (.cons false e .nil))) := by
  have ok := h.ok
  refine (pe_bm F.plainAttrs_str F.slot_str_join F.type_str_join mt_join ho h.pa (ok_base hb _) (by simp only [Bool.and_eq_true]; exact ⟨⟨ok_few ok _, rfl⟩, rfl⟩) hl (by rw [ok_star (by simpa using ok)]) rfl).imp fun σ H Q q => ?_
  obtain ⟨G, env, O, r, env', s, e1, K⟩ := rdE_opm q
  refine ⟨G, env, O, r, env', s, e1, fun v H1 G1 O1 W1 A1 f1 => ?_⟩
  obtain ⟨⟨G3, d3, gs3, r3, rv⟩, K2⟩ := K v H1 G1 O1 W1 A1 f1
  refine ⟨?_, ?_⟩
  · cases d3 <;> simp only [recvOk, Bool.false_eq_true] at rv
    rw [r3.str]
    exact rfl
  · obtain ⟨G, env, O, r, env', s, e1, K⟩ := K2
    refine ⟨G, env, O, r, env', s, e1, fun vs H2 G2 O2 W2 A2 f2 => ?_⟩
    obtain ⟨G4, ds, d, gs, pr, e2, P⟩ := K vs H2 G2 O2 W2 A2 f2
    cases pr with
    | @cons d1 _ ds _ r1 pr =>
      have hd := len2 (o := .join) (fun _ _ _ _ => ⟨rfl, rfl, rfl⟩) _ _ e2
      match ds, hd, pr, e2 with
      | [d2], _, pr, e2 =>
        obtain ⟨u, rfl, r2⟩ := pr.inv1
        simp only [opSem] at e2
        unfold joinOp at e2
        split at e2
        · simp only [Option.bind_eq_some_iff] at e2
          obtain ⟨ys, hy, e2⟩ := e2
          split at e2
          · cases e2
            rename_i hw
            rw [r1.str]
            obtain ⟨q, us, rfl, h1, ru, _⟩ := r2.lst gs
            have hv := ru.strs hy
            subst hv
            unfold wordsOk at hw
            have hw := of_decide_eq_true hw
            refine ⟨_, q, ys, rfl, rfl, .inl (.of h1), ?_, P.atom gs (.str _)⟩
            have e3 : line = 16777216 := sizeLine_eq
            rw [e3] at hw
            have e4 : (ys.map Str.length).sum = (ys.map (·.length)).sum := rfl
            rw [← e4, Nat.mul_comm]
            exact hw
          · cases e2
        · cases e2
theorem peSplit (g : Gd c T k φ sc X) {a e : E} {apos cpos : Pos} (ho : PE X x (rdP T φ a)) (h : PEs X T φ [y] (.cons false e .nil)) (hb : notC0 x = true) (hl : (apos.endLine == cpos.line) = true) :
    PE X (.Call (.Attribute x "split" apos) [y] [] cpos) (rdE T φ (.opm .split a (.cons false e .nil))) := by
  have ok := h.ok
  refine (pe_bm F.plainAttrs_str F.slot_str_split F.type_str_split mt_split ho h.pa (ok_base hb _) (by simp only [Bool.and_eq_true]; exact ⟨⟨ok_few ok _, rfl⟩, rfl⟩) hl (by rw [ok_star (by simpa using ok)]) rfl).imp fun σ H Q q => ?_
  obtain ⟨G, env, O, r, env', s, e1, K⟩ := rdE_opm q
  refine ⟨G, env, O, r, env', s, e1, fun v H1 G1 O1 W1 A1 f1 => ?_⟩
  obtain ⟨⟨G3, d3, gs3, r3, rv⟩, K2⟩ := K v H1 G1 O1 W1 A1 f1
  refine ⟨?_, ?_⟩
  · cases d3 <;> simp only [recvOk, Bool.false_eq_true] at rv
    rw [r3.str]
    exact rfl
  · obtain ⟨G, env, O, r, env', s, e1, K⟩ := K2
    refine ⟨G, env, O, r, env', s, e1, fun vs H2 G2 O2 W2 A2 f2 => ?_⟩
    obtain ⟨G4, ds, d, gs, pr, e2, P⟩ := K vs H2 G2 O2 W2 A2 f2
    cases pr with
    | @cons d1 _ ds _ r1 pr =>
      have hd := len2 (o := .split) (fun _ _ _ _ => ⟨rfl, rfl, rfl⟩) _ _ e2
      match ds, hd, pr, e2 with
      | [d2], _, pr, e2 =>
        obtain ⟨u, rfl, r2⟩ := pr.inv1
        simp only [opSem] at e2
        unfold splitOp at e2
        split at e2
        · split at e2
          · cases e2
            rename_i hw
            rw [r1.str, r2.str]
            refine ⟨_, _, rfl, rfl, by simpa using hw.1, hw.2, fun q hq => P.newL gs (reps_strs _) ?_ hq⟩
            rw [List.length_map]
            exact Nat.le_trans (PyProof.Rows.split_le _ _) hw.2
          · cases e2
        · cases e2
theorem get_of {G H : Hp} {kvs : List (Key × D)} {o : Bool} {kd : D} {v u : V} {key : Key} (gs : GSub G H) (r : PRep T G H (.dic o kvs) v) (r2 : PRep T G H kd u) (hk : keyD kd = some key) : ∃ a z, v = .ref a ∧ DGet H a u z ∧ ((∃ d w, valD kvs key = some d ∧ z = some w ∧ Rep T G d w) ∨ (valD kvs key = none ∧ z = none)) := by
  obtain ⟨a, vs, rfl, h1, rk, _⟩ := r.dic gs
  have hu : u = kV key := by
    cases kd <;> simp only [keyD, Option.some.injEq, reduceCtorEq] at hk
    · subst hk; rw [r2.int]; rfl
    · subst hk; rw [r2.str]; rfl
  obtain ⟨q1, q2⟩ := rk.val key
  refine ⟨a, valV vs key, rfl, .inl ⟨vs, key, h1, hu, rfl⟩, ?_⟩
  cases e : valD kvs key with
  | none => exact .inr ⟨rfl, q2 e⟩
  | some d => obtain ⟨w, e2, rw'⟩ := q1 d e; exact .inl ⟨d, w, rfl, e2, rw'⟩
theorem peGet2 (g : Gd c T k φ sc X) {a e e2 : E} {apos cpos : Pos} (ho : PE X x (rdP T φ a)) (h : PEs X T φ [y, z] (.cons false e (.cons false e2 .nil))) (hb : notC0 x = true) (hl : (apos.endLine == cpos.line) = true) :
    PE X (.Call (.Attribute x "get" apos) [y, z] [] cpos) (rdE T φ (.opm .get2 a (.cons false e (.cons false e2 .nil)))) := by
  have ok := h.ok
  simp only [List.all_cons, List.all_nil, Bool.and_true, Bool.and_eq_true] at ok
  cases h with
  | cons p1 _ _ h => cases h with
    | cons p2 _ _ h =>
      cases h
      refine (pe_dget2 (by have := g.u64; omega) ho p1 p2 ⟨ok_base hb _, by simp only [Bool.and_eq_true]; exact ⟨⟨ok_few (by simp [ok.1, ok.2]) _, rfl⟩, rfl⟩, hl, by rw [ok_star ok.1, ok_star ok.2]; rfl⟩).imp fun σ H Q q => ?_
      obtain ⟨G, env, O, r, env', s, e1, K⟩ := rdE_opm q
      refine ⟨G, env, O, r, env', s, e1, fun v H1 G1 O1 W1 A1 f1 => ?_⟩
      obtain ⟨⟨G3, d3, gs3, r3, rv⟩, K2⟩ := K v H1 G1 O1 W1 A1 f1
      have hd3 : ∃ o kvs, d3 = .dic o kvs := by
        cases d3 <;> simp only [recvOk, Bool.false_eq_true] at rv
        exact ⟨_, _, rfl⟩
      obtain ⟨o3, kvs3, rfl⟩ := hd3
      obtain ⟨a3, vs3, rfl, h3, _⟩ := r3.dic gs3
      refine ⟨a3, rfl, .inl ⟨_, h3⟩, ?_⟩
      have K3 := rdA_cons K2
      obtain ⟨G, env, O, r, env', s, e1, K⟩ := K3
      refine ⟨G, env, O, r, env', s, e1, fun u H2 G2 O2 W2 A2 f2 => ?_⟩
      obtain ⟨G, env, O, r, env', s, e1, K⟩ := rdA_cons (K u H2 G2 O2 W2 A2 f2)
      refine ⟨G, env, O, r, env', s, e1, fun w H4 G4 O4 W4 A4 f4 => ?_⟩
      have K5 := rdA_nil (K w H4 G4 O4 W4 A4 f4)
      obtain ⟨G5, ds, d, gs, pr, e5, P⟩ := K5
      cases pr with
      | @cons d1 _ ds _ r1 pr => cases pr with
        | @cons d2 _ ds _ r2 pr => cases pr with
          | @cons d4 _ ds _ r4 pr =>
            cases pr
            simp only [opSem] at e5
            split at e5
            · rename_i hfl
              unfold getOp at e5
              split at e5
              · simp only [Option.map_eq_some_iff] at e5
                obtain ⟨key, hk, rfl⟩ := e5
                obtain ⟨a5, zz, ea, dg, hz⟩ := get_of gs r1 r2 hk
                cases ea
                refine ⟨zz, dg, ?_⟩
                rcases hz with ⟨dd, ww, h1, rfl, h2⟩ | ⟨h1, rfl⟩
                · rw [h1] at P; exact P.atom gs h2
                · rw [h1] at P
                  obtain ⟨as, r4⟩ := r4
                  have : d4.own = false := by cases d4 <;> simp [flatD] at hfl <;> rfl
                  exact P.atom gs (r4.nown this).1
              · cases e5
            · cases e5
theorem peGet1 (g : Gd c T k φ sc X) {a e : E} {apos cpos : Pos} (ho : PE X x (rdP T φ a)) (h : PEs X T φ [y] (.cons false e .nil)) (hb : notC0 x = true) (hl : (apos.endLine == cpos.line) = true) :
    PE X (.Call (.Attribute x "get" apos) [y] [] cpos) (rdE T φ (.opm .get1 a (.cons false e .nil))) := by
  have ok := h.ok
  simp only [List.all_cons, List.all_nil, Bool.and_true] at ok
  cases h with
  | cons p1 _ _ h =>
      cases h
      refine (pe_dget1 (by have := g.u64; omega) ho p1 ⟨ok_base hb _, by simp only [Bool.and_eq_true]; exact ⟨⟨ok_few (by simp [ok]) _, rfl⟩, rfl⟩, hl, by rw [ok_star ok]; rfl⟩).imp fun σ H Q q => ?_
      obtain ⟨G, env, O, r, env', s, e1, K⟩ := rdE_opm q
      refine ⟨G, env, O, r, env', s, e1, fun v H1 G1 O1 W1 A1 f1 => ?_⟩
      obtain ⟨⟨G3, d3, gs3, r3, rv⟩, K2⟩ := K v H1 G1 O1 W1 A1 f1
      have hd3 : ∃ o kvs, d3 = .dic o kvs := by
        cases d3 <;> simp only [recvOk, Bool.false_eq_true] at rv
        exact ⟨_, _, rfl⟩
      obtain ⟨o3, kvs3, rfl⟩ := hd3
      obtain ⟨a3, vs3, rfl, h3, _⟩ := r3.dic gs3
      refine ⟨a3, rfl, .inl ⟨_, h3⟩, ?_⟩
      have K3 := rdA_cons K2
      obtain ⟨G, env, O, r, env', s, e1, K⟩ := K3
      refine ⟨G, env, O, r, env', s, e1, fun w H4 G4 O4 W4 A4 f4 => ?_⟩
      have K5 := rdA_nil (K w H4 G4 O4 W4 A4 f4)
      obtain ⟨G5, ds, d, gs, pr, e5, P⟩ := K5
      cases pr with
      | @cons d1 _ ds _ r1 pr => cases pr with
        | @cons d2 _ ds _ r2 pr =>
            cases pr
            simp only [opSem] at e5
            unfold getOp at e5
            split at e5
            · simp only [Option.map_eq_some_iff] at e5
              obtain ⟨key, hk, rfl⟩ := e5
              obtain ⟨a5, zz, ea, dg, hz⟩ := get_of gs r1 r2 hk
              cases ea
              refine ⟨zz, dg, ?_⟩
              rcases hz with ⟨dd, ww, h1, rfl, h2⟩ | ⟨h1, rfl⟩
              · rw [h1] at P; exact P.atom gs h2
              · rw [h1] at P; exact P.atom gs .non
            · cases e5
end
/-! ### min, max of several; max of a dict's values -/
section
variable {prog : Program} {w : World} {A : Around} {E : Value → Shared → Prop} {s : Shared}
theorem pick_min {ns : List Int} (hn : ns ≠ []) : ns.getD (argBest (fun i j => decide (ns.getD i 0 < ns.getD j 0)) (ns.length - 1)) 0 = minI ns := by
  have hp : 0 < ns.length := List.length_pos_iff.mpr hn
  obtain ⟨h1, h2⟩ := arg_le (fun i => ns.getD i 0) (ns.length - 1)
  obtain ⟨m1, m2⟩ := minI_spec hn
  refine Int.le_antisymm ?_ (m2 _ ?_)
  · obtain ⟨j, hj, e⟩ := List.getElem_of_mem m1
    have q := h2 j (by omega)
    rw [List.getD_eq_getElem?_getD (i := j), List.getElem?_eq_getElem hj, Option.getD_some, e] at q
    exact q
  · have hlt : argBest (fun i j => decide (ns.getD i 0 < ns.getD j 0)) (ns.length - 1) < ns.length := by omega
    rw [List.getD_eq_getElem?_getD, List.getElem?_eq_getElem hlt]
    exact List.getElem_mem _
theorem pick_max {ns : List Int} (hn : ns ≠ []) : ns.getD (argBest (fun i j => decide (ns.getD i 0 > ns.getD j 0)) (ns.length - 1)) 0 = maxI ns := by
  have hp : 0 < ns.length := List.length_pos_iff.mpr hn
  obtain ⟨h1, h2⟩ := arg_ge (fun i => ns.getD i 0) (ns.length - 1)
  obtain ⟨m1, m2⟩ := maxI_spec hn
  refine Int.le_antisymm (m2 _ ?_) ?_
  · have hlt : argBest (fun i j => decide (ns.getD i 0 > ns.getD j 0)) (ns.length - 1) < ns.length := by omega
    rw [List.getD_eq_getElem?_getD, List.getElem?_eq_getElem hlt]
    exact List.getElem_mem _
  · obtain ⟨j, hj, e⟩ := List.getElem_of_mem m1
    have q := h2 j (by omega)
    rw [List.getD_eq_getElem?_getD (i := j), List.getElem?_eq_getElem hj, Option.getD_some, e] at q
    exact q
theorem min4_args (a b c d : Value) : argsOk "min" ⟨[a, b, c, d], []⟩ := by unfold argsOk; kernel_rfl
theorem max3_args (a b c : Value) : argsOk "max" ⟨[a, b, c], []⟩ := by unfold argsOk; kernel_rfl
theorem min_of4 {a b c d : Value} {ns : List Int} {Q : Value → Shared → Prop} (S : ISrc prog w A (.ref s.heap.objs.size) { s with heap := s.heap.push { cls := .type "tuple", data := .seq #[a, b, c, d] } } ns) (hn : ns ≠ [])
    (h : ∀ h' tk t', (∀ b o, s.heap.get? b = some o → h'.get? b = some o) → Q (.int (minI ns) t') { s with heap := h', toks := tk }) : wpAny (model prog w) A (call (.builtin "min") [a, b, c, d]) Q E s := by
  have nm : (toString "min" ++ toString ".loop" : String) = "min.loop" := by decide
  have hp : 0 < ns.length := List.length_pos_iff.mpr hn
  refine call_function_tree F.kind_min F.plain_min F.entry_min (min4_args a b c d) ?_
  show wpAny _ A.in1 (Builtin.Builtins.bindParams "min" ["key", "default"] 0 ⟨[], []⟩ >>= _) _ _ s
  refine wpAny_bind (wpAny_of_eq (a := [none, none]) rfl ?_)
  show wpAny _ A.in1 (newTuple [a, b, c, d] >>= _) _ _ s
  refine wpAny_bind (wpAny_newObj_type (wpAny_bind (S _ _ fun h2 I fp wr P St W st hf hv hk => wpAny_bind (wpAny_newObj_type ?_))))
  have out : h2.objs.size ∉ fp := fun z => absurd (hf _ z) (Nat.lt_irrefl _)
  rw [nm]
  refine wpAny_pure ⟨plainId_quiet F.plain_min_loop _, codeAny_min_loop_first W _ (CmpOf.ints_lt (fun i => ns.getD i 0) hv) h2.objs.size out hp (W.frame _ _ _ st fun b _ o e => Heap.get?_push_of_some _ e) (Heap.get?_push_size _ rfl) fun v h' tk pv keep => ?_⟩
  obtain ⟨t, rfl⟩ := hv _ _ pv
  rw [pick_min hn]
  exact h h' tk t fun b o e => hk h' (fun b o nb e => keep b o nb (Nat.ne_of_lt (Heap.lt_size e)) (Heap.get?_push_of_some _ e)) b o (Heap.get?_push_of_some _ e)
theorem max_of3 {a b c : Value} {ns : List Int} {Q : Value → Shared → Prop} (S : ISrc prog w A (.ref s.heap.objs.size) { s with heap := s.heap.push { cls := .type "tuple", data := .seq #[a, b, c] } } ns) (hn : ns ≠ [])
    (h : ∀ h' tk t', (∀ b o, s.heap.get? b = some o → h'.get? b = some o) → Q (.int (maxI ns) t') { s with heap := h', toks := tk }) : wpAny (model prog w) A (call (.builtin "max") [a, b, c]) Q E s := by
  have nm : (toString "max" ++ toString ".loop" : String) = "max.loop" := by decide
  have hp : 0 < ns.length := List.length_pos_iff.mpr hn
  refine call_function_tree F.kind_max F.plain_max F.entry_max (max3_args a b c) ?_
  show wpAny _ A.in1 (Builtin.Builtins.bindParams "max" ["key", "default"] 0 ⟨[], []⟩ >>= _) _ _ s
  refine wpAny_bind (wpAny_of_eq (a := [none, none]) rfl ?_)
  show wpAny _ A.in1 (newTuple [a, b, c] >>= _) _ _ s
  refine wpAny_bind (wpAny_newObj_type (wpAny_bind (S _ _ fun h2 I fp wr P St W st hf hv hk => wpAny_bind (wpAny_newObj_type ?_))))
  have out : h2.objs.size ∉ fp := fun z => absurd (hf _ z) (Nat.lt_irrefl _)
  rw [nm]
  refine wpAny_pure ⟨plainId_quiet F.plain_max_loop _, codeAny_max_loop_first W _ (CmpOf.ints_gt (fun i => ns.getD i 0) hv) h2.objs.size out hp (W.frame _ _ _ st fun b _ o e => Heap.get?_push_of_some _ e) (Heap.get?_push_size _ rfl) fun v h' tk pv keep => ?_⟩
  obtain ⟨t, rfl⟩ := hv _ _ pv
  rw [pick_max hn]
  exact h h' tk t fun b o e => hk h' (fun b o nb e => keep b o nb (Nat.ne_of_lt (Heap.lt_size e)) (Heap.get?_push_of_some _ e)) b o (Heap.get?_push_of_some _ e)
end
section
variable {c : Cf} {T : Tx} {k : Nat} {φ : Phi} {sc : Scope} {X : Cx} {x y z : Expr} {p pos : Pos}
theorem ints_vals {us : List Value} {ns : List Int} (r : Vals (ns.map V.int) us) : IntsAre us ns := RZ.intsAre_vals r
theorem ok_min4 (hc : X.calm = true) : CallR X (.builtin "min") (rD T .min4) := by
  intro pins s σ H xs us Q I r h
  obtain ⟨G, ds, d, gs, pr, e, P⟩ := h
  obtain ⟨d1, d2, d3, d4, rfl⟩ : ∃ a b c d, ds = [a, b, c, d] := by
    match ds, e with
    | [a, b, c, d], _ => exact ⟨a, b, c, d, rfl⟩
    | [], e => simp [opSem] at e
    | [_], e => simp [opSem] at e
    | [_, _], e => simp [opSem] at e
    | [_, _, _], e => simp [opSem] at e
    | _ :: _ :: _ :: _ :: _ :: _, e => simp [opSem] at e
  simp only [opSem] at e
  unfold min4Op at e
  split at e
  rotate_left
  · cases e
  cases e
  obtain ⟨v1, v2, v3, v4, rfl, r1, r2, r3, r4⟩ := pr.inv4
  rw [r1.int, r2.int, r3.int, r4.int] at r
  rename_i a b c d
  have hv : Vals ([a, b, c, d].map V.int) us := r
  have hi := ints_vals hv
  cases r with
  | cons q1 r => cases r with
    | cons q2 r => cases r with
      | cons q3 r => cases r with
        | cons q4 r =>
          cases r
          have S := src_tuple (prog := X.prog) (w := X.w) (A := X.A) (s := { s with heap := s.heap.push { cls := .type "tuple", data := .seq #[_, _, _, _] } }) (l := s.heap.objs.size) (I.ok.hd hc) ⟨_, Heap.get?_push_size _ rfl, rfl, 0, rfl⟩ hi
          exact min_of4 S (by simp) fun h' tk t' kp => ⟨.int _, H, I.kept kp, ⟨_, rfl⟩, by simpa [minI] using P.atom gs (.int _)⟩
theorem ok_max3 (hc : X.calm = true) : CallR X (.builtin "max") (rD T .max3) := by
  intro pins s σ H xs us Q I r h
  obtain ⟨G, ds, d, gs, pr, e, P⟩ := h
  obtain ⟨d1, d2, d3, rfl⟩ : ∃ a b c, ds = [a, b, c] := by
    match ds, e with
    | [a, b, c], _ => exact ⟨a, b, c, rfl⟩
    | [], e => simp [opSem] at e
    | [_], e => simp [opSem] at e
    | [_, _], e => simp [opSem] at e
    | _ :: _ :: _ :: _ :: _, e => simp [opSem] at e
  simp only [opSem] at e
  unfold max3Op at e
  split at e
  rotate_left
  · cases e
  cases e
  obtain ⟨v1, v2, v3, rfl, r1, r2, r3⟩ := pr.inv3
  rw [r1.int, r2.int, r3.int] at r
  rename_i a b c
  have hv : Vals ([a, b, c].map V.int) us := r
  have hi := ints_vals hv
  cases r with
  | cons q1 r => cases r with
    | cons q2 r => cases r with
      | cons q3 r =>
          cases r
          have S := src_tuple (prog := X.prog) (w := X.w) (A := X.A) (s := { s with heap := s.heap.push { cls := .type "tuple", data := .seq #[_, _, _] } }) (l := s.heap.objs.size) (I.ok.hd hc) ⟨_, Heap.get?_push_size _ rfl, rfl, 0, rfl⟩ hi
          exact max_of3 S (by simp) fun h' tk t' kp => ⟨.int _, H, I.kept kp, ⟨_, rfl⟩, by simpa [maxI] using P.atom gs (.int _)⟩
end
section
variable {prog : Program} {w : World} {A : Around} {E : Value → Shared → Prop} {s : Shared}
theorem src_values {v d : Addr} {ws : List (Key × Value)} {ep : Nat} {ns : List Int} (hh : A.handled = none) (hv : s.heap.IsValuesView v d) (hat : s.heap.DictAt (mixKind prog w) d ws ep) (hi : IntsAre (ws.map (·.2)) ns) : ISrc prog w A (.ref v) s ns := by
  intro Q E h
  have hl : ws.length = ns.length := by rw [← hi.length, List.length_map]
  have hlt : d < s.heap.objs.size := by obtain ⟨o, es, ho, _⟩ := hat; exact Heap.lt_size ho
  have hne : d ≠ s.heap.objs.size := Nat.ne_of_lt hlt
  have W := Walks.dictValues (prog := prog) (w := w) (A := A.in1) (knd := mixKind prog w) hh s.heap.objs.size d hne ws ep
  rw [hl] at W
  refine wpAny_pyIter_values (knd := mixKind prog w) hv hat (h _ _ _ _ _ _ W ⟨⟨_, Heap.get?_push_size _ rfl, rfl, ?_⟩, hat.push _⟩ (fun b hb => ?_) (fun i x hx => ?_) fun h' k b o e => ?_)
  · rw [hl] <;> rfl
  · rw [Heap.size_push]
    simp at hb
    rcases hb with e | e
    · rw [e]; exact Nat.lt_succ_self _
    · rw [e]; exact Nat.lt_succ_of_lt hlt
  · obtain ⟨kk, e⟩ := hx
    exact ints_at hi i x (by rw [List.getElem?_toArray, List.getElem?_map, e]; rfl)
  · refine k b o (fun z => ?_) (Heap.get?_push_of_some _ e)
    simp at z
    subst z
    exact absurd (Heap.lt_size e) (Nat.lt_irrefl _)
end
section
variable {c : Cf} {T : Tx} {k : Nat} {φ : Phi} {sc : Scope} {X : Cx} {x y z : Expr} {p pos : Pos}
theorem kv_ints : ∀ {kvs : List (Key × V)} {ws : List (Key × Value)} {ns : List Int}, KV kvs ws → kvs.map (·.2) = ns.map V.int → IntsAre (ws.map (·.2)) ns
  | [], _, [], .nil, _ => .nil
  | q :: kvs, _, n :: ns, .cons r t, e => by
    simp only [List.map_cons, List.cons.injEq] at e
    obtain ⟨e1, e2⟩ := e
    have r2 := r.2
    rw [e1] at r2
    obtain ⟨tk, et⟩ := (show ∃ t, _ = Value.int n t from r2)
    rw [List.map_cons, et]
    exact .cons n tk (kv_ints t e2)
  | [], _, _ :: _, _, e => by simp at e
  | _ :: _, _, [], _, e => by simp at e
theorem peMaxvals (g : Gd c T k φ sc X) {e : E} {f : Str} {ap cp : Pos} (hf : callIs c sc f "max" = true) (ha : PE X x (rdP T φ e)) (hb : notC0 x = true) (hl : (ap.endLine == cp.line) = true) :
    PE X (.Call (.Name f p) [.Call (.Attribute x "values" ap) [] [] cp] [] pos) (rdE T φ (.op .maxvals (.cons false e .nil))) := by
  obtain ⟨rfl, hg, hm⟩ := callIs_of g hf
  refine ⟨fun pins s σ H Q I h => ?_⟩
  have h := rdE_op1 h
  refine Call_ (ld_blt I hg hm boot_max ?_)
  refine PyProof.Rows.callWith_builtin1 (PyProof.Rows.args_cons ?_ rfl) rfl rfl
  refine wpAny_Call_method (T := "dict") (id := "dict.values") (ok_base hb _) rfl hl F.plainAttrs_dict F.slot_dict_values F.type_dict_values (thn (ha.run pins s σ H _ I h) fun u s1 ⟨y, H1, I1, r1, q1⟩ => ?_)
  obtain ⟨G2, a, v', d, ev, gs, ra, e2, P⟩ := rD.get1 (len1 _ (fun _ _ _ => ⟨rfl, rfl⟩)) q1
  cases ev
  simp only [opSem] at e2
  unfold maxvalsOp at e2
  split at e2
  · simp only [Option.bind_eq_some_iff] at e2
    obtain ⟨ns, hn, e2⟩ := e2
    split at e2
    · cases e2
    · cases e2
      rename_i hne
      obtain ⟨q, vs, rfl, h1, rk, _⟩ := ra.dic gs
      obtain rfl : u = Value.ref q := r1
      have hv := rk.vals.ints hn
      obtain ⟨lz, lo, ws, rel, dd⟩ := dk_rd I1.hok h1
      obtain ⟨ep, hat⟩ := dd.dictAt
      refine ⟨dd.typeIs, dd.mapOf.noDict, ?_⟩
      have I2 : Inv X pins σ H1 { s1 with heap := s1.heap.push { cls := .type "dict_values", data := .fields #[.ref q] } } := I1.kept (t' := s1.toks) fun b ob q => Heap.get?_push_of_some _ q
      show wpAny _ _ (callWith cp (.builtin "dict.values") [.ref q] [] []) _ X.xe s1
      refine method_meetsIn F.slot_dict_values F.entry_dict_values rfl (PySem.evalArgs_none ⟨rfl, dd.typeIs, F.args_dict_values_1 _, _, meets_dict_values (mixKind X.prog X.w) q lo, ⟨ws, dd⟩, ?_⟩)
      refine PyProof.Rows.args_nil ?_
      exact max_src (src_values (I.ok.hd g.calm) ⟨_, Heap.get?_push_size _ rfl, rfl, rfl⟩ (hat.push _) (kv_ints rel hv)) hne fun h' tk t' kp => ⟨.int _, H1, I2.kept kp, ⟨_, rfl⟩, P.atom gs (.int _)⟩
  · cases e2
end
end Vi
end
section
set_option maxRecDepth 100000
set_option maxHeartbeats 1000000
/-! Vi, part Pz: list(zip(a, b)) of any two iterators that draw (own text; the zip's tuples are kept by the list). -/
namespace Vi.Lz
open PySem PySem.Spec PyProof.Rows L2
section
variable {prog : Program} {w : World} {A : Around} {E : Value → Shared → Prop} {s : Shared} {zz ti to j1 j2 : Addr} {f1 f2 : List Addr} {m1 m2 i : Nat} {P1 P2 : Nat → Value → Prop} {Sa Sb : Nat → Heap → Prop}

theorem nextKept {U : Addr} {f : Bool} {ou : Obj} {Q : Value → Shared → Prop} (Z : ZipSep2 zz ti to j1 j2 f1 f2) (Da : Draws prog w A j1 f1 m1 P1 Sa) (Db : Draws prog w A j2 f2 m2 P2 Sb)
    (hz : IsZipHeld s.heap zz ti to U f) (hu : s.heap.get? U = some ou) (ht : IsTupOf2 s.heap ti (.ref j1) (.ref j2)) (a1 : Sa i s.heap) (a2 : Sb i s.heap) (b1 : i < m1) (b2 : i < m2)
    (hQ : ∀ x y h' tk, P1 i x → P2 i y → IsZipHeld h' zz ti to U true → Sa (i + 1) h' → Sb (i + 1) h' → IsTupOf2 h' s.heap.objs.size x y → h'.objs.size = s.heap.objs.size + 1 →
      (∀ b o, b ≠ zz → b ≠ j1 → b ≠ j2 → s.heap.get? b = some o → h'.get? b = some o) → Q (.ref s.heap.objs.size) { s with heap := h', toks := tk }) :
    wpAny (model prog w) A (Builtin.«zip.__next__» ⟨[.ref zz], []⟩) (fun fin s' => ∃ v, fin = .done (.ret v) ∧ Q v s') E s := by
  obtain ⟨hp, gg, dd, t0, oo⟩ := s
  show wpAny _ _ (field (.ref zz) 2 >>= _) _ _ _
  refine wpAny_bind (wpAny_field hz rfl (x := .bool false) rfl ?_)
  show wpAny _ _ (field (.ref zz) 3 >>= _) _ _ _
  refine wpAny_bind (wpAny_field hz rfl (x := .ref ti) rfl ?_)
  refine wpAny_bind (wpAny_seqItems ht rfl ?_)
  show wpAny _ _ (Builtin.SmallTypes.ownedTupleIsFree (.ref zz) >>= _) _ _ _
  refine wpAny_bind (wpAny_tupleHeld_zip hz hu fun q0 z0 e0 => ?_)
  replace e0 : Heap.SameBut zz hp q0 := e0
  simp only [Bool.false_eq_true, if_false]
  refine wpAny_bind ?_
  rw [← Array.forIn_toList]
  simp only [List.forIn_cons, List.forIn_nil]
  refine wpAny_bind (wpAny_bind (wpAny_holding ?_))
  show wpAny _ _ (Builtin.SmallTypes.nextOf (.ref j1) >>= _) _ _ ⟨q0, gg, dd, t0, oo⟩
  refine wpAny_bind (Da.item i _ _ _ b1 (Da.over a1 e0 Z.zf1) fun x q1 t1 px r1 e1 => wpAny_pure (wpAny_pure ?_))
  replace e1 : Heap.SameBut j1 q0 q1 := e1
  refine wpAny_bind (wpAny_bind (wpAny_holding ?_))
  show wpAny _ _ (Builtin.SmallTypes.nextOf (.ref j2) >>= _) _ _ ⟨q1, gg, dd, t1, oo⟩
  refine wpAny_bind (Db.item i _ _ _ b2 (Db.over (Db.over a2 e0 Z.zf2) e1 Z.sep1_2) fun y q2 t2 py r2 e2 => wpAny_pure (wpAny_pure (wpAny_pure ?_)))
  replace e2 : Heap.SameBut j2 q1 q2 := e2
  show wpAny _ _ (newTuple [x, y] >>= _) _ _ ⟨q2, gg, dd, t2, oo⟩
  refine wpAny_bind (wpAny_newTuple ?_)
  have hs : q2.objs.size = hp.objs.size := by rw [e2.1, e1.1, e0.1]
  have kk : ∀ b o, b ≠ zz → b ≠ j1 → b ≠ j2 → hp.get? b = some o → q2.get? b = some o := fun b o c1 c2 c3 e => e2.extBut _ _ c3 (e1.extBut _ _ c2 (e0.extBut _ _ c1 e))
  have z2 : IsZipHeld q2 zz ti to U true := e2.extBut _ _ Z.zi2 (e1.extBut _ _ Z.zi1 z0)
  refine wpAny_pure ⟨_, rfl, ?_⟩
  show Q (.ref q2.objs.size) ⟨q2.push { cls := .type "tuple", data := .seq #[x, y] }, gg, dd, t2, oo⟩
  have up : ∀ {b o}, q2.get? b = some o → (q2.push { cls := .type "tuple", data := .seq #[x, y] }).get? b = some o := fun e => Heap.get?_push_of_some _ e
  have tp : IsTupOf2 (q2.push { cls := .type "tuple", data := .seq #[x, y] }) q2.objs.size x y := Heap.get?_push_size _ rfl
  have sz : (q2.push { cls := .type "tuple", data := .seq #[x, y] }).objs.size = q2.objs.size + 1 := Heap.size_push ..
  rw [hs] at tp sz ⊢
  exact hQ x y _ t2 px py (up z2) (Da.frame _ _ _ (Da.over r1 e2 Z.sep2_1) fun b _ o e => up e) (Db.frame _ _ _ r2 fun b _ o e => up e) tp sz fun b o c1 c2 c3 e => up (kk b o c1 c2 c3 e)

theorem endKept {U : Addr} {f : Bool} {ou : Obj} {Q : Fin → Shared → Prop} (Z : ZipSep2 zz ti to j1 j2 f1 f2) (Da : Draws prog w A j1 f1 m1 P1 Sa) (Db : Draws prog w A j2 f2 m2 P2 Sb)
    (hz : IsZipHeld s.heap zz ti to U f) (hu : s.heap.get? U = some ou) (ht : IsTupOf2 s.heap ti (.ref j1) (.ref j2)) (a1 : Sa i s.heap) (a2 : Sb i s.heap) (b1 : i ≤ m1) (b2 : i ≤ m2) (b3 : i = m1 ∨ i = m2)
    (hE : ∀ h' tk e, (∀ b o, b ≠ zz → b ≠ j1 → b ≠ j2 → s.heap.get? b = some o → h'.get? b = some o) → (∃ o, h'.get? e = some o ∧ o.cls = .type "StopIteration") → E (.ref e) { s with heap := h', toks := tk }) :
    wpAny (model prog w) A (Builtin.«zip.__next__» ⟨[.ref zz], []⟩) Q E s := by
  obtain ⟨hp, gg, dd, t0, oo⟩ := s
  show wpAny _ _ (field (.ref zz) 2 >>= _) _ _ _
  refine wpAny_bind (wpAny_field hz rfl (x := .bool false) rfl ?_)
  show wpAny _ _ (field (.ref zz) 3 >>= _) _ _ _
  refine wpAny_bind (wpAny_field hz rfl (x := .ref ti) rfl ?_)
  refine wpAny_bind (wpAny_seqItems ht rfl ?_)
  show wpAny _ _ (Builtin.SmallTypes.ownedTupleIsFree (.ref zz) >>= _) _ _ _
  refine wpAny_bind (wpAny_tupleHeld_zip hz hu fun q0 z0 e0 => ?_)
  replace e0 : Heap.SameBut zz hp q0 := e0
  simp only [Bool.false_eq_true, if_false]
  refine wpAny_bind ?_
  rw [← Array.forIn_toList]
  simp only [List.forIn_cons, List.forIn_nil]
  refine wpAny_bind (wpAny_bind (wpAny_holding ?_))
  show wpAny _ _ (Builtin.SmallTypes.nextOf (.ref j1) >>= _) _ _ ⟨q0, gg, dd, t0, oo⟩
  by_cases c1 : i < m1
  · refine wpAny_bind (Da.item i _ _ _ c1 (Da.over a1 e0 Z.zf1) fun x q1 t1 px r1 e1 => wpAny_pure (wpAny_pure ?_))
    replace e1 : Heap.SameBut j1 q0 q1 := e1
    refine wpAny_bind (wpAny_bind (wpAny_holding ?_))
    show wpAny _ _ (Builtin.SmallTypes.nextOf (.ref j2) >>= _) _ _ ⟨q1, gg, dd, t1, oo⟩
    have ei : i = m2 := by omega
    subst ei
    refine wpAny_bind (Db.done _ _ _ (Db.over (Db.over a2 e0 Z.zf2) e1 Z.sep1_2) fun q2 e e2 he => ?_)
    exact hE q2 t1 e (fun b o c1 c2 c3 r => e2 _ _ c3 (e1.extBut _ _ c2 (e0.extBut _ _ c1 r))) he
  · have ei : i = m1 := by omega
    subst ei
    refine wpAny_bind (Da.done _ _ _ (Da.over a1 e0 Z.zf1) fun q1 e e1 he => ?_)
    exact hE q1 t0 e (fun b o c1 c2 c3 r => e1 _ _ c2 (e0.extBut _ _ c1 r)) he

/-- how the zip stands after i turns, while a list L takes its tuples -/
structure Zs (zz ti to j1 j2 L : Addr) (Sa Sb : Nat → Heap → Prop) (i : Nat) (h : Heap) : Prop where
  ht : IsTupOf2 h ti (.ref j1) (.ref j2)
  sa : Sa i h
  sb : Sb i h
  how : (IsZip h zz ti to .none ∧ ∃ a b, IsTupOf2 h to a b) ∨ ∃ U f ou, IsZipHeld h zz ti to U f ∧ h.get? U = some ou ∧ U ≠ zz ∧ U ≠ j1 ∧ U ≠ j2 ∧ U ≠ L

theorem Zs.step {L : Addr} {Q : Option Value → Shared → Prop} (Z : ZipSep2 zz ti to j1 j2 f1 f2) (Da : ∀ A : Around, A.handled = none → Draws prog w A j1 f1 m1 P1 Sa) (Db : ∀ A : Around, A.handled = none → Draws prog w A j2 f2 m2 P2 Sb) (hh : A.handled = none)
    (st : Zs zz ti to j1 j2 L Sa Sb i s.heap) (hL : L < s.heap.objs.size) (b1 : i < m1) (b2 : i < m2)
    (hQ : ∀ x y h' tk, P1 i x → P2 i y → Zs zz ti to j1 j2 L Sa Sb (i + 1) h' → IsTupOf2 h' s.heap.objs.size x y → h'.objs.size = s.heap.objs.size + 1 →
      (∀ b o, b ≠ zz → b ≠ to → b ≠ j1 → b ≠ j2 → s.heap.get? b = some o → h'.get? b = some o) → Q (some (.ref s.heap.objs.size)) { s with heap := h', toks := tk }) :
    wpAny (model prog w) A (pyNext (.ref zz)) Q E s := by
  obtain ⟨ht, sa, sb, ⟨hz, a, b, hto⟩ | ⟨U, f, ou, hz, hu, u1, u2, u3, u4⟩⟩ := st
  · refine wpAny_pyNext_zipD2_item Z (Da _ hh) (Db _ hh) hz ht hto sa sb b1 b2 fun x y h' tk px py z' t' a' c' p' n' k' => ?_
    have lt : ∀ {c o}, s.heap.get? c = some o → s.heap.objs.size ≠ c := fun e => Nat.ne_of_gt (Heap.lt_size e)
    have l1 : s.heap.objs.size ≠ j1 := by obtain ⟨_, e⟩ := (Da A hh).live _ _ sa; exact lt e
    have l2 : s.heap.objs.size ≠ j2 := by obtain ⟨_, e⟩ := (Db A hh).live _ _ sb; exact lt e
    exact hQ x y h' tk px py ⟨k' _ _ Z.TIz Z.TITO Z.TIi1 Z.TIi2 ht, a', c', .inr ⟨_, false, _, z', p', lt hz, l1, l2, Nat.ne_of_gt hL⟩⟩ p' n' k'
  · have hty : s.TypeIs (.ref zz) "zip" := ⟨_, hz, rfl⟩
    unfold pyNext
    refine wpAny_bind (wpAny_attempt (wpAny_callSpecial?_slot (name := Str.ofString "__next__") hty PySem.F.slot_zip_next
      (wpAny_call_entry PySem.F.slot_zip_next hty PySem.F.entry_zip_next (nextKept Z (Da _ hh) (Db _ hh) hz hu ht sa sb b1 b2 fun x y h' tk px py z' a' c' p' n' k' => wpAny_pure ?_) (PySem.F.args_zip_next_1 _))))
    exact hQ x y h' tk px py ⟨k' _ _ Z.TIz Z.TIi1 Z.TIi2 ht, a', c', .inr ⟨U, true, ou, z', k' _ _ u1 u2 u3 hu, u1, u2, u3, u4⟩⟩ p' n' fun b o d1 _ d3 d4 e => k' b o d1 d3 d4 e

theorem Zs.stop {L : Addr} {Q : Option Value → Shared → Prop} (Z : ZipSep2 zz ti to j1 j2 f1 f2) (Da : ∀ A : Around, A.handled = none → Draws prog w A j1 f1 m1 P1 Sa) (Db : ∀ A : Around, A.handled = none → Draws prog w A j2 f2 m2 P2 Sb) (hh : A.handled = none)
    (st : Zs zz ti to j1 j2 L Sa Sb i s.heap) (b1 : i ≤ m1) (b2 : i ≤ m2) (b3 : i = m1 ∨ i = m2)
    (hQ : ∀ h' tk, (∀ b o, b ≠ zz → b ≠ to → b ≠ j1 → b ≠ j2 → s.heap.get? b = some o → h'.get? b = some o) → Q none { s with heap := h', toks := tk }) :
    wpAny (model prog w) A (pyNext (.ref zz)) Q E s := by
  obtain ⟨ht, sa, sb, ⟨hz, a, b, hto⟩ | ⟨U, f, ou, hz, hu, u1, u2, u3, u4⟩⟩ := st
  · exact wpAny_pyNext_zipD2_end Z (Da _ hh) (Db _ hh) hz ht hto sa sb b1 b2 b3 fun h' tk k => hQ h' tk k
  · have hty : s.TypeIs (.ref zz) "zip" := ⟨_, hz, rfl⟩
    unfold pyNext
    refine wpAny_bind (wpAny_attempt (wpAny_callSpecial?_slot (name := Str.ofString "__next__") hty PySem.F.slot_zip_next
      (wpAny_call_entry PySem.F.slot_zip_next hty PySem.F.entry_zip_next (endKept Z (Da _ hh) (Db _ hh) hz hu ht sa sb b1 b2 b3 fun h' tk e k he => ?_) (PySem.F.args_zip_next_1 _))))
    obtain ⟨o, ho, hc⟩ := he
    refine wpAny_bind (wpAny_isInstance (T := "StopIteration") (b := true) ⟨o, ho, hc⟩ isSubtype_stop ?_)
    exact wpAny_pure (hQ _ _ fun b o d1 _ d3 d4 e => k b o d1 d3 d4 e)

theorem Zs.keep {L : Addr} {h h' : Heap} (Da : ∀ A : Around, A.handled = none → Draws prog w A j1 f1 m1 P1 Sa) (Db : ∀ A : Around, A.handled = none → Draws prog w A j2 f2 m2 P2 Sb) (hh : A.handled = none)
    (st : Zs zz ti to j1 j2 L Sa Sb i h) (lz : L ≠ zz) (lt : L ≠ ti) (lo : L ≠ to) (l1 : L ∉ f1) (l2 : L ∉ f2) (k : ∀ b o, b ≠ L → h.get? b = some o → h'.get? b = some o) : Zs zz ti to j1 j2 L Sa Sb i h' := by
  obtain ⟨ht, sa, sb, how⟩ := st
  refine ⟨k _ _ lt.symm ht, (Da A hh).frame _ _ _ sa fun b hb o e => k b o (fun q => l1 (q ▸ hb)) e, (Db A hh).frame _ _ _ sb fun b hb o e => k b o (fun q => l2 (q ▸ hb)) e, ?_⟩
  rcases how with ⟨hz, a, b, hto⟩ | ⟨U, f, ou, hz, hu, u1, u2, u3, u4⟩
  · exact .inl ⟨k _ _ lz.symm hz, a, b, k _ _ lo.symm hto⟩
  · exact .inr ⟨U, f, ou, k _ _ lz.symm hz, k _ _ u4 hu, u1, u2, u3, u4⟩

/-- the tuples that the list holds -/
structure Zg (P1 P2 : Nat → Value → Prop) (L : Addr) (h : Heap) (as : List Addr) : Prop where
  up : as.Pairwise (· < ·)
  over : ∀ a ∈ as, L < a
  two : ∀ (j : Nat) (a : Addr), as[j]? = some a → ∃ x y, P1 j x ∧ P2 j y ∧ IsTupOf2 h a x y

theorem zLoop {R : Result → Shared → Prop} {L : Addr} (hh : A.handled = none) (Z : ZipSep2 zz ti to j1 j2 f1 f2) (Da : ∀ A : Around, A.handled = none → Draws prog w A j1 f1 m1 P1 Sa) (Db : ∀ A : Around, A.handled = none → Draws prog w A j2 f2 m2 P2 Sb)
    (lz : zz < L) (lt : ti < L) (lo : to < L) (l1 : ∀ b ∈ f1, b < L) (l2 : ∀ b ∈ f2, b < L) (hn : min m1 m2 ≤ sizeLine) (res : Value) {h₁ : Heap}
    (hR : ∀ h' tk acc c as, (∀ b o, b ≠ L → b ≠ zz → b ≠ to → b ≠ j1 → b ≠ j2 → h₁.get? b = some o → h'.get? b = some o) → h'.get? L = some { cls := .type "list", dict := none, data := .seq acc c, slots := #[] } → as.length = min m1 m2 → Zg P1 P2 L h' as →
      acc.toList = as.map Value.ref → R (.ok (.ret res)) { s with heap := h', toks := tk }) :
    ∀ (k i : Nat) (h : Heap) (tk c : Nat) (acc : Array Value) (as : List Addr), min m1 m2 - i = k → i ≤ min m1 m2 → Zs zz ti to j1 j2 L Sa Sb i h → (∀ b o, b ≠ L → b ≠ zz → b ≠ to → b ≠ j1 → b ≠ j2 → h₁.get? b = some o → h.get? b = some o) →
      h.get? L = some { cls := .type "list", dict := none, data := .seq acc c, slots := #[] } → acc.toList = as.map Value.ref → as.length = i → Zg P1 P2 L h as →
      codeAny (model prog w) A (.builtin "list.extend.loop" ⟨[.ref L, .ref zz, res], []⟩) R { s with heap := h, toks := tk } := by
  have L1 := l1 _ Z.mem1
  have L2 := l2 _ Z.mem2
  intro k
  induction k with
  | zero =>
    intro i h tk c acc as hk hi st hkeep hS hacc hal hG
    refine codeAny_builtin PySem.F.entry_extend_loop ?_
    rw [Around.under_plainId PySem.F.plain_extend_loop _]
    show wpAny _ A.in1 (pyNext (.ref zz) >>= _) _ _ _
    refine wpAny_bind (Zs.stop (s := { s with heap := h, toks := tk }) (A := A.in1) Z Da Db hh st (by omega) (by omega) (by omega) fun h' tk' kk => ?_)
    dsimp only at kk
    refine wpAny_pure (hR h' tk' acc c as (fun b o d0 d1 d2 d3 d4 e => kk b o d1 d2 d3 d4 (hkeep b o d0 d1 d2 d3 d4 e)) (kk L _ (Nat.ne_of_gt lz) (Nat.ne_of_gt lo) (Nat.ne_of_gt L1) (Nat.ne_of_gt L2) hS) (by omega) ⟨hG.up, hG.over, fun j a hj => ?_⟩ hacc)
    obtain ⟨x, y, p, q, e⟩ := hG.two j a hj
    have ha := hG.over a (List.mem_of_getElem? hj)
    exact ⟨x, y, p, q, kk a _ (Nat.ne_of_gt (Nat.lt_trans lz ha)) (Nat.ne_of_gt (Nat.lt_trans lo ha)) (Nat.ne_of_gt (Nat.lt_trans L1 ha)) (Nat.ne_of_gt (Nat.lt_trans L2 ha)) e⟩
  | succ k ih =>
    intro i h tk c acc as hk hi st hkeep hS hacc hal hG
    have hsz : acc.size = i := by rw [← Array.length_toList, hacc, List.length_map, hal]
    refine codeAny_builtin PySem.F.entry_extend_loop ?_
    rw [Around.under_plainId PySem.F.plain_extend_loop _]
    show wpAny _ A.in1 (pyNext (.ref zz) >>= _) _ _ _
    refine wpAny_bind (Zs.step (s := { s with heap := h, toks := tk }) (A := A.in1) Z Da Db hh st (Heap.lt_size hS) (by omega) (by omega) fun x y h' tk' px py st' ht hz hkp => ?_)
    dsimp only at ht hz hkp ⊢
    have hS' := hkp L _ (Nat.ne_of_gt lz) (Nat.ne_of_gt lo) (Nat.ne_of_gt L1) (Nat.ne_of_gt L2) hS
    have hSl : L < h.objs.size := Heap.lt_size hS
    have up : ∀ b o, b ≠ L → h'.get? b = some o → (h'.update L (Obj.mapSeq (·.push (Value.ref h.objs.size)))).get? b = some o := fun b o hb e => (Heap.get?_update_other _ _ (Ne.symm hb)).trans e
    show wpAny _ A.in1 (updateSeq L (·.push (Value.ref h.objs.size)) >>= _) _ _ _
    refine wpAny_bind ?_
    refine wpAny_updateSeq hS' rfl (wpAny_pure ⟨plainId_quiet PySem.F.plain_extend_loop _, ih (i + 1) _ tk' _ (acc.push (Value.ref h.objs.size)) (as ++ [h.objs.size]) (by omega) (by omega)
      (st'.keep (prog := prog) (w := w) (A := A) Da Db hh (Nat.ne_of_gt lz) (Nat.ne_of_gt lt) (Nat.ne_of_gt lo) (fun q => Nat.lt_irrefl _ (l1 _ q)) (fun q => Nat.lt_irrefl _ (l2 _ q)) up)
      (fun b o d0 d1 d2 d3 d4 e => up b o d0 (hkp b o d1 d2 d3 d4 (hkeep b o d0 d1 d2 d3 d4 e))) (Heap.get?_update_self _ hS' rfl) (by rw [Array.toList_push, hacc, List.map_append]; rfl) (by rw [List.length_append, hal]; rfl) ⟨?_, ?_, ?_⟩⟩) (by rw [hsz]; omega) (by show (acc.push (Value.ref h.objs.size)).size ≤ sizeLine + 1; rw [Array.size_push, hsz]; omega)
    · refine List.pairwise_append.mpr ⟨hG.up, List.pairwise_singleton _ _, fun a ha b hb => ?_⟩
      rw [List.mem_singleton.mp hb]
      obtain ⟨j, hj⟩ := List.mem_iff_getElem?.mp ha
      obtain ⟨_, _, _, _, e⟩ := hG.two j a hj
      exact Heap.lt_size e
    · intro a ha
      rcases List.mem_append.mp ha with ha | ha
      · exact hG.over a ha
      · rw [List.mem_singleton.mp ha]; exact hSl
    · intro j b hj
      rcases Nat.lt_trichotomy j as.length with h1 | h1 | h1
      · rw [List.getElem?_append_left h1] at hj
        obtain ⟨x', y', p', q', e'⟩ := hG.two j b hj
        have hb := hG.over b (List.mem_of_getElem? hj)
        exact ⟨x', y', p', q', up b _ (Nat.ne_of_gt hb) (hkp b _ (Nat.ne_of_gt (Nat.lt_trans lz hb)) (Nat.ne_of_gt (Nat.lt_trans lo hb)) (Nat.ne_of_gt (Nat.lt_trans L1 hb)) (Nat.ne_of_gt (Nat.lt_trans L2 hb)) e')⟩
      · subst h1
        have hb : h.objs.size = b := by simpa using hj
        subst hb
        exact ⟨x, y, by rw [hal]; exact px, by rw [hal]; exact py, up _ _ (Nat.ne_of_gt hSl) ht⟩
      · have hnone : (as ++ [h.objs.size])[j]? = none := List.getElem?_eq_none (by rw [List.length_append, List.length_singleton]; omega)
        rw [hnone] at hj; cases hj
end
end Vi.Lz
namespace Vi.Lz
open PySem PySem.Spec PyProof.Rows L2
theorem zip_nolen : typeLookup (.type "zip") "__len__" = pure none := by rw [typeLookup_type, builtinLookup_eq_fast]; kernel_rfl
theorem zip_nohint : typeLookup (.type "zip") "__length_hint__" = pure none := by rw [typeLookup_type, builtinLookup_eq_fast]; kernel_rfl
section
variable {prog : Program} {w : World} {A : Around} {E : Value → Shared → Prop} {s : Shared} {zz ti to j1 j2 : Addr} {f1 f2 : List Addr} {m1 m2 i : Nat} {P1 P2 : Nat → Value → Prop} {Sa Sb : Nat → Heap → Prop}
theorem zHint (hT : s.TypeIs (.ref zz) "zip") {Q : Bool → Shared → Prop} (h : Q true s) : wpAny (model prog w) A (Builtin.List.listLengthHint (.ref zz)) Q E s := by
  unfold Builtin.List.listLengthHint
  refine wpAny_bind (wpAny_specialOf hT zip_nolen ?_)
  show wpAny _ A (specialOf (Value.ref zz) (Str.ofString "__length_hint__") >>= _) _ _ _
  refine wpAny_bind (wpAny_specialOf hT zip_nohint ?_)
  exact wpAny_pure h
theorem zExtend {R : Result → Shared → Prop} {L : Addr} (hh : A.handled = none) (Z : ZipSep2 zz ti to j1 j2 f1 f2) (Da : ∀ A : Around, A.handled = none → Draws prog w A j1 f1 m1 P1 Sa) (Db : ∀ A : Around, A.handled = none → Draws prog w A j2 f2 m2 P2 Sb)
    (lz : zz < L) (lt : ti < L) (lo : to < L) (l1 : ∀ b ∈ f1, b < L) (l2 : ∀ b ∈ f2, b < L) (hn : min m1 m2 ≤ sizeLine) (res : Value) (c₀ : Nat) (hz : IsZip s.heap zz ti to .none) (ht : IsTupOf2 s.heap ti (.ref j1) (.ref j2)) (hto : ∃ a b, IsTupOf2 s.heap to a b) (sa : Sa 0 s.heap) (sb : Sb 0 s.heap)
    (hS : s.heap.get? L = some { cls := .type "list", data := .seq #[] c₀ })
    (hR : ∀ h' tk acc c as, (∀ b o, b ≠ L → b ≠ zz → b ≠ to → b ≠ j1 → b ≠ j2 → s.heap.get? b = some o → h'.get? b = some o) → h'.get? L = some { cls := .type "list", dict := none, data := .seq acc c, slots := #[] } → as.length = min m1 m2 → Zg P1 P2 L h' as →
      acc.toList = as.map Value.ref → R (.ok (.ret res)) { s with heap := h', toks := tk }) :
    wpAny (model prog w) A.in1 (Builtin.List.listExtendWith (.ref L) (.ref zz) res)
      (fun fin s' => match fin with | .done f => R (.ok f) s' | .again c' => c'.quiet = true ∧ codeAny (model prog w) A c' R s') (fun e s' => R (.error e) s') s := by
  have hT : s.TypeIs (.ref zz) "zip" := ⟨_, hz, rfl⟩
  have st0 : Zs zz ti to j1 j2 L Sa Sb 0 s.heap := ⟨ht, sa, sb, .inl ⟨hz, hto⟩⟩
  unfold Builtin.List.listExtendWith
  refine wpAny_bind (wpAny_typeOf (T := "zip") hT ?_)
  have h1 : Builtin.List.listSameRef (.ref L) (.ref zz) = false := by simp [Builtin.List.listSameRef, Nat.ne_of_gt lz]
  have h2 : (Value.type "zip" == Value.type "list") = false := by decide
  have h3 : (Value.type "zip" == Value.type "tuple") = false := by decide
  simp only [h1, h2, h3, Bool.or_false, Bool.false_eq_true, if_false]
  refine wpAny_bind (wpAny_pyIter_zip hz ?_)
  refine wpAny_bind (wpAny_holding (zHint hT ?_))
  refine wpAny_ite_split (fun _ => ?_) (fun hab => absurd (by simp) hab)
  refine wpAny_bind (wpAny_rule ?_)
  refine wpAny_bind ?_
  show wpAny _ _ (updateSeq L (·.push .none) >>= fun _ => updateSeq L (·.pop)) _ _ _
  refine wpAny_bind (wpAny_updateSeq hS rfl ?_)
  have hS₂ := Heap.get?_update_self (Obj.mapSeq (·.push Value.none)) hS rfl
  refine wpAny_updateSeq (hz := by seq_fits) hS₂ rfl ?_
  have hS₃ := Heap.get?_update_self (Obj.mapSeq (·.pop)) hS₂ rfl
  have up : ∀ b o, b ≠ L → s.heap.get? b = some o → ((s.heap.update L (Obj.mapSeq (·.push Value.none))).update L (Obj.mapSeq (·.pop))).get? b = some o :=
    fun b o hb e => (Heap.get?_update_other _ _ (Ne.symm hb)).trans ((Heap.get?_update_other _ _ (Ne.symm hb)).trans e)
  refine wpAny_pure ⟨plainId_quiet PySem.F.plain_extend_loop _, zLoop (s := s) (h₁ := s.heap) hh Z Da Db lz lt lo l1 l2 hn res hR (min m1 m2) 0 _ s.toks _ #[] [] (Nat.sub_zero _) (Nat.zero_le _)
    (st0.keep (prog := prog) (w := w) (A := A) Da Db hh (Nat.ne_of_gt lz) (Nat.ne_of_gt lt) (Nat.ne_of_gt lo) (fun q => Nat.lt_irrefl _ (l1 _ q)) (fun q => Nat.lt_irrefl _ (l2 _ q)) up) (fun b o d0 _ _ _ _ e => up b o d0 e) hS₃ rfl rfl
    ⟨List.Pairwise.nil, (fun _ ha => nomatch ha), (fun j a hj => by simp at hj)⟩⟩
theorem zCall {Q : Value → Shared → Prop} (hh : A.handled = none) (Z : ZipSep2 zz ti to j1 j2 f1 f2) (Da : ∀ A : Around, A.handled = none → Draws prog w A j1 f1 m1 P1 Sa) (Db : ∀ A : Around, A.handled = none → Draws prog w A j2 f2 m2 P2 Sb)
    (l1 : ∀ b ∈ f1, b < s.heap.objs.size) (l2 : ∀ b ∈ f2, b < s.heap.objs.size) (hn : min m1 m2 ≤ sizeLine) (hz : IsZip s.heap zz ti to .none) (ht : IsTupOf2 s.heap ti (.ref j1) (.ref j2)) (hto : ∃ a b, IsTupOf2 s.heap to a b) (sa : Sa 0 s.heap) (sb : Sb 0 s.heap)
    (hQ : ∀ h' tk acc c as, (∀ b o, b ≠ zz → b ≠ to → b ≠ j1 → b ≠ j2 → s.heap.get? b = some o → h'.get? b = some o) → h'.get? s.heap.objs.size = some { cls := .type "list", dict := none, data := .seq acc c, slots := #[] } → as.length = min m1 m2 → Zg P1 P2 s.heap.objs.size h' as →
      acc.toList = as.map Value.ref → Q (.ref s.heap.objs.size) { s with heap := h', toks := tk }) :
    wpAny (model prog w) A (call (.type "list") [.ref zz]) Q E s := by
  refine callType_codes (Q₁ := fun obj s₁ => obj = .ref s.heap.objs.size ∧ s₁ = { s with heap := s.heap.push { cls := .type "list", data := .seq #[] } }) PySem.F.called_list (PySem.F.typeCall_list_1 _) PySem.F.entry_list_init
    (code_list_new _ ⟨rfl, rfl⟩) fun obj s₁ h₁ => ?_
  obtain ⟨rfl, rfl⟩ := h₁
  obtain ⟨a, b, hto⟩ := hto
  have hS : (s.heap.push { cls := .type "list", data := .seq #[] }).get? s.heap.objs.size = some { cls := .type "list", data := .seq #[] } := Heap.get?_push_size _ rfl
  have up1 : ∀ b o, s.heap.get? b = some o → (s.heap.push { cls := .type "list", data := .seq #[] }).get? b = some o := fun b o e => Heap.get?_push_of_some _ e
  have lz := Heap.lt_size hz
  have lt := Heap.lt_size ht
  have lo := Heap.lt_size hto
  refine ⟨⟨_, hS, rfl⟩, PySem.F.args_list_init_2 _ _, ?_⟩
  show wpAny _ _ (do let old ← Builtin.List.listItems (.ref s.heap.objs.size); Builtin.List.listUpdate (.ref s.heap.objs.size) (fun _ => #[]); letGo old.toList.reverse; Builtin.List.listExtendWith (.ref s.heap.objs.size) (.ref zz) .none) _ _ _
  refine wpAny_bind ?_
  unfold Builtin.List.listItems
  refine wpAny_bind (wpAny_seqItems hS rfl (wpAny_pure ?_))
  show wpAny _ _ (updateSeq s.heap.objs.size (fun _ => #[]) >>= fun _ => letGo (#[] : Array Value).toList.reverse >>= fun _ => Builtin.List.listExtendWith (.ref s.heap.objs.size) (.ref zz) .none) _ _ _
  refine wpAny_bind (wpAny_updateSeq hS rfl ?_)
  have hS₂ := Heap.get?_update_self (Obj.mapSeq (fun _ => (#[] : Array Value))) hS rfl
  have up : ∀ b o, s.heap.get? b = some o → ((s.heap.push { cls := .type "list", data := .seq #[] }).update s.heap.objs.size (Obj.mapSeq (fun _ => (#[] : Array Value)))).get? b = some o :=
    fun b o e => (Heap.get?_update_other _ _ (Nat.ne_of_gt (Heap.lt_size e))).trans (up1 b o e)
  refine wpAny_bind (wpAny_letGo ?_)
  refine zExtend (A := A.in1) (s := { s with heap := (s.heap.push { cls := .type "list", data := .seq #[] }).update s.heap.objs.size (Obj.mapSeq (fun _ => (#[] : Array Value))) }) hh Z Da Db lz lt lo l1 l2 hn .none _ (up _ _ hz) (up _ _ ht) ⟨a, b, up _ _ hto⟩ ((Da A hh).frame _ _ _ sa fun b _ o e => up b o e) ((Db A hh).frame _ _ _ sb fun b _ o e => up b o e) hS₂ fun h' tk acc c as hk hS' hl hG hacc => ?_
  exact ⟨rfl, hQ h' tk acc c as (fun b o d1 d2 d3 d4 e => hk b o (Nat.ne_of_lt (Heap.lt_size e)) d1 d2 d3 d4 (up b o e)) hS' hl hG hacc⟩
end
end Vi.Lz
namespace Vi.Lz
open PySem PySem.Spec PyProof.Rows L2
/-! ### the same over the tracked heap -/
def putZ : Hp → List Addr → List (V × V) → Hp
  | H, a :: as, p :: ps => putZ (upd H a (.tup [p.1, p.2])) as ps
  | H, _, _ => H
theorem putZ_off {b : Addr} : ∀ (as : List Addr) (ps : List (V × V)) (H : Hp), b ∉ as → putZ H as ps b = H b
  | [], _, _, _ => rfl
  | _ :: _, [], _, _ => rfl
  | a :: as, p :: ps, H, h => by
    have h' : b ≠ a ∧ b ∉ as := by simpa using h
    exact (putZ_off as ps _ h'.2).trans (upd_ne h'.1)
theorem putZ_at : ∀ (as : List Addr) (ps : List (V × V)) (H : Hp), as.length = ps.length → as.Nodup → ∀ (j : Nat) (a : Addr), as[j]? = some a → ∃ p, ps[j]? = some p ∧ putZ H as ps a = some (.tup [p.1, p.2])
  | [], _, _, _, _, j, a, h => by simp at h
  | _ :: _, [], _, l, _, _, _, _ => by simp at l
  | b :: as, p :: ps, H, l, n, j, a, h => by
    have n' := List.nodup_cons.mp n
    cases j with
    | zero =>
      have e : b = a := by simpa using h
      subst e
      exact ⟨p, rfl, (putZ_off as ps _ n'.1).trans upd_same⟩
    | succ j =>
      obtain ⟨p', e1, e2⟩ := putZ_at as ps (upd H b (.tup [p.1, p.2])) (Nat.succ.inj l) n'.2 j a (by simpa using h)
      exact ⟨p', by simpa using e1, e2⟩
theorem vals_get : ∀ {xs : List V} {us : List Value}, Vals xs us → ∀ {j : Nat} {u : Value}, us[j]? = some u → ∃ x, xs[j]? = some x ∧ RelV x u
  | _, _, .nil, j, u, h => by simp at h
  | _, _, .cons r t, 0, u, h => by
    have e := Option.some.inj h
    subst e
    exact ⟨_, rfl, r⟩
  | _, _, .cons r t, j + 1, u, h => vals_get t h
theorem vals_refs : ∀ as : List Addr, Vals (as.map V.ref) (as.map Value.ref)
  | [] => .nil
  | _ :: as => .cons rfl (vals_refs as)
section
variable {X : Cx} {pins : List (Addr × Obj)} {σ : L2.St} {H : Hp} {s : Shared}
theorem zLaid {h' : Heap} {tk c : Nat} {xs ys : List V} {us ws : List Value} {acc : Array Value} {as : List Addr} {p : Addr} (I : Inv X pins σ H s) (rx : Vals xs us) (ry : Vals ys ws) (hp : s.heap.objs.size ≤ p)
    (hk : ∀ b o, s.heap.get? b = some o → h'.get? b = some o) (hS : h'.get? p = some { cls := .type "list", dict := none, data := .seq acc c, slots := #[] }) (hl : as.length = (xs.zip ys).length) (hz : as.length ≤ sizeLine)
    (hG : Zg (fun j v => us.toArray[j]? = some v) (fun j v => ws.toArray[j]? = some v) p h' as) (hacc : acc.toList = as.map Value.ref) :
    H p = none ∧ (∀ t ∈ as, H t = none) ∧ p ∉ as ∧ as.Nodup ∧ Inv X pins σ (putZ (upd H p (.lst (as.map V.ref))) as (xs.zip ys)) { s with heap := h', toks := tk } := by
  have hpn : p ∉ as := fun z => Nat.lt_irrefl _ (hG.over _ z)
  have nd : as.Nodup := List.Pairwise.imp (fun {a b} (h : a < b) => Nat.ne_of_lt h) hG.up
  have above : ∀ t ∈ as, s.heap.objs.size ≤ t := fun t ht => Nat.le_trans hp (Nat.le_of_lt (hG.over t ht))
  have new : ∀ t ∈ as, H t = none := fun t ht => I.hok.fresh (above t ht)
  have newS : H p = none := I.hok.fresh hp
  have off : ∀ b, b ∉ as → b ≠ p → putZ (upd H p (.lst (as.map V.ref))) as (xs.zip ys) b = H b := fun b h1 h2 => by rw [putZ_off as _ _ h1, upd_ne h2]
  have low : ∀ b o, s.heap.get? b = some o → b ∉ as ∧ b ≠ p := fun b o e => ⟨fun z => absurd (Heap.lt_size e) (Nat.not_lt.mpr (above b z)), Nat.ne_of_lt (Nat.lt_of_lt_of_le (Heap.lt_size e) hp)⟩
  have kp : ∀ b u, H b = some u → putZ (upd H p (.lst (as.map V.ref))) as (xs.zip ys) b = some u := fun b u e => by
    rw [off b (fun z => by rw [new b z] at e; cases e) (fun z => by rw [z, newS] at e; cases e)]
    exact e
  refine ⟨newS, new, hpn, nd, I.call' (ch := []) rfl ⟨fun b o q _ _ _ => hk b o q, fun b o q _ _ _ => ⟨o.slots, hk b o q⟩, fun b o q n _ => ?_, fun b o q _ => ⟨o, hk b o q⟩, fun b zs q => kp b _ q, fun b o u q => kp b _ q, fun b ps q => ⟨#[], by rw [kp b _ q]; simp⟩⟩ (fun b u q => ?_) I.bare fun b z => by simp at z⟩
  · obtain ⟨z1, z2⟩ := low b o q
    rw [off b z1 z2]
    exact n
  · by_cases hb : b ∈ as
    · obtain ⟨j, ej⟩ := List.mem_iff_getElem?.mp hb
      obtain ⟨pr, e1, e2⟩ := putZ_at as (xs.zip ys) (upd H p (.lst (as.map V.ref))) hl nd j b ej
      rw [e2] at q
      cases q
      obtain ⟨x, y, f1, f2, f3⟩ := hG.two j b ej
      obtain ⟨a1, g1, r1⟩ := vals_get rx (by simpa using f1)
      obtain ⟨a2, g2, r2⟩ := vals_get ry (by simpa using f2)
      have hzp : (xs.zip ys)[j]? = some (a1, a2) := by rw [List.getElem?_zip_eq_some]; exact ⟨g1, g2⟩
      rw [hzp] at e1
      cases e1
      exact ⟨by show 2 ≤ sizeLine; decide, [x, y], .cons r1 (.cons r2 .nil), ⟨_, f3, rfl, _, rfl⟩⟩
    · by_cases hb2 : b = p
      · rw [hb2] at q ⊢
        rw [putZ_off as _ _ hpn, upd_same] at q
        cases q
        refine ⟨by rw [List.length_map]; exact hz, acc.toList, c, by rw [hacc]; exact vals_refs as, ?_⟩
        rw [Array.toArray_toList]
        exact hS
      · rw [off b hb hb2] at q
        exact (I.hok b u q).stay (fun d v _ y => hk d v y) (fun d y => kp d _ y) fun d zs y => kp d _ y
end
end Vi.Lz
namespace Vi.Lz
open PySem PySem.Spec PyProof.Rows L2
/-- a tracked list or tuple -/
def Sq (K : PySem.W.Frag) (H : Hp) (a : Addr) (xs : List V) : Prop := SqL K H a xs ∨ SqT K H a xs
def tZipL (K : PySem.W.Frag) (ta : TA) : TE := fun σ H Q => ta σ H fun vs H1 => ∃ a b xs ys, vs = [.ref a, .ref b] ∧ Sq K H1 a xs ∧ Sq K H1 b ys ∧
  ∀ (p : Addr) (as : List Addr), H1 p = none → (∀ t ∈ as, H1 t = none) → p ∉ as → as.Nodup → as.length = (xs.zip ys).length → Q (.ref p) (putZ (upd H1 p (.lst (as.map V.ref))) as (xs.zip ys))
section
variable {X : Cx} {pins : List (Addr × Obj)} {σ : L2.St} {H : Hp} {s : Shared}
/-- what iter(v) makes of it, and that it draws -/
theorem sq_draws {a : Addr} {xs : List V} (I : Inv X pins σ H s) (q : Sq X.K H a xs) :
    ∃ (us : List Value) (o : Obj) (HH : Heap → Prop) (St : Addr → Nat → Heap → Prop), Vals xs us ∧ us.length ≤ sizeLine ∧ a < s.heap.objs.size ∧ Begins (.ref a) o HH ∧ HH s.heap ∧
      (∀ it, it ≠ a → ∀ (A : Around), A.handled = none → Draws X.prog X.w A it [it, a] us.length (fun j v => us.toArray[j]? = some v) (St it)) ∧
      (∀ it h', (∀ b o', s.heap.get? b = some o' → h'.get? b = some o') → h'.get? it = some o → St it 0 h') := by
  rcases q with q | q
  · obtain ⟨us, rv, p1, hz⟩ := I.list q
    refine ⟨us, _, _, fun it i h => h.IsListIter it a i ∧ h.IsList a us.toArray, rv, ?_, p1.lt, begins_list a us.toArray, p1.isList, fun it hne A hA => ?_, fun it h' hk hit => ⟨⟨_, hit, rfl, rfl⟩, p1.isList.at fun o e => hk a o e⟩⟩
    · rw [← rv.length]; exact hz
    · simpa using (Draws.list (prog := X.prog) (w := X.w) hA it a (Ne.symm hne) us.toArray)
  · obtain ⟨us, rv, p1, hz⟩ := I.tuple q
    have p2 : s.heap.IsTuple a us.toArray := p1
    obtain ⟨o1, ho1, _⟩ := id p2
    refine ⟨us, _, _, fun it i h => h.IsTupleIter it a i ∧ h.IsTuple a us.toArray, rv, ?_, Heap.lt_size ho1, begins_tuple a us.toArray, p2, fun it hne A hA => ?_, fun it h' hk hit => ⟨⟨_, hit, rfl, rfl⟩, p2.at fun o e => hk a o e⟩⟩
    · rw [← rv.length]; exact hz
    · simpa using (Draws.tuple (prog := X.prog) (w := X.w) hA it a (Ne.symm hne) us.toArray)
theorem not2 {x y z : Addr} (h1 : x ≠ y) (h2 : x ≠ z) : x ∉ [y, z] := by simp [h1, h2]
theorem zSep {n a b : Nat} (la : a < n) (lb : b < n) : ZipSep2 (n + 4) (n + 2) (n + 3) n (n + 1) [n, a] [n + 1, b] where
  TIz := Nat.ne_of_lt (by omega)
  TOz := Nat.ne_of_lt (by omega)
  TITO := Nat.ne_of_lt (by omega)
  TIi1 := Nat.ne_of_gt (by omega)
  mem1 := by simp
  zf1 := not2 (Nat.ne_of_gt (by omega)) (Nat.ne_of_gt (by omega))
  Tf1 := not2 (Nat.ne_of_gt (by omega)) (Nat.ne_of_gt (by omega))
  TIi2 := Nat.ne_of_gt (by omega)
  mem2 := by simp
  zf2 := not2 (Nat.ne_of_gt (by omega)) (Nat.ne_of_gt (by omega))
  Tf2 := not2 (Nat.ne_of_gt (by omega)) (Nat.ne_of_gt (by omega))
  sep1_2 := not2 (Nat.ne_of_lt (by omega)) (Nat.ne_of_gt (by omega))
  sep2_1 := not2 (Nat.ne_of_gt (by omega)) (Nat.ne_of_gt (by omega))
theorem pe_zipL {e e2 : Expr} {ta : TA} {p p2 pos q : Pos} (hc : X.calm = true) (hg : Gl X "list") (hm : X.mg "list" = none) (hg2 : Gl X "zip") (hm2 : X.mg "zip" = none) (ha : PA X [e, e2] ta)
    (hs : starEach [e, e2] X.env = (false, eval e X.env) :: starEach [e2] X.env) (hpl : (backTo q (starEach [e2] X.env)).any (·.1) = false)
    (na : starEach [.Call (.Name "zip" p2) [e, e2] [] q] X.env = (false, eval (.Call (.Name "zip" p2) [e, e2] [] q) X.env) :: starEach [] X.env := by rfl) :
    PE X (.Call (.Name "list" p) [.Call (.Name "zip" p2) [e, e2] [] q] [] pos) (tZipL X.K ta) := by
  refine ⟨fun pins s σ H Q I h => ?_⟩
  refine Call_ (ld_blt I hg hm boot_list (PyProof.Rows.callWith_type1 (args_cons (Call_ (ld_blt I hg2 hm2 PyProof.Rows.boot_zip (PyProof.Rows.callWith_type1 (thn (ha.run q pins s σ H _ I h) fun us s1 ⟨vs, H1, I1, r1, q1⟩ => ?_) hs hpl))) na) na))
  obtain ⟨a, b, xs, ys, ex, qa, qb, q1⟩ := q1
  subst ex
  cases r1 with
  | cons r rr =>
    cases rr with
    | cons r' rr =>
      cases rr
      cases r
      cases r'
      obtain ⟨us, o1, HH1, St1, rx, zx, la, B1, hb1, dr1, go1⟩ := sq_draws I1 qa
      obtain ⟨ws, o2, HH2, St2, ry, zy, lb, B2, hb2, dr2, go2⟩ := sq_draws I1 qb
      refine zip_begins2 B1 B2 hb1 hb2 fun h' hz hTI hTO g1 g2 hsz hk => args_nil ?_
      generalize hn : s1.heap.objs.size = n at *
      have Z : ZipSep2 (n + 4) (n + 2) (n + 3) n (n + 1) [n, a] [n + 1, b] := zSep la lb
      refine zCall (s := { s1 with heap := h' }) (I1.ok.hd hc) Z (fun A hA => dr1 n (Nat.ne_of_gt la) A hA) (fun A hA => dr2 (n + 1) (Nat.ne_of_gt (Nat.lt_succ_of_lt lb)) A hA) ?_ ?_ ?_ hz hTI ⟨_, _, hTO⟩ (go1 n h' hk g1) (go2 (n + 1) h' hk g2) fun h2 tk acc c as k2 hS hl hG hacc => ?_
      · intro c hc
        show c < h'.objs.size
        rw [hsz]
        rcases List.mem_cons.mp hc with z | z
        · rw [z]; exact Nat.lt_add_of_pos_right (by decide)
        · rw [List.mem_singleton.mp z]; exact Nat.lt_add_right 5 la
      · intro c hc
        show c < h'.objs.size
        rw [hsz]
        rcases List.mem_cons.mp hc with z | z
        · rw [z]; exact Nat.add_lt_add_left (by decide) n
        · rw [List.mem_singleton.mp z]; exact Nat.lt_add_right 5 lb
      · exact Nat.le_trans (Nat.min_le_left _ _) zx
      · have hle : s1.heap.objs.size ≤ h'.objs.size := by rw [hsz, hn]; exact Nat.le_add_right _ _
        have old : ∀ (k : Nat) (b : Addr) (o : Obj), s1.heap.get? b = some o → b ≠ n + k := fun k b o e => Nat.ne_of_lt (Nat.lt_of_lt_of_le (hn ▸ Heap.lt_size e) (Nat.le_add_right _ _))
        have hlen : as.length = (xs.zip ys).length := by rw [hl, List.length_zip, rx.length, ry.length]
        obtain ⟨c1, c2, c3, c4, J⟩ := zLaid (tk := tk) I1 rx ry hle (fun b o e => k2 b o (old 4 b o e) (old 3 b o e) (old 0 b o e) (old 1 b o e) (hk b o e)) hS hlen (by rw [hl]; exact Nat.le_trans (Nat.min_le_left _ _) zx) hG hacc
        exact ⟨.ref h'.objs.size, _, J, rfl, q1 _ as c1 c2 c3 c4 hlen⟩
end
end Vi.Lz
namespace Vi
open PySem PySem.Spec PyProof.Rows L2 Lz
section
variable {T : Tx} {G G' H : Hp} {Q : VK}
theorem zReps (gg : GSub G G') : ∀ {xs ys : List D} {vs us : List V} {as : List Addr}, Reps T G xs vs → Reps T G ys us → as.length = (vs.zip us).length → (∀ (j : Nat) (a : Addr), as[j]? = some a → ∃ p, (vs.zip us)[j]? = some p ∧ G' a = some (.tup [p.1, p.2])) → Reps T G' (zipD xs ys) (as.map V.ref)
  | [], ys, vs, us, as, r1, r2, l, h => by
    cases r1
    have e : as = [] := by simpa using l
    subst e
    simpa [zipD] using (Reps.nil : Reps T G' [] [])
  | x :: xs, [], vs, us, as, r1, r2, l, h => by
    cases r2
    have e : as = [] := by simpa using l
    subst e
    simpa [zipD] using (Reps.nil : Reps T G' [] [])
  | x :: xs, y :: ys, vs, us, as, r1, r2, l, h => by
    cases r1 with
    | cons a1 b1 =>
      cases r2 with
      | cons a2 b2 =>
        cases as with
        | nil => simp at l
        | cons a as =>
          obtain ⟨p, e1, e2⟩ := h 0 a rfl
          simp only [List.zip_cons_cons, List.getElem?_cons_zero, Option.some.injEq] at e1
          subst e1
          refine .cons (.tup e2 (.cons (a1.mono gg) (.cons (a2.mono gg) .nil)) (by simp; decide)) (zReps gg b1 b2 (by simpa using l) fun j c e => ?_)
          obtain ⟨p, q1, q2⟩ := h (j + 1) c (by simpa using e)
          exact ⟨p, by simpa using q1, q2⟩
theorem zPost {xs ys : List D} {vs us : List V} (gs : GSub G H) (r1 : Reps T G xs vs) (r2 : Reps T G ys us) (l : vs.length ≤ line) (P : Post T G H (.lst true (zipD xs ys)) Q) {p : Addr} {as : List Addr}
    (h1 : H p = none) (h2 : ∀ t ∈ as, H t = none) (h3 : p ∉ as) (h4 : as.Nodup) (h5 : as.length = (vs.zip us).length) : Q (.ref p) (putZ (upd H p (.lst (as.map V.ref))) as (vs.zip us)) := by
  have off : ∀ b, b ∉ as → b ≠ p → putZ (upd H p (.lst (as.map V.ref))) as (vs.zip us) b = H b := fun b q1 q2 => by rw [putZ_off as _ _ q1, upd_ne q2]
  have gg : GSub G (putZ G as (vs.zip us)) := fun a u e => by
    rw [putZ_off as _ _ (fun z => by rw [gs.non (h2 a z)] at e; cases e)]
    exact e
  have at1 := putZ_at as (vs.zip us) G h5 h4
  have at2 := putZ_at as (vs.zip us) (upd H p (.lst (as.map V.ref))) h5 h4
  have inG : ∀ b, b ∈ as → ∃ o, putZ G as (vs.zip us) b = some o ∧ putZ (upd H p (.lst (as.map V.ref))) as (vs.zip us) b = some o := fun b hb => by
    obtain ⟨j, ej⟩ := List.mem_iff_getElem?.mp hb
    obtain ⟨q1, e1, e2⟩ := at1 j b ej
    obtain ⟨q2, e3, e4⟩ := at2 j b ej
    rw [e1] at e3
    cases e3
    exact ⟨_, e2, e4⟩
  refine P (.ref p) _ (putZ G as (vs.zip us)) [p] ⟨gg, fun a u e _ => ?_, fun a h => ?_, fun a u e => ?_⟩ (fun a u e => ?_) (.lst (by rw [putZ_off as _ _ h3, upd_same]) (zReps gg r1 r2 h5 at1) ?_) fun a h => ?_
  · rw [off a (fun z => by rw [h2 a z] at e; cases e) (fun z => by rw [z, h1] at e; cases e)]
    exact e
  · rw [List.mem_singleton.mp h]
    exact .inr h1
  · by_cases hb : a ∈ as
    · exact .inr (.inr (h2 a hb))
    · rw [putZ_off as _ _ hb] at e
      exact .inl e
  · by_cases hb : a ∈ as
    · obtain ⟨o, q1, q2⟩ := inG a hb
      rw [q1] at e
      cases e
      exact q2
    · rw [putZ_off as _ _ hb] at e
      have e2 := gs _ _ e
      rw [off a hb (fun z => by rw [z, h1] at e2; cases e2)]
      exact e2
  · rw [List.length_map, h5, List.length_zip]
    exact Nat.le_trans (Nat.min_le_left _ _) l
  · rw [List.mem_singleton.mp h, putZ_off as _ _ h3]
    exact gs.non h1
end
section
variable {c : Cf} {T : Tx} {k : Nat} {φ : Phi} {sc : Scope} {X : Cx} {x y : Expr} {p pos : Pos}
theorem peListzip (g : Gd c T k φ sc X) {a b : E} {f u : Str} {p2 q : Pos} (hf : callIs c sc f "list" = true) (hu : callIs c sc u "zip" = true) (h : PEs X T φ [x, y] (.cons false a (.cons false b .nil))) :
    PE X (.Call (.Name f p) [.Call (.Name u p2) [x, y] [] q] [] pos) (rdE T φ (.op .listzip (.cons false a (.cons false b .nil)))) := by
  obtain ⟨rfl, hg, hm⟩ := callIs_of g hf
  obtain ⟨rfl, hg2, hm2⟩ := callIs_of g hu
  have ok := h.ok
  simp only [List.all_cons, List.all_nil, Bool.and_true, Bool.and_eq_true] at ok
  refine (pe_zipL g.calm hg hm hg2 hm2 h.pa (ok_star ok.1 _) (ok_back (by simp [ok.2]) _)).imp fun σ H Q hh => ?_
  obtain ⟨G, env, O, r, env', s, e1, K⟩ := rdE_op hh
  refine ⟨G, env, O, r, env', s, e1, fun vs H1 G1 O1 W1 A1 f1 => ?_⟩
  obtain ⟨G2, ds, d, gs, ra, e2, P⟩ := K vs H1 G1 O1 W1 A1 f1
  cases ra with
  | nil => simp [opSem] at e2
  | cons r1 ra =>
    cases ra with
    | nil => simp [opSem] at e2
    | cons r2 ra =>
      cases ra with
      | cons _ _ => simp [opSem] at e2
      | nil =>
        simp only [opSem] at e2
        unfold listzipOp at e2
        split at e2 <;> cases e2
        · obtain ⟨a, as, rfl, ha, rs, l⟩ := r1.lst gs
          obtain ⟨b, bs, rfl, hb, rs2, l2⟩ := r2.lst gs
          exact ⟨a, b, as, bs, rfl, .inl (.of ha), .inl (.of hb), fun p as c1 c2 c3 c4 c5 => zPost gs rs rs2 l P c1 c2 c3 c4 c5⟩
        · obtain ⟨a, as, rfl, ha, rs, l, _⟩ := r1.tup gs
          obtain ⟨b, bs, rfl, hb, rs2, l2, _⟩ := r2.tup gs
          exact ⟨a, b, as, bs, rfl, .inr (.of ha), .inr (.of hb), fun p as c1 c2 c3 c4 c5 => zPost gs rs rs2 l P c1 c2 c3 c4 c5⟩
        · obtain ⟨a, as, rfl, ha, rs, l⟩ := r1.lst gs
          obtain ⟨b, bs, rfl, hb, rs2, l2, _⟩ := r2.tup gs
          exact ⟨a, b, as, bs, rfl, .inl (.of ha), .inr (.of hb), fun p as c1 c2 c3 c4 c5 => zPost gs rs rs2 l P c1 c2 c3 c4 c5⟩
        · obtain ⟨a, as, rfl, ha, rs, l, _⟩ := r1.tup gs
          obtain ⟨b, bs, rfl, hb, rs2, l2⟩ := r2.lst gs
          exact ⟨a, b, as, bs, rfl, .inr (.of ha), .inl (.of hb), fun p as c1 c2 c3 c4 c5 => zPost gs rs rs2 l P c1 c2 c3 c4 c5⟩
end
end Vi
end
section
set_option maxRecDepth 100000
/-! Vi, part Q: the check of expressions, and that it is sound. -/
namespace Vi
open PySem PySem.Spec PyProof.Rows L2

def eqAt : D → D → Bool
  | .non, .non => true
  | .bl a, .bl b => a == b
  | .int a, .int b => a == b
  | .str a, .str b => a == b
  | _, _ => false
theorem eqAt_eq {a b : D} (h : eqAt a b = true) : a = b := by
  cases a <;> cases b <;> simp [eqAt] at h <;> simp [h]
def isLit : D → Expr → Bool
  | .non, .Constant .none _ _ => true
  | .bl b, .Constant (.bool a) _ _ => a == b
  | .int b, .Constant (.int a) _ _ => a == b
  | .str b, .Constant (.str a) _ _ => a == b
  | _, _ => false
def chkVar (c : Cf) (sc : Scope) (i : Nat) : Expr → Bool
  | .Name y _ => decide (c.N[i]? = some y) && isVis sc y && !(y == ("__debug__" : Str)) && !(y == ("__classdict__" : Str))
  | _ => false
def ownP (c : Cf) (own : List Nat) : List (Str × Nat) := own.map fun i => ((c.N[i]?).getD "", i)
def cmpIs : Op → CmpOp → Bool
  | .lt, .Lt => true | .le, .LtE => true | .gt, .Gt => true | .ge, .GtE => true | .eq, .Eq => true | .ne, .NotEq => true
  | .isin, .In => true | .notin, .NotIn => true | .isb, .Is => true | .notb, .IsNot => true
  | _, _ => false
def mname : Op → Str
  | .join => "join" | .split => "split" | .get1 => "get" | .get2 => "get" | _ => ""
def muName : Mu → Str
  | .append => "append" | .extend => "extend" | .pop => "pop" | .popAt => "pop" | _ => ""
def muAr : Mu → Nat → Bool
  | .append, n => n == 1
  | .extend, n => n == 1
  | .pop, n => n == 0
  | .popAt, n => n == 1
  | _, _ => false
def hGl (c : Cf) (sc : Scope) (d : D) : Expr → Bool
  | .Name z _ => isGlb sc z && !(z == ("__debug__" : Str)) && (match c.gl.lookup z with | some d' => eqAt d' d | none => false)
  | _ => false
def hOpm (fa : Expr → Bool) (fs : List Expr → Bool) (o : Op) (n : Nat) : Expr → Bool
  | .Call (.Attribute xo m apos) xs [] cpos => m == mname o && fa xo && fs xs && notC0 xo && apos.endLine == cpos.line && (match o with | .join => n == 1 | .split => n == 1 | .get1 => n == 1 | .get2 => n == 2 | _ => false)
  | _ => false
def hSlc (fa : Expr → Bool) (fs : List Expr → Bool) (b d : Bool) : Expr → Bool
  | .Subscript xa (.Slice lo hi none _) _ => fa xa && lo.isSome == b && hi.isSome == d && !(b && d) && fs (lo.toList ++ hi.toList)
  | _ => false
def hChain (o p : Op) (fa fb fd : Expr → Bool) : Expr → Bool
  | .Compare xa [q, r] [xb, xd] _ => cmpIs o q && cmpIs p r && fa xa && fb xb && fd xd && okX xb && okX xd
  | _ => false
def hAn (fs : List Expr → Bool) : Expr → Bool
  | .BoolOp .And xs _ => fs xs
  | _ => false
def hOr (fs : List Expr → Bool) : Expr → Bool
  | .BoolOp .Or xs _ => fs xs
  | _ => false
def hNt (f : Expr → Bool) : Expr → Bool
  | .UnaryOp .Not x _ => f x
  | _ => false
def hIte (fa fb fd : Expr → Bool) : Expr → Bool
  | .IfExp xa xb xd _ => fa xa && fb xb && fd xd
  | _ => false
def hTup (fs : List Expr → Bool) : Expr → Bool
  | .Tuple xs _ _ => fs xs
  | _ => false
def hLst (fs : List Expr → Bool) : Expr → Bool
  | .List xs _ => fs xs
  | _ => false
def hDnew : Expr → Bool
  | .Dict [] [] _ => true
  | _ => false
def hCall (c : Cf) (sc : Scope) (f : Str) (fs : List Expr → Bool) : Expr → Bool
  | .Call (.Name y _) xs [] _ => y == f && c.fs.contains f && isGlb sc f && !(f == ("__debug__" : Str)) && !xs.isEmpty && fs xs
  | _ => false
def hMake (c : Cf) (sc : Scope) (n q : Str) (fs : List Expr → Bool) : Expr → Bool
  | .Call (.Name y _) xs [] _ => y == n && (c.cl.lookup n == some q) && isGlb sc n && !(n == ("__debug__" : Str)) && !xs.isEmpty && fs xs
  | _ => false
def hAttr (f : Str) (fa : Expr → Bool) : Expr → Bool
  | .Attribute x g _ => g == f && notC0 x && fa x
  | _ => false
def hProp (c : Cf) (n q f : Str) (fa : Expr → Bool) : Expr → Bool
  | .Attribute x g _ => g == f && notC0 x && c.pr.contains (n, f, q) && fa x
  | _ => false
def hLenI (c : Cf) (sc : Scope) (n q : Str) (fa : Expr → Bool) : Expr → Bool
  | .Call (.Name f _) [x] [] _ => callIs c sc f "len" && c.ln.contains (n, q) && okX x && fa x
  | _ => false
def hMut (c : Cf) (sc : Scope) (m : Mu) (i n : Nat) (fs : List Expr → Bool) : Expr → Bool
  | .Call (.Attribute xo nm apos) xs [] cpos => nm == muName m && chkVar c sc i xo && apos.endLine == cpos.line && fs xs && muAr m n
  | _ => false
def hComp (c : Cf) (sc : Scope) (tg : T) (own : List Nat) (n : Nat) (fi : Expr → Expr → Bool) (fs : Scope → List Expr → Bool) (fe : Scope → Expr → Bool) : Expr → Bool
  | .ListComp xe [⟨xt, xi, xifs, 0⟩] scope _ => blkC c.N sc scope (ownP c own) && chkT c scope tg xt && (tgts tg).all own.contains && fi xt xi && okX xi && fs scope xifs && decide (n ≤ 1) && fe scope xe
  | _ => false
def hA (s : Bool) (f : Expr → Bool) (fr : List Expr → Bool) : List Expr → Bool
  | x :: xs => !s && okX x && f x && fr xs
  | [] => false
def hF (s : Bool) (f : Expr → Bool) (fr : List Expr → Bool) : List Expr → Bool
  | x :: xs => (if s then (match x with | .Starred y _ => f y | _ => false) else okX x && f x) && fr xs
  | [] => false
def hB (nl : Bool) (f : Expr → Bool) (fr : List Expr → Bool) : List Expr → Bool
  | [] => false
  | [x] => nl && f x
  | x :: y :: xs => !nl && f x && fr (y :: xs)
def isNl : Es → Bool
  | .nil => true
  | .cons _ _ _ => false
def hRange (c : Cf) (sc : Scope) (fs : List Expr → Bool) : Expr → Bool
  | .Call (.Name f _) xs [] _ => callIs c sc f "range" && fs xs && decide (xs.length ≤ 3) && !xs.isEmpty
  | _ => false
def isTup : Expr → Bool
  | .Tuple _ _ _ => true
  | _ => false
def hEnum (c : Cf) (sc : Scope) (fa : Expr → Bool) : Expr → Bool
  | .Call (.Name f _) [x] [] _ => callIs c sc f "enumerate" && fa x && okX x
  | _ => false
def hZip (c : Cf) (sc : Scope) (fa fb : Expr → Bool) : Expr → Bool
  | .Call (.Name f _) [x, y] [] _ => callIs c sc f "zip" && fa x && okX x && fb y && okX y
  | _ => false
def hItems (fa : Expr → Bool) : Expr → Bool
  | .Call (.Attribute x m apos) [] [] cpos => m == ("items" : Str) && fa x && notC0 x && apos.endLine == cpos.line
  | _ => false
mutual
def chk (c : Cf) : E → Scope → Expr → Bool
  | .lit d, _, x => isLit d x
  | .var i, sc, x => chkVar c sc i x
  | .vz i, sc, x => chkVar c sc i x
  | .gl _ d, sc, x => hGl c sc d x
  | .op o es, sc, x => (match opX c sc o x with
    | some xs => chkA c es sc xs
    | none => false)
  | .opm o a es, sc, x => hOpm (fun y => chk c a sc y) (fun ys => chkA c es sc ys) o (esLen es) x
  | .slc a b d es, sc, x => hSlc (fun y => chk c a sc y) (fun ys => chkA c es sc ys) b d x
  | .chain o p a b d, sc, x => hChain o p (fun y => chk c a sc y) (fun y => chk c b sc y) (fun y => chk c d sc y) x
  | .an es, sc, x => hAn (fun ys => chkB c es sc ys) x
  | .orr es, sc, x => hOr (fun ys => chkB c es sc ys) x
  | .nt e, sc, x => hNt (fun y => chk c e sc y) x
  | .ite a b d, sc, x => hIte (fun y => chk c a sc y) (fun y => chk c b sc y) (fun y => chk c d sc y) x
  | .tup es, sc, x => hTup (fun ys => chkF c es sc ys) x
  | .lst es, sc, x => hLst (fun ys => chkF c es sc ys) x
  | .dnew _, _, x => hDnew x
  | .call f es, sc, x => hCall c sc f (fun ys => chkA c es sc ys) x
  | .make n q es, sc, x => hMake c sc n q (fun ys => chkA c es sc ys) x
  | .meth _ _ _, _, _ => false
  | .attr e f, sc, x => hAttr f (fun y => chk c e sc y) x
  | .lenI n q e, sc, x => hLenI c sc n q (fun y => chk c e sc y) x
  | .prop n q f e, sc, x => hProp c n q f (fun y => chk c e sc y) x
  | .mut m i es, sc, x => hMut c sc m i (esLen es) (fun ys => chkA c es sc ys) x
  | .comp e tg it ifs own, sc, x => hComp c sc tg own (esLen ifs) (fun t y => chkI c it sc t y) (fun s ys => chkA c ifs s ys) (fun s y => chk c e s y) x
def chkA (c : Cf) : Es → Scope → List Expr → Bool
  | .nil, _, xs => xs.isEmpty
  | .cons s e r, sc, xs => hA s (fun y => chk c e sc y) (fun ys => chkA c r sc ys) xs
def chkF (c : Cf) : Es → Scope → List Expr → Bool
  | .nil, _, xs => xs.isEmpty
  | .cons s e r, sc, xs => hF s (fun y => chk c e sc y) (fun ys => chkF c r sc ys) xs
def chkB (c : Cf) : Es → Scope → List Expr → Bool
  | .nil, _, _ => false
  | .cons _ e r, sc, xs => hB (isNl r) (fun y => chk c e sc y) (fun ys => chkB c r sc ys) xs
def chkI (c : Cf) : I → Scope → Expr → Expr → Bool
  | .val e, sc, _, x => chk c e sc x
  | .range es, sc, _, x => hRange c sc (fun ys => chkA c es sc ys) x
  | .enum e, sc, t, x => isTup t && hEnum c sc (fun y => chk c e sc y) x
  | .zip a b, sc, t, x => isTup t && hZip c sc (fun y => chk c a sc y) (fun y => chk c b sc y) x
  | .items e, sc, t, x => isTup t && hItems (fun y => chk c e sc y) x
end

section
variable {c : Cf} {T : Tx} {k : Nat} {φ : Phi} {sc : Scope} {X : Cx} {x y z : Expr} {p pos : Pos}
/-- what the check gives -/
structure Snd (X : Cx) (T : Tx) (φ : Phi) (e : E) (x : Expr) : Prop where
  pe : PE X x (rdE T φ e)
  pp : PE X x (rdP T φ e)
  pt : PT X x (rdTE T φ e)
theorem Snd.of {e : E} (h : ∀ i, e ≠ .var i) (p : PE X x (rdE T φ e)) (t : PT X x (rdTE T φ e)) : Snd X T φ e x := ⟨p, rdP_of h p, t⟩
theorem Snd.ofV {e : E} (h : ∀ i, e ≠ .var i) (p : PE X x (rdE T φ e)) (v : valX x = true) : Snd X T φ e x := .of h p (valT p v)
theorem ok_cmp (g : Gd c T k φ sc X) {o : Op} {q : CmpOp} (h : cmpIs o q = true) : OpR X (compareOp q) (rB T o) := by
  cases o <;> cases q <;> simp only [cmpIs, Bool.false_eq_true] at h
  · exact ok_eq g.hK (by have := g.u64; omega)
  · exact ok_ne g.hK (by have := g.u64; omega)
  · exact ok_lt
  · exact ok_le
  · exact ok_gt
  · exact ok_ge
  · exact ok_in g.hK g.u64
  · exact ok_notin g.hK g.u64
  · exact ok_isb
  · exact ok_notb
theorem sndOp (g : Gd c T k φ sc X) {o : Op} {es : Es} {xs : List Expr} (h : opX c sc o x = some xs) (p : PEs X T φ xs es) : Snd X T φ (.op o es) x := by
  have nv : ∀ i, E.op o es ≠ .var i := fun _ e => nomatch e
  have u64 := g.u64
  unfold opX at h
  split at h
  · cases h; exact .ofV nv (bin2 (ok_add g.hK) p) rfl
  · cases h; exact .ofV nv (bin2 ok_sub p) rfl
  · cases h; exact .ofV nv (bin2 ok_mul p) rfl
  · cases h; exact .ofV nv (bin2 ok_fdiv p) rfl
  · cases h; exact .ofV nv (bin2 ok_mod p) rfl
  · cases h; exact .ofV nv (bin2 ok_pow p) rfl
  · cases h
    cases p with | cons p1 p2 _ p => cases p; exact .ofV nv ((pe_un ok_neg p1).imp fun σ H Q => rdE_op1) rfl
  · cases h; exact .of nv (cmp2 (ok_cmp g rfl) p) (cmp2T (ok_cmp g rfl) p)
  · cases h; exact .of nv (cmp2 (ok_cmp g rfl) p) (cmp2T (ok_cmp g rfl) p)
  · cases h; exact .of nv (cmp2 (ok_cmp g rfl) p) (cmp2T (ok_cmp g rfl) p)
  · cases h; exact .of nv (cmp2 (ok_cmp g rfl) p) (cmp2T (ok_cmp g rfl) p)
  · cases h; exact .of nv (cmp2 (ok_cmp g rfl) p) (cmp2T (ok_cmp g rfl) p)
  · cases h; exact .of nv (cmp2 (ok_cmp g rfl) p) (cmp2T (ok_cmp g rfl) p)
  · cases h; exact .of nv (cmp2 (ok_cmp g rfl) p) (cmp2T (ok_cmp g rfl) p)
  · cases h; exact .of nv (cmp2 (ok_cmp g rfl) p) (cmp2T (ok_cmp g rfl) p)
  · cases h; exact .of nv (cmp2 (ok_cmp g rfl) p) (cmp2T (ok_cmp g rfl) p)
  · cases h; exact .of nv (cmp2 (ok_cmp g rfl) p) (cmp2T (ok_cmp g rfl) p)
  · cases h
    cases p with
    | @cons _ e0 _ _ p1 p2 _ p =>
      cases p
      have q : ∀ {σ : L2.St} {H : Hp} {Q : VK}, rdE T φ (.op .isN (.cons false e0 .nil)) σ H Q → tIsN (rdP T φ e0) σ H Q := fun {σ H Q} q => by
        obtain ⟨G, env, O, r, env', s, e1, K⟩ := rdE_op1 q
        refine ⟨G, env, O, r, env', s, e1, fun v H1 G1 O1 W1 A1 f1 => ?_⟩
        obtain ⟨G2, a, v', d, ev, gs, ra, e2, P⟩ := rD.get1 (len1 _ (fun _ _ _ => ⟨rfl, rfl⟩)) (K v H1 G1 O1 W1 A1 f1)
        cases ev
        simp only [opSem, Option.some.injEq] at e2
        subst e2
        have := (isN_rep ra)
        rw [this]
        exact P.atom gs (.bl _)
      exact .of nv ((pe_cmp (pc_isN p1)).imp fun σ H Q => q) ((pt_cmp (pc_isN p1)).imp fun σ H Q r => q (rdT_test r))
  · cases h
    cases p with
    | @cons _ e0 _ _ p1 p2 _ p =>
      cases p
      have q : ∀ {σ : L2.St} {H : Hp} {Q : VK}, rdE T φ (.op .notN (.cons false e0 .nil)) σ H Q → tNotN (rdP T φ e0) σ H Q := fun {σ H Q} q => by
        obtain ⟨G, env, O, r, env', s, e1, K⟩ := rdE_op1 q
        refine ⟨G, env, O, r, env', s, e1, fun v H1 G1 O1 W1 A1 f1 => ?_⟩
        obtain ⟨G2, a, v', d, ev, gs, ra, e2, P⟩ := rD.get1 (len1 _ (fun _ _ _ => ⟨rfl, rfl⟩)) (K v H1 G1 O1 W1 A1 f1)
        cases ev
        simp only [opSem, Option.some.injEq] at e2
        subst e2
        have := (isN_rep ra)
        rw [this]
        exact P.atom gs (.bl _)
      exact .of nv ((pe_cmp (pc_notN p1)).imp fun σ H Q => q) ((pt_cmp (pc_notN p1)).imp fun σ H Q r => q (rdT_test r))
  · cases h
    cases p with
    | cons p1 _ _ p => cases p with
      | cons p2 _ ok p => cases p; exact .ofV nv ((pe_ix (ok_idx g.hK (by omega)) p1 p2 (ok_ix ok)).imp fun σ H Q => rdE_op2) rfl
  · split at h
    · rename_i hc; cases h; obtain ⟨rfl, g1, m1⟩ := callIs_of g hc; exact .ofV nv (bcall (ok_len g.hK) g1 m1 boot_len (by decide) (by decide) p) rfl
    · cases h
  · split at h
    · rename_i hc; cases h; obtain ⟨rfl, g1, m1⟩ := callIs_of g hc; exact .ofV nv (bcall ok_abs g1 m1 boot_abs (by decide) (by decide) p) rfl
    · cases h
  · split at h
    · rename_i hc; cases h; obtain ⟨rfl, g1, m1⟩ := callIs_of g hc; exact .ofV nv (tcall ok_int g1 m1 PyProof.Rows.boot_int (by decide) (by decide) p) rfl
    · cases h
  · split at h
    · rename_i hc; cases h; obtain ⟨rfl, g1, m1⟩ := callIs_of g hc; exact .ofV nv (bcall (ok_max2 g.calm) g1 m1 boot_max (by decide) (by decide) p) rfl
    · cases h
  · split at h
    · rename_i hc; cases h; obtain ⟨rfl, g1, m1⟩ := callIs_of g hc; exact .ofV nv (bcall (ok_min2 g.calm) g1 m1 boot_min (by decide) (by decide) p) rfl
    · cases h
  · split at h
    · rename_i hc; cases h; obtain ⟨rfl, g1, m1⟩ := callIs_of g hc; exact .ofV nv (bcall (ok_min4 g.calm) g1 m1 boot_min (by decide) (by decide) p) rfl
    · cases h
  · split at h
    · rename_i hc; cases h; obtain ⟨rfl, g1, m1⟩ := callIs_of g hc; exact .ofV nv (bcall (ok_max3 g.calm) g1 m1 boot_max (by decide) (by decide) p) rfl
    · cases h
  · split at h
    · rename_i hc; cases h; obtain ⟨rfl, g1, m1⟩ := callIs_of g hc; exact .ofV nv (bcall (ok_sum g.calm) g1 m1 boot_sum (by decide) (by decide) p) rfl
    · cases h
  · split at h
    · rename_i hc; cases h; obtain ⟨rfl, g1, m1⟩ := callIs_of g hc; exact .ofV nv (bcall (ok_maxL g.calm) g1 m1 boot_max (by decide) (by decide) p) rfl
    · cases h
  · split at h
    · rename_i hc; cases h; obtain ⟨rfl, g1, m1⟩ := callIs_of g hc; exact .ofV nv (bcall (ok_minL g.calm) g1 m1 boot_min (by decide) (by decide) p) rfl
    · cases h
  · split at h
    · rename_i hc; cases h; obtain ⟨rfl, g1, m1⟩ := callIs_of g hc; exact .ofV nv (bcall (ok_all g.calm) g1 m1 boot_all (by decide) (by decide) p) rfl
    · cases h
  · split at h
    · rename_i hc; cases h; obtain ⟨rfl, g1, m1⟩ := callIs_of g hc; exact .ofV nv (bcall (ok_any g.calm) g1 m1 boot_any (by decide) (by decide) p) rfl
    · cases h
  · split at h
    · rename_i hc; cases h; obtain ⟨rfl, g1, m1⟩ := callIs_of g hc; exact .ofV nv (tcall (ok_list g.calm) g1 m1 PyProof.Rows.boot_list (by decide) (by decide) p) rfl
    · cases h
  · split at h
    · rename_i hc; cases h; obtain ⟨rfl, g1, m1⟩ := callIs_of g hc; exact .ofV nv (tcall ok_tuple g1 m1 PyProof.Rows.boot_tuple (by decide) (by decide) p) rfl
    · cases h
  · split at h
    · rename_i hc; cases h; obtain ⟨rfl, g1, m1⟩ := callIs_of g hc; exact .ofV nv (bcall (ok_sorted g.hK g.calm) g1 m1 PyProof.Rows.boot_sorted (by decide) (by decide) p) rfl
    · cases h
  · split at h
    · rename_i hc; cases h; obtain ⟨rfl, g1, m1⟩ := callIs_of g hc; exact .ofV nv (bcall (ok_repr g.hK (by have := g.room.un; omega) g.gds) g1 m1 PyProof.Rows.boot_repr (by decide) (by decide) p) rfl
    · cases h
  · split at h
    · rename_i hc; cases h; obtain ⟨rfl, g1, m1⟩ := callIs_of g hc; exact .ofV nv (tcall ok_str g1 m1 PyProof.Rows.boot_str (by decide) (by decide) p) rfl
    · cases h
  · split at h
    · rename_i hc; cases h; obtain ⟨rfl, g1, m1⟩ := callIs_of g hc; exact .ofV nv (tcall (ok_dict g.hK g.calm) g1 m1 PyProof.Rows.boot_dict (by decide) (by decide) p) rfl
    · cases h
  · split at h
    · rename_i hc; cases h
      simp only [Bool.and_eq_true] at hc
      cases p with | cons p1 _ ok p => cases p; exact .ofV nv (peIsi g hc.1.1 hc.1.2 (by simpa using hc.2) p1 ok) rfl
    · cases h
  · split at h
    · rename_i hc; cases h
      simp only [Bool.and_eq_true] at hc
      cases p with | cons p1 _ ok p => cases p; exact .ofV nv (peLenset g hc.1 hc.2 p1 ok) rfl
    · cases h
  · split at h
    · rename_i hc; cases h
      simp only [Bool.and_eq_true] at hc
      cases p with | cons p1 _ ok p => cases p; exact .ofV nv (peListRg g hc.1 hc.2 p1 ok) rfl
    · cases h
  · split at h
    · rename_i hc; cases h
      simp only [Bool.and_eq_true, beq_iff_eq] at hc
      obtain ⟨⟨⟨hc1, rfl⟩, hc3⟩, hc4⟩ := hc
      cases p with | cons p1 _ ok p => cases p; exact .ofV nv (peMaxvals g hc1 p1 hc3 (by simpa using hc4)) rfl
    · cases h
  · split at h
    · rename_i hc; cases h
      simp only [Bool.and_eq_true] at hc
      cases p with | cons p1 p2 ok p => cases p with | cons p3 p4 ok2 p => cases p; exact .ofV nv (peListzip g hc.1 hc.2 (.cons p1 p2 ok (.cons p3 p4 ok2 .nil))) rfl
    · cases h
  · cases h
end
end Vi
end
section
set_option maxRecDepth 100000
/-! Vi, part R: the check is sound. -/
namespace Vi
open PySem PySem.Spec PyProof.Rows L2

section
variable {c : Cf} {T : Tx} {k : Nat} {φ : Phi} {sc : Scope} {X : Cx} {x y z : Expr} {p pos : Pos}
def rdV (T : Tx) (m : Ev → Option (D × Ev)) : TE := rd1 T fun env => (m env).map fun q => (.v q.1, q.2)
def rdB (T : Tx) (m : Ev → Option (D × Ev)) : TT := rdT T fun env => (m env).bind fun q => (boolOf q.1).map fun b => (b, q.2)
theorem rdE_eq (e : E) : rdE T φ e = rdV T (den φ e) := rfl
theorem rdTE_eq (e : E) : rdTE T φ e = rdB T (den φ e) := rfl
/-- a value, a truth, then as it says -/
theorem rdV_if {m n1 n2 : Ev → Option (D × Ev)} {a : Ev → Option (D × Ev)} (hm : ∀ env q, m env = some q → ∃ b env1, a env = some (.bl b, env1) ∧ (if b then n1 env1 else n2 env1) = some q) {σ : L2.St} {H : Hp} {Q : VK} (h : rdV T m σ H Q) :
    rdV T a σ H fun v H1 => ∃ b, v = .bl b ∧ if b = true then rdV T n1 σ H1 Q else rdV T n2 σ H1 Q := by
  obtain ⟨G, env, O, r, env', s, e, K⟩ := h
  simp only [Option.map_eq_some_iff, Prod.mk.injEq] at e
  obtain ⟨⟨d, env2⟩, e, rfl, rfl⟩ := e
  obtain ⟨b, env1, e1, e2⟩ := hm _ _ e
  refine ⟨G, env, O, .v (.bl b), env1, s, by simp only [e1, Option.map_some], fun v H1 G1 O1 W1 A f => ?_⟩
  have hv : v = .bl b := (show PRep T G1 H1 (.bl b) v from ⟨_, A.ar.one⟩).bl
  have f1 : Fm G H O G1 H1 O1 := f.less fun a h => List.mem_append_right _ h
  refine ⟨b, hv, ?_⟩
  cases b with
  | true => exact ⟨G1, env1, O1, .v d, env2, A.sr, by simp only [if_true] at e2; simp only [e2, Option.map_some], fun v H' G' O' W A' f' => K v H' G' O' W A' (f1.trans f')⟩
  | false => exact ⟨G1, env1, O1, .v d, env2, A.sr, by simp only [Bool.false_eq_true, if_false] at e2; simp only [e2, Option.map_some], fun v H' G' O' W A' f' => K v H' G' O' W A' (f1.trans f')⟩
theorem rdB_if {m n1 n2 : Ev → Option (D × Ev)} {a : Ev → Option (D × Ev)} (hm : ∀ env q, m env = some q → ∃ b env1, a env = some (.bl b, env1) ∧ (if b then n1 env1 else n2 env1) = some q) {σ : L2.St} {H : Hp} {Q : Bool → Hp → Prop} (h : rdB T m σ H Q) :
    rdB T a σ H fun b H1 => if b = true then rdB T n1 σ H1 Q else rdB T n2 σ H1 Q := by
  obtain ⟨G, env, O, r, env', s, e, K⟩ := h
  simp only [Option.bind_eq_some_iff, Option.map_eq_some_iff, Prod.mk.injEq] at e
  obtain ⟨⟨d, env2⟩, e, r', er, rfl, rfl⟩ := e
  obtain ⟨b, env1, e1, e2⟩ := hm _ _ e
  refine ⟨G, env, O, b, env1, s, by simp only [e1, Option.bind_some, boolOf, Option.map_some], fun H1 G1 O1 s1 f1 => ?_⟩
  cases b with
  | true => exact ⟨G1, env1, O1, r', env2, s1, by simp only [if_true] at e2; simp only [e2, Option.bind_some, er, Option.map_some], fun H' G' O' s' f' => K H' G' O' s' (f1.trans f')⟩
  | false => exact ⟨G1, env1, O1, r', env2, s1, by simp only [Bool.false_eq_true, if_false] at e2; simp only [e2, Option.bind_some, er, Option.map_some], fun H' G' O' s' f' => K H' G' O' s' (f1.trans f')⟩
theorem bl_of {d : D} {b : Bool} (h : boolOf d = some b) : d = .bl b := by cases d <;> simp [boolOf] at h; subst h; rfl
/-- a constant truth -/
theorem rdV_c {b : Bool} {σ : L2.St} {H : Hp} {Q : VK} (h : rdV T (fun env => some (.bl b, env)) σ H Q) : Q (.bl b) H := by
  obtain ⟨G, env, O, r, env', s, e, K⟩ := h
  simp only [Option.map_some, Option.some.injEq, Prod.mk.injEq] at e
  obtain ⟨rfl, rfl⟩ := e
  exact K _ H G O [] (.val s (.bl b)) (Fm.refl _ _ _)
theorem rdB_c {b : Bool} {σ : L2.St} {H : Hp} {Q : Bool → Hp → Prop} (h : rdB T (fun env => some (.bl b, env)) σ H Q) : Q b H := by
  obtain ⟨G, env, O, r, env', s, e, K⟩ := h
  simp only [Option.bind_some, boolOf, Option.map_some, Option.some.injEq, Prod.mk.injEq] at e
  obtain ⟨rfl, rfl⟩ := e
  exact K H G O s (Fm.refl _ _ _)
theorem pt_ite {a b : Expr} {t ta tb : TT} (hc : PT X x t) (ha : PT X a ta) (hb : PT X b tb) : PT X (.IfExp x a b pos) (fun σ H Q => t σ H fun c H1 => if c = true then ta σ H1 Q else tb σ H1 Q) := by
  refine ⟨fun pins s σ H Q I h => isTrue_IfExp (thn (hc.run pins s σ H _ I h) fun c s1 ⟨H1, I1, q⟩ => ?_)⟩
  cases c with
  | true => exact ha.run pins s1 σ H1 Q I1 (by simpa using q)
  | false => exact hb.run pins s1 σ H1 Q I1 (by simpa using q)
abbrev rdAn (T : Tx) (φ : Phi) (es : Es) : TE := rdV T (denAn φ es)
abbrev rdAnT (T : Tx) (φ : Phi) (es : Es) : TT := rdB T (denAn φ es)
abbrev rdOr (T : Tx) (φ : Phi) (es : Es) : TE := rdV T (denOr φ es)
abbrev rdOrT (T : Tx) (φ : Phi) (es : Es) : TT := rdB T (denOr φ es)
structure SndB (X : Cx) (T : Tx) (φ : Phi) (es : Es) (xs : List Expr) : Prop where
  an : ∀ pos, PE X (.BoolOp .And xs pos) (rdAn T φ es)
  anT : ∀ pos, PW X (.BoolOp .And xs pos) (rdAnT T φ es)
  orr : ∀ pos, PE X (.BoolOp .Or xs pos) (rdOr T φ es)
  orT : ∀ pos, PW X (.BoolOp .Or xs pos) (rdOrT T φ es)
theorem an_eq {s s' : Bool} {e f : E} {r : Es} {env : Ev} {q : D × Ev} (h : denAn φ (.cons s e (.cons s' f r)) env = some q) : ∃ b env1, den φ e env = some (.bl b, env1) ∧ (if b then denAn φ (.cons s' f r) env1 else some (.bl false, env1)) = some q := by
  simp only [denAn, Option.bind_eq_some_iff] at h
  obtain ⟨⟨d, env1⟩, e1, b, e2, e3⟩ := h
  have := bl_of e2
  simp only at this
  subst this
  exact ⟨b, env1, e1, e3⟩
theorem or_eq {s s' : Bool} {e f : E} {r : Es} {env : Ev} {q : D × Ev} (h : denOr φ (.cons s e (.cons s' f r)) env = some q) : ∃ b env1, den φ e env = some (.bl b, env1) ∧ (if b then some (.bl true, env1) else denOr φ (.cons s' f r) env1) = some q := by
  simp only [denOr, Option.bind_eq_some_iff] at h
  obtain ⟨⟨d, env1⟩, e1, b, e2, e3⟩ := h
  have := bl_of e2
  simp only at this
  subst this
  exact ⟨b, env1, e1, e3⟩
theorem ite_eq' {a b d : E} {env : Ev} {q : D × Ev} (h : den φ (.ite a b d) env = some q) : ∃ t env1, den φ a env = some (.bl t, env1) ∧ (if t then den φ b env1 else den φ d env1) = some q := by
  simp only [den, Option.bind_eq_some_iff] at h
  obtain ⟨⟨d, env1⟩, e1, t, e2, e3⟩ := h
  have := bl_of e2
  simp only at this
  subst this
  exact ⟨t, env1, e1, e3⟩
theorem nt_eq {a : E} {env : Ev} {q : D × Ev} (h : den φ (.nt a) env = some q) : ∃ b env1, den φ a env = some (.bl b, env1) ∧ (if b then some (.bl false, env1) else some (.bl true, env1)) = some q := by
  simp only [den, Option.bind_eq_some_iff, Option.map_eq_some_iff] at h
  obtain ⟨⟨d, env1⟩, e1, b, e2, rfl⟩ := h
  have := bl_of e2
  simp only at this
  subst this
  exact ⟨b, env1, e1, by cases b <;> rfl⟩
theorem an1 (s : Bool) (e : E) : denAn φ (.cons s e .nil) = den φ e := by funext env; simp only [denAn]
theorem or1 (s : Bool) (e : E) : denOr φ (.cons s e .nil) = den φ e := by funext env; simp only [denOr]
theorem sndB_one {e : E} {s : Bool} (h : Snd X T φ e x) : SndB X T φ (.cons s e .nil) [x] where
  an := fun pos => (pe_one h.pe).imp fun σ H Q q => by unfold rdAn at q; rw [an1] at q; exact q
  anT := fun pos => (pw_and1 h.pt).imp fun σ H Q q => by unfold rdAnT at q; rw [an1] at q; exact q
  orr := fun pos => (pe_one h.pe).imp fun σ H Q q => by unfold rdOr at q; rw [or1] at q; exact q
  orT := fun pos => (pw_or1 h.pt).imp fun σ H Q q => by unfold rdOrT at q; rw [or1] at q; exact q
theorem sndB_cons {e f : E} {s s' : Bool} {r : Es} {xs : List Expr} (h : Snd X T φ e x) (hr : SndB X T φ (.cons s' f r) (y :: xs)) : SndB X T φ (.cons s e (.cons s' f r)) (x :: y :: xs) where
  an := fun pos => (pe_and h.pe (hr.an pos)).imp fun σ H Q q => by
    obtain ⟨G, env, O, r, env', s, e, K⟩ := rdV_if (T := T) (n2 := fun env => some (.bl false, env)) (fun env q => an_eq) q
    refine ⟨G, env, O, r, env', s, e, fun v H1 G1 O1 W1 A f => ?_⟩
    obtain ⟨b, hv, q⟩ := K v H1 G1 O1 W1 A f
    exact ⟨b, hv, by cases b <;> first | exact q | exact rdV_c q⟩
  anT := fun pos => (pw_and h.pt (hr.anT pos)).imp fun σ H Q q => by
    obtain ⟨G, env, O, r, env', s, e, K⟩ := rdB_if (T := T) (n2 := fun env => some (.bl false, env)) (fun env q => an_eq) q
    refine ⟨G, env, O, r, env', s, e, fun H1 G1 O1 A f => ?_⟩
    have q := K H1 G1 O1 A f
    cases r <;> first | exact q | exact rdB_c q
  orr := fun pos => (pe_or h.pe (hr.orr pos)).imp fun σ H Q q => by
    obtain ⟨G, env, O, r, env', s, e, K⟩ := rdV_if (T := T) (n1 := fun env => some (.bl true, env)) (fun env q => or_eq) q
    refine ⟨G, env, O, r, env', s, e, fun v H1 G1 O1 W1 A f => ?_⟩
    obtain ⟨b, hv, q⟩ := K v H1 G1 O1 W1 A f
    exact ⟨b, hv, by cases b <;> first | exact q | exact rdV_c q⟩
  orT := fun pos => (pw_or h.pt (hr.orT pos)).imp fun σ H Q q => by
    obtain ⟨G, env, O, r, env', s, e, K⟩ := rdB_if (T := T) (n1 := fun env => some (.bl true, env)) (fun env q => or_eq) q
    refine ⟨G, env, O, r, env', s, e, fun H1 G1 O1 A f => ?_⟩
    have q := K H1 G1 O1 A f
    cases r <;> first | exact q | exact rdB_c q
theorem sndNt {e : E} (h : Snd X T φ e x) : Snd X T φ (.nt e) (.UnaryOp .Not x pos) := .of (fun _ e => nomatch e)
  ((pe_not h.pe).imp fun σ H Q q => by
    obtain ⟨G, env, O, r, env', s, e, K⟩ := rdV_if (T := T) (n1 := fun env => some (.bl false, env)) (n2 := fun env => some (.bl true, env)) (fun env q => nt_eq) q
    refine ⟨G, env, O, r, env', s, e, fun v H1 G1 O1 W1 A f => ?_⟩
    obtain ⟨b, hv, q⟩ := K v H1 G1 O1 W1 A f
    exact ⟨b, hv, by cases b <;> exact rdV_c q⟩)
  ((pt_not h.pt).imp fun σ H Q q => by
    obtain ⟨G, env, O, r, env', s, e, K⟩ := rdB_if (T := T) (n1 := fun env => some (.bl false, env)) (n2 := fun env => some (.bl true, env)) (fun env q => nt_eq) q
    refine ⟨G, env, O, r, env', s, e, fun H1 G1 O1 A f => ?_⟩
    have q := K H1 G1 O1 A f
    cases r <;> exact rdB_c q)
theorem sndIte {a b d : E} (h : Snd X T φ a x) (h1 : Snd X T φ b y) (h2 : Snd X T φ d z) : Snd X T φ (.ite a b d) (.IfExp x y z pos) := .of (fun _ e => nomatch e)
  ((pe_ifExp h.pt h1.pe h2.pe).imp fun σ H Q q => by
    obtain ⟨G, env, O, r, env', s, e, K⟩ := q
    simp only [Option.map_eq_some_iff, Prod.mk.injEq] at e
    obtain ⟨⟨dd, env2⟩, e, rfl, rfl⟩ := e
    obtain ⟨t, env1, e1, e2⟩ := ite_eq' e
    refine ⟨G, env, O, t, env1, s, by simp only [denT, e1, Option.bind_some, boolOf, Option.map_some], fun H1 G1 O1 s1 f1 => ?_⟩
    cases t with
    | true => exact ⟨G1, env1, O1, .v dd, env2, s1, by simp only [if_true] at e2; simp only [e2, Option.map_some], fun v H' G' O' W A' f' => K v H' G' O' W A' (f1.trans f')⟩
    | false => exact ⟨G1, env1, O1, .v dd, env2, s1, by simp only [Bool.false_eq_true, if_false] at e2; simp only [e2, Option.map_some], fun v H' G' O' W A' f' => K v H' G' O' W A' (f1.trans f')⟩)
  ((pt_ite h.pt h1.pt h2.pt).imp fun σ H Q q => rdB_if (T := T) (fun env q => ite_eq') q)
theorem sndLit {d : D} (h : isLit d x = true) : Snd X T φ (.lit d) x := by
  have nv : ∀ i, E.lit d ≠ .var i := fun _ e => nomatch e
  have hd : ∀ env, den φ (.lit d) env = some (d, env) := fun env => by simp only [den]
  cases x with
  | Constant cc kk pp =>
    cases d <;> cases cc <;> simp only [isLit, Bool.false_eq_true, beq_iff_eq] at h
    · exact .ofV nv (pe_non.imp fun σ H Q => rdE_atom hd .non) rfl
    · subst h; exact .ofV nv (pe_bl.imp fun σ H Q => rdE_atom hd (.bl _)) rfl
    · subst h; exact .ofV nv (pe_int.imp fun σ H Q => rdE_atom hd (.int _)) rfl
    · subst h; exact .ofV nv (pe_str.imp fun σ H Q => rdE_atom hd (.str _)) rfl
  | _ => cases d <;> simp [isLit] at h
theorem chkVar_of (g : Gd c T k φ sc X) {i : Nat} (h : chkVar c sc i x = true) : ∃ y pos, x = .Name y pos ∧ c.N[i]? = some y ∧ isVis sc y = true ∧ (y == ("__debug__" : Str)) = false ∧ (y == ("__classdict__" : Str)) = false := by
  cases x <;> simp only [chkVar, Bool.false_eq_true, Bool.and_eq_true, Bool.not_eq_true', decide_eq_true_eq] at h
  exact ⟨_, _, rfl, h.1.1.1, h.1.1.2, h.1.2, h.2⟩
theorem sndVar (g : Gd c T k φ sc X) {i : Nat} (h : chkVar c sc i x = true) : Snd X T φ (.var i) x := by
  obtain ⟨y, pos, rfl, h1, h2, h3, h4⟩ := chkVar_of g h
  exact ⟨pe_varE g h1 h2 h3 h4, pe_varP g h1 h2 h3 h4, valT (pe_varE g h1 h2 h3 h4) rfl⟩
theorem sndVz (g : Gd c T k φ sc X) {i : Nat} (h : chkVar c sc i x = true) : Snd X T φ (.vz i) x := by
  obtain ⟨y, pos, rfl, h1, h2, h3, h4⟩ := chkVar_of g h
  exact .ofV (fun _ e => nomatch e) (pe_varV g h1 h2 h3 h4) rfl
theorem chain_ok (g : Gd c T k φ sc X) {o p : Op} {a b d : E} {q r : CmpOp} (h1 : cmpIs o q = true) (h2 : cmpIs p r = true) (ha : PE X x (rdP T φ a)) (hb : PE X y (rdP T φ b)) (hd : PE X z (rdP T φ d)) (o1 : okX y = true) (o2 : okX z = true) : Snd X T φ (.chain o p a b d) (.Compare x [q, r] [y, z] pos) := by
  have hm : lastMarks [q, r] [y, z] = false := ok_marks o2 r
  exact .of (fun _ e => nomatch e) ((pe_chain (ok_cmp g h1) (ok_cmp g h2) ha hb hd hm).imp fun σ H Q => rdE_chain) ((pt_chain (ok_cmp g h1) (ok_cmp g h2) ha hb hd hm).imp fun σ H Q q => rdE_chain (rdT_test q))
theorem peSlc (g : Gd c T k φ sc X) {a : E} {b d : Bool} {es : Es} {lo hi : Option Expr} {p2 : Pos} (ha : PE X x (rdP T φ a)) (h1 : lo.isSome = b) (h2 : hi.isSome = d) (h12 : (b && d) = false) (h : PEs X T φ (lo.toList ++ hi.toList) es) : PE X (.Subscript x (.Slice lo hi none p2) pos) (rdE T φ (.slc a b d es)) := by
  cases lo with
  | none =>
    cases hi with
    | none =>
      simp only [Option.isSome_none] at h1 h2
      subst h1 h2
      cases h
      refine (pe_slice (ok_slc g.hK) ha po_none po_none).imp fun σ H Q q => ?_
      obtain ⟨G, env, O, r, env', s, e, K⟩ := rdE_slc q
      refine ⟨G, env, O, r, env', s, e, fun v H1 G1 O1 W1 A f => ?_⟩
      obtain ⟨G2, d0, ns, rr, gs, pr, ey, es, P⟩ := rdO_nil (K v H1 G1 O1 W1 A f)
      cases ns with
      | nil => exact ⟨G2, d0, rr, gs, pr, by simpa [slcOn] using es, P⟩
      | cons => cases ey
    | some hi =>
      simp only [Option.isSome_none, Option.isSome_some] at h1 h2
      subst h1 h2
      cases h with
      | cons p1 p2 _ h =>
        cases h
        refine (pe_slice (ok_slc g.hK) ha po_none (po_some p2)).imp fun σ H Q q => ?_
        obtain ⟨G, env, O, r, env', s, e, K⟩ := rdE_slc q
        refine ⟨G, env, O, r, env', s, e, fun v H1 G1 O1 W1 A f => ?_⟩
        obtain ⟨G, env, O, r, env', s, e, K⟩ := rdO_cons (K v H1 G1 O1 W1 A f)
        refine ⟨G, env, O, r, env', s, e, fun v2 H2 G2 O2 W2 A2 f2 => ?_⟩
        obtain ⟨G2, d0, ns, rr, gs, pr, ey, es, P⟩ := rdO_nil (K v2 H2 G2 O2 W2 A2 f2)
        match ns, ey with
        | [n], ey =>
          simp only [List.map_cons, List.map_nil, List.cons.injEq, and_true] at ey
          exact ⟨n, ey, G2, d0, rr, gs, pr, by simpa [slcOn] using es, P⟩
  | some lo =>
    cases hi with
    | none =>
      simp only [Option.isSome_none, Option.isSome_some] at h1 h2
      subst h1 h2
      cases h with
      | cons p1 p2 _ h =>
        cases h
        refine (pe_slice (ok_slc g.hK) ha (po_some p2) po_none).imp fun σ H Q q => ?_
        obtain ⟨G, env, O, r, env', s, e, K⟩ := rdE_slc q
        refine ⟨G, env, O, r, env', s, e, fun v H1 G1 O1 W1 A f => ?_⟩
        obtain ⟨G, env, O, r, env', s, e, K⟩ := rdO_cons (K v H1 G1 O1 W1 A f)
        refine ⟨G, env, O, r, env', s, e, fun v2 H2 G2 O2 W2 A2 f2 => ?_⟩
        obtain ⟨G2, d0, ns, rr, gs, pr, ey, es, P⟩ := rdO_nil (K v2 H2 G2 O2 W2 A2 f2)
        match ns, ey with
        | [n], ey =>
          simp only [List.map_cons, List.map_nil, List.cons.injEq, and_true] at ey
          exact ⟨n, ey, G2, d0, rr, gs, pr, by simpa [slcOn] using es, P⟩
    | some hi =>
      simp only [Option.isSome_some] at h1 h2
      subst h1 h2
      cases h12
theorem peMut (g : Gd c T k φ sc X) {m : Mu} {i : Nat} {es : Es} {xs : List Expr} {apos cpos : Pos} {nm : Str} (hm : nm = muName m) (hv : chkVar c sc i x = true) (hl : (apos.endLine == cpos.line) = true) (h : PA X xs (rdF T φ es)) (ok : xs.all okX = true) (hn : xs.length = esLen es)
    (ha : muAr m (esLen es) = true) : PE X (.Call (.Attribute x nm apos) xs [] cpos) (rdE T φ (.mut m i es)) := by
  obtain ⟨y, pos, rfl, h1, h2, h3, h4⟩ := chkVar_of g hv
  have hx : PE X (.Name y pos) (tVar i) := pe_var (i := i) (by rw [g.hN]; exact h1) (g.vis h2) h3 h4
  subst hm
  -- what the end looks like
  have fin : ∀ {σ : L2.St} {H : Hp} {Q : VK}, rdE T φ (.mut m i es) σ H Q → ∃ v, σ[i]? = some (some v) ∧ tyV X.K "list" v H ∧ rdF T φ es σ H fun vs H1 => ∃ G1 ds a zs us r ws, v = .ref a ∧ Reps T G1 ds vs ∧ H1 a = some (.lst us) ∧ Reps T G1 zs us ∧ us.length ≤ line ∧ GSub G1 H1 ∧ muSem m (.lst true zs) ds = some (r, .lst true ws) ∧
      ∀ v1 us', Rep T G1 r v1 → Reps T G1 ws us' → us'.length ≤ line → Q v1 (upd H1 a (.lst us')) := fun {σ H Q} q => by
    obtain ⟨G, env, O, r, env', s, e, K⟩ := q
    simp only [den, Option.map_eq_some_iff, Option.bind_eq_some_iff, Prod.mk.injEq] at e
    obtain ⟨⟨dd, env9⟩, ⟨d0, e0, e1⟩, rfl, rfl⟩ := e
    split at e1
    · rename_i hL
      simp only [Option.map_eq_some_iff, Option.bind_eq_some_iff, Prod.mk.injEq] at e1
      obtain ⟨⟨ds, env1⟩, e2, d, e3, ⟨rr, d2⟩, e4, rfl, rfl⟩ := e1
      obtain ⟨v, hv, pr⟩ := s.get e0
      have hd0 : ∃ zs, d0 = .lst true zs := by
        cases d0 with
        | lst o zs => cases o <;> simp [isOwnL] at hL; exact ⟨zs, rfl⟩
        | _ => simp [isOwnL] at hL
      obtain ⟨zs0, rfl⟩ := hd0
      obtain ⟨a0, us0, rfl, ha0, _⟩ := pr.lst s.gs
      refine ⟨.ref a0, hv, .inl ⟨rfl, us0, .of ha0⟩, G, env, O, ds, env1, s, e2, fun vs H1 G1 O1 s1 r1 f1 => ?_⟩
      obtain ⟨v', as, O2, h1', A, f2, mem⟩ := s1.out e3
      rw [hv] at h1'
      cases h1'
      have hd : ∃ zs ws, d = .lst true zs ∧ d2 = .lst true ws := by
        unfold muSem at e4
        split at e4 <;> first | (split at e4 <;> first | (cases e4; exact ⟨_, _, rfl, rfl⟩) | cases e4) | (simp only [Option.map_eq_some_iff, Option.bind_eq_some_iff, Prod.mk.injEq] at e4; first | (obtain ⟨_, _, _, rfl⟩ := e4; exact ⟨_, _, rfl, rfl⟩) | (obtain ⟨_, _, _, _, _, rfl⟩ := e4; exact ⟨_, _, rfl, rfl⟩)) | cases e4
      obtain ⟨zs, ws, rfl, rfl⟩ := hd
      have ro := A.ar.one
      cases ro with
      | frz z => exact absurd z.noown (by simp [D.own])
      | @lst _ us _ ha rz hz =>
        refine ⟨G1, ds, a0, zs, us, rr, ws, rfl, r1, ha, rz, hz, s1.gs, e4, fun v1 us' q1 q2 q3 => ?_⟩
        have ga : G1 a0 = none := A.gn a0 (by simp)
        have aO : a0 ∉ O2 := A.dj a0 (by simp)
        have s3 : SR T G1 (upd H1 a0 (.lst us')) (env1.set i none) σ O2 := ⟨A.sr.rep.frame (.refl _) fun b u hb e => by rw [upd_ne (fun z : b = a0 => aO (z ▸ hb))]; exact e, A.sr.nd, A.sr.gn, s1.gs.updL ga _⟩
        have A3 : AS T G1 (upd H1 a0 (.lst us')) (env1.set i none) σ O2 [.v (.lst true ws)] [.ref a0] [a0] := ⟨s3, .one' (.lst upd_same q2 q3), by simp, fun b hb => by simp only [List.mem_singleton] at hb; subst hb; exact aO, fun b hb => by simp only [List.mem_singleton] at hb; subst hb; exact ga⟩
        obtain ⟨O4, s4, m4⟩ := A3.into (by rw [getV_set]; simp) hv
        rw [List.set_set] at s4
        refine K v1 _ G1 O4 [] (.val s4 q1) ?_
        have f3 : Fm G1 H1 O1 G1 (upd H1 a0 (.lst us')) O4 := ⟨.refl _, fun b u e n => by rw [upd_ne (fun z : b = a0 => n (z ▸ (mem a0).mpr (.inl (by simp))))]; exact e, fun b hb => by
          rcases (m4 b).mp hb with z | z
          · exact .inl ((mem b).mpr (.inl z))
          · exact .inl ((mem b).mpr (.inr z)), fun b u e => .inl e⟩
        exact (f1.trans f3)
    · cases e1
  cases m with
  | append =>
    simp only [muAr, beq_iff_eq] at ha
    match xs, ok, hn.trans ha with
    | [e], ok, _ =>
      simp only [List.all_cons, List.all_nil, Bool.and_true] at ok
      refine (pe_bm F.plainAttrs_list F.slot_list_append F.type_list_append mt_append hx h rfl (by simp only [Bool.and_eq_true]; exact ⟨⟨ok_few (by simp [ok]) _, rfl⟩, rfl⟩) hl (ok_star ok _) rfl).imp fun σ H Q q => ?_
      obtain ⟨v, hv, ht, G, env, O, ds, env', s, e1, K⟩ := fin q
      refine ⟨v, hv, ht, G, env, O, ds, env', s, e1, fun vs H1 G1 O1 s1 r1 f1 => ?_⟩
      obtain ⟨G1, ds, a, zs, us, r, ws, ev, rd, h1, rz, hz, gs, es, K2⟩ := K vs H1 G1 O1 s1 r1 f1
      match ds, rd, es with
      | [yd], rd, es =>
        simp only [muSem] at es
        split at es
        · rename_i hlt
          simp only [Option.some.injEq, Prod.mk.injEq, D.lst.injEq, true_and] at es
          obtain ⟨rfl, rfl⟩ := es
          cases rd with
          | @cons _ w _ _ rd1 rn =>
            cases rn
            have hlt' : us.length < line := by rw [← rz.length]; exact hlt
            exact ⟨a, us, w, ev, rfl, h1, hlt', K2 _ _ .non (rz.append (.cons rd1 .nil)) (by rw [List.length_append]; exact hlt')⟩
        · cases es
      | [], _, es => simp [muSem] at es
      | _ :: _ :: _, _, es => simp [muSem] at es
  | extend =>
    simp only [muAr, beq_iff_eq] at ha
    match xs, ok, hn.trans ha with
    | [e], ok, _ =>
      simp only [List.all_cons, List.all_nil, Bool.and_true] at ok
      refine (pe_bm F.plainAttrs_list F.slot_list_extend F.type_list_extend mt_extend hx h rfl (by simp only [Bool.and_eq_true]; exact ⟨⟨ok_few (by simp [ok]) _, rfl⟩, rfl⟩) hl (ok_star ok _) rfl).imp fun σ H Q q => ?_
      obtain ⟨v, hv, ht, G, env, O, ds, env', s, e1, K⟩ := fin q
      refine ⟨v, hv, ht, G, env, O, ds, env', s, e1, fun vs H1 G1 O1 s1 r1 f1 => ?_⟩
      obtain ⟨G1, ds, a, zs, us, r, ws, ev, rd, h1, rz, hz, gs, es, K2⟩ := K vs H1 G1 O1 s1 r1 f1
      match ds, rd, es with
      | [.lst o ys], rd, es =>
        simp only [muSem] at es
        split at es
        · rename_i hlt
          simp only [Option.some.injEq, Prod.mk.injEq, D.lst.injEq, true_and] at es
          obtain ⟨rfl, rfl⟩ := es
          cases rd with
          | @cons _ w _ _ rd1 rn =>
            cases rn
            cases rd1 with
            | @lst b us2 _ hb rb hb2 =>
              have hlt' : us.length + us2.length ≤ line := by rw [← rz.length, ← rb.length]; exact hlt
              exact ⟨a, b, us, us2, ev, rfl, h1, gs _ _ hb, hlt', K2 _ _ .non (rz.append rb) (by rw [List.length_append]; exact hlt')⟩
        · cases es
      | [], _, es => simp [muSem] at es
      | _ :: _ :: _, _, es => simp [muSem] at es
      | [.non], _, es => simp [muSem] at es
      | [.bl _], _, es => simp [muSem] at es
      | [.int _], _, es => simp [muSem] at es
      | [.str _], _, es => simp [muSem] at es
      | [.tup _], _, es => simp [muSem] at es
      | [.dic _ _], _, es => simp [muSem] at es
      | [.dit _ _], _, es => simp [muSem] at es
      | [.ins _ _ _], _, es => simp [muSem] at es
      | [.scr _], _, es => simp [muSem] at es
  | pop =>
    simp only [muAr, beq_iff_eq] at ha
    match xs, ok, hn.trans ha with
    | [], ok, _ =>
      refine (pe_bm0 F.plainAttrs_list F.slot_list_pop F.type_list_pop mt_pop hx rfl hl).imp fun σ H Q q => ?_
      obtain ⟨v, hv, ht, q2⟩ := fin q
      cases es with
      | cons => simp [esLen] at ha
      | nil =>
        refine ⟨v, hv, ht, ?_⟩
        obtain ⟨G1, ds, a, zs, us, r, ws, ev, rd, h1, rz, hz, gs, es, K2⟩ := rdF_nil q2
        cases rd
        simp only [muSem, Option.map_eq_some_iff, Prod.mk.injEq, D.lst.injEq, true_and] at es
        obtain ⟨y, hy, rfl, rfl⟩ := es
        have hy2 : zs[zs.length - 1]? = some y := by rw [← List.getLast?_eq_getElem?]; exact hy
        obtain ⟨w, hw, rw'⟩ := rz.get hy2
        rw [rz.length] at hw
        exact ⟨a, us, w, ev, rfl, h1, hw, K2 _ _ rw' rz.dropLast (by rw [List.length_dropLast]; exact Nat.le_trans (Nat.sub_le _ _) hz)⟩
  | popAt =>
    simp only [muAr, beq_iff_eq] at ha
    match xs, ok, hn.trans ha with
    | [e], ok, _ =>
      simp only [List.all_cons, List.all_nil, Bool.and_true] at ok
      refine (pe_bm F.plainAttrs_list F.slot_list_pop F.type_list_pop mt_popAt hx h rfl (by simp only [Bool.and_eq_true]; exact ⟨⟨ok_few (by simp [ok]) _, rfl⟩, rfl⟩) hl (ok_star ok _) rfl).imp fun σ H Q q => ?_
      obtain ⟨v, hv, ht, G, env, O, ds, env', s, e1, K⟩ := fin q
      refine ⟨v, hv, ht, G, env, O, ds, env', s, e1, fun vs H1 G1 O1 s1 r1 f1 => ?_⟩
      obtain ⟨G1, ds, a, zs, us, r, ws, ev, rd, h1, rz, hz, gs, es, K2⟩ := K vs H1 G1 O1 s1 r1 f1
      match ds, rd, es with
      | [.int j], rd, es =>
        simp only [muSem, Option.bind_eq_some_iff, Option.map_eq_some_iff, Prod.mk.injEq, D.lst.injEq, true_and] at es
        obtain ⟨kk, hk, y, hy, rfl, rfl⟩ := es
        cases rd with
        | @cons _ w _ _ rd1 rn =>
          cases rn
          cases rd1
          obtain ⟨w, hw, rw'⟩ := rz.get hy
          rw [rz.length] at hk
          obtain ⟨k1, k2, k3, k4⟩ := ixN_seq hk
          have hz2 : us.length ≤ 16777216 := by rw [← sizeLine_eq]; exact hz
          exact ⟨a, us, j, kk, w, ev, rfl, h1, by omega, by omega, k1, hw, K2 _ _ rw' (rz.eraseIdx kk) (Nat.le_trans (len_erase _ _) hz)⟩
      | [], _, es => simp [muSem] at es
      | _ :: _ :: _, _, es => simp [muSem] at es
      | [.non], _, es => simp [muSem] at es
      | [.bl _], _, es => simp [muSem] at es
      | [.lst _ _], _, es => simp [muSem] at es
      | [.str _], _, es => simp [muSem] at es
      | [.tup _], _, es => simp [muSem] at es
      | [.dic _ _], _, es => simp [muSem] at es
      | [.dit _ _], _, es => simp [muSem] at es
      | [.ins _ _ _], _, es => simp [muSem] at es
      | [.scr _], _, es => simp [muSem] at es
  | update => simp [muAr] at ha
  | setdefault => simp [muAr] at ha
end
end Vi
end
section
set_option maxRecDepth 100000
/-! Vi, part S: the check of expressions is sound. -/
namespace Vi
open PySem PySem.Spec PyProof.Rows L2

section
variable {c : Cf} {T : Tx} {k : Nat} {φ : Phi} {n : Nat} {sc : Scope} {x : Expr} {xs : List Expr} {X : Cx}
theorem ne_nil {xs : List Expr} (h : (!xs.isEmpty) = true) : xs ≠ [] := by cases xs <;> simp at h ⊢
structure All (c : Cf) (T : Tx) (k : Nat) (φ : Phi) (n : Nat) : Prop where
  e : ∀ (e : E), sizeOf e < n → ∀ {sc : Scope} {x : Expr} {X : Cx}, Gd c T k φ sc X → chk c e sc x = true → Snd X T φ e x
  a : ∀ (es : Es), sizeOf es < n → ∀ {sc : Scope} {xs : List Expr} {X : Cx}, Gd c T k φ sc X → chkA c es sc xs = true → PEs X T φ xs es
  af : ∀ (es : Es), sizeOf es < n → ∀ {sc : Scope} {xs : List Expr} {X : Cx}, Gd c T k φ sc X → chkA c es sc xs = true → PA X xs (rdF T φ es)
  f : ∀ (es : Es), sizeOf es < n → ∀ {sc : Scope} {xs : List Expr} {X : Cx}, Gd c T k φ sc X → chkF c es sc xs = true → PA X xs (rdF T φ es)
  b : ∀ (es : Es), sizeOf es < n → ∀ {sc : Scope} {xs : List Expr} {X : Cx}, Gd c T k φ sc X → chkB c es sc xs = true → SndB X T φ es xs
  l : ∀ (es : Es), sizeOf es < n → ∀ {sc : Scope} {xs : List Expr} {X : Cx}, Gd c T k φ sc X → chkA c es sc xs = true → esLen es ≤ 1 → PTs X xs (rdT T (denAl φ es))
  i : ∀ (it : I), sizeOf it < n → ∀ {sc : Scope} {xt x : Expr} {X : Cx}, Gd c T k φ sc X → chkI c it sc xt x = true → PI X xt x (rdI T φ it)
theorem chkE_lit (d : D) : chk c (.lit d) sc x = isLit d x := by simp only [chk]
theorem step_gl (g : Gd c T k φ sc X) {y : Str} {d : D} (h : hGl c sc d x = true) : Snd X T φ (.gl y d) x := by
  unfold hGl at h
  split at h
  · simp only [Bool.and_eq_true, Bool.not_eq_true'] at h
    obtain ⟨⟨h2, h3⟩, h4⟩ := h
    split at h4
    · rename_i d' hd
      have e := eqAt_eq h4
      subst e
      obtain ⟨u, v, hm, r, a⟩ := g.gl _ _ hd
      exact .ofV (fun _ e => nomatch e) ((pe_glob (g.glb h2) hm r h3).imp fun σ H Q => rdE_atom (fun env => by simp only [den]) a) rfl
    · cases h4
  · cases h
theorem step_opm (g : Gd c T k φ sc X) {o : Op} {a : E} {es : Es} {fa : Expr → Bool} {fs : List Expr → Bool} (ha : ∀ y, fa y = true → Snd X T φ a y) (hs : ∀ ys, fs ys = true → PEs X T φ ys es) (h : hOpm fa fs o (esLen es) x = true) : Snd X T φ (.opm o a es) x := by
  have nv : ∀ i, E.opm o a es ≠ .var i := fun _ e => nomatch e
  unfold hOpm at h
  split at h
  · rename_i xo m ap xs cp
    simp only [Bool.and_eq_true, beq_iff_eq] at h
    obtain ⟨⟨⟨⟨⟨h1, h2⟩, h3⟩, h4⟩, h5⟩, h6⟩ := h
    subst h1
    have ho := (ha _ h2).pp
    have hp := hs _ h3
    have hl := hp.len
    have h5 : (ap.endLine == cp.line) = true := by simpa using h5
    cases o <;> simp only [Bool.false_eq_true, beq_iff_eq] at h6
    · cases hp with
      | nil => simp [esLen] at h6
      | cons p1 p2 ok hp => cases hp with
        | nil => exact .ofV nv (peJoin g ho (.cons p1 p2 ok .nil) h4 h5) rfl
        | cons => simp [esLen] at h6
    · cases hp with
      | nil => simp [esLen] at h6
      | cons p1 p2 ok hp => cases hp with
        | nil => exact .ofV nv (peSplit g ho (.cons p1 p2 ok .nil) h4 h5) rfl
        | cons => simp [esLen] at h6
    · cases hp with
      | nil => simp [esLen] at h6
      | cons p1 p2 ok hp => cases hp with
        | nil => exact .ofV nv (peGet1 g ho (.cons p1 p2 ok .nil) h4 h5) rfl
        | cons => simp [esLen] at h6
    · cases hp with
      | nil => simp [esLen] at h6
      | cons p1 p2 ok hp => cases hp with
        | nil => simp [esLen] at h6
        | cons p3 p4 ok2 hp => cases hp with
          | nil => exact .ofV nv (peGet2 g ho (.cons p1 p2 ok (.cons p3 p4 ok2 .nil)) h4 h5) rfl
          | cons => simp [esLen] at h6
  · cases h
theorem step_slc (g : Gd c T k φ sc X) {b d : Bool} {a : E} {es : Es} {fa : Expr → Bool} {fs : List Expr → Bool} (ha : ∀ y, fa y = true → Snd X T φ a y) (hs : ∀ ys, fs ys = true → PEs X T φ ys es) (h : hSlc fa fs b d x = true) : Snd X T φ (.slc a b d es) x := by
  unfold hSlc at h
  split at h
  · simp only [Bool.and_eq_true, beq_iff_eq, Bool.not_eq_true'] at h
    obtain ⟨⟨⟨⟨h1, h2⟩, h3⟩, h4⟩, h5⟩ := h
    exact .ofV (fun _ e => nomatch e) (peSlc g (ha _ h1).pp h2 h3 h4 (hs _ h5)) rfl
  · cases h
theorem step_chain (g : Gd c T k φ sc X) {o p : Op} {a b d : E} {fa fb fd : Expr → Bool} (ha : ∀ y, fa y = true → Snd X T φ a y) (hb : ∀ y, fb y = true → Snd X T φ b y) (hd : ∀ y, fd y = true → Snd X T φ d y) (h : hChain o p fa fb fd x = true) : Snd X T φ (.chain o p a b d) x := by
  unfold hChain at h
  split at h
  · simp only [Bool.and_eq_true] at h
    obtain ⟨⟨⟨⟨⟨⟨h1, h2⟩, h3⟩, h4⟩, h5⟩, h6⟩, h7⟩ := h
    exact chain_ok g h1 h2 (ha _ h3).pp (hb _ h4).pp (hd _ h5).pp h6 h7
  · cases h
theorem step_an {es : Es} {fs : List Expr → Bool} (hs : ∀ ys, fs ys = true → SndB X T φ es ys) (h : hAn fs x = true) : Snd X T φ (.an es) x := by
  unfold hAn at h
  split at h
  · have s := hs _ h
    have e : den φ (.an es) = denAn φ es := by funext env; simp only [den]
    exact .of (fun _ e => nomatch e) ((s.an _).imp fun σ H Q q => by rw [rdE_eq, e] at q; exact q) ((s.anT _).pt.imp fun σ H Q q => by rw [rdTE_eq, e] at q; exact q)
  · cases h
theorem step_or {es : Es} {fs : List Expr → Bool} (hs : ∀ ys, fs ys = true → SndB X T φ es ys) (h : hOr fs x = true) : Snd X T φ (.orr es) x := by
  unfold hOr at h
  split at h
  · have s := hs _ h
    have e : den φ (.orr es) = denOr φ es := by funext env; simp only [den]
    exact .of (fun _ e => nomatch e) ((s.orr _).imp fun σ H Q q => by rw [rdE_eq, e] at q; exact q) ((s.orT _).pt.imp fun σ H Q q => by rw [rdTE_eq, e] at q; exact q)
  · cases h
theorem step_nt {a : E} {fa : Expr → Bool} (ha : ∀ y, fa y = true → Snd X T φ a y) (h : hNt fa x = true) : Snd X T φ (.nt a) x := by
  unfold hNt at h
  split at h
  · exact sndNt (ha _ h)
  · cases h
theorem step_ite {a b d : E} {fa fb fd : Expr → Bool} (ha : ∀ y, fa y = true → Snd X T φ a y) (hb : ∀ y, fb y = true → Snd X T φ b y) (hd : ∀ y, fd y = true → Snd X T φ d y) (h : hIte fa fb fd x = true) : Snd X T φ (.ite a b d) x := by
  unfold hIte at h
  split at h
  · simp only [Bool.and_eq_true] at h
    exact sndIte (ha _ h.1.1) (hb _ h.1.2) (hd _ h.2)
  · cases h
theorem step_tup {es : Es} {fs : List Expr → Bool} (hs : ∀ ys, fs ys = true → PA X ys (rdF T φ es)) (h : hTup fs x = true) : Snd X T φ (.tup es) x := by
  unfold hTup at h
  split at h
  · exact .ofV (fun _ e => nomatch e) ((pe_tup (hs _ h)).imp fun σ H Q => rdE_tup) rfl
  · cases h
theorem step_lst {es : Es} {fs : List Expr → Bool} (hs : ∀ ys, fs ys = true → PA X ys (rdF T φ es)) (h : hLst fs x = true) : Snd X T φ (.lst es) x := by
  unfold hLst at h
  split at h
  · exact .ofV (fun _ e => nomatch e) ((pe_lst (hs _ h)).imp fun σ H Q => rdE_lst) rfl
  · cases h
theorem step_dnew {t : Bool} (h : hDnew x = true) : Snd X T φ (.dnew t) x := by
  unfold hDnew at h
  split at h
  · cases t
    · exact .ofV (fun _ e => nomatch e) (pe_dnewK.imp fun σ H Q q => rdE_dnew q) rfl
    · exact .ofV (fun _ e => nomatch e) (pe_dnewT.imp fun σ H Q q => rdE_dnew q) rfl
  · cases h
theorem step_call (g : Gd c T k φ sc X) {f : Str} {es : Es} {fs : List Expr → Bool} (hs : ∀ ys, fs ys = true → PEs X T φ ys es) (h : hCall c sc f fs x = true) : Snd X T φ (.call f es) x := by
  unfold hCall at h
  split at h
  · simp only [Bool.and_eq_true, beq_iff_eq, Bool.not_eq_true'] at h
    obtain ⟨⟨⟨⟨⟨h1, h2⟩, h3⟩, h4⟩, h5⟩, h6⟩ := h
    subst h1
    exact .ofV (fun _ e => nomatch e) (peCall g h2 h3 h4 (hs _ h6) (ne_nil (by simpa using h5))) rfl
  · cases h
theorem step_make (g : Gd c T k φ sc X) {f q : Str} {es : Es} {fs : List Expr → Bool} (hs : ∀ ys, fs ys = true → PEs X T φ ys es) (h : hMake c sc f q fs x = true) : Snd X T φ (.make f q es) x := by
  unfold hMake at h
  split at h
  · simp only [Bool.and_eq_true, beq_iff_eq, Bool.not_eq_true'] at h
    obtain ⟨⟨⟨⟨⟨h1, h2⟩, h3⟩, h4⟩, h5⟩, h6⟩ := h
    subst h1
    exact .ofV (fun _ e => nomatch e) (peMake g h2 h3 h4 (hs _ h6) (ne_nil (by simpa using h5))) rfl
  · cases h
theorem step_attr (g : Gd c T k φ sc X) {f : Str} {a : E} {fa : Expr → Bool} (ha : ∀ y, fa y = true → Snd X T φ a y) (h : hAttr f fa x = true) : Snd X T φ (.attr a f) x := by
  unfold hAttr at h
  split at h
  · simp only [Bool.and_eq_true, beq_iff_eq] at h
    obtain ⟨⟨h1, h2⟩, h3⟩ := h
    subst h1
    exact .ofV (fun _ e => nomatch e) (peAttr g (ha _ h3).pp h2) rfl
  · cases h
theorem step_prop (g : Gd c T k φ sc X) {n q f : Str} {a : E} {fa : Expr → Bool} (ha : ∀ y, fa y = true → Snd X T φ a y) (h : hProp c n q f fa x = true) : Snd X T φ (.prop n q f a) x := by
  unfold hProp at h
  split at h
  · simp only [Bool.and_eq_true, beq_iff_eq] at h
    obtain ⟨⟨⟨h1, h2⟩, h4⟩, h3⟩ := h
    subst h1
    exact .ofV (fun _ e => nomatch e) (peProp g (ha _ h3).pe h2 (by simpa using h4)) rfl
  · cases h
theorem step_lenI (g : Gd c T k φ sc X) {n q : Str} {a : E} {fa : Expr → Bool} (ha : ∀ y, fa y = true → Snd X T φ a y) (h : hLenI c sc n q fa x = true) : Snd X T φ (.lenI n q a) x := by
  unfold hLenI at h
  split at h
  · simp only [Bool.and_eq_true] at h
    obtain ⟨⟨⟨h1, h2⟩, h3⟩, h4⟩ := h
    exact .ofV (fun _ e => nomatch e) (peLen g h1 (ha _ h4).pe (by simpa using h2) h3) rfl
  · cases h
theorem step_mut (g : Gd c T k φ sc X) {m : Mu} {i : Nat} {es : Es} {fs : List Expr → Bool} (hs : ∀ ys, fs ys = true → PEs X T φ ys es ∧ PA X ys (rdF T φ es)) (h : hMut c sc m i (esLen es) fs x = true) : Snd X T φ (.mut m i es) x := by
  unfold hMut at h
  split at h
  · simp only [Bool.and_eq_true, beq_iff_eq] at h
    obtain ⟨⟨⟨⟨h1, h2⟩, h3⟩, h4⟩, h5⟩ := h
    obtain ⟨s, pa⟩ := hs _ h4
    exact .ofV (fun _ e => nomatch e) (peMut g h1 h2 (by simpa using h3) pa s.ok s.len h5) rfl
  · cases h
theorem ownP_ids (c : Cf) (own : List Nat) : (ownP c own).map (·.2) = own := by
  unfold ownP
  rw [List.map_map]
  exact List.map_id'' (fun _ => rfl) own
theorem step_comp (g : Gd c T k φ sc X) {e : E} {tg : Vi.T} {it : I} {ifs : Es} {own : List Nat} {fi : Expr → Expr → Bool} {fs : Scope → List Expr → Bool} {fe : Scope → Expr → Bool} (hi : ∀ t y, fi t y = true → PI X t y (rdI T φ it))
    (hs : ∀ s ys, fs s ys = true → esLen ifs ≤ 1 → ∀ X', Gd c T k φ s X' → PTs X' ys (rdT T (denAl φ ifs))) (he : ∀ s y, fe s y = true → ∀ X', Gd c T k φ s X' → PE X' y (rdZ T φ e)) (h : hComp c sc tg own (esLen ifs) fi fs fe x = true) : Snd X T φ (.comp e tg it ifs own) x := by
  unfold hComp at h
  split at h
  · rename_i xe xt xi xifs scope pos
    simp only [Bool.and_eq_true, decide_eq_true_eq] at h
    obtain ⟨⟨⟨⟨⟨⟨⟨h1, h2⟩, h3⟩, h4⟩, h5⟩, h6⟩, h7⟩, h8⟩ := h
    have q := peComp (pos := pos) g (hi _ _ h4) h1 h2 (hs _ _ h6 h7) (he _ _ h8) (fun i hi => by rw [ownP_ids]; simpa using List.all_eq_true.mp h3 i hi) (fun v => ok_fold h5 v)
    rw [ownP_ids] at q
    exact .ofV (fun _ e => nomatch e) q rfl
  · cases h
theorem step_e (IH : All c T k φ n) (e : E) (hn : sizeOf e < n + 1) {sc : Scope} {x : Expr} {X : Cx} (g : Gd c T k φ sc X) (h : chk c e sc x = true) : Snd X T φ e x := by
  cases e with
  | lit d => exact sndLit (by simpa only [chk] using h)
  | var i => exact sndVar g (by simpa only [chk] using h)
  | vz i => exact sndVz g (by simpa only [chk] using h)
  | gl y d => exact step_gl g (by simpa only [chk] using h)
  | op o es =>
    simp only [chk] at h
    split at h
    · rename_i xs hx
      exact sndOp g hx (IH.a es (by simp at hn ⊢; omega) g h)
    · cases h
  | opm o a es => simp only [chk] at h; exact step_opm g (fun y => IH.e a (by simp at hn ⊢; omega) g) (fun y => IH.a es (by simp at hn ⊢; omega) g) h
  | slc a b d es => simp only [chk] at h; exact step_slc g (fun y => IH.e a (by simp at hn ⊢; omega) g) (fun y => IH.a es (by simp at hn ⊢; omega) g) h
  | chain o p a b d => simp only [chk] at h; exact step_chain g (fun y => IH.e a (by simp at hn ⊢; omega) g) (fun y => IH.e b (by simp at hn ⊢; omega) g) (fun y => IH.e d (by simp at hn ⊢; omega) g) h
  | an es => simp only [chk] at h; exact step_an (fun y => IH.b es (by simp at hn ⊢; omega) g) h
  | orr es => simp only [chk] at h; exact step_or (fun y => IH.b es (by simp at hn ⊢; omega) g) h
  | nt a => simp only [chk] at h; exact step_nt (fun y => IH.e a (by simp at hn ⊢; omega) g) h
  | ite a b d => simp only [chk] at h; exact step_ite (fun y => IH.e a (by simp at hn ⊢; omega) g) (fun y => IH.e b (by simp at hn ⊢; omega) g) (fun y => IH.e d (by simp at hn ⊢; omega) g) h
  | tup es => simp only [chk] at h; exact step_tup (fun y => IH.f es (by simp at hn ⊢; omega) g) h
  | lst es => simp only [chk] at h; exact step_lst (fun y => IH.f es (by simp at hn ⊢; omega) g) h
  | dnew t => simp only [chk] at h; exact step_dnew h
  | call f es => simp only [chk] at h; exact step_call g (fun y => IH.a es (by simp at hn ⊢; omega) g) h
  | make f q es => simp only [chk] at h; exact step_make g (fun y => IH.a es (by simp at hn ⊢; omega) g) h
  | meth _ _ _ => simp [chk] at h
  | attr a f => simp only [chk] at h; exact step_attr g (fun y => IH.e a (by simp at hn ⊢; omega) g) h
  | lenI n q a => simp only [chk] at h; exact step_lenI g (fun y => IH.e a (by simp at hn ⊢; omega) g) h
  | prop n q f a => simp only [chk] at h; exact step_prop g (fun y => IH.e a (by simp at hn ⊢; omega) g) h
  | «mut» m i es => simp only [chk] at h; exact step_mut g (fun y q => ⟨IH.a es (by simp at hn ⊢; omega) g q, IH.af es (by simp at hn ⊢; omega) g q⟩) h
  | comp e tg it ifs own =>
    simp only [chk] at h
    exact step_comp g (fun t y => IH.i it (by simp at hn ⊢; omega) g) (fun s ys q l X' g' => IH.l ifs (by simp at hn ⊢; omega) g' q l) (fun s y q X' g' => (Vi.PE.z (IH.e e (by simp at hn ⊢; omega) g' q).pe)) h
theorem step_a (IH : All c T k φ n) (es : Es) (hn : sizeOf es < n + 1) {sc : Scope} {xs : List Expr} {X : Cx} (g : Gd c T k φ sc X) (h : chkA c es sc xs = true) : PEs X T φ xs es := by
  cases es with
  | nil => simp only [chkA, List.isEmpty_iff] at h; subst h; exact .nil
  | cons s e r =>
    simp only [chkA] at h
    unfold hA at h
    split at h
    · simp only [Bool.and_eq_true, Bool.not_eq_true'] at h
      obtain ⟨⟨⟨h0, h1⟩, h2⟩, h3⟩ := h
      subst h0
      have q := IH.e e (by simp at hn ⊢; omega) g h2
      exact .cons q.pp q.pe h1 (IH.a r (by simp at hn ⊢; omega) g h3)
    · cases h
theorem step_af (IH : All c T k φ n) (es : Es) (hn : sizeOf es < n + 1) {sc : Scope} {xs : List Expr} {X : Cx} (g : Gd c T k φ sc X) (h : chkA c es sc xs = true) : PA X xs (rdF T φ es) := by
  cases es with
  | nil => simp only [chkA, List.isEmpty_iff] at h; subst h; exact pa_nil.imp fun σ H Q => rdF_nil
  | cons s e r =>
    simp only [chkA] at h
    unfold hA at h
    split at h
    · simp only [Bool.and_eq_true, Bool.not_eq_true'] at h
      obtain ⟨⟨⟨h0, h1⟩, h2⟩, h3⟩ := h
      subst h0
      exact (pa_cons (Vi.PE.z (IH.e e (by simp at hn ⊢; omega) g h2).pe) (IH.af r (by simp at hn ⊢; omega) g h3) (ok_star h1 _)).imp fun σ H Q => rdF_cons
    · cases h
theorem step_f (IH : All c T k φ n) (es : Es) (hn : sizeOf es < n + 1) {sc : Scope} {xs : List Expr} {X : Cx} (g : Gd c T k φ sc X) (h : chkF c es sc xs = true) : PA X xs (rdF T φ es) := by
  cases es with
  | nil => simp only [chkF, List.isEmpty_iff] at h; subst h; exact pa_nil.imp fun σ H Q => rdF_nil
  | cons s e r =>
    simp only [chkF] at h
    unfold hF at h
    split at h
    · simp only [Bool.and_eq_true] at h
      obtain ⟨h1, h3⟩ := h
      cases s with
      | true =>
        simp only [if_true] at h1
        split at h1
        · exact (StX.pa_star (IH.e e (by simp at hn ⊢; omega) g h1).pp (IH.f r (by simp at hn ⊢; omega) g h3)).imp fun σ H Q => rdF_star
        · cases h1
      | false =>
        simp only [Bool.false_eq_true, if_false, Bool.and_eq_true] at h1
        exact (pa_cons (Vi.PE.z (IH.e e (by simp at hn ⊢; omega) g h1.2).pe) (IH.f r (by simp at hn ⊢; omega) g h3) (ok_star h1.1 _)).imp fun σ H Q => rdF_cons
    · cases h
theorem step_b (IH : All c T k φ n) (es : Es) (hn : sizeOf es < n + 1) {sc : Scope} {xs : List Expr} {X : Cx} (g : Gd c T k φ sc X) (h : chkB c es sc xs = true) : SndB X T φ es xs := by
  cases es with
  | nil => simp [chkB] at h
  | cons s e r =>
    simp only [chkB] at h
    unfold hB at h
    split at h
    · cases h
    · simp only [Bool.and_eq_true] at h
      cases r with
      | nil => exact sndB_one (IH.e e (by simp at hn ⊢; omega) g h.2)
      | cons => simp [isNl] at h
    · simp only [Bool.and_eq_true, Bool.not_eq_true'] at h
      cases r with
      | nil => simp [isNl] at h
      | cons s' f r => exact sndB_cons (IH.e e (by simp at hn ⊢; omega) g h.1.2) (IH.b (.cons s' f r) (by simp at hn ⊢; omega) g h.2)
theorem step_l (IH : All c T k φ n) (es : Es) (hn : sizeOf es < n + 1) {sc : Scope} {xs : List Expr} {X : Cx} (g : Gd c T k φ sc X) (h : chkA c es sc xs = true) (hl : esLen es ≤ 1) : PTs X xs (rdT T (denAl φ es)) := by
  cases es with
  | nil =>
    simp only [chkA, List.isEmpty_iff] at h
    subst h
    exact ⟨fun pins s σ H Q I q => pts_nil.run pins s σ H Q I (by
      obtain ⟨G, env, O, b, env', sr, e, K⟩ := q
      simp only [denAl, Option.some.injEq, Prod.mk.injEq] at e
      obtain ⟨rfl, rfl⟩ := e
      exact K H G O sr (Fm.refl _ _ _))⟩
  | cons s e r =>
    cases r with
    | cons => simp [esLen] at hl
    | nil =>
      simp only [chkA] at h
      unfold hA at h
      split at h
      · simp only [Bool.and_eq_true, Bool.not_eq_true', List.isEmpty_iff] at h
        obtain ⟨⟨⟨h0, h1⟩, h2⟩, h3⟩ := h
        subst h3
        have p := (IH.e e (by simp at hn ⊢; omega) g h2).pt
        refine ⟨fun pins s σ H Q I q => (pts_one p).run pins s σ H Q I ?_⟩
        obtain ⟨G, env, O, b, env', sr, e1, K⟩ := q
        refine ⟨G, env, O, b, env', sr, ?_, K⟩
        simp only [denAl, Option.bind_eq_some_iff] at e1
        obtain ⟨⟨d, env1⟩, e1, b', e2, e3⟩ := e1
        simp only [denT, e1, Option.bind_some, e2, Option.map_some]
        cases b' <;> simpa using e3
      · cases h
theorem step_i (IH : All c T k φ n) (it : I) (hn : sizeOf it < n + 1) {sc : Scope} {xt x : Expr} {X : Cx} (g : Gd c T k φ sc X) (h : chkI c it sc xt x = true) : PI X xt x (rdI T φ it) := by
  cases it with
  | val e => simp only [chkI] at h; exact piVal g (IH.e e (by simp at hn ⊢; omega) g h).pp
  | range es =>
    simp only [chkI] at h
    unfold hRange at h
    split at h
    · simp only [Bool.and_eq_true, decide_eq_true_eq] at h
      exact piRange g h.1.1.1 (IH.a es (by simp at hn ⊢; omega) g h.1.1.2) h.1.2 (ne_nil h.2)
    · cases h
  | enum e =>
    simp only [chkI, Bool.and_eq_true] at h
    obtain ⟨ht, h⟩ := h
    unfold isTup at ht
    split at ht
    · unfold hEnum at h
      split at h
      · simp only [Bool.and_eq_true] at h
        have s := IH.e e (by simp at hn ⊢; omega) g h.1.2
        exact piEnum g h.1.1 (.cons s.pp s.pe h.2 .nil)
      · cases h
    · cases ht
  | zip a b =>
    simp only [chkI, Bool.and_eq_true] at h
    obtain ⟨ht, h⟩ := h
    unfold isTup at ht
    split at ht
    · unfold hZip at h
      split at h
      · simp only [Bool.and_eq_true] at h
        obtain ⟨⟨⟨⟨h1, h2⟩, h3⟩, h4⟩, h5⟩ := h
        have s := IH.e a (by simp at hn ⊢; omega) g h2
        have s2 := IH.e b (by simp at hn ⊢; omega) g h4
        exact piZip g h1 (.cons s.pp s.pe h3 (.cons s2.pp s2.pe h5 .nil))
      · cases h
    · cases ht
  | items e =>
    simp only [chkI, Bool.and_eq_true] at h
    obtain ⟨ht, h⟩ := h
    unfold isTup at ht
    split at ht
    · unfold hItems at h
      split at h
      · simp only [Bool.and_eq_true, beq_iff_eq] at h
        obtain ⟨⟨⟨h1, h2⟩, h3⟩, h4⟩ := h
        subst h1
        exact piItems g (IH.e e (by simp at hn ⊢; omega) g h2).pe h3 (by simpa using h4)
      · cases h
    · cases ht
theorem allSnd : ∀ n, All c T k φ n
  | 0 => ⟨fun _ h => absurd h (Nat.not_lt_zero _), fun _ h => absurd h (Nat.not_lt_zero _), fun _ h => absurd h (Nat.not_lt_zero _), fun _ h => absurd h (Nat.not_lt_zero _), fun _ h => absurd h (Nat.not_lt_zero _), fun _ h => absurd h (Nat.not_lt_zero _), fun _ h => absurd h (Nat.not_lt_zero _)⟩
  | n + 1 => ⟨fun e h => step_e (allSnd n) e h, fun e h => step_a (allSnd n) e h, fun e h => step_af (allSnd n) e h, fun e h => step_f (allSnd n) e h, fun e h => step_b (allSnd n) e h, fun e h => step_l (allSnd n) e h, fun e h => step_i (allSnd n) e h⟩
theorem snd (e : E) {sc : Scope} {x : Expr} {X : Cx} (g : Gd c T k φ sc X) (h : chk c e sc x = true) : Snd X T φ e x := (allSnd _).e e (Nat.lt_succ_self _) g h
theorem sndA (es : Es) {sc : Scope} {xs : List Expr} {X : Cx} (g : Gd c T k φ sc X) (h : chkA c es sc xs = true) : PEs X T φ xs es := (allSnd _).a es (Nat.lt_succ_self _) g h
theorem sndI (it : I) {sc : Scope} {xt x : Expr} {X : Cx} (g : Gd c T k φ sc X) (h : chkI c it sc xt x = true) : PI X xt x (rdI T φ it) := (allSnd _).i it (Nat.lt_succ_self _) g h
end
end Vi
end
section
set_option maxRecDepth 100000
/-! Vi, part T: statements. -/
namespace Vi
open PySem PySem.Spec PyProof.Rows L2

def Sta (σ σ' : L2.St) (pin : List Nat) : Prop := σ'.length = σ.length ∧ ∀ i ∈ pin, σ'[i]? = σ[i]?
theorem Sta.refl (σ : L2.St) (pin : List Nat) : Sta σ σ pin := ⟨rfl, fun _ _ => rfl⟩
theorem Sta.trans {a b c : L2.St} {pin : List Nat} (x : Sta a b pin) (y : Sta b c pin) : Sta a c pin := ⟨y.1.trans x.1, fun i h => (y.2 i h).trans (x.2 i h)⟩
theorem Sta.sub {a b : L2.St} {pin pin' : List Nat} (x : Sta a b pin) (h : ∀ i ∈ pin', i ∈ pin) : Sta a b pin' := ⟨x.1, fun i hi => x.2 i (h i hi)⟩
/-- what is wanted behind a statement that gives f and leaves env' -/
def Fin (T : Tx) (G H : Hp) (O : List Addr) (σ : L2.St) (pin : List Nat) (D : Ends) (f : Fl) (env' : Ev) : Prop := match f with
  | .nx => ∀ σ' H' G' O', SR T G' H' env' σ' O' → Fm G H O G' H' O' → Sta σ σ' pin → D.nx σ' H'
  | .bk => ∀ σ' H' G' O', SR T G' H' env' σ' O' → Fm G H O G' H' O' → Sta σ σ' pin → D.bk σ' H'
  | .ct => ∀ σ' H' G' O', SR T G' H' env' σ' O' → Fm G H O G' H' O' → Sta σ σ' pin → D.ct σ' H'
  | .rt d => ∀ v σ' H' G' O' W, AS T G' H' env' σ' O' [.v d] [v] W → Fm G H O G' H' (W ++ O') → Sta σ σ' pin → D.rt v H'
theorem Fin.from {T : Tx} {G H G1 H1 : Hp} {O O1 : List Addr} {σ σ1 : L2.St} {pin : List Nat} {D : Ends} {f : Fl} {env' : Ev} (k : Fin T G H O σ pin D f env') (m : Fm G H O G1 H1 O1) (st : Sta σ σ1 pin) : Fin T G1 H1 O1 σ1 pin D f env' := by
  cases f with
  | nx => exact fun σ' H' G' O' s m' st' => k σ' H' G' O' s (m.trans m') (st.trans st')
  | bk => exact fun σ' H' G' O' s m' st' => k σ' H' G' O' s (m.trans m') (st.trans st')
  | ct => exact fun σ' H' G' O' s m' st' => k σ' H' G' O' s (m.trans m') (st.trans st')
  | rt d => exact fun v σ' H' G' O' W s m' st' => k v σ' H' G' O' W s (m.trans m') (st.trans st')
def rdS (T : Tx) (m : Ev → Option (Fl × Ev)) (pin : List Nat) : TS := fun D σ H => ∃ G env O f env', SR T G H env σ O ∧ m env = some (f, env') ∧ Fin T G H O σ pin D f env'

section
variable {c : Cf} {T : Tx} {k : Nat} {φ : Phi} {sc : Scope} {X : Cx} {x y z : Expr} {p pos : Pos} {w : Nat} {pin : List Nat}
theorem PS.ofOk {st : Stmt} {t : TS} (h : X.Ok → PS X st t) : PS X st t := ⟨fun pins s σ H D I q => (h I.ok).run pins s σ H D I q⟩
theorem bind_pin : (∀ (tg : Vi.T) {d : D} {env env' : Ev}, bindT pin tg d env = some env' → ∀ i ∈ pin, i ∉ tgts tg) := by
  have main : ∀ n, (∀ (tg : Vi.T), sizeOf tg < n → ∀ {d : D} {env env' : Ev}, bindT pin tg d env = some env' → ∀ i ∈ pin, i ∉ tgts tg) ∧ (∀ (ts : Ts), sizeOf ts < n → ∀ {ds : List D} {env env' : Ev}, bindTs pin ts ds env = some env' → ∀ i ∈ pin, i ∉ tgtss ts) := by
    intro n
    induction n with
    | zero => exact ⟨fun _ h => absurd h (Nat.not_lt_zero _), fun _ h => absurd h (Nat.not_lt_zero _)⟩
    | succ n ih =>
      refine ⟨fun tg hn => ?_, fun ts hn => ?_⟩
      · cases tg with
        | v j =>
          intro d env env' e i hi
          simp only [bindT] at e
          split at e
          · cases e
          · rename_i hp
            simp only [tgts, List.mem_singleton]
            intro z
            subst z
            exact hp (.inl hi)
        | t ts =>
          intro d env env' e i hi
          simp only [bindT, Option.bind_eq_some_iff] at e
          obtain ⟨xs, _, e⟩ := e
          simp only [tgts]
          exact ih.2 ts (by simp at hn ⊢; omega) e i hi
      · cases ts with
        | nil => intro ds env env' e i hi; simp [tgtss]
        | cons a r =>
          intro ds env env' e i hi
          cases ds with
          | nil => simp [bindTs] at e
          | cons d ds =>
            simp only [bindTs, Option.bind_eq_some_iff] at e
            obtain ⟨e1, h1, h2⟩ := e
            simp only [tgtss, List.mem_append, not_or]
            exact ⟨ih.1 a (by simp at hn ⊢; omega) h1 i hi, ih.2 r (by simp at hn ⊢; omega) h2 i hi⟩
  exact fun tg => (main _).1 tg (Nat.lt_succ_self _)
theorem asgRd {tg : Vi.T} {e : E} {D : Ends} {σ : L2.St} {H : Hp} (q : rdS T (exec w φ pin (.asg tg e)) pin D σ H) : tAsg (rdE T φ e) (rdG T (bindT pin tg) (tgts tg)) D σ H := by
  obtain ⟨G, env, O, f, env', s, e0, K⟩ := q
  simp only [exec, Option.bind_eq_some_iff, Option.map_eq_some_iff, Prod.mk.injEq] at e0
  obtain ⟨⟨d, env1⟩, e1, env2, e2, rfl, rfl⟩ := e0
  refine ⟨G, env, O, .v d, env1, s, by simp only [e1, Option.map_some], fun v H1 G1 O1 W A f1 => ?_⟩
  refine ⟨G1, env1, O1, W, d, env2, A, e2, fun σ' O' s' l kk sub => ?_⟩
  exact K σ' H1 G1 O' s' (f1.less sub) ⟨l, fun i hi => kk i (bind_pin tg e2 i hi)⟩
/-- one name, a comprehension -/
def lcSw (sc scope : Scope) (y : Str) (py pos : Pos) : Bool := (match sc.names.lookup y with | some .local => true | _ => false) && py.line == pos.line && !(scope.names.any fun (n, k) => n == y && (k == .local || k == .cell))
theorem sw_eq (g : Gd c T k φ sc X) (ok : X.Ok) {elt : Expr} {gs : List Comprehension} {scope : Scope} {y : Str} {py : Pos} {l : Nat} (hl : isLoc sc y = true) : swapsWith (.ListComp elt gs scope pos) (some (.Name y py)) l X.env = pure (lcSw sc scope y py pos) := by
  have hb : X.env.blockKind = .function := by unfold Env.blockKind; rw [ok.kind]; rfl
  have hk : (X.env.kindOf y == some .local) = (match sc.names.lookup y with | some .local => true | _ => false) := by
    unfold isLoc at hl
    split at hl
    · rename_i e
      rw [e]
      rcases g.scp _ _ e with q | ⟨q, _⟩
      · show (X.env.scope.names.lookup y == some .local) = true; rw [q]; rfl
      · cases q
    · rename_i e
      rw [e]
      rcases g.scp _ _ e with q | ⟨q, _⟩
      · show (X.env.scope.names.lookup y == some .local) = false; rw [q]; rfl
      · cases q
    · cases hl
  unfold swapsWith lcSw
  simp only [hb, Expr.pos]
  rw [hk]
  rfl
/-- plain assignment of a tuple display: no stores exchanged -/
def swNo (ts vs : List Expr) : Bool := !(ts.length == 2 || ts.length == 3) || vs.length != ts.length
theorem sw_no {ts vs : List Expr} {k1 k2 : Nat} {p1 p2 : Pos} (h : swNo ts vs = true) : swappedStores [.Tuple ts k1 p1] (.Tuple vs k2 p2) X.env = pure none := by
  unfold swNo at h
  unfold swappedStores
  simp only
  rw [if_pos (by rw [h]; rfl)]
def okAsg : Expr → Expr → Bool
  | .Tuple ts _ _, y => (match y with | .Tuple vs _ _ => swNo ts vs | _ => true)
  | .Name _ _, _ => true
  | _, _ => false
theorem sw_none {t : Expr} (h : okAsg t y = true) : swappedStores [t] y X.env = pure none := by
  cases t with
  | Tuple ts a b =>
    cases y with
    | Tuple vs _ _ => exact sw_no h
    | _ => rfl
  | Name a b => rfl
  | _ => simp [okAsg] at h
def isCellN (sc : Scope) : Expr → Bool
  | .Name x _ => sc.names.lookup x == some .cell
  | _ => false
def okCell (sc : Scope) : Expr → Expr → Bool
  | .Tuple ts _ _, .Tuple _ _ _ => ts.any (isCellN sc)
  | _, _ => false
theorem fm_lt {α β : Type} (f : α → Option β) : ∀ (l : List α) {a : α}, a ∈ l → f a = none → (l.filterMap f).length < l.length
  | b :: l, a, h, e => by
    have hl := List.length_filterMap_le f l
    rw [List.filterMap_cons]
    rcases List.mem_cons.1 h with rfl | h
    · rw [e]; simp only [List.length_cons]; omega
    · have ih := fm_lt f l h e
      cases f b <;> simp only [List.length_cons] <;> omega
theorem sw_cell (g : Gd c T k φ sc X) {t : Expr} (h : okCell sc t y = true) : swappedStores [t] y X.env = pure none := by
  unfold okCell at h
  split at h
  · rename_i ts a b vs cc d
    simp only [List.any_eq_true] at h
    obtain ⟨t0, h0, h1⟩ := h
    unfold isCellN at h1
    split at h1
    · rename_i x p
      have hx : sc.names.lookup x = some .cell := by simpa using h1
      have hk : X.env.kindOf x = some .cell := by
        rcases g.scp _ _ hx with q | ⟨q, _⟩
        · exact q
        · cases q
      unfold swappedStores
      dsimp only
      split
      · rfl
      · split
        · rfl
        · have hlt := fm_lt (fun t : Expr => match t with
            | .Name id pos => if (X.env.kindOf id == some .local && pos.line == (ts.head?.map (·.pos.line)).getD 0) = true then some id else none
            | _ => none) ts h0 (by simp [hk])
          rw [if_pos]
          · simp only [Bool.or_eq_true, bne_iff_ne]
            left
            exact Nat.ne_of_lt hlt
    · cases h1
  · cases h
theorem asg1 {t : Expr} {tg : Vi.T} {cc : Cf} {s : Scope} (h : chkT cc s tg t = true) : (assignEach [t] X.env).map (·.2) = [assign t X.env] := by rw [asg_cons h]; rfl
/-- an assignment -/
theorem psAsg (g : Gd c T k φ sc X) {t : Expr} {tg : Vi.T} {e : E} (ht : chkT c sc tg t = true) (he : PE X y (rdE T φ e)) (hl : notLc y = true) (ho : (okAsg t y || okCell sc t y) = true) : PS X (.Assign [t] y pos) (rdS T (exec w φ pin (.asg tg e)) pin) :=
  (ps_asg he (pgT g pin ht) (ok_sw hl _ _) (by rcases Bool.or_eq_true _ _ ▸ ho with ho | ho; exact sw_none ho; exact sw_cell g ho) (asg1 ht)).imp fun D σ H q => asgRd q
theorem pin_nil {tg : Vi.T} {σ : L2.St} {H : Hp} {D : Ends} {e : E} (q : rdS T (exec w φ pin (.asg tg e)) pin D σ H) : True := trivial
theorem psAsgLc (g : Gd c T k φ sc X) {t xe xt xi : Expr} {xifs : List Expr} {scope : Scope} {lpos : Pos} {tg tg' : Vi.T} {e : E} {it : I} {ifs : Es} {own : List Nat} (ht : chkT c sc tg t = true) (hc : chk c (.comp e tg' it ifs own) sc (.ListComp xe [⟨xt, xi, xifs, 0⟩] scope lpos) = true) :
    PS X (.Assign [t] (.ListComp xe [⟨xt, xi, xifs, 0⟩] scope lpos) pos) (rdS T (exec w φ pin (.asg tg (.comp e tg' it ifs own))) pin) := by
  refine PS.ofOk fun ok => ?_
  have he := (snd _ g hc).pe
  have pg := pgT g pin ht
  cases t with
  | Tuple ts a b => exact (ps_asg he pg rfl rfl (asg1 ht)).imp fun D σ H q => asgRd q
  | Name yy py =>
    cases tg with
    | t => simp [chkT] at ht
    | v i =>
      have ht2 := ht
      simp only [chkT, Bool.and_eq_true, decide_eq_true_eq] at ht2
      obtain ⟨h1, h2⟩ := ht2
      cases hb : lcSw sc scope yy py lpos with
      | false => exact (ps_asg he pg (by show swapsWith (.ListComp xe [⟨xt, xi, xifs, 0⟩] scope lpos) (some (.Name yy py)) pos.line X.env = pure false; rw [sw_eq g ok h2, hb]) rfl (asg1 ht)).imp fun D σ H q => asgRd q
      | true =>
        have hloc : X.env.scope.names.lookup yy = some .local := by
          unfold lcSw at hb
          simp only [Bool.and_eq_true] at hb
          obtain ⟨⟨hb, _⟩, _⟩ := hb
          split at hb
          · rename_i q
            rcases g.scp _ _ q with z | ⟨z, _⟩
            · exact z
            · cases z
          · cases hb
        simp only [chk] at hc
        unfold hComp at hc
        simp only [Bool.and_eq_true, decide_eq_true_eq] at hc
        obtain ⟨⟨⟨⟨⟨⟨⟨c1, c2⟩, c3⟩, c4⟩, c5⟩, c6⟩, c7⟩, c8⟩ := hc
        refine (ps_setLc (i := i) (own := ownP c own) g.calm g.nX (by rw [g.hN]; exact h1) hloc (by rw [sw_eq g ok h2, hb]) (sndI it g c4) (g.blkS c1) (fun s H C cl fp => pgT (g.blk scope s H C cl fp) [] c2)
          (fun s H C cl fp => (allSnd _).l ifs (Nat.lt_succ_self _) (g.blk scope s H C cl fp) c6 c7) (fun s H C cl fp => Vi.PE.z (snd e (g.blk scope s H C cl fp) c8).pe) (fun v => ok_fold c5 v)).imp fun D σ H q => ?_
        have q1 := asgRd q
        have q2 : rdE T φ (.comp e tg' it ifs ((ownP c own).map (·.2))) σ H fun x H1 => gName i x σ H1 D.nx := by
          rw [ownP_ids]
          obtain ⟨G, env, O, r, env', s, e1, K⟩ := q1
          refine ⟨G, env, O, r, env', s, e1, fun v H1 G1 O1 W A f => ?_⟩
          obtain ⟨G2, env2, O2, W2, d2, env3, A2, b2, K2⟩ := K v H1 G1 O1 W A f
          simp only [bindT] at b2
          split at b2
          · cases b2
          · rename_i hp
            cases b2
            obtain ⟨O', s', sub⟩ := A2.put (i := i) (by omega)
            exact K2 _ O' s' (by simp) (fun j hj => by simp only [tgts, List.mem_singleton] at hj; exact List.getElem?_set_ne (Ne.symm hj)) sub
        exact compRd (fun j hj => by rw [ownP_ids]; simpa using List.all_eq_true.mp c3 j hj) q2
  | _ => cases tg <;> simp [chkT] at ht
/-- the rest, one by one -/
theorem psExp {e : E} (he : PE X y (rdE T φ e)) (hl : notLc y = true) : PS X (.Expr y pos) (rdS T (exec w φ pin (.exp e)) pin) := by
  refine (ps_expr he (ok_sw hl _ _)).imp fun D σ H q => ?_
  obtain ⟨G, env, O, f, env', s, e0, K⟩ := q
  simp only [exec, Option.map_eq_some_iff, Prod.mk.injEq] at e0
  obtain ⟨⟨d, env1⟩, e1, rfl, rfl⟩ := e0
  exact ⟨G, env, O, .v d, env1, s, by simp only [e1, Option.map_some], fun v H1 G1 O1 W A f1 => K σ H1 G1 O1 A.sr (f1.less fun a h => List.mem_append_right _ h) (.refl _ _)⟩
theorem psRetN : PS X (.Return none pos) (rdS T (exec w φ pin .retN) pin) := by
  refine ps_retN.imp fun D σ H q => ?_
  obtain ⟨G, env, O, f, env', s, e0, K⟩ := q
  simp only [exec, Option.some.injEq, Prod.mk.injEq] at e0
  obtain ⟨rfl, rfl⟩ := e0
  exact K .non σ H G O [] (.val s .non) (Fm.refl _ _ _) (.refl _ _)
theorem psRet (g : Gd c T k φ sc X) {e : E} (h : chk c e sc y = true) : PS X (.Return (some y) pos) (rdS T (exec w φ pin (.ret e)) pin) := by
  have s0 := snd e g h
  by_cases hv : ∃ i, e = .var i
  · obtain ⟨i, rfl⟩ := hv
    refine ⟨fun pins s σ H D I q => ?_⟩
    obtain ⟨G, env, O, f, env', sr, e0, K⟩ := q
    simp only [exec] at e0
    split at e0
    · simp only [Option.map_eq_some_iff, Prod.mk.injEq] at e0
      obtain ⟨⟨d, env1⟩, e1, rfl, rfl⟩ := e0
      refine (ps_ret s0.pe).run pins s σ H D I ⟨G, env, O, .v d, env1, sr, by simp only [e1, Option.map_some], fun v H1 G1 O1 W A f1 => K v σ H1 G1 O1 W A f1 (.refl _ _)⟩
    · simp only [Option.map_eq_some_iff, Prod.mk.injEq] at e0
      obtain ⟨d, e1, rfl, rfl⟩ := e0
      refine (ps_ret s0.pp).run pins s σ H D I ⟨G, env, O, .r i, env, sr, by simp only [denP, e1, Option.map_some], fun v H1 G1 O1 W A f1 => ?_⟩
      cases A.ar with
      | r hi zz =>
        cases zz
        obtain ⟨v', as, O2, h1, A2, f2, mem⟩ := A.sr.out e1
        rw [hi] at h1
        cases h1
        exact K v σ H1 G1 O2 as A2 ((f1.less fun a h => by simpa using h).trans f2) (.refl _ _)
  · refine (ps_ret s0.pe).imp fun D σ H q => ?_
    obtain ⟨G, env, O, f, env', s, e0, K⟩ := q
    have e1 : exec w φ pin (.ret e) env = (den φ e env).map fun q => (.rt q.1, q.2) := by
      cases e <;> first | (simp only [exec]; done) | exact absurd ⟨_, rfl⟩ hv
    rw [e1] at e0
    simp only [Option.map_eq_some_iff, Prod.mk.injEq] at e0
    obtain ⟨⟨d, env1⟩, e1, rfl, rfl⟩ := e0
    exact ⟨G, env, O, .v d, env1, s, by simp only [e1, Option.map_some], fun v H1 G1 O1 W A f1 => K v σ H1 G1 O1 W A f1 (.refl _ _)⟩
theorem psIf {e : E} {a b : Ss} {as bs : List Stmt} (hc : PT X y (rdTE T φ e)) (ha : PSs X as (rdS T (execs w φ pin a) pin)) (hb : PSs X bs (rdS T (execs w φ pin b) pin)) : PS X (.If y as bs pos) (rdS T (exec w φ pin (.iff e a b)) pin) := by
  refine (ps_if hc ha hb).imp fun D σ H q => ?_
  obtain ⟨G, env, O, f, env', s, e0, K⟩ := q
  simp only [exec, Option.bind_eq_some_iff] at e0
  obtain ⟨⟨t, env1⟩, e1, e2⟩ := e0
  refine ⟨G, env, O, t, env1, s, e1, fun H1 G1 O1 s1 f1 => ?_⟩
  cases t with
  | true => exact ⟨G1, env1, O1, f, env', s1, by simpa using e2, K.from f1 (.refl _ _)⟩
  | false => exact ⟨G1, env1, O1, f, env', s1, by simpa using e2, K.from f1 (.refl _ _)⟩
theorem psFlow {st : Stmt} {t : TS} {s : S} {f : Fl} (h : PS X st t) (he : ∀ env, exec w φ pin s env = some (f, env)) (hr : ∀ d, f ≠ .rt d) (hf : ∀ D σ H, (match f with | .nx => D.nx σ H | .bk => D.bk σ H | .ct => D.ct σ H | .rt _ => False) → t D σ H) : PS X st (rdS T (exec w φ pin s) pin) := by
  refine h.imp fun D σ H q => ?_
  obtain ⟨G, env, O, f', env', sr, e0, K⟩ := q
  rw [he] at e0
  cases e0
  refine hf D σ H ?_
  cases f with
  | nx => exact K σ H G O sr (Fm.refl _ _ _) (.refl _ _)
  | bk => exact K σ H G O sr (Fm.refl _ _ _) (.refl _ _)
  | ct => exact K σ H G O sr (Fm.refl _ _ _) (.refl _ _)
  | rt d => exact absurd rfl (hr d)
theorem pssNil : PSs X [] (rdS T (execs w φ pin .nil) pin) := by
  refine pss_nil.imp fun D σ H q => ?_
  obtain ⟨G, env, O, f, env', s, e0, K⟩ := q
  simp only [execs, Option.some.injEq, Prod.mk.injEq] at e0
  obtain ⟨rfl, rfl⟩ := e0
  exact K σ H G O s (Fm.refl _ _ _) (.refl _ _)
theorem pssCons {s : S} {r : Ss} {st : Stmt} {rs : List Stmt} (h : PS X st (rdS T (exec w φ pin s) pin)) (hr : PSs X rs (rdS T (execs w φ pin r) pin)) : PSs X (st :: rs) (rdS T (execs w φ pin (.cons s r)) pin) := by
  refine (pss_cons h hr).imp fun D σ H q => ?_
  obtain ⟨G, env, O, f, env', sr, e0, K⟩ := q
  simp only [execs, Option.bind_eq_some_iff] at e0
  obtain ⟨⟨f1, env1⟩, e1, e2⟩ := e0
  refine ⟨G, env, O, f1, env1, sr, e1, ?_⟩
  cases f1 with
  | nx => exact fun σ' H' G' O' s' m st' => ⟨G', env1, O', f, env', s', e2, K.from m st'⟩
  | bk => cases e2; exact K
  | ct => cases e2; exact K
  | rt d => cases e2; exact K
end
end Vi
end
section
set_option maxRecDepth 100000
/-! Vi, part U: loops, stores. -/
namespace Vi
open PySem PySem.Spec PyProof.Rows L2

section
variable {c : Cf} {T : Tx} {k : Nat} {φ : Phi} {sc : Scope} {X : Cx} {x y z : Expr} {p pos : Pos} {w : Nat} {pin : List Nat}
theorem psWhile (hp : PassesOwn (model X.prog X.w) X.A X.env X.xe) {e : E} {a : Ss} {as : List Stmt} (hc : PT X y (rdTE T φ e)) (ha : PSs X as (rdS T (execs w φ pin a) pin)) : PS X (.While y as [] pos) (rdS T (exec w φ pin (.whl e a)) pin) := by
  refine (ps_while hp hc ha).imp fun D σ H q => ?_
  obtain ⟨G, env, O, f, env', s, e0, K⟩ := q
  simp only [exec] at e0
  refine ⟨fun m σ1 H1 => ∃ G1 env1 O1, whlL (denT φ e) (execs w φ pin a) m env1 = some (f, env') ∧ SR T G1 H1 env1 σ1 O1 ∧ Fm G H O G1 H1 O1 ∧ Sta σ σ1 pin, ⟨w, G, env, O, e0, s, Fm.refl _ _ _, .refl _ _⟩, ?_⟩
  rintro m σ1 H1 ⟨G1, env1, O1, e1, s1, f1, st1⟩
  cases m with
  | zero => simp [whlL] at e1
  | succ m =>
    simp only [whlL, Option.bind_eq_some_iff] at e1
    obtain ⟨⟨t, env2⟩, e2, e3⟩ := e1
    refine ⟨G1, env1, O1, t, env2, s1, e2, fun H2 G2 O2 s2 f2 => ?_⟩
    cases t with
    | false =>
      simp only [Bool.false_eq_true, if_false, Option.some.injEq, Prod.mk.injEq] at e3
      obtain ⟨rfl, rfl⟩ := e3
      exact K σ1 H2 G2 O2 s2 (f1.trans f2) st1
    | true =>
      simp only [if_true, Option.bind_eq_some_iff] at e3
      obtain ⟨⟨fl, env3⟩, e4, e5⟩ := e3
      refine ⟨fun σ' H' => ∃ m', m' < m + 1 ∧ ∃ G1 env1 O1, whlL (denT φ e) (execs w φ pin a) m' env1 = some (f, env') ∧ SR T G1 H' env1 σ' O1 ∧ Fm G H O G1 H' O1 ∧ Sta σ σ' pin, fun σ' H' h => h, G2, env2, O2, fl, env3, s2, e4, ?_⟩
      cases fl with
      | nx => exact fun σ' H' G' O' s' f' st' => ⟨m, Nat.lt_succ_self _, G', env3, O', e5, s', (f1.trans f2).trans f', st1.trans st'⟩
      | ct => exact fun σ' H' G' O' s' f' st' => ⟨m, Nat.lt_succ_self _, G', env3, O', e5, s', (f1.trans f2).trans f', st1.trans st'⟩
      | bk =>
        cases e5
        exact fun σ' H' G' O' s' f' st' => K σ' H' G' O' s' ((f1.trans f2).trans f') (st1.trans st')
      | rt d =>
        cases e5
        exact fun v σ' H' G' O' W A f' st' => K v σ' H' G' O' W A ((f1.trans f2).trans f') (st1.trans st')
/-- what a loop has hidden is put back -/
theorem unhideAS {G1 H1 G H : Hp} {O1 O W Wv : List Addr} {env : Ev} {σ1 σ : L2.St} {hid : Hid} {ars : List Ar} {vs : List V} (hk : HidOk T G1 H1 σ1 W hid) (nd : W.Nodup) (dj : ∀ a ∈ W, a ∉ O1) (gn : ∀ a ∈ W, G1 a = none) (ad : ∀ a ∈ W, ∃ u, H1 a = some u)
    (st : ∀ i d, hid = some (i, d) → σ[i]? = σ1[i]?) (f : Fm G1 H1 O1 G H (Wv ++ O)) (A : AS T G H env σ O ars vs Wv) : ∃ O3, AS T G H (unhide env hid) σ O3 ars vs Wv ∧ Fm G1 H1 (W ++ O1) G H (Wv ++ O3) := by
  have big : Fm G1 H1 (W ++ O1) G H (W ++ (Wv ++ O)) := (f.wide W).iff (fun a => by simp only [List.mem_append]; exact Or.comm) fun a h => by simp only [List.mem_append] at h ⊢; rcases h with h | h | h <;> simp [h]
  cases hid with
  | none => exact ⟨O, A, big.less fun a h => List.mem_append_right _ h⟩
  | some q =>
    obtain ⟨i, d⟩ := q
    obtain ⟨v, hv, rv⟩ := hk
    have hv2 : σ[i]? = some (some v) := by rw [st i d rfl]; exact hv
    have far : ∀ a ∈ W, a ∉ Wv ++ O := fun a ha z => by
      rcases f.fresh a z with q | q
      · exact dj a ha q
      · obtain ⟨u, hu⟩ := ad a ha
        rw [hu] at q; cases q
    obtain ⟨Oq, sq, mq⟩ := A.sr.wipe i
    have A2 : AS T G H (env.set i none) σ Oq [.v d] [v] W := ⟨sq, .one' (f.repO rv dj), nd, fun a ha z => far a ha (List.mem_append_right _ (mq a z)), fun a ha => f.gnone (gn a ha) (dj a ha) (ad a ha)⟩
    obtain ⟨O3, s3, m3⟩ := A2.into (by rw [getV_set]; simp) hv2
    rw [List.set_set] at s3
    refine ⟨O3, ⟨s3, A.ar, A.nd, fun a ha z => ?_, A.gn⟩, big.less fun a h => ?_⟩
    · rcases (m3 a).mp z with z | z
      · exact far a z (List.mem_append_left _ ha)
      · exact A.dj a ha (mq a z)
    · simp only [List.mem_append] at h ⊢
      rcases h with h | h
      · exact .inr (.inl h)
      · rcases (m3 a).mp h with z | z
        · exact .inl z
        · exact .inr (.inr (mq a z))
theorem unhideSR {G1 H1 G H : Hp} {O1 O W : List Addr} {env : Ev} {σ1 σ : L2.St} {hid : Hid} (hk : HidOk T G1 H1 σ1 W hid) (nd : W.Nodup) (dj : ∀ a ∈ W, a ∉ O1) (gn : ∀ a ∈ W, G1 a = none) (ad : ∀ a ∈ W, ∃ u, H1 a = some u)
    (st : ∀ i d, hid = some (i, d) → σ[i]? = σ1[i]?) (f : Fm G1 H1 O1 G H O) (s : SR T G H env σ O) : ∃ O3, SR T G H (unhide env hid) σ O3 ∧ Fm G1 H1 (W ++ O1) G H O3 := by
  obtain ⟨O3, A, f'⟩ := unhideAS (Wv := []) (ars := []) (vs := []) hk nd dj gn ad st (by simpa using f) ⟨s, .nil, .nil, by simp, by simp⟩
  exact ⟨O3, A.sr, by simpa using f'⟩
abbrev hpin (hid : Hid) (pin : List Nat) : List Nat := (hid.map (·.1)).toList ++ pin
theorem psFor (g : Gd c T k φ sc X) (hp : PassesOwn (model X.prog X.w) X.A X.env X.xe) {tg : Vi.T} {t : Expr} {it : I} {a : Ss} {as : List Stmt} (ht : chkT c sc tg t = true) (hi : PI X t y (rdI T φ it)) (ha : ∀ pin', PSs X as (rdS T (execs w φ pin' a) pin')) (ok : okX y = true) :
    PS X (.For t y as [] pos) (rdS T (exec w φ pin (.forr tg it a)) pin) := by
  refine ⟨fun pins s σ H D I q => ?_⟩
  obtain ⟨G, env, O, f, env', sr, e0, K⟩ := q
  simp only [exec, Option.bind_eq_some_iff, Option.map_eq_some_iff, Prod.mk.injEq] at e0
  obtain ⟨⟨xs, hid, env1⟩, e1, ⟨f0, env2⟩, e2, rfl, rfl⟩ := e0
  refine (ps_for hp g.calm hi (pgT g (hpin hid pin) ht) (ha (hpin hid pin)) (fun v => ok_fold ok v)).run pins s σ H D I ?_
  refine ⟨G, env, O, xs, hid, env1, sr, e1, fun J H1 G1 O1 W s1 iok nd dj gn ad hk f1 => ?_⟩
  have wsame : ∀ {G2 H2 : Hp} {O2 : List Addr}, Fm G1 H1 O1 G2 H2 O2 → ∀ a ∈ W, H2 a = H1 a := fun {G2 H2 O2} f a ha => by
    obtain ⟨u, hu⟩ := ad a ha
    rw [f.same a u hu (dj a ha), hu]
  have hst : ∀ {σ2 : L2.St}, Sta σ σ2 (hpin hid pin) → ∀ i d, hid = some (i, d) → σ2[i]? = σ[i]? := fun {σ2} st i d e => st.2 i (by subst e; simp [hpin])
  have hsub : ∀ {σ2 : L2.St}, Sta σ σ2 (hpin hid pin) → Sta σ σ2 pin := fun {σ2} st => st.sub fun i h => List.mem_append_right _ h
  refine ⟨fun i m σ2 H2 => m = xs.length - i ∧ i ≤ xs.length ∧ ∃ G2 env3 O2, forL (fun x e => (bindT (hpin hid pin) tg x e).bind fun e => execs w φ (hpin hid pin) a e) (xs.drop i) env3 = some (f0, env2) ∧ SR T G2 H2 env3 σ2 O2 ∧ Fm G1 H1 O1 G2 H2 O2 ∧ Sta σ σ2 (hpin hid pin),
    ⟨xs.length, by simp, Nat.zero_le _, G1, env1, O1, e2, s1, Fm.refl _ _ _, .refl _ _⟩, ?_⟩
  rintro i m σ2 H2 ⟨rfl, hi2, G2, env3, O2, ec, s2, f2, st2⟩
  by_cases hlt : i < xs.length
  · refine .inr ⟨iok.go i G2 H2 f2.g (wsame f2) s2.gs hlt, fun σ' H' => ∃ G2 env3 O2, forL (fun x e => (bindT (hpin hid pin) tg x e).bind fun e => execs w φ (hpin hid pin) a e) (xs.drop (i + 1)) env3 = some (f0, env2) ∧ SR T G2 H' env3 σ' O2 ∧ Fm G1 H1 O1 G2 H' O2 ∧ Sta σ σ' (hpin hid pin),
      fun σ' H' z => ⟨xs.length - (i + 1), by omega, rfl, hlt, z⟩, fun x H' yy => ?_⟩
    obtain ⟨G', d, ed, rd, fm0, gs'⟩ := iok.yld i G2 H2 x H' f2.g (wsame f2) s2.gs hlt yy
    have ex : xs.drop i = d :: xs.drop (i + 1) := by
      rw [List.drop_eq_getElem_cons hlt]
      rw [List.getElem?_eq_getElem hlt] at ed
      cases ed; rfl
    rw [ex] at ec
    simp only [forL, Option.bind_eq_some_iff] at ec
    obtain ⟨⟨fl, env5⟩, ⟨env4, b1, b2⟩, ec⟩ := ec
    have fw : Fm G2 H2 O2 G' H' O2 := (fm0.wide O2).less fun a ha => by simpa using ha
    have s3 : SR T G' H' env3 σ2 O2 := s2.frame fm0 (fun _ _ => by simp) gs'
    refine ⟨G', env3, O2, [], d, env4, ⟨s3, .one' (.frz rd), .nil, by simp, by simp⟩, b1, fun σ3 O3 s4 l4 k4 sub4 => ?_⟩
    have fa : Fm G1 H1 O1 G' H' O3 := (f2.trans fw).less fun a ha => by simpa using sub4 a ha
    have sta : Sta σ σ3 (hpin hid pin) := st2.trans ⟨l4, fun j hj => k4 j (bind_pin tg b1 j hj)⟩
    refine ⟨G', env4, O3, fl, env5, s4, b2, ?_⟩
    cases fl with
    | nx => exact fun σ' H'' G'' O' s' f' st' => ⟨G'', env5, O', ec, s', fa.trans f', sta.trans st'⟩
    | ct => exact fun σ' H'' G'' O' s' f' st' => ⟨G'', env5, O', ec, s', fa.trans f', sta.trans st'⟩
    | bk =>
      cases ec
      intro σ' H'' G'' O' s' f' st'
      obtain ⟨O5, s5, f5⟩ := unhideSR hk nd dj gn ad (hst (sta.trans st')) (fa.trans f') s'
      exact K σ' H'' G'' O5 s5 (f1.trans f5) (hsub (sta.trans st'))
    | rt dd =>
      cases ec
      intro v σ' H'' G'' O' Wv A f' st'
      obtain ⟨O5, A5, f5⟩ := unhideAS hk nd dj gn ad (hst (sta.trans st')) (fa.trans f') A
      exact K v σ' H'' G'' O5 Wv A5 (f1.trans f5) (hsub (sta.trans st'))
  · have hi3 : i = xs.length := by omega
    subst hi3
    refine .inl ⟨iok.stop _ G2 H2 f2.g (wsame f2) s2.gs (Nat.le_refl _), ?_⟩
    rw [List.drop_length] at ec
    simp only [forL, Option.some.injEq, Prod.mk.injEq] at ec
    obtain ⟨rfl, rfl⟩ := ec
    obtain ⟨O5, s5, f5⟩ := unhideSR hk nd dj gn ad (hst st2) f2 s2
    exact K σ2 H2 G2 O5 s5 (f1.trans f5) (hsub st2)
theorem PSet.or {t t' : TSet} (h : PSet X t) (h' : PSet X t') : PSet X (fun o i v H Q => t o i v H Q ∨ t' o i v H Q) := fun pins s σ H o i v ov iv u Q I a b d q => q.elim (h pins s σ H o i v ov iv u Q I a b d) (h' pins s σ H o i v ov iv u Q I a b d)
/-- a store into an owned thing at a slot -/
theorem storeEnd {G H : Hp} {env : Ev} {σ : L2.St} {O : List Addr} {i : Nat} {a : Addr} {o' : HO} {dd v' : D} {O2 : List Addr} (hv : σ[i]? = some (some (.ref a))) (A : AS T G H (env.set i none) σ O2 [.v v'] [.ref a] [a]) (mem : ∀ b, b ∈ O ↔ b ∈ [a] ∨ b ∈ O2) (gs : GSub G H)
    (r : RepO T G (upd H a o') dd (.ref a) [a]) : ∃ O4, SR T G (upd H a o') (env.set i (some dd)) σ O4 ∧ Fm G H O G (upd H a o') O4 := by
  have ga : G a = none := A.gn a (by simp)
  have aO : a ∉ O2 := A.dj a (by simp)
  have s3 : SR T G (upd H a o') (env.set i none) σ O2 := ⟨A.sr.rep.frame (.refl _) fun b u hb e => by rw [upd_ne (fun z : b = a => aO (z ▸ hb))]; exact e, A.sr.nd, A.sr.gn, gs.updL ga _⟩
  have A3 : AS T G (upd H a o') (env.set i none) σ O2 [.v dd] [.ref a] [a] := ⟨s3, .one' r, by simp, fun b hb => by simp only [List.mem_singleton] at hb; subst hb; exact aO, fun b hb => by simp only [List.mem_singleton] at hb; subst hb; exact ga⟩
  obtain ⟨O4, s4, m4⟩ := A3.into (by rw [getV_set]; simp) hv
  rw [List.set_set] at s4
  exact ⟨O4, s4, .refl _, fun b u e n => by rw [upd_ne (fun z : b = a => n (z ▸ (mem a).mpr (.inl (by simp))))]; exact e, fun b hb => .inl ((mem b).mpr ((m4 b).mp hb)), fun b u e => .inl e⟩
theorem psSetix (g : Gd c T k φ sc X) {i : Nat} {ix e : E} {xo xi : Expr} {spos : Pos} (hv : chkVar c sc i xo = true) (hix : PE X xi (rdP T φ ix)) (oi : okX xi = true) (he : PE X y (rdE T φ e)) (hl : notLc y = true) : PS X (.Assign [.Subscript xo xi spos] y pos) (rdS T (exec w φ pin (.setix i ix e)) pin) := by
  obtain ⟨nm, np, rfl, h1, h2, h3, h4⟩ := chkVar_of g hv
  have hx : PE X (.Name nm np) (tVar i) := pe_var (i := i) (by rw [g.hN]; exact h1) (g.vis h2) h3 h4
  refine (ps_asg (Vi.PE.z he) (pg_sub hx hix (PSet.or set_list (set_dict (by have := g.u64; omega))) (fun v => by cases xi <;> first | rfl | (simp [okX] at oi))) (show swapsWith y (some (.Subscript (.Name nm np) xi spos)) pos.line X.env = pure false from ok_sw hl _ _) (by cases y <;> rfl) rfl).imp fun D σ H q => ?_
  obtain ⟨G, env, O, f, env', s, e0, K⟩ := q
  simp only [exec, Option.bind_eq_some_iff, Option.map_eq_some_iff, Prod.mk.injEq] at e0
  obtain ⟨⟨d, env1⟩, e1, d0, e2, ⟨r, env2⟩, e3, kd, e4, dd, e5, dd', e6, rfl, rfl⟩ := e0
  refine ⟨G, env, O, d.frz, env1, s, by simp only [e1, Option.map_some], fun v H1 G1 O1 s1 r1 f1 => ?_⟩
  obtain ⟨vo, hvo, _⟩ := s1.get e2
  refine ⟨vo, hvo, G1, env1, O1, r, env2, s1, e3, fun vi H2 G2 O2 W2 A2 f2 => ?_⟩
  have rk := A2.ar.peek1 A2.sr e4
  obtain ⟨v', as, O3, hv', A3, f3, mem⟩ := A2.sr.out e5
  rw [hvo] at hv'
  cases hv'
  have r2 := r1.mono f2.g
  have f12 : Fm G H O G2 H2 O2 := f1.trans (f2.less fun a h => List.mem_append_right _ h)
  have gs := A2.sr.gs
  have ro := A3.ar.one
  unfold setOp at e6
  split at e6
  · simp only [Option.map_eq_some_iff] at e6
    obtain ⟨jj, hj, rfl⟩ := e6
    rw [rk.int]
    cases ro with
    | frz zz => exact absurd zz.noown (by simp [Vi.D.own])
    | @lst a us _ ha rz hz =>
      refine .inl ⟨a, us, _, jj, rfl, rfl, ha, by rw [← rz.length]; exact hj, ?_⟩
      obtain ⟨O4, s4, f4⟩ := storeEnd (dd := .lst true (_)) (o' := .lst (us.set jj v)) hvo A3 mem gs (.lst upd_same (rz.set jj r2) (by rw [List.length_set]; exact hz))
      exact K σ _ G2 O4 s4 (f12.trans f4) (.refl _ _)
  · split at e6
    · rename_i hlt
      cases e6
      rw [rk.int]
      cases ro with
      | frz zz => exact absurd zz.noown (by simp [Vi.D.own])
      | @dic a us _ ha rz hz =>
        have hlt2 : us.length < sizeLine := by rw [← rz.length]; exact hlt
        refine .inr ⟨a, _, rfl, .inl ⟨us, (Sum.inl _ : Key), ha, rfl, hlt2, rfl⟩, ?_⟩
        obtain ⟨O4, s4, f4⟩ := storeEnd (dd := .dic true (_)) hvo A3 mem gs (.dic upd_same (rz.put _ r2) (Nat.le_trans (length_putK _ _ _) hlt2))
        exact K σ _ G2 O4 s4 (f12.trans f4) (.refl _ _)
    · cases e6
  · split at e6
    · rename_i hlt
      cases e6
      rw [rk.str]
      cases ro with
      | frz zz => exact absurd zz.noown (by simp [Vi.D.own])
      | @dic a us _ ha rz hz =>
        have hlt2 : us.length < sizeLine := by rw [← rz.length]; exact hlt
        refine .inr ⟨a, _, rfl, .inl ⟨us, (Sum.inr _ : Key), ha, rfl, hlt2, rfl⟩, ?_⟩
        obtain ⟨O4, s4, f4⟩ := storeEnd (dd := .dic true (_)) hvo A3 mem gs (.dic upd_same (rz.put _ r2) (Nat.le_trans (length_putK _ _ _) hlt2))
        exact K σ _ G2 O4 s4 (f12.trans f4) (.refl _ _)
    · cases e6
  · split at e6
    · rename_i hlt
      simp only [Option.map_eq_some_iff] at e6
      obtain ⟨ks, hk, rfl⟩ := e6
      obtain ⟨b, vs, rfl, hb, rv, _⟩ := rk.tup gs
      have hvs := rv.keysV hk
      subst hvs
      cases ro with
      | frz zz => exact absurd zz.noown (by simp [Vi.D.own])
      | @dit a us _ ha rz hz =>
        have hlt2 : us.length < sizeLine := by rw [← rz.length]; exact hlt
        refine .inr ⟨a, _, rfl, .inr ⟨us, ks, b, ha, rfl, hb, hlt2, rfl⟩, ?_⟩
        obtain ⟨O4, s4, f4⟩ := storeEnd (dd := .dit true (_)) hvo A3 mem gs (.dit upd_same (rz.put _ r2) (Nat.le_trans (length_putK _ _ _) hlt2))
        exact K σ _ G2 O4 s4 (f12.trans f4) (.refl _ _)
    · cases e6
  · cases e6
theorem putS_len (i : Nat) (v : V) (vs : List (Option V)) : True := trivial
theorem RepF.put {G : Hp} {ci : CI} (inj : ∀ f g i, ci.slots.lookup f = some i → ci.slots.lookup g = some i → f = g) {i : Nat} {f : Str} {d : D} {v : V} (hf : ci.slots.lookup f = some i) (r : Rep T G d v) : ∀ {fs : List (Str × D)} {vs : List (Option V)}, RepF T G ci vs fs → RepF T G ci (SlX.putS i v vs) (putD fs f d) := by
  have other : ∀ {fs : List (Str × D)} {vs : List (Option V)}, RepF T G ci vs fs → (∀ p ∈ fs, p.1 ≠ f) → RepF T G ci (SlX.putS i v vs) fs := by
    intro fs
    induction fs with
    | nil => intro vs h _; exact .nil _ _
    | cons q fs ih =>
      intro vs h hn
      cases h with
      | @cons _ _ gg j d' v' _ a1 a2 a3 a4 =>
        refine .cons a1 ?_ a3 (ih a4 fun q hq => hn q (List.mem_cons_of_mem _ hq))
        refine (SlX.putS_ne ?_).mpr a2
        intro e
        subst e
        exact hn _ List.mem_cons_self (inj _ _ _ a1 hf)
  have upd : ∀ {fs : List (Str × D)} {vs : List (Option V)}, RepF T G ci vs fs → RepF T G ci (SlX.putS i v vs) (fs.map fun kv => if kv.1 = f then (kv.1, d) else kv) := by
    intro fs
    induction fs with
    | nil => intro vs h; exact .nil _ _
    | cons q fs ih =>
      intro vs h
      cases h with
      | @cons _ _ gg j d' v' _ a1 a2 a3 a4 =>
        simp only [List.map_cons]
        by_cases e : gg = f
        · subst e
          rw [if_pos rfl]
          exact .cons hf (SlX.putS_get i v vs) r (ih a4)
        · rw [if_neg e]
          refine .cons a1 ((SlX.putS_ne ?_).mpr a2) a3 (ih a4)
          intro z
          subst z
          exact e (inj _ _ _ a1 hf)
  have snoc : ∀ {fs : List (Str × D)} {vs : List (Option V)}, RepF T G ci vs fs → vs[i]? = some (some v) → RepF T G ci vs (fs ++ [(f, d)]) := by
    intro fs
    induction fs with
    | nil => intro vs h e; exact .cons hf e r (.nil _ _)
    | cons q fs ih =>
      intro vs h e
      cases h with
      | cons a1 a2 a3 a4 => exact .cons a1 a2 a3 (ih a4 e)
  intro fs vs h
  unfold putD
  split
  · exact upd h
  · rename_i hn
    refine snoc (other h fun q hq e => hn ?_) (SlX.putS_get i v vs)
    rw [List.any_eq_true]
    exact ⟨q, hq, decide_eq_true e⟩
theorem psSetat (g : Gd c T k φ sc X) {i : Nat} {e : E} {cn f : Str} {xo : Expr} {apos : Pos} (hv : chkVar c sc i xo = true) (he : PE X y (rdE T φ e)) (hl : notLc y = true) (hs : (cn, f) ∈ c.sa) : PS X (.Assign [.Attribute xo f apos] y pos) (rdS T (exec w φ pin (.setat i cn f e)) pin) := by
  obtain ⟨nm, np, rfl, h1, h2, h3, h4⟩ := chkVar_of g hv
  have hx : PE X (.Name nm np) (tVar i) := pe_var (i := i) (by rw [g.hN]; exact h1) (g.vis h2) h3 h4
  obtain ⟨ci, j, hc, hj⟩ := g.sa _ hs
  obtain ⟨pp, sl1⟩ := (g.ct _ _ hc).slot _ _ hj
  refine (SlX.ps_sl hx (Vi.PE.z he) (ok_sw hl _ _)).imp fun D σ H q => ?_
  obtain ⟨G, env, O, fl, env', s, e0, K⟩ := q
  simp only [exec, Option.bind_eq_some_iff] at e0
  obtain ⟨⟨d, env1⟩, e1, d0, e2, e3⟩ := e0
  split at e3
  · split at e3
    · rename_i cc fs hcn
      subst hcn
      simp only [Option.some.injEq, Prod.mk.injEq] at e3
      obtain ⟨rfl, rfl⟩ := e3
      refine ⟨G, env, O, d.frz, env1, s, by simp only [e1, Option.map_some], fun v H1 G1 O1 s1 r1 f1 => ?_⟩
      obtain ⟨vo, as, O2, hvo, A, f2, mem⟩ := s1.out e2
      refine ⟨vo, hvo, ?_⟩
      have ro := A.ar.one
      cases ro with
      | frz zz => exact absurd zz.noown (by simp [Vi.D.own])
      | @ins a dx _ ci' vs _ hc' sl hdx ne rf =>
        rw [hc] at hc'
        cases hc'
        refine ⟨a, ci.adr, dx, pp, vs, j, rfl, sl, (g.ct _ _ hc).cls, sl1, ?_⟩
        have ga : G1 a = none := A.gn a (by simp)
        have gd : G1 dx = none := A.gn dx (by simp)
        have aO : a ∉ O2 := A.dj a (by simp)
        have dO : dx ∉ O2 := A.dj dx (by simp)
        have keep : ∀ b, b ≠ a → b ≠ dx → SlX.slH H1 a ci.adr dx (SlX.putS j v vs) b = H1 b := fun b p q => SlX.slH_ne p q
        have gs2 : GSub G1 (SlX.slH H1 a ci.adr dx (SlX.putS j v vs)) := fun b u e => by
          rw [keep b (fun z => by subst z; rw [e] at ga; cases ga) (fun z => by subst z; rw [e] at gd; cases gd)]
          exact s1.gs b u e
        have hdx2 : SlX.slH H1 a ci.adr dx (SlX.putS j v vs) dx = some (.xd []) := by unfold SlX.slH; rw [upd_ne ne, upd_same]
        have s3 : SR T G1 (SlX.slH H1 a ci.adr dx (SlX.putS j v vs)) (env1.set i none) σ O2 := ⟨A.sr.rep.frame (.refl _) fun b u hb e => by
          rw [keep b (fun z => aO (z ▸ hb)) (fun z => dO (z ▸ hb))]; exact e, A.sr.nd, A.sr.gn, gs2⟩
        have A3 : AS T G1 (SlX.slH H1 a ci.adr dx (SlX.putS j v vs)) (env1.set i none) σ O2 [.v (.ins true _ (putD fs f d.frz))] [.ref a] [a, dx] :=
          ⟨s3, .one' (.ins hc (SlX.slH_slt ne) ⟨_, hdx2⟩ ne (rf.put (g.ct _ _ hc).inj hj r1)), A.nd, A.dj, A.gn⟩
        obtain ⟨O4, s4, m4⟩ := A3.into (by rw [getV_set]; simp) hvo
        rw [List.set_set] at s4
        refine K σ _ G1 O4 s4 (f1.trans ⟨.refl _, fun b u e n => ?_, fun b hb => .inl ((mem b).mpr ((m4 b).mp hb)), fun b u e => .inl e⟩) (.refl _ _)
        rw [keep b (fun z => n ((mem b).mpr (.inl (by simp [z])))) (fun z => n ((mem b).mpr (.inl (by simp [z]))))]
        exact e
    · cases e3
  · cases e3
/-! ### stores exchanged -/
theorem denO_len : ∀ {es : Es} {env env' : Ev} {ds : List D}, denO φ es env = some (ds, env') → ds.length = esLen es
  | .nil, _, _, _, e => by simp only [denO, Option.some.injEq, Prod.mk.injEq] at e; obtain ⟨rfl, _⟩ := e; rfl
  | .cons true _ _, _, _, _, e => by simp [denO] at e
  | .cons false _ r, _, _, _, e => by
    simp only [denO, Option.bind_eq_some_iff, Option.map_eq_some_iff, Prod.mk.injEq] at e
    obtain ⟨q, _, ⟨s, env2⟩, e2, rfl, _⟩ := e
    simp [esLen, denO_len e2]
/-- values stored one after another -/
theorem puts {G H : Hp} : ∀ {is : List Nat} {ds : List D} {env : Ev} {σ : L2.St} {O W : List Addr} {vs : List V}, AR T G H σ (ds.map .v) vs W → SR T G H env σ O → W.Nodup → (∀ a ∈ W, a ∉ O) → (∀ a ∈ W, G a = none) → is.length = ds.length → (∀ i ∈ is, i < env.length) →
    ∃ O', SR T G H (setPar is ds env) ((is.zip vs).foldl (fun s q => s.set q.1 (some q.2)) σ) O' ∧ ∀ a, a ∈ O' → a ∈ W ∨ a ∈ O
  | [], [], env, σ, O, W, vs, ar, s, _, _, _, _, _ => by cases ar; exact ⟨O, by simpa [setPar] using s, fun a h => .inr h⟩
  | i :: is, d :: ds, env, σ, O, W, vs, ar, s, nd, dj, gn, hl, hi => by
    simp only [List.map_cons] at ar
    cases ar with
    | @v _ v as _ vs W' r ar =>
      obtain ⟨n1, n2, n3⟩ := List.nodup_append.mp nd
      have A : AS T G H env σ O [.v d] [v] as := ⟨s, .one' r, n1, fun a ha => dj a (List.mem_append_left _ ha), fun a ha => gn a (List.mem_append_left _ ha)⟩
      obtain ⟨O1, s1, m1⟩ := A.put (hi i List.mem_cons_self)
      have ar' : ∀ {ars : List Ar} {us : List V} {W2 : List Addr}, AR T G H σ ars us W2 → (∀ r ∈ ars, ∃ d, r = .v d) → AR T G H (σ.set i (some v)) ars us W2 := fun h => by
        induction h with
        | nil => intro _; exact .nil
        | v x _ ih => intro k; exact .v x (ih fun r hr => k r (List.mem_cons_of_mem _ hr))
        | r e _ ih => intro k; obtain ⟨d, hd⟩ := k _ List.mem_cons_self; cases hd
      obtain ⟨O2, s2, m2⟩ := puts (is := is) (ds := ds) (ar' ar (fun r hr => by obtain ⟨d, _, rfl⟩ := List.mem_map.mp hr; exact ⟨d, rfl⟩)) s1 n2 (fun a ha z => by
        rcases List.mem_append.mp (m1 a z) with q | q
        · exact n3 a q a ha rfl
        · exact dj a (List.mem_append_right _ ha) q) (fun a ha => gn a (List.mem_append_right _ ha)) (by simpa using hl) (fun j hj => by rw [List.length_set]; exact hi j (List.mem_cons_of_mem _ hj))
      refine ⟨O2, by simpa [setPar] using s2, fun a ha => ?_⟩
      rcases m2 a ha with q | q
      · exact .inl (List.mem_append_right _ q)
      · rcases List.mem_append.mp (m1 a q) with q | q
        · exact .inl (List.mem_append_left _ q)
        · exact .inr q
  | [], _ :: _, _, _, _, _, _, _, _, _, _, _, hl, _ => by simp at hl
  | _ :: _, [], _, _, _, _, _, _, _, _, _, _, hl, _ => by simp at hl
theorem foldl_sta {pin : List Nat} : ∀ (is : List Nat) (vs : List V) (σ : L2.St), (∀ i ∈ is, i ∉ pin) → Sta σ ((is.zip vs).foldl (fun s q => s.set q.1 (some q.2)) σ) pin
  | [], _, σ, _ => .refl _ _
  | _ :: _, [], σ, _ => .refl _ _
  | i :: is, v :: vs, σ, h => by
    refine Sta.trans (b := σ.set i (some v)) ⟨by simp, fun j hj => List.getElem?_set_ne fun z : i = j => by subst z; exact h _ List.mem_cons_self hj⟩ (foldl_sta is vs _ fun j hj => h j (List.mem_cons_of_mem _ hj))
theorem parRd {is : List Nat} {es : Es} {D : Ends} {σ : L2.St} {H : Hp} (q : rdS T (exec w φ pin (.par is es)) pin D σ H) : rdO T φ es σ H fun vs H1 => vs.length = is.length ∧ D.nx ((is.zip vs).foldl (fun s q => s.set q.1 (some q.2)) σ) H1 := by
  obtain ⟨G, env, O, f, env', s, e0, K⟩ := q
  simp only [exec, Option.bind_eq_some_iff] at e0
  obtain ⟨⟨ds, env1⟩, e1, e2⟩ := e0
  split at e2
  · rename_i hc
    simp only [Option.some.injEq, Prod.mk.injEq] at e2
    obtain ⟨rfl, rfl⟩ := e2
    obtain ⟨hl, ha⟩ := hc
    rw [List.all_eq_true] at ha
    have ha2 : ∀ i ∈ is, i ∉ pin ∧ i < env1.length := fun i hi => by
      have q := ha i hi
      simp only [Bool.and_eq_true, Bool.not_eq_true', decide_eq_true_eq] at q
      exact ⟨by simpa using q.1, q.2⟩
    refine ⟨G, env, O, ds.map .v, env1, s, by simp only [e1, Option.map_some], fun vs H1 G1 O1 W A f1 => ?_⟩
    have hvl := A.ar.len
    rw [List.length_map] at hvl
    obtain ⟨O2, s2, m2⟩ := puts A.ar A.sr A.nd A.dj A.gn hl (fun i hi => (ha2 i hi).2)
    refine ⟨by rw [← hvl]; exact hl.symm, K _ H1 G1 O2 s2 (f1.less fun a h => ?_) (foldl_sta _ _ _ fun i hi => (ha2 i hi).1)⟩
    rcases m2 a h with z | z
    · exact List.mem_append_left _ z
    · exact List.mem_append_right _ z
  · cases e2
theorem loc_eq (g : Gd c T k φ sc X) {yy : Str} (hl : isLoc sc yy = true) : (X.env.kindOf yy == some .local) = (sc.names.lookup yy == some .local) := by
  unfold isLoc at hl
  split at hl
  · rename_i e
    rw [e]
    rcases g.scp _ _ e with q | ⟨q, _⟩
    · show (X.env.scope.names.lookup yy == some .local) = true; rw [q]; rfl
    · cases q
  · rename_i e
    rw [e]
    rcases g.scp _ _ e with q | ⟨q, _⟩
    · show (X.env.scope.names.lookup yy == some .local) = false; rw [q]; rfl
    · cases q
  · cases hl
def isLocal (sc : Scope) (x : Str) : Bool := sc.names.lookup x == some .local
theorem psPar2 (g : Gd c T k φ sc X) {i j : Nat} {es : Es} {x1 x2 : Str} {p1 p2 pt pt2 : Pos} {k1 k2 : Nat} {a b : Expr} (h1 : c.N[i]? = some x1) (h2 : c.N[j]? = some x2) (l1 : isLocal sc x1 = true) (l2 : isLocal sc x2 = true) (hl : p1.line = p2.line) (hne : x1 ≠ x2)
    (hf : [a, b].all (foldedForSure 8) = false) (hc : [a, b].all (constantsAlone 8) = false) (h : PEs X T φ [a, b] es) (hij : i ≠ j) : PS X (.Assign [.Tuple [.Name x1 p1, .Name x2 p2] k1 pt] (.Tuple [a, b] k2 pt2) pos) (rdS T (exec w φ pin (.par [i, j] es)) pin) := by
  refine PS.ofOk fun ok => ?_
  have hb : X.env.blockKind = .function := by unfold Env.blockKind; rw [ok.kind]; rfl
  have key : ∀ {yy : Str}, isLocal sc yy = true → X.env.scope.names.lookup yy = some .local := fun {yy} hh => by
    have e : sc.names.lookup yy = some .local := by simpa [isLocal] using hh
    rcases g.scp _ _ e with q | ⟨q, _⟩
    · exact q
    · cases q
  have e1 : X.env.kindOf x1 = some .local := key l1
  have e2 : X.env.kindOf x2 = some .local := key l2
  have oks := h.ok
  simp only [List.all_cons, List.all_nil, Bool.and_true, Bool.and_eq_true] at oks
  have hw : swappedStores [.Tuple [.Name x1 p1, .Name x2 p2] k1 pt] (.Tuple [a, b] k2 pt2) X.env = pure (some [x1, x2]) := by
    unfold swappedStores
    simp only [hb]
    rw [if_neg (by simp)]
    rw [if_neg (by
      simp only [List.any_cons, List.any_nil, Bool.or_false, Bool.or_eq_true]
      rintro (hh | hh)
      · (have o := oks.1; revert o hh; cases a <;> intro hh o <;> first | (simp at hh; done) | (simp [okX] at o; done))
      · (have o := oks.2; revert o hh; cases b <;> intro hh o <;> first | (simp at hh; done) | (simp [okX] at o; done)))]
    simp [e1, e2, hl, Expr.pos, List.eraseDups_cons, hne, Ne.symm hne]
    rw [if_neg (by simpa using hf), if_neg (by simpa using hc)]
  refine (ps_par g.calm g.nX (by rw [g.hN]; exact h1) (by rw [g.hN]; exact h2) hij (key l1) (key l2) h.po hw).imp fun D σ H q => ?_
  obtain ⟨G, env, O, r, env', s, e, K⟩ := parRd q
  refine ⟨G, env, O, r, env', s, e, fun vs H1 G1 O1 W A f => ?_⟩
  obtain ⟨hv, kk⟩ := K vs H1 G1 O1 W A f
  match vs, hv, kk with
  | [v, u], _, kk => exact ⟨v, u, rfl, kk⟩
theorem psPar3 (g : Gd c T k φ sc X) {i j l : Nat} {es : Es} {x1 x2 x3 : Str} {p1 p2 p3 pt pt2 : Pos} {k1 k2 : Nat} {a b d : Expr} (h1 : c.N[i]? = some x1) (h2 : c.N[j]? = some x2) (h3 : c.N[l]? = some x3) (l1 : isLocal sc x1 = true) (l2 : isLocal sc x2 = true) (l3 : isLocal sc x3 = true) (hl : p1.line = p2.line) (hl3 : p1.line = p3.line) (hne : x1 ≠ x2) (hne2 : x1 ≠ x3) (hne3 : x2 ≠ x3)
    (hf : [a, b, d].all (foldedForSure 8) = false) (hc : [a, b, d].all (constantsAlone 8) = false) (h : PEs X T φ [a, b, d] es) (hij : i ≠ j) (hil : i ≠ l) (hjl : j ≠ l) : PS X (.Assign [.Tuple [.Name x1 p1, .Name x2 p2, .Name x3 p3] k1 pt] (.Tuple [a, b, d] k2 pt2) pos) (rdS T (exec w φ pin (.par [i, j, l] es)) pin) := by
  refine PS.ofOk fun ok => ?_
  have hb : X.env.blockKind = .function := by unfold Env.blockKind; rw [ok.kind]; rfl
  have key : ∀ {yy : Str}, isLocal sc yy = true → X.env.scope.names.lookup yy = some .local := fun {yy} hh => by
    have e : sc.names.lookup yy = some .local := by simpa [isLocal] using hh
    rcases g.scp _ _ e with q | ⟨q, _⟩
    · exact q
    · cases q
  have e1 : X.env.kindOf x1 = some .local := key l1
  have e2 : X.env.kindOf x2 = some .local := key l2
  have e3 : X.env.kindOf x3 = some .local := key l3
  have oks := h.ok
  simp only [List.all_cons, List.all_nil, Bool.and_true, Bool.and_eq_true] at oks
  have hw : swappedStores [.Tuple [.Name x1 p1, .Name x2 p2, .Name x3 p3] k1 pt] (.Tuple [a, b, d] k2 pt2) X.env = pure (some [x1, x2, x3]) := by
    unfold swappedStores
    simp only [hb]
    rw [if_neg (by simp)]
    rw [if_neg (by
      simp only [List.any_cons, List.any_nil, Bool.or_false, Bool.or_eq_true]
      rintro (hh | hh | hh)
      · (have o := oks.1; revert o hh; cases a <;> intro hh o <;> first | (simp at hh; done) | (simp [okX] at o; done))
      · (have o := oks.2.1; revert o hh; cases b <;> intro hh o <;> first | (simp at hh; done) | (simp [okX] at o; done))
      · (have o := oks.2.2; revert o hh; cases d <;> intro hh o <;> first | (simp at hh; done) | (simp [okX] at o; done)))]
    simp [e1, e2, e3, ← hl, ← hl3, Expr.pos, List.eraseDups_cons, hne, Ne.symm hne, hne2, Ne.symm hne2, hne3, Ne.symm hne3]
    rw [if_neg (by simpa using hf), if_neg (by simpa using hc)]
  refine (ps_par3 g.calm g.nX (by rw [g.hN]; exact h1) (by rw [g.hN]; exact h2) (by rw [g.hN]; exact h3) hij hil hjl (key l1) (key l2) (key l3) h.po hw).imp fun D σ H q => ?_
  obtain ⟨G, env, O, r, env', s, e, K⟩ := parRd q
  refine ⟨G, env, O, r, env', s, e, fun vs H1 G1 O1 W A f => ?_⟩
  obtain ⟨hv, kk⟩ := K vs H1 G1 O1 W A f
  match vs, hv, kk with
  | [v, u, z], _, kk => exact ⟨v, u, z, rfl, kk⟩
end
end Vi
end
section
set_option maxRecDepth 100000
/-! Vi, part V: the check of statements, and that it is sound. -/
namespace Vi
open PySem PySem.Spec PyProof.Rows L2

def isCompE : E → Bool
  | .comp _ _ _ _ _ => true
  | _ => false
def isLcX : Expr → Bool
  | .ListComp _ [⟨_, _, _, _⟩] _ _ => true
  | _ => false
def hAsg (c : Cf) (sc : Scope) (tg : T) (ce : Bool) (f : Expr → Bool) : Stmt → Bool
  | .Assign [t] y _ => chkT c sc tg t && f y && (if ce then isLcX y else notLc y && (okAsg t y || okCell sc t y))
  | _ => false
def hPar (c : Cf) (sc : Scope) (is : List Nat) (fs : List Expr → Bool) : Stmt → Bool
  | .Assign [.Tuple [.Name x1 p1, .Name x2 p2] _ _] (.Tuple [a, b] _ _) _ => (match is with
    | [i, j] => decide (c.N[i]? = some x1) && decide (c.N[j]? = some x2) && isLocal sc x1 && isLocal sc x2 && decide (p1.line = p2.line) && decide (x1 ≠ x2) && !([a, b].all (foldedForSure 8)) && !([a, b].all (constantsAlone 8)) && fs [a, b] && decide (i ≠ j)
    | _ => false)
  | .Assign [.Tuple [.Name x1 p1, .Name x2 p2, .Name x3 p3] _ _] (.Tuple [a, b, d] _ _) _ => (match is with
    | [i, j, l] => decide (c.N[i]? = some x1) && decide (c.N[j]? = some x2) && decide (c.N[l]? = some x3) && isLocal sc x1 && isLocal sc x2 && isLocal sc x3 && decide (p1.line = p2.line) && decide (p1.line = p3.line) && decide (x1 ≠ x2) && decide (x1 ≠ x3) && decide (x2 ≠ x3) &&
        !([a, b, d].all (foldedForSure 8)) && !([a, b, d].all (constantsAlone 8)) && fs [a, b, d] && decide (i ≠ j) && decide (i ≠ l) && decide (j ≠ l)
    | _ => false)
  | _ => false
def hSetix (c : Cf) (sc : Scope) (i : Nat) (fi fe : Expr → Bool) : Stmt → Bool
  | .Assign [.Subscript xo xi _] y _ => chkVar c sc i xo && fi xi && okX xi && fe y && notLc y
  | _ => false
def hSetat (c : Cf) (sc : Scope) (i : Nat) (cn f : Str) (fe : Expr → Bool) : Stmt → Bool
  | .Assign [.Attribute xo g _] y _ => chkVar c sc i xo && g == f && fe y && notLc y && c.sa.contains (cn, f)
  | _ => false
def hExp (fe : Expr → Bool) : Stmt → Bool
  | .Expr y _ => fe y && notLc y
  | _ => false
def hRet (fe : Expr → Bool) : Stmt → Bool
  | .Return (some y) _ => fe y
  | _ => false
def hRetN : Stmt → Bool
  | .Return none _ => true
  | _ => false
def hIf (fe : Expr → Bool) (fa fb : List Stmt → Bool) : Stmt → Bool
  | .If y as bs _ => fe y && fa as && fb bs
  | _ => false
def hWhl (fe : Expr → Bool) (fa : List Stmt → Bool) : Stmt → Bool
  | .While y as [] _ => fe y && fa as
  | _ => false
def hFor (c : Cf) (sc : Scope) (tg : T) (fi : Expr → Expr → Bool) (fa : List Stmt → Bool) : Stmt → Bool
  | .For t y as [] _ => chkT c sc tg t && fi t y && okX y && fa as
  | _ => false
def hPass : Stmt → Bool
  | .Pass _ => true
  | _ => false
def hBrk : Stmt → Bool
  | .Break _ => true
  | _ => false
def hCnt : Stmt → Bool
  | .Continue _ => true
  | _ => false
def hSs (f : Stmt → Bool) (fr : List Stmt → Bool) : List Stmt → Bool
  | x :: xs => f x && fr xs
  | [] => false
mutual
def chkS (c : Cf) : S → Scope → Stmt → Bool
  | .asg tg e, sc, x => hAsg c sc tg (isCompE e) (fun y => chk c e sc y) x
  | .par is es, sc, x => hPar c sc is (fun y => chkA c es sc y) x
  | .setix i ix e, sc, x => hSetix c sc i (fun y => chk c ix sc y) (fun y => chk c e sc y) x
  | .setat i cn f e, sc, x => hSetat c sc i cn f (fun y => chk c e sc y) x
  | .exp e, sc, x => hExp (fun y => chk c e sc y) x
  | .ret e, sc, x => hRet (fun y => chk c e sc y) x
  | .retN, _, x => hRetN x
  | .iff e a b, sc, x => hIf (fun y => chk c e sc y) (fun ys => chkSs c a sc ys) (fun ys => chkSs c b sc ys) x
  | .whl e a, sc, x => hWhl (fun y => chk c e sc y) (fun ys => chkSs c a sc ys) x
  | .forr tg it a, sc, x => hFor c sc tg (fun t y => chkI c it sc t y) (fun ys => chkSs c a sc ys) x
  | .pass, _, x => hPass x
  | .brk, _, x => hBrk x
  | .cont, _, x => hCnt x
  | .rais, _, _ => true
def chkSs (c : Cf) : Ss → Scope → List Stmt → Bool
  | .nil, _, xs => xs.isEmpty
  | .cons s r, sc, xs => hSs (fun y => chkS c s sc y) (fun ys => chkSs c r sc ys) xs
end

section
variable {c : Cf} {T : Tx} {k : Nat} {φ : Phi} {n : Nat} {sc : Scope} {x : Stmt} {xs : List Stmt} {X : Cx} {w : Nat}
structure AllS (c : Cf) (T : Tx) (k : Nat) (φ : Phi) (w : Nat) (n : Nat) : Prop where
  s : ∀ (s : S), sizeOf s < n → ∀ {sc : Scope} {x : Stmt} {X : Cx} (pin : List Nat), Gd c T k φ sc X → PassesOwn (model X.prog X.w) X.A X.env X.xe → chkS c s sc x = true → PS X x (rdS T (exec w φ pin s) pin)
  ss : ∀ (s : Ss), sizeOf s < n → ∀ {sc : Scope} {xs : List Stmt} {X : Cx} (pin : List Nat), Gd c T k φ sc X → PassesOwn (model X.prog X.w) X.A X.env X.xe → chkSs c s sc xs = true → PSs X xs (rdS T (execs w φ pin s) pin)
theorem sstep (IH : AllS c T k φ w n) (s : S) (hn : sizeOf s < n + 1) {sc : Scope} {x : Stmt} {X : Cx} (pin : List Nat) (g : Gd c T k φ sc X) (hp : PassesOwn (model X.prog X.w) X.A X.env X.xe) (h : chkS c s sc x = true) : PS X x (rdS T (exec w φ pin s) pin) := by
  cases s with
  | asg tg e =>
    simp only [chkS] at h
    unfold hAsg at h
    split at h
    · rename_i t y pos
      simp only [Bool.and_eq_true] at h
      obtain ⟨⟨h1, h2⟩, h3⟩ := h
      cases hc : isCompE e with
      | false =>
        rw [hc] at h3
        simp only [Bool.false_eq_true, if_false, Bool.and_eq_true] at h3
        exact psAsg g h1 (snd e g h2).pe h3.1 h3.2
      | true =>
        rw [hc] at h3
        simp only [if_true] at h3
        cases e <;> simp only [isCompE, Bool.false_eq_true] at hc
        rename_i e tg' it ifs own
        unfold isLcX at h3
        split at h3
        · rename_i xe xt xi xifs aa scope lpos
          have ha : aa = 0 := by
            simp only [chk] at h2
            unfold hComp at h2
            split at h2
            · rename_i hh
              injection hh with _ hh _ _
              injection hh with hh _
              injection hh with _ _ _ hh
            · cases h2
          subst ha
          exact psAsgLc g h1 h2
        · cases h3
    · cases h
  | par is es =>
    simp only [chkS] at h
    unfold hPar at h
    split at h
    · split at h
      · simp only [Bool.and_eq_true, decide_eq_true_eq, Bool.not_eq_true'] at h
        obtain ⟨⟨⟨⟨⟨⟨⟨⟨⟨h1, h2⟩, h3⟩, h4⟩, h5⟩, h6⟩, h7⟩, h8⟩, h9⟩, h10⟩ := h
        exact psPar2 g h1 h2 h3 h4 h5 h6 h7 h8 (sndA es g h9) h10
      · cases h
    · split at h
      · simp only [Bool.and_eq_true, decide_eq_true_eq, Bool.not_eq_true'] at h
        obtain ⟨⟨⟨⟨⟨⟨⟨⟨⟨⟨⟨⟨⟨⟨⟨⟨h1, h2⟩, h3⟩, h4⟩, h5⟩, h6⟩, h7⟩, h8⟩, h9⟩, h10⟩, h11⟩, h12⟩, h13⟩, h14⟩, h15⟩, h16⟩, h17⟩ := h
        exact psPar3 g h1 h2 h3 h4 h5 h6 h7 h8 h9 h10 h11 h12 h13 (sndA es g h14) h15 h16 h17
      · cases h
    · cases h
  | setix i ix e =>
    simp only [chkS] at h
    unfold hSetix at h
    split at h
    · simp only [Bool.and_eq_true] at h
      obtain ⟨⟨⟨⟨h1, h2⟩, h3⟩, h4⟩, h5⟩ := h
      exact psSetix g h1 (snd ix g h2).pp h3 (snd e g h4).pe h5
    · cases h
  | setat i cn f e =>
    simp only [chkS] at h
    unfold hSetat at h
    split at h
    · simp only [Bool.and_eq_true, beq_iff_eq] at h
      obtain ⟨⟨⟨⟨h1, h2⟩, h3⟩, h4⟩, h5⟩ := h
      subst h2
      exact psSetat g h1 (snd e g h3).pe h4 (by simpa using h5)
    · cases h
  | exp e =>
    simp only [chkS] at h
    unfold hExp at h
    split at h
    · simp only [Bool.and_eq_true] at h
      exact psExp (snd e g h.1).pe h.2
    · cases h
  | ret e =>
    simp only [chkS] at h
    unfold hRet at h
    split at h
    · exact psRet g h
    · cases h
  | retN =>
    simp only [chkS] at h
    unfold hRetN at h
    split at h
    · exact psRetN
    · cases h
  | iff e a b =>
    simp only [chkS] at h
    unfold hIf at h
    split at h
    · simp only [Bool.and_eq_true] at h
      exact psIf (snd e g h.1.1).pt (IH.ss a (by simp at hn ⊢; omega) pin g hp h.1.2) (IH.ss b (by simp at hn ⊢; omega) pin g hp h.2)
    · cases h
  | whl e a =>
    simp only [chkS] at h
    unfold hWhl at h
    split at h
    · simp only [Bool.and_eq_true] at h
      exact psWhile hp (snd e g h.1).pt (IH.ss a (by simp at hn ⊢; omega) pin g hp h.2)
    · cases h
  | forr tg it a =>
    simp only [chkS] at h
    unfold hFor at h
    split at h
    · simp only [Bool.and_eq_true] at h
      exact psFor g hp h.1.1.1 (sndI it g h.1.1.2) (fun pin' => IH.ss a (by simp at hn ⊢; omega) pin' g hp h.2) h.1.2
    · cases h
  | pass =>
    simp only [chkS] at h
    unfold hPass at h
    split at h
    · exact psFlow (f := .nx) ps_pass (fun env => by simp only [exec]) (fun _ e => nomatch e) fun D σ H q => q
    · cases h
  | brk =>
    simp only [chkS] at h
    unfold hBrk at h
    split at h
    · exact psFlow (f := .bk) ps_break (fun env => by simp only [exec]) (fun _ e => nomatch e) fun D σ H q => q
    · cases h
  | cont =>
    simp only [chkS] at h
    unfold hCnt at h
    split at h
    · exact psFlow (f := .ct) ps_continue (fun env => by simp only [exec]) (fun _ e => nomatch e) fun D σ H q => q
    · cases h
  | rais =>
    refine ps_never.imp fun D σ H q => ?_
    obtain ⟨G, env, O, f, env', s, e0, K⟩ := q
    simp [exec] at e0
theorem sssstep (IH : AllS c T k φ w n) (s : Ss) (hn : sizeOf s < n + 1) {sc : Scope} {xs : List Stmt} {X : Cx} (pin : List Nat) (g : Gd c T k φ sc X) (hp : PassesOwn (model X.prog X.w) X.A X.env X.xe) (h : chkSs c s sc xs = true) : PSs X xs (rdS T (execs w φ pin s) pin) := by
  cases s with
  | nil => simp only [chkSs, List.isEmpty_iff] at h; subst h; exact pssNil
  | cons s r =>
    simp only [chkSs] at h
    unfold hSs at h
    split at h
    · simp only [Bool.and_eq_true] at h
      exact pssCons (IH.s s (by simp at hn ⊢; omega) pin g hp h.1) (IH.ss r (by simp at hn ⊢; omega) pin g hp h.2)
    · cases h
theorem allSt : ∀ n, AllS c T k φ w n
  | 0 => ⟨fun _ h => absurd h (Nat.not_lt_zero _), fun _ h => absurd h (Nat.not_lt_zero _)⟩
  | n + 1 => ⟨fun s h => sstep (allSt n) s h, fun s h => sssstep (allSt n) s h⟩
theorem sndSs (s : Ss) {sc : Scope} {xs : List Stmt} {X : Cx} (pin : List Nat) (g : Gd c T k φ sc X) (hp : PassesOwn (model X.prog X.w) X.A X.env X.xe) (h : chkSs c s sc xs = true) : PSs X xs (rdS T (execs w φ pin s) pin) := (allSt _).ss s (Nat.lt_succ_self _) pin g hp h
end
end Vi
end
section
set_option maxRecDepth 100000
/-! Vi, part W: functions, the program. -/
namespace Vi
open PySem PySem.Spec PyProof.Rows L2

section
variable {T : Tx} {G H : Hp}
theorem ERep.pad {env : Ev} {σ : L2.St} {O : List Addr} (h : ERep T G H env σ O) (m : Nat) : ERep T G H (env ++ List.replicate m none) (σ ++ List.replicate m none) O := by
  induction h with
  | nil =>
    induction m with
    | zero => exact .nil
    | succ m ih => exact .no ih
  | no _ ih => exact .no ih
  | is r _ ih => exact .is r ih
theorem pins_mem : ∀ (ds : List D) (n i : Nat) (d : D), ds[i]? = some d → d.own = true → n + i ∈ pinsOf n ds
  | [], _, _, _, e, _ => by simp at e
  | x :: ds, n, 0, d, e, h => by
    simp at e; subst e
    simp [pinsOf, h]
  | x :: ds, n, i + 1, d, e, h => by
    have q := pins_mem ds (n + 1) i d (by simpa using e) h
    have e2 : n + (i + 1) = n + 1 + i := by omega
    rw [e2]
    unfold pinsOf
    split
    · exact List.mem_cons_of_mem _ q
    · exact q
theorem mask_rep : ∀ (ds : List D) (vs : List V) {env : Ev} {σ : L2.St} {O : List Addr}, ERep T G H env σ O → ds.length = vs.length → ds.length ≤ env.length → (∀ (i : Nat) (d : D), ds[i]? = some d → d.own = true → σ[i]? = (vs.map some)[i]?) →
    ∃ O' gone, ERep T G H (maskF ds (env.take ds.length)) (vs.map some) O' ∧ O.Perm (O' ++ gone)
  | [], vs, env, σ, O, h, hl, _, _ => by
    cases vs with
    | nil => exact ⟨[], O, by simpa [maskF] using ERep.nil, by simp⟩
    | cons => simp at hl
  | d :: ds, vs, env, σ, O, h, hl, he, hs => by
    cases vs with
    | nil => simp at hl
    | cons v vs =>
      cases h with
      | nil => simp at he
      | @no env x σ O h =>
        obtain ⟨O', gone, q1, q2⟩ := mask_rep ds vs h (by simpa using hl) (by simpa using he) (fun i e h1 h2 => by simpa using hs (i + 1) e (by simpa using h1) h2)
        refine ⟨O', gone, ?_, q2⟩
        have : maskF (d :: ds) ((none :: env).take (d :: ds).length) = none :: maskF ds (env.take ds.length) := by simp [maskF]
        rw [this]
        exact .no q1
      | @is d0 v0 as env σ O r h =>
        obtain ⟨O', gone, q1, q2⟩ := mask_rep ds vs h (by simpa using hl) (by simpa using he) (fun i e h1 h2 => by simpa using hs (i + 1) e (by simpa using h1) h2)
        have hm : maskF (d :: ds) ((some d0 :: env).take (d :: ds).length) = (if d.own then some d0 else none) :: maskF ds (env.take ds.length) := by simp [maskF]
        rw [hm]
        cases ho : d.own with
        | true =>
          have e0 := hs 0 d rfl ho
          simp at e0
          subst e0
          refine ⟨as ++ O', gone, .is r q1, ?_⟩
          rw [List.append_assoc]
          exact List.Perm.append_left _ q2
        | false =>
          refine ⟨O', as ++ gone, .no q1, ?_⟩
          refine (List.Perm.append_left as q2).trans ?_
          rw [← List.append_assoc, ← List.append_assoc]
          exact List.Perm.append_right _ List.perm_append_comm
end

section
variable {P : Program} {w : World} {K : PySem.W.Frag} {mg : Str → Option Value} {base : Heap}
/-- a def by its body -/
theorem fnG_of {k : Nat} {f : Addr} {name qual : Str} {params : Arguments} {body : List Stmt} {scope : Scope} {dV kV doc pm cdv ct oc : Value} {an od : Option Addr} {osl : Array (Option Value)} {N ps : List Str} {sp : List V → Hp → VK → Prop}
    (found : K.lookup f = some ⟨oc, od, .func (PySem.W.fnOf name qual params body scope dV kV doc pm an cdv ct), osl⟩) (cod : PySem.W.codeIn K cdv qual = true) (S : FnScope N ps scope) (len : ∀ vs H Q, sp vs H Q → vs.length = ps.length)
    (run : ∀ (A : Around) (outer : List Env) (s : Shared) (H : Hp) (vs : List V) (Q : VK), A.guards = some [] → Room k (A.deeper (envOfC qual scope s.heap.objs.size f cdv)) → sp vs H Q →
      ∃ t, PSs (cxOf CN P w K mg base N qual scope f cdv A outer s H XN).nox body t ∧ t { nx := fun _ H' => Q .non H', rt := Q } (start N vs) H) :
    FnG P w K mg base (k + 1) f (PySem.W.fnOf name qual params body scope dV kV doc pm an cdv ct) ps sp := by
  refine ⟨len, fun A outer s H args us vs Q gu room at0 bound vals want => ?_⟩
  have inK : K.In s.heap := at0.mod.kin.keeps fun b o e => (at0.bs b o e).1
  have names : ∀ y ∈ ps.zip us, scope.names.lookup y.1 = some .local ∨ (scope.names.lookup y.1 = some .cell ∧ ((cellsFrom (s.heap.objs.size + 1) scope.names []).lookup y.1).isSome = true) := by
    rintro ⟨nm, v⟩ hy
    exact (S.par nm (List.of_mem_zip hy).1).imp id fun q => ⟨q, PySem.W.cellsFrom_some _ _ _ (.inl q)⟩
  refine codeAny_call_function room.depth (inK _ _ found) rfl S.co S.gen rfl (PySem.W.codeRec_of inK cod) (bound _ _ _ _ ?_)
  refine wpAny_newFunctionEnv_cells S.kind names fun env he s1 begun => ?_
  subst he
  have noLim : s.heap.NoLimit := at0.mod.nolimit.keeps fun b o e => (at0.bs b o e).1
  refine ⟨noLim.keeps begun.toInCall.keep, codeAny_func ?_⟩
  obtain ⟨t, rule, reading⟩ := run A outer s H vs Q gu (room.deeper _) want
  have I0 : Inv (cxOf CN P w K mg base N qual scope f cdv A outer s H XN) [] (start N vs) H s1 := inv_start S room.hd at0 (len _ _ _ want) vals begun
  refine wpAny_mono ((PSs.nox rule).run [] s1 (start N vs) H _ I0 reading) (fun fl s' end_ => ?_) fun e s' bad => bad
  cases fl with
  | ret u =>
    obtain ⟨v, _, H', J, rv, q⟩ := end_
    exact ⟨v, H', J.os, J.bare, J.base, J.hok, rv, q⟩
  | next =>
    obtain ⟨_, H', J, q⟩ := end_
    exact ⟨V.non, H', J.os, J.bare, J.base, J.hok, rfl, q⟩
  | brk =>
    obtain ⟨_, _, _, bad⟩ := end_
    exact bad.elim
  | cont =>
    obtain ⟨_, _, _, bad⟩ := end_
    exact bad.elim

/-- the module's facts -/
structure ModF (c : Cf) (T : Tx) (p : Pr) (A : Str → Addr) (K : PySem.W.Frag) (mg : Str → Option Value) : Prop where
  hK : K = T.K
  bl : ∀ x ∈ c.bl, mg x = none
  gl : ∀ x d, c.gl.lookup x = some d → ∃ u v, mg x = some u ∧ RelV v u ∧ Atm d v
  fs : ∀ x ∈ c.fs, mg x = some (.ref (A x)) ∧ (p.lookup x).isSome = true
  ct : ∀ x ci, T.ct.lookup x = some ci → ClH T K ci
  cl : ∀ x q, c.cl.lookup x = some q → ∃ ci, T.ct.lookup x = some ci ∧ mg x = some (.ref ci.adr) ∧ Mk K ci.adr (A q) ∧ (p.lookup q).isSome = true
  pr : ∀ t ∈ c.pr, ∃ ci a, T.ct.lookup t.1 = some ci ∧ PropOf K ci.adr t.2.1 a (A t.2.2) ∧ (p.lookup t.2.2).isSome = true
  sa : ∀ t ∈ c.sa, ∃ ci i, T.ct.lookup t.1 = some ci ∧ ci.slots.lookup t.2 = some i
  ln : ∀ t ∈ c.ln, ∃ ci, T.ct.lookup t.1 = some ci ∧ LenOf K ci.adr (A t.2) ∧ (p.lookup t.2).isSome = true
  df : ∀ f fn, p.lookup f = some fn → ∃ N st ps x qual fd, L2.Fun K x qual st (A f) fd ∧ Binds K fd ps [] ∧ FnScope N ps (defScope st) ∧ chkSs { c with N := N } fn.body (defScope st) (defBody st) = true ∧ fn.np = ps.length ∧ fn.nv = N.length
theorem progG {c : Cf} {T : Tx} {p : Pr} {A : Str → Addr} {u : Nat} (M : ModF c T p A K mg) : ∀ (k : Nat) (f : Str) (fn : Fn), p.lookup f = some fn → FnH T (phi u p k) (2 * k) P w K mg base f (A f)
  | 0, f, fn, hf => by
    obtain ⟨N, st, ps, x, qual, fd, F, B, _⟩ := M.df f fn hf
    refine ⟨F.kp, fd, ps, B, fun vs H Q h => ?_, fun A outer s H args us vs Q _ _ _ _ _ h => ?_⟩
    · obtain ⟨_, _, _, _, _, _, e, _⟩ := h
      simp [phi] at e
    · obtain ⟨_, _, _, _, _, _, e, _⟩ := h
      simp [phi] at e
  | k + 1, f, fn, hf => by
    have ih := progG (u := u) M k
    have lk : ∀ g, (p.lookup g).isSome = true → FnH T (phi u p k) (2 * k) P w K mg base g (A g) := fun g h => by
      obtain ⟨fn, e⟩ := Option.isSome_iff_exists.mp h
      exact ih g fn e
    obtain ⟨N, st, ps, x, qual, fd, F, B, S, ck, np, nv⟩ := M.df f fn hf
    refine ⟨F.kp, fd, ps, B, ?_⟩
    obtain ⟨oc, od, kV, doc, pm, an, cdv, ct, osl, rfl, found, cod⟩ := F.ex
    have e2 : 2 * (k + 1) = (2 * k + 1) + 1 := by omega
    rw [e2]
    refine fnG_of found cod S (fun vs H Q h => ?_) fun A0 outer s H vs Q gu room want => ?_
    · obtain ⟨G, ds, d, fin, W, sr, e, _⟩ := h
      simp only [phi, hf, Option.bind_some] at e
      unfold callD at e
      split at e
      · rename_i hl
        rw [← np, ← hl]
        have := sr.rep.length
        simpa using this.symm
      · cases e
    · obtain ⟨G, ds, d, fin, W, sr, e, Kq⟩ := want
      simp only [phi, hf, Option.bind_some] at e
      unfold callD at e
      split at e
      · rename_i hl
        simp only [Option.bind_eq_some_iff] at e
        obtain ⟨⟨fl, env'⟩, e1, e3⟩ := e
        have gd : Gd { c with N := N } T (2 * k) (phi u p k) (defScope st) (cxOf CN P w K mg base N qual (defScope st) (A f) cdv A0 outer s H XN).nox := {
          hK := M.hK
          hN := rfl
          nd := S.nd
          calm := rfl
          room := room
          gds := gu
          scp := fun x k e => .inl e
          cel := fun _ _ => rfl
          bl := M.bl
          gl := M.gl
          fs := fun x hx => ⟨A x, (M.fs x hx).1, lk x (M.fs x hx).2⟩
          ct := M.ct
          cl := fun x q hq => by
            obtain ⟨ci, h1, h2, h3, h4⟩ := M.cl x q hq
            exact ⟨ci, A q, h1, h2, h3, lk q h4⟩
          pr := fun t ht => by
            obtain ⟨ci, a, h1, h2, h3⟩ := M.pr t ht
            exact ⟨ci, a, A t.2.2, h1, h2, lk _ h3⟩
          sa := M.sa
          ln := fun t ht => by
            obtain ⟨ci, h1, h2, h3⟩ := M.ln t ht
            exact ⟨ci, A t.2, h1, h2, lk _ h3⟩ }
        refine ⟨_, sndSs (w := u) fn.body (pinsOf 0 ds) gd PassesOwn.never ck, ?_⟩
        have hvl : ds.length = vs.length := by simpa using sr.rep.length
        have est : start N vs = vs.map some ++ List.replicate (fn.nv - fn.np) none := by unfold L2.start; rw [nv, ← hl, hvl]
        have sr2 : SR T G H (ds.map some ++ List.replicate (fn.nv - fn.np) none) (start N vs) W := ⟨by rw [est]; exact sr.rep.pad _, sr.nd, sr.gn, sr.gs⟩
        -- the end of the body
        have fin0 : ∀ {v : V} {σ' : L2.St} {H' G' : Hp} {O' W' : List Addr} {dd : D}, AS T G' H' env' σ' O' [.v dd] [v] W' → Fm G H W G' H' (W' ++ O') → Sta (start N vs) σ' (pinsOf 0 ds) → dd = d → env'.take fn.np = fin → Q v H' := by
          intro v σ' H' G' O' W' dd A' f' st' ed ef
          subst ed ef
          have hel : env'.length = (start N vs).length := by rw [A'.sr.rep.length, st'.1]
          have hle : ds.length ≤ env'.length := by rw [hel, est, hvl]; simp
          obtain ⟨O2, gone, q1, q2⟩ := mask_rep ds vs A'.sr.rep hvl hle fun i d0 h1 h2 => by
            have hp := pins_mem ds 0 i d0 h1 h2
            rw [Nat.zero_add] at hp
            rw [st'.2 i hp, est]
            have hi : i < (vs.map some).length := by rw [List.length_map, ← hvl]; exact (List.getElem?_eq_some_iff.mp h1).1
            exact List.getElem?_append_left hi
          have sub : ∀ a, a ∈ O2 → a ∈ O' := fun a h => q2.mem_iff.mpr (List.mem_append_left _ h)
          rw [hl] at q1
          refine Kq v H' G' O2 W' ⟨⟨q1, (List.nodup_append.mp (q2.nodup_iff.mp A'.sr.nd)).1, fun a h => A'.sr.gn a (sub a h), A'.sr.gs⟩, .one' A'.ar.one, A'.nd, fun a h z => A'.dj a h (sub a z), A'.gn⟩ (f'.less fun a h => ?_)
          simp only [List.mem_append] at h ⊢
          exact h.imp id (sub a)
        refine ⟨G, _, W, fl, env', sr2, e1, ?_⟩
        cases fl with
        | nx =>
          simp only [Option.some.injEq, Prod.mk.injEq] at e3
          intro σ' H' G' O' s' f' st'
          exact fin0 (dd := .non) (.val s' .non) f' st' e3.1 e3.2
        | rt dd =>
          simp only [Option.some.injEq, Prod.mk.injEq] at e3
          intro v σ' H' G' O' W' A' f' st'
          exact fin0 A' f' st' e3.1 e3.2
        | bk => cases e3
        | ct => cases e3
      · cases e
end
end Vi
end
section
set_option maxRecDepth 100000
/-! Vi, part X: the law at the caller. -/
namespace Vi
open PySem PySem.Spec PyProof.Rows L2

section
variable {P : Program} {w : World} {K : PySem.W.Frag} {mg mb : Str → Option Value}
/-- the law's call from a heap H in which the script alone is known -/
theorem lawAt {k : Nat} {fa a : Addr} {T : Tx} {φ : Phi} {q : Str} {s : Shared} {vs : List Value} {H : Hp}
    (inK : K.In s.heap) (glob : s.heap.Ns mainGlobals mg) (blt : s.heap.Ns builtinsNs mb) (isB : ∀ y : Str, y ≠ "__name__" → mb y = bootBuiltins y) (noLim : s.heap.NoLimit) (noGen : s.gens = #[])
    (script : s.heap.get? a = some { cls := .type "list", data := .seq vs.toArray }) (room : Room k callerA)
    (F : ∀ base : Heap, FnH T φ k P w K mg base q fa)
    (only : Only H) (held : HOk P w H s.heap) (at_a : ∀ b u, H b = some u → b = a) (free : (∃ u, H a = some u) → K.lookup a = none) (want : spF T φ q [.ref a] H fun v _ => v = .bl true) :
    codeAny (model P w) callerA (.call (.ref fa) ⟨[.ref a], []⟩) (fun r t => r = .ok (.ret (.bool true)) ∧ OldK s.heap t.heap ∧ t.os = s.os ∧ AllBare t.gens) s := by
  have plain : ∀ {b : Addr} {o : Obj}, s.heap.get? b = some o → (H b = none ∨ ∃ u, H b = some u) → True := fun _ _ => trivial
  have dictFree : ∀ {b : Addr} {o : Obj} {es : Array DictEntry} {ep : Nat}, s.heap.get? b = some o → o.data = .dict es ep → H b = none := by
    intro b o es ep hb hd
    cases known : H b with
    | none => rfl
    | some u =>
      obtain rfl := at_a b u known
      rw [script] at hb
      cases hb
      cases hd
  have nsB : ∀ {b : Addr} {m : Str → Option Value}, s.heap.Ns b m → (hidT s.heap H).Ns b m := by
    rintro b m ⟨o, es, ep, h1, h2, h3⟩
    exact ⟨o, es, ep, hidT_get h1 (dictFree h1 h2), h2, h3⟩
  have inB : K.In (hidT s.heap H) := fun b o hb => by
    refine hidT_get (inK b o hb) ?_
    cases known : H b with
    | none => rfl
    | some u =>
      obtain rfl := at_a b u known
      rw [free ⟨u, known⟩] at hb
      cases hb
  have mod : Mod K mg (hidT s.heap H) := by
    obtain ⟨mc, l1, l2⟩ := noLim
    exact ⟨inB, nsB glob, ⟨mb, nsB blt, isB⟩, ⟨mc, nsB l1, l2⟩⟩
  have ahead : Env0 P w K mg (hidT s.heap H) callerA [] s H := ⟨rfl, mod, fun _ _ e => of_hidT e, Nat.le_of_eq (hidT_size s.heap H), trivial, (fun b hb => by cases hb), held, .of_eq noGen⟩
  obtain ⟨_, fd, ps, binds, Fn⟩ := F (hidT s.heap H)
  have bd := binds s [.ref a] inK (by rw [List.append_nil, ← Fn.len _ _ _ want]; rfl)
  rw [List.append_nil] at bd
  have go := Fn.run callerA [] s H ⟨[.ref a], []⟩ [.ref a] [.ref a] (fun v _ => v = .bl true) rfl room ahead bd (.cons rfl .nil) want
  refine codeAny_mono go fun r t ends => ?_
  match r, ends with
  | .ok (.ret u), ⟨v, H2, os, bare, un, held2, rel, isT⟩ =>
    subst isT
    obtain rfl : u = Value.bool true := rel
    refine ⟨rfl, OldK.of_keep fun b o old => ?_, os, bare⟩
    rcases only b with none_ | ⟨ob, xs, frz⟩
    · exact un.keep b o old none_ (fun z => by cases z) (fun z => by cases z)
    · have now := un.frzs b ob _ frz
      have e1 := (held b _ frz).1
      rw [old] at e1
      cases e1
      exact (held2 b _ now).1
/-- .. from the script alone -/
theorem lawCall {k : Nat} {fa a : Addr} {T : Tx} {φ : Phi} {q : Str} {s : Shared} {vs : List Value} {ns : List Int}
    (inK : K.In s.heap) (glob : s.heap.Ns mainGlobals mg) (blt : s.heap.Ns builtinsNs mb) (isB : ∀ y : Str, y ≠ "__name__" → mb y = bootBuiltins y) (noLim : s.heap.NoLimit) (noGen : s.gens = #[])
    (script : s.heap.get? a = some { cls := .type "list", data := .seq vs.toArray }) (ints_ : IntsAre vs ns) (fits : ns.length ≤ sizeLine) (room : Room k callerA)
    (F : ∀ base : Heap, FnH T φ k P w K mg base q fa)
    (want : ∀ H : Hp, SqL K H a (ns.map V.int) → spF T φ q [.ref a] H fun v _ => v = .bl true) :
    codeAny (model P w) callerA (.call (.ref fa) ⟨[.ref a], []⟩) (fun r t => r = .ok (.ret (.bool true)) ∧ OldK s.heap t.heap ∧ t.os = s.os ∧ AllBare t.gens) s := by
  have rv := vals_ints ints_
  cases own : K.lookup a with
  | some o =>
    have seen := inK a o own
    rw [script] at seen
    cases seen
    refine lawAt (H := fun _ => none) inK glob blt isB noLim noGen script room F (fun _ => .inl rfl) (fun _ _ z => nomatch z) (fun _ _ z => nomatch z) (fun ⟨_, z⟩ => nomatch z) (want _ ?_)
    exact .inr ⟨_, vs.toArray, _, own, rfl, rfl, rfl, by rw [List.size_toArray, ints_.length]; exact fits, by simpa using rv⟩
  | none =>
    let H : Hp := fun b => if b = a then some (.frz { cls := .type "list", data := .seq vs.toArray } (.lst (ns.map V.int))) else none
    have at1 : H a = some (.frz { cls := .type "list", data := .seq vs.toArray } (.lst (ns.map V.int))) := if_pos rfl
    have off : ∀ b, b ≠ a → H b = none := fun b h => if_neg h
    refine lawAt (H := H) inK glob blt isB noLim noGen script room F (fun b => ?_) (fun b u z => ?_) (fun b u z => ?_) (fun _ => own) (want _ (.inl (.inr ⟨_, at1⟩)))
    · by_cases hb : b = a
      · subst hb; exact .inr ⟨_, _, at1⟩
      · exact .inl (off b hb)
    · by_cases hb : b = a
      · subst hb
        rw [at1] at z
        cases z
        exact ⟨script, by rw [List.length_map]; exact fits, vs, _, rv, script⟩
      · rw [off b hb] at z; cases z
    · by_cases hb : b = a
      · exact hb
      · rw [off b hb] at z; cases z
end
theorem phi_law {T : Tx} {φ : Phi} {q : Str} {H : Hp} {a : Addr} {ns : List Int} (hS : SqL T.K H a (ns.map V.int)) (fits : ns.length ≤ line) {fin : List (Option D)} (e : φ q [.scr ns] = some (.bl true, fin)) : spF T φ q [.ref a] H fun v _ => v = .bl true := by
  refine ⟨H, [.scr ns], .bl true, fin, [], ⟨by simpa using ERep.is (O := []) (.frz (.scr hS fits)) .nil, .nil, by simp, .refl H⟩, e, fun v H' G' O' as A _ => ?_⟩
  exact (show PRep T G' H' (.bl true) v from ⟨_, A.ar.one⟩).bl
/-- the goal that the head leaves -/
theorem walkG {l : PySem.W.OpenLaw} {n : Nat} {q : Program} {loose : List Str} {XP : (Str → Option Value) → Heap → Prop} {YP : World → Heap → Prop} {d : DefRec} {K : Params → PySem.W.Frag} {u k : Nat} {p : Pr} {fn : Fn}
    (hn : l.most = some n) (hn2 : n ≤ sizeLine) (hdf : d.params.defaults = []) (hk : Room (2 * k) callerA) (hY : ∀ (w : World) (h : Heap), YP w h → (K w.params).In h) (hl : p.lookup d.name = some fn)
    (F : ∀ (w : World) (mg : Str → Option Value) (fa : Addr) (h : Heap), (K w.params).In h → h.Ns mainGlobals mg → mg d.name = some (.ref fa) → ∃ c T A, ModF c T p A (K w.params) mg ∧ A d.name = fa)
    (law : ∀ ns : List Int, ns.length ≤ n → ∃ fin, phi u p k d.name [.scr ns] = some (.bl true, fin)) : PySem.W.WalkO q loose XP YP l.row.toRowW d [] (fun f vs => PySem.call f vs) := by
  refine Att.attach_call hn hdf fun w s₀ s₁ mg mb fa o pm cd doc a vs ns G Y ho hd hcd hmg hobj hints hlen hg => ?_
  obtain ⟨c, T, A, M, hA⟩ := F w mg fa _ (hY w _ Y) G.T.g hmg
  obtain ⟨fin, e⟩ := law ns hlen
  have hK := M.hK
  refine lawCall (T := T) (φ := phi u p k) (q := d.name) (hY w _ Y) G.T.g G.T.b G.T.builtins G.T.nolimit hg hobj hints (Nat.le_trans hlen hn2) hk (fun base => ?_) fun H hS => phi_law (hK ▸ hS) (Nat.le_trans hlen hn2) e
  have q := progG (base := base) (P := l.prog) (w := w) (u := u) M k d.name fn hl
  rw [hA] at q
  exact q
end Vi
end
section
set_option maxRecDepth 100000
/-! Vi, part Y: what a claim's text fills in to say its module's facts (ModF). -/
namespace Vi
open PySem PySem.Spec PyProof.Rows L2
def AllE {β : Type} (P : Str → β → Prop) : List (Str × β) → Prop
  | [] => True
  | e :: r => P e.1 e.2 ∧ AllE P r
theorem AllE.look {β : Type} {P : Str → β → Prop} : ∀ {l : List (Str × β)}, AllE P l → ∀ {x : Str} {b : β}, l.lookup x = some b → P x b
  | [], _, _, _, h => by simp at h
  | (y, c) :: r, ⟨h1, h2⟩, x, b, h => by
    rw [List.lookup_cons] at h
    split at h
    · rename_i e
      have e2 : x = y := by simpa using e
      cases h
      subst e2
      exact h1
    · exact h2.look h
def AllM {α : Type} (P : α → Prop) : List α → Prop
  | [] => True
  | e :: r => P e ∧ AllM P r
theorem AllM.mem {α : Type} {P : α → Prop} : ∀ {l : List α}, AllM P l → ∀ x ∈ l, P x
  | [], _, _, h => by simp at h
  | y :: r, ⟨h1, h2⟩, x, h => by
    rcases List.mem_cons.mp h with e | e
    · rw [e]; exact h1
    · exact h2.mem x e
theorem slots_inj {l : List (Str × Nat)} (h : (l.map (·.2)).Nodup) : ∀ {f g : Str} {i : Nat}, l.lookup f = some i → l.lookup g = some i → f = g := by
  induction l with
  | nil => intro f g i h1; simp at h1
  | cons e r ih =>
    intro f g i h1 h2
    obtain ⟨y, c⟩ := e
    simp only [List.map_cons, List.nodup_cons] at h
    have mem : ∀ {x : Str} {b : Nat}, r.lookup x = some b → b ∈ r.map (·.2) := fun {x b} q => by
      have := List.lookup_eq_some_iff.mp q
      obtain ⟨l1, l2, e, _⟩ := this
      rw [e]
      simp
    rw [List.lookup_cons] at h1 h2
    split at h1 <;> split at h2
    · rename_i _ e1 _ e2
      have a1 : f = y := by simpa using e1
      have a2 : g = y := by simpa using e2
      rw [a1, a2]
    · cases h1
      exact absurd (mem h2) h.1
    · cases h2
      exact absurd (mem h1) h.1
    · exact ih h.2 h1 h2
section
variable {c : Cf} {T : Tx} {p : Pr} {A : Str → Addr} {K : PySem.W.Frag} {mg : Str → Option Value} {x qual : Str} {st : Stmt} {f C : Addr} {fn : Fn}
def DfG (c : Cf) (K : PySem.W.Frag) (f : Addr) (fn : Fn) : Prop := ∃ N st ps x qual fd, L2.Fun K x qual st f fd ∧ Binds K fd ps [] ∧ FnScope N ps (defScope st) ∧ chkSs { c with N := N } fn.body (defScope st) (defBody st) = true ∧ fn.np = ps.length ∧ fn.nv = N.length
theorem df_mk {oc : Value} {od an : Option Addr} {osl : Array (Option Value)} {kV doc pm cdv ct : Value} {N ps : List Str}
    (l : K.lookup f = some ⟨oc, od, .func (PySem.W.fnOf x qual (defArgs st) (defBody st) (defScope st) .none kV doc pm an cdv ct), osl⟩) (cd : PySem.W.codeIn K cdv qual = true) (k : PySem.W.keepIn K (.ref f) = true)
    (hb : ∀ (kV doc pm : Value) (an : Option Addr) (cdv ct : Value) (us : List Value), us.length = ps.length → bindArgs (PySem.W.fnOf x qual (defArgs st) (defBody st) (defScope st) .none kV doc pm an cdv ct) ⟨us, []⟩ = pure (ps.zip us))
    (S : FnScope N ps (defScope st)) (ck : chkSs { c with N := N } fn.body (defScope st) (defBody st) = true) (np : fn.np = ps.length) (nv : fn.nv = N.length) : DfG c K f fn :=
  ⟨N, st, ps, x, qual, _, fun_mk l cd k, (fun_mk l cd k).binds hb, S, ck, np, nv⟩
theorem modF_mk (hK : K = T.K) (bl : AllM (fun x => mg x = none) c.bl) (gl : AllE (fun x d => ∃ u v, mg x = some u ∧ RelV v u ∧ Atm d v) c.gl)
    (fs : AllM (fun x => mg x = some (.ref (A x)) ∧ (p.lookup x).isSome = true) c.fs) (ct : AllE (fun _ ci => ClH T K ci) T.ct)
    (cl : AllE (fun x q => ∃ ci, T.ct.lookup x = some ci ∧ mg x = some (.ref ci.adr) ∧ Mk K ci.adr (A q) ∧ (p.lookup q).isSome = true) c.cl)
    (pr : AllM (fun t => ∃ ci a, T.ct.lookup t.1 = some ci ∧ PropOf K ci.adr t.2.1 a (A t.2.2) ∧ (p.lookup t.2.2).isSome = true) c.pr)
    (sa : AllM (fun t => ∃ ci i, T.ct.lookup t.1 = some ci ∧ ci.slots.lookup t.2 = some i) c.sa)
    (ln : AllM (fun t => ∃ ci, T.ct.lookup t.1 = some ci ∧ LenOf K ci.adr (A t.2) ∧ (p.lookup t.2).isSome = true) c.ln)
    (df : AllE (fun f fn => DfG c K (A f) fn) p) : ModF c T p A K mg where
  hK := hK
  bl := bl.mem
  gl := fun _ _ h => gl.look h
  fs := fs.mem
  ct := fun _ _ h => ct.look h
  cl := fun _ _ h => cl.look h
  pr := pr.mem
  sa := sa.mem
  ln := ln.mem
  df := fun _ _ h => df.look h
end
end Vi
end
section
set_option maxRecDepth 100000
/-! Vi, part Ak: the meaning again, by structural recursion, so that the kernel can reckon with it; that it is the same. -/
namespace Vi
open PySem L2
def pk (e : E) (env : Ev) (r : Option (D × Ev)) : Option (Ar × Ev) := match e with
  | .var i => (getV env i).map fun _ => (.r i, env)
  | _ => r.map fun q => (.v q.1, q.2)
mutual
def denK (φ : Phi) : E → Ev → Option (D × Ev)
  | .lit d, env => some (d, env)
  | .var i, env => (getV env i).map fun d => (d.frz, env.set i (some d.frz))
  | .vz i, env => (getV env i).map fun d => (d.frz, env.set i (some d.frz))
  | .gl _ d, env => some (d, env)
  | .opm o a es, env => (pk a env (denK φ a env)).bind fun q => (peekA q.2 q.1).bind fun d0 => if recvOk o d0 then (denAK φ es q.2).bind fun r => (peekAs r.2 (q.1 :: r.1)).bind fun ds => (opSem o ds).map fun d => (d, r.2) else none
  | .slc a b c es, env => (pk a env (denK φ a env)).bind fun q => (denOK φ es q.2).bind fun r => (peekA r.2 q.1).bind fun d => (allI r.1).bind fun ns => (slcOn d b c ns).map fun x => (x, r.2)
  | .op o es, env => (denAK φ es env).bind fun q => (peekAs q.2 q.1).bind fun ds => (opSem o ds).map fun d => (d, q.2)
  | .chain o p a b c, env => (pk a env (denK φ a env)).bind fun qa => (pk b qa.2 (denK φ b qa.2)).bind fun qb => (peekAs qb.2 [qa.1, qb.1]).bind fun ds => (opSem o ds).bind fun k => (boolOf k).bind fun k =>
      if k then (pk c qb.2 (denK φ c qb.2)).bind fun qc => (peekAs qc.2 [qb.1, qc.1]).bind fun es => (opSem p es).map fun d => (d, qc.2) else some (.bl false, qb.2)
  | .an es, env => denAnK φ es env
  | .orr es, env => denOrK φ es env
  | .nt e, env => (denK φ e env).bind fun q => (boolOf q.1).map fun b => (.bl (!b), q.2)
  | .ite c a b, env => (denK φ c env).bind fun q => (boolOf q.1).bind fun k => if k then denK φ a q.2 else denK φ b q.2
  | .tup es, env => (denFK φ es env).bind fun q => if q.1.length ≤ line then some (.tup q.1, q.2) else none
  | .lst es, env => (denFK φ es env).bind fun q => if q.1.length ≤ line then some (.lst true q.1, q.2) else none
  | .dnew t, env => some (if t then .dit true [] else .dic true [], env)
  | .call f es, env => (denAK φ es env).bind fun q => (moveAs q.1 q.2).bind fun m => (φ f m.1).map fun r => (r.1, backAs q.1 m.1 r.2 m.2)
  | .meth f _ es, env => (denAK φ es env).bind fun q => (moveAs q.1 q.2).bind fun m => (φ f m.1).map fun r => (r.1, backAs q.1 m.1 r.2 m.2)
  | .make c f es, env => (denAK φ es env).bind fun q => (moveAs q.1 q.2).bind fun m => (φ f (.ins true c [] :: m.1)).bind fun r => match r.1, r.2 with
      | .non, some (.ins true c' fs) :: fin => if c' = c then some (.ins true c fs, backAs q.1 m.1 fin m.2) else none
      | _, _ => none
  | .attr e f, env => (pk e env (denK φ e env)).bind fun q => (peekA q.2 q.1).bind fun d => match d with
      | .ins _ _ fs => (fs.lookup f).map fun v => (v, q.2)
      | _ => none
  | .lenI c f e, env => (denK φ e env).bind fun q => if isIns c q.1 then (φ f [q.1]).bind fun r => (lenOk r.1).map fun d => (d, q.2) else none
  | .prop c f _ e, env => (denK φ e env).bind fun q => if isIns c q.1 then (φ f [q.1]).map fun r => (r.1, q.2) else none
  | .mut m i es, env => (getV env i).bind fun d0 => if isOwnL d0 then (denFK φ es env).bind fun q => (getV q.2 i).bind fun d => (muSem m d q.1).map fun r => (r.1, q.2.set i (some r.2)) else none
  | .comp elt tg it ifs own, env => (denIK φ it env).bind fun q =>
      (compL (fun x e => (bindT [] tg x e).bind fun e1 => (denAlK φ ifs e1).bind fun b => if b.1 then (denK φ elt b.2).map fun y => (some y.1.frz, wipeE y.2 own) else some (none, wipeE b.2 own)) q.1 [] (wipeE q.2.2 own)).map fun r =>
        (.lst true r.1, unhide r.2 q.2.1)
def denAK (φ : Phi) : Es → Ev → Option (List Ar × Ev)
  | .nil, env => some ([], env)
  | .cons true _ _, _ => none
  | .cons false e r, env => (pk e env (denK φ e env)).bind fun q => (denAK φ r q.2).map fun s => (q.1 :: s.1, s.2)
def denFK (φ : Phi) : Es → Ev → Option (List D × Ev)
  | .nil, env => some ([], env)
  | .cons true e r, env => (pk e env (denK φ e env)).bind fun q => (peekA q.2 q.1).bind fun d => (itemsOf d).bind fun xs => (denFK φ r q.2).map fun s => (xs ++ s.1, s.2)
  | .cons false e r, env => (denK φ e env).bind fun q => (denFK φ r q.2).map fun s => (q.1.frz :: s.1, s.2)
def denOK (φ : Phi) : Es → Ev → Option (List D × Ev)
  | .nil, env => some ([], env)
  | .cons true _ _, _ => none
  | .cons false e r, env => (denK φ e env).bind fun q => (denOK φ r q.2).map fun s => (q.1 :: s.1, s.2)
def denAnK (φ : Phi) : Es → Ev → Option (D × Ev)
  | .nil, _ => none
  | .cons _ e .nil, env => denK φ e env
  | .cons _ e r, env => (denK φ e env).bind fun q => (boolOf q.1).bind fun b => if b then denAnK φ r q.2 else some (.bl false, q.2)
def denOrK (φ : Phi) : Es → Ev → Option (D × Ev)
  | .nil, _ => none
  | .cons _ e .nil, env => denK φ e env
  | .cons _ e r, env => (denK φ e env).bind fun q => (boolOf q.1).bind fun b => if b then some (.bl true, q.2) else denOrK φ r q.2
def denAlK (φ : Phi) : Es → Ev → Option (Bool × Ev)
  | .nil, env => some (true, env)
  | .cons _ e r, env => (denK φ e env).bind fun q => (boolOf q.1).bind fun b => if b then denAlK φ r q.2 else some (false, q.2)
def denIK (φ : Phi) : I → Ev → Option (List D × Hid × Ev)
  | .val e, env => (pk e env (denK φ e env)).bind fun q => (peekA q.2 q.1).bind fun d => (walkOf d).map fun xs => match q.1 with
      | .r i => if d.own then (xs, some (i, d), q.2.set i none) else (xs, none, q.2)
      | .v _ => (xs, none, q.2)
  | .range es, env => (denAK φ es env).bind fun q => (peekAs q.2 q.1).bind fun ds => match ds with
      | [.int n] => if smallI n then some (rangeD 0 n, none, q.2) else none
      | [.int a, .int b] => if smallI a && smallI b then some (rangeD a b, none, q.2) else none
      | [.int a, .int b, .int (-1)] => if smallI a && smallI b then some ((List.range (a - b).toNat).map fun k => .int (a - (k : Nat)), none, q.2) else none
      | _ => none
  | .enum e, env => (denK φ e env).bind fun q => (itemsL q.1).map fun xs => (numbered 0 xs, none, q.2)
  | .zip a b, env => (denK φ a env).bind fun q => (denK φ b q.2).bind fun p => zipOf q.1 p.1 p.2
  | .items e, env => (denK φ e env).bind fun q => match q.1.frz with
      | .dic false kvs => some (kvs.map fun kv => .tup [ofKey kv.1, kv.2], none, q.2)
      | _ => none
end
end Vi
namespace Vi
open PySem L2
theorem denP_pk (φ : Phi) (e : E) (env : Ev) : denP φ e env = pk e env (den φ e env) := by
  cases e <;> simp only [denP, pk]
variable {φ : Phi}
mutual
theorem denK_eq : ∀ (e : E) (env : Ev), denK φ e env = den φ e env
  | .lit d, env => by simp only [denK, den] <;> rfl
  | .var i, env => by simp only [denK, den] <;> rfl
  | .vz i, env => by simp only [denK, den] <;> rfl
  | .gl _ d, env => by simp only [denK, den] <;> rfl
  | .opm o a es, env => by simp only [denK, den, denP_pk, denK_eq a, denAK_eq es] <;> rfl
  | .slc a b c es, env => by simp only [denK, den, denP_pk, denK_eq a, denOK_eq es] <;> rfl
  | .op o es, env => by simp only [denK, den, denAK_eq es] <;> rfl
  | .chain o p a b c, env => by simp only [denK, den, denP_pk, denK_eq a, denK_eq b, denK_eq c] <;> rfl
  | .an es, env => by simp only [denK, den, denAnK_eq es] <;> rfl
  | .orr es, env => by simp only [denK, den, denOrK_eq es] <;> rfl
  | .nt e, env => by simp only [denK, den, denK_eq e] <;> rfl
  | .ite c a b, env => by simp only [denK, den, denK_eq c, denK_eq a, denK_eq b] <;> rfl
  | .tup es, env => by simp only [denK, den, denFK_eq es] <;> rfl
  | .lst es, env => by simp only [denK, den, denFK_eq es] <;> rfl
  | .dnew t, env => by simp only [denK, den] <;> rfl
  | .call f es, env => by simp only [denK, den, denAK_eq es] <;> rfl
  | .meth f _ es, env => by simp only [denK, den, denAK_eq es] <;> rfl
  | .make c f es, env => by simp only [denK, den, denAK_eq es] <;> rfl
  | .attr e f, env => by simp only [denK, den, denP_pk, denK_eq e] <;> rfl
  | .lenI c f e, env => by simp only [denK, den, denK_eq e] <;> rfl
  | .prop c f _ e, env => by simp only [denK, den, denK_eq e] <;> rfl
  | .mut m i es, env => by simp only [denK, den, denFK_eq es] <;> rfl
  | .comp elt tg it ifs own, env => by simp only [denK, den, denIK_eq it, denAlK_eq ifs, denK_eq elt] <;> rfl
theorem denAK_eq : ∀ (es : Es) (env : Ev), denAK φ es env = denA φ es env
  | .nil, env => by simp only [denAK, denA] <;> rfl
  | .cons true _ _, env => by simp only [denAK, denA] <;> rfl
  | .cons false e r, env => by simp only [denAK, denA, denP_pk, denK_eq e, denAK_eq r] <;> rfl
theorem denFK_eq : ∀ (es : Es) (env : Ev), denFK φ es env = denF φ es env
  | .nil, env => by simp only [denFK, denF] <;> rfl
  | .cons true e r, env => by simp only [denFK, denF, denP_pk, denK_eq e, denFK_eq r] <;> rfl
  | .cons false e r, env => by simp only [denFK, denF, denK_eq e, denFK_eq r] <;> rfl
theorem denOK_eq : ∀ (es : Es) (env : Ev), denOK φ es env = denO φ es env
  | .nil, env => by simp only [denOK, denO] <;> rfl
  | .cons true _ _, env => by simp only [denOK, denO] <;> rfl
  | .cons false e r, env => by simp only [denOK, denO, denK_eq e, denOK_eq r] <;> rfl
theorem denAnK_eq : ∀ (es : Es) (env : Ev), denAnK φ es env = denAn φ es env
  | .nil, env => by simp only [denAnK, denAn] <;> rfl
  | .cons _ e .nil, env => by simp only [denAnK, denAn, denK_eq e] <;> rfl
  | .cons _ e (.cons s f r), env => by simp only [denAnK, denAn, denK_eq e, denAnK_eq (.cons s f r)] <;> rfl
theorem denOrK_eq : ∀ (es : Es) (env : Ev), denOrK φ es env = denOr φ es env
  | .nil, env => by simp only [denOrK, denOr] <;> rfl
  | .cons _ e .nil, env => by simp only [denOrK, denOr, denK_eq e] <;> rfl
  | .cons _ e (.cons s f r), env => by simp only [denOrK, denOr, denK_eq e, denOrK_eq (.cons s f r)] <;> rfl
theorem denAlK_eq : ∀ (es : Es) (env : Ev), denAlK φ es env = denAl φ es env
  | .nil, env => by simp only [denAlK, denAl] <;> rfl
  | .cons _ e r, env => by simp only [denAlK, denAl, denK_eq e, denAlK_eq r] <;> rfl
theorem denIK_eq : ∀ (it : I) (env : Ev), denIK φ it env = denI φ it env
  | .val e, env => by simp only [denIK, denI, denP_pk, denK_eq e] <;> rfl
  | .range es, env => by simp only [denIK, denI, denAK_eq es] <;> rfl
  | .enum e, env => by simp only [denIK, denI, denK_eq e] <;> rfl
  | .zip a b, env => by simp only [denIK, denI, denK_eq a, denK_eq b] <;> rfl
  | .items e, env => by simp only [denIK, denI, denK_eq e] <;> rfl
end
end Vi
namespace Vi
open PySem L2
def denTK (φ : Phi) (e : E) (env : Ev) : Option (Bool × Ev) := (denK φ e env).bind fun q => (boolOf q.1).map fun b => (b, q.2)
mutual
def execK (w : Nat) (φ : Phi) (pin : List Nat) : S → Ev → Option (Fl × Ev)
  | .asg tg e, env => (denK φ e env).bind fun q => (bindT pin tg q.1 q.2).map fun e => (.nx, e)
  | .par is es, env => (denOK φ es env).bind fun q => if is.length = q.1.length ∧ is.all (fun i => !pin.contains i && decide (i < q.2.length)) then some (.nx, setPar is q.1 q.2) else none
  | .setix i ix e, env => (denK φ e env).bind fun q => (getV q.2 i).bind fun _ => (pk ix q.2 (denK φ ix q.2)).bind fun p => (peekA p.2 p.1).bind fun k => (getV p.2 i).bind fun d => (setOp d k q.1.frz).map fun d' => (.nx, p.2.set i (some d'))
  | .setat i cn f e, env => (denK φ e env).bind fun q => (getV q.2 i).bind fun d => match d with
      | .ins true c fs => if c = cn then some (.nx, q.2.set i (some (.ins true c (putD fs f q.1.frz)))) else none
      | _ => none
  | .exp e, env => (denK φ e env).map fun q => (.nx, q.2)
  | .ret (.var i), env => if i ∈ pin then (denK φ (.var i) env).map fun q => (.rt q.1, q.2) else (getV env i).map fun d => (.rt d, env.set i none)
  | .ret e, env => (denK φ e env).map fun q => (.rt q.1, q.2)
  | .retN, env => some (.rt .non, env)
  | .iff c a b, env => (denTK φ c env).bind fun k => if k.1 then execsK w φ pin a k.2 else execsK w φ pin b k.2
  | .whl c a, env => whlL (denTK φ c) (execsK w φ pin a) w env
  | .forr tg it a, env => (denIK φ it env).bind fun q =>
      (forL (fun x e => (bindT ((q.2.1.map (·.1)).toList ++ pin) tg x e).bind fun e => execsK w φ ((q.2.1.map (·.1)).toList ++ pin) a e) q.1 q.2.2).map fun r => (r.1, unhide r.2 q.2.1)
  | .pass, env => some (.nx, env)
  | .brk, env => some (.bk, env)
  | .cont, env => some (.ct, env)
  | .rais, _ => none
def execsK (w : Nat) (φ : Phi) (pin : List Nat) : Ss → Ev → Option (Fl × Ev)
  | .nil, env => some (.nx, env)
  | .cons s r, env => (execK w φ pin s env).bind fun q => match q.1 with
      | .nx => execsK w φ pin r q.2
      | f => some (f, q.2)
end
def callDK (w : Nat) (φ : Phi) (f : Fn) (ds : List D) : Option (D × List (Option D)) :=
  if ds.length = f.np then (execsK w φ (pinsOf 0 ds) f.body (ds.map some ++ List.replicate (f.nv - f.np) none)).bind fun q => match q.1 with
    | .nx => some (.non, q.2.take f.np)
    | .rt d => some (d, q.2.take f.np)
    | _ => none
  else none
def phiK (w : Nat) (p : Pr) : Nat → Phi
  | 0, _, _ => none
  | k + 1, f, ds => (p.lookup f).bind fun fn => callDK w (phiK w p k) fn ds
end Vi
namespace Vi
open PySem L2
variable {φ : Phi} {w : Nat}
theorem denTK_eq (e : E) (env : Ev) : denTK φ e env = denT φ e env := by simp only [denTK, denT, denK_eq]
mutual
theorem execK_eq : ∀ (s : S) (pin : List Nat) (env : Ev), execK w φ pin s env = exec w φ pin s env
  | .asg tg e, pin, env => by simp only [execK, exec, denK_eq] <;> rfl
  | .par is es, pin, env => by simp only [execK, exec, denOK_eq] <;> rfl
  | .setix i ix e, pin, env => by simp only [execK, exec, denK_eq, denP_pk] <;> rfl
  | .setat i cn f e, pin, env => by simp only [execK, exec, denK_eq] <;> rfl
  | .exp e, pin, env => by simp only [execK, exec, denK_eq] <;> rfl
  | .ret e, pin, env => by cases e <;> simp only [execK, exec, denK_eq] <;> rfl
  | .retN, pin, env => by simp only [execK, exec] <;> rfl
  | .iff c a b, pin, env => by simp only [execK, exec, denTK_eq, execsK_eq a, execsK_eq b] <;> rfl
  | .whl c a, pin, env => by
    simp only [execK, exec]
    rw [show denTK φ c = denT φ c from funext fun e => denTK_eq c e, show execsK w φ pin a = execs w φ pin a from funext fun e => execsK_eq a pin e]
  | .forr tg it a, pin, env => by simp only [execK, exec, denIK_eq, execsK_eq a] <;> rfl
  | .pass, pin, env => by simp only [execK, exec] <;> rfl
  | .brk, pin, env => by simp only [execK, exec] <;> rfl
  | .cont, pin, env => by simp only [execK, exec] <;> rfl
  | .rais, pin, env => by simp only [execK, exec] <;> rfl
theorem execsK_eq : ∀ (s : Ss) (pin : List Nat) (env : Ev), execsK w φ pin s env = execs w φ pin s env
  | .nil, pin, env => by simp only [execsK, execs] <;> rfl
  | .cons s r, pin, env => by simp only [execsK, execs, execK_eq s, execsK_eq r] <;> rfl
end
theorem callDK_eq (f : Fn) (ds : List D) : callDK w φ f ds = callD w φ f ds := by
  unfold callDK callD
  simp only [execsK_eq] <;> rfl
theorem phiK_eq {p : Pr} : ∀ (k : Nat), phiK w p k = phi w p k
  | 0 => by funext f ds; rfl
  | k + 1 => by
    funext f ds
    simp only [phiK, phi, phiK_eq k, callDK_eq]
end Vi
end
section
/-! Bz: the meaning's operations, constructor by constructor, for simp. -/
namespace Vi
open PySem L2
@[simp] theorem ow_non : D.own .non = false := id rfl
@[simp] theorem fz_non : D.frz .non = .non := id rfl
@[simp] theorem isN_non : isNOp .non = true := id rfl
@[simp] theorem ty_non : tyOf .non = some "NoneType" := id rfl
@[simp] theorem flat_non : flatD .non = true := id rfl
@[simp] theorem ow_bl (b : Bool) : D.own (.bl b) = false := id rfl
@[simp] theorem fz_bl (b : Bool) : D.frz (.bl b) = (.bl b) := id rfl
@[simp] theorem isN_bl (b : Bool) : isNOp (.bl b) = false := id rfl
@[simp] theorem ty_bl (b : Bool) : tyOf (.bl b) = some "bool" := id rfl
@[simp] theorem flat_bl (b : Bool) : flatD (.bl b) = true := id rfl
@[simp] theorem ow_int (i : Int) : D.own (.int i) = false := id rfl
@[simp] theorem fz_int (i : Int) : D.frz (.int i) = (.int i) := id rfl
@[simp] theorem isN_int (i : Int) : isNOp (.int i) = false := id rfl
@[simp] theorem ty_int (i : Int) : tyOf (.int i) = some "int" := id rfl
@[simp] theorem flat_int (i : Int) : flatD (.int i) = true := id rfl
@[simp] theorem ow_str (s : Str) : D.own (.str s) = false := id rfl
@[simp] theorem fz_str (s : Str) : D.frz (.str s) = (.str s) := id rfl
@[simp] theorem isN_str (s : Str) : isNOp (.str s) = false := id rfl
@[simp] theorem ty_str (s : Str) : tyOf (.str s) = some "str" := id rfl
@[simp] theorem flat_str (s : Str) : flatD (.str s) = true := id rfl
@[simp] theorem ow_tup (xs : List D) : D.own (.tup xs) = false := id rfl
@[simp] theorem fz_tup (xs : List D) : D.frz (.tup xs) = (.tup xs) := id rfl
@[simp] theorem isN_tup (xs : List D) : isNOp (.tup xs) = false := id rfl
@[simp] theorem ty_tup (xs : List D) : tyOf (.tup xs) = some "tuple" := id rfl
@[simp] theorem flat_tup (xs : List D) : flatD (.tup xs) = false := id rfl
@[simp] theorem ow_lst (o : Bool) (xs : List D) : D.own (.lst o xs) = o := id rfl
@[simp] theorem fz_lst (o : Bool) (xs : List D) : D.frz (.lst o xs) = (.lst false xs) := id rfl
@[simp] theorem isN_lst (o : Bool) (xs : List D) : isNOp (.lst o xs) = false := id rfl
@[simp] theorem ty_lst (o : Bool) (xs : List D) : tyOf (.lst o xs) = some "list" := id rfl
@[simp] theorem flat_lst (o : Bool) (xs : List D) : flatD (.lst o xs) = false := id rfl
@[simp] theorem ow_dic (o : Bool) (kvs : List (Sum Int Str × D)) : D.own (.dic o kvs) = o := id rfl
@[simp] theorem fz_dic (o : Bool) (kvs : List (Sum Int Str × D)) : D.frz (.dic o kvs) = (.dic false kvs) := id rfl
@[simp] theorem isN_dic (o : Bool) (kvs : List (Sum Int Str × D)) : isNOp (.dic o kvs) = false := id rfl
@[simp] theorem ty_dic (o : Bool) (kvs : List (Sum Int Str × D)) : tyOf (.dic o kvs) = some "dict" := id rfl
@[simp] theorem flat_dic (o : Bool) (kvs : List (Sum Int Str × D)) : flatD (.dic o kvs) = false := id rfl
@[simp] theorem ow_dit (o : Bool) (kvs : List (List (Sum Int Str) × D)) : D.own (.dit o kvs) = o := id rfl
@[simp] theorem fz_dit (o : Bool) (kvs : List (List (Sum Int Str) × D)) : D.frz (.dit o kvs) = (.dit false kvs) := id rfl
@[simp] theorem isN_dit (o : Bool) (kvs : List (List (Sum Int Str) × D)) : isNOp (.dit o kvs) = false := id rfl
@[simp] theorem ty_dit (o : Bool) (kvs : List (List (Sum Int Str) × D)) : tyOf (.dit o kvs) = none := id rfl
@[simp] theorem flat_dit (o : Bool) (kvs : List (List (Sum Int Str) × D)) : flatD (.dit o kvs) = false := id rfl
@[simp] theorem ow_ins (o : Bool) (c : Str) (fs : List (Str × D)) : D.own (.ins o c fs) = o := id rfl
@[simp] theorem fz_ins (o : Bool) (c : Str) (fs : List (Str × D)) : D.frz (.ins o c fs) = (.ins false c fs) := id rfl
@[simp] theorem isN_ins (o : Bool) (c : Str) (fs : List (Str × D)) : isNOp (.ins o c fs) = false := id rfl
@[simp] theorem ty_ins (o : Bool) (c : Str) (fs : List (Str × D)) : tyOf (.ins o c fs) = none := id rfl
@[simp] theorem flat_ins (o : Bool) (c : Str) (fs : List (Str × D)) : flatD (.ins o c fs) = false := id rfl
@[simp] theorem ow_scr (ns : List Int) : D.own (.scr ns) = false := id rfl
@[simp] theorem fz_scr (ns : List Int) : D.frz (.scr ns) = (.scr ns) := id rfl
@[simp] theorem isN_scr (ns : List Int) : isNOp (.scr ns) = false := id rfl
@[simp] theorem ty_scr (ns : List Int) : tyOf (.scr ns) = none := id rfl
@[simp] theorem flat_scr (ns : List Int) : flatD (.scr ns) = false := id rfl
@[simp] theorem boolOf_bl (b : Bool) : boolOf (.bl b) = some b := id rfl
@[simp] theorem items_lst (o : Bool) (xs : List D) : itemsOf (.lst o xs) = some xs := id rfl
@[simp] theorem itemsL_lst (o : Bool) (xs : List D) : itemsL (.lst o xs) = some xs := id rfl
@[simp] theorem seq_lst (o : Bool) (xs : List D) : seqOf (.lst o xs) = some xs := id rfl
@[simp] theorem walk_lst (o : Bool) (xs : List D) : walkOf (.lst o xs) = some xs := id rfl
@[simp] theorem items_tup (xs : List D) : itemsOf (.tup xs) = some xs := id rfl
@[simp] theorem itemsL_tup (xs : List D) : itemsL (.tup xs) = some xs := id rfl
@[simp] theorem seq_tup (xs : List D) : seqOf (.tup xs) = some xs := id rfl
@[simp] theorem walk_tup (xs : List D) : walkOf (.tup xs) = some xs := id rfl
@[simp] theorem walk_dic (kvs : List (Sum Int Str × D)) : walkOf (.dic false kvs) = some (kvs.map fun kv => ofKey kv.1) := id rfl
@[simp] theorem walk_scr (ns : List Int) : walkOf (.scr ns) = some (ns.map .int) := id rfl
@[simp] theorem walk_str (s : Str) : walkOf (.str s) = some (s.cps.toList.map fun c => .str ⟨#[c]⟩) := id rfl
@[simp] theorem op_add (a b : D) : opSem .add [a, b] = addOp a b := id rfl
@[simp] theorem op_sub (a b : D) : opSem .sub [a, b] = subOp a b := id rfl
@[simp] theorem op_mul (a b : D) : opSem .mul [a, b] = mulOp a b := id rfl
@[simp] theorem op_fdiv (a b : D) : opSem .fdiv [a, b] = fdivOp a b := id rfl
@[simp] theorem op_mod (a b : D) : opSem .mod [a, b] = modOp a b := id rfl
@[simp] theorem op_pow (a b : D) : opSem .pow [a, b] = powOp a b := id rfl
@[simp] theorem op_lt (a b : D) : opSem .lt [a, b] = ltOp a b := id rfl
@[simp] theorem op_le (a b : D) : opSem .le [a, b] = leOp a b := id rfl
@[simp] theorem op_gt (a b : D) : opSem .gt [a, b] = gtOp a b := id rfl
@[simp] theorem op_ge (a b : D) : opSem .ge [a, b] = geOp a b := id rfl
@[simp] theorem op_idx (a b : D) : opSem .idx [a, b] = idxOp a b := id rfl
@[simp] theorem op_eq (a b : D) : opSem .eq [a, b] = (eqOp a b).map .bl := id rfl
@[simp] theorem op_ne (a b : D) : opSem .ne [a, b] = (eqOp a b).map fun c => .bl (!c) := id rfl
@[simp] theorem op_isin (a b : D) : opSem .isin [a, b] = (inOp a b).map .bl := id rfl
@[simp] theorem op_notin (a b : D) : opSem .notin [a, b] = (inOp a b).map fun c => .bl (!c) := id rfl
@[simp] theorem op_max2 (a b : D) : opSem .max2 [a, b] = int2 (fun a b => if b > a then b else a) a b := id rfl
@[simp] theorem op_min2 (a b : D) : opSem .min2 [a, b] = int2 (fun a b => if b < a then b else a) a b := id rfl
@[simp] theorem op_listzip (a b : D) : opSem .listzip [a, b] = listzipOp a b := id rfl
@[simp] theorem op_join (a b : D) : opSem .join [a, b] = joinOp a b := id rfl
@[simp] theorem op_split (a b : D) : opSem .split [a, b] = splitOp a b := id rfl
@[simp] theorem op_get1 (a b : D) : opSem .get1 [a, b] = getOp .non a b := id rfl
@[simp] theorem op_neg (a : D) : opSem .neg [a] = negOp a := id rfl
@[simp] theorem op_isN (a : D) : opSem .isN [a] = some (.bl (isNOp a)) := id rfl
@[simp] theorem op_notN (a : D) : opSem .notN [a] = some (.bl (!isNOp a)) := id rfl
@[simp] theorem op_len (a : D) : opSem .len [a] = lenOp a := id rfl
@[simp] theorem op_abs (a : D) : opSem .abs [a] = absOp a := id rfl
@[simp] theorem op_maxL (a : D) : opSem .maxL [a] = (seqOf a).bind fun xs => (allI xs).bind fun ns => if ns = [] then none else some (.int (maxI ns)) := id rfl
@[simp] theorem op_minL (a : D) : opSem .minL [a] = (seqOf a).bind fun xs => (allI xs).bind fun ns => if ns = [] then none else some (.int (minI ns)) := id rfl
@[simp] theorem op_sum (a : D) : opSem .sum [a] = (seqOf a).bind fun xs => (allI xs).map fun ns => .int ns.sum := id rfl
@[simp] theorem op_sorted (a : D) : opSem .sorted [a] = sortOp a := id rfl
@[simp] theorem op_list (a : D) : opSem .list [a] = listOp a := id rfl
@[simp] theorem op_tuple (a : D) : opSem .tuple [a] = (seqOf a).map .tup := id rfl
@[simp] theorem op_int (a : D) : opSem .int [a] = intOp a := id rfl
@[simp] theorem op_str (a : D) : opSem .str [a] = strOp a := id rfl
@[simp] theorem op_all (a : D) : opSem .all [a] = boolsOp (fun bs => bs.all id) a := id rfl
@[simp] theorem op_any (a : D) : opSem .any [a] = boolsOp (fun bs => bs.any id) a := id rfl
@[simp] theorem op_dict (a : D) : opSem .dict [a] = dictOp a := id rfl
@[simp] theorem op_lenset (a : D) : opSem .lenset [a] = lensetOp a := id rfl
@[simp] theorem op_maxvals (a : D) : opSem .maxvals [a] = maxvalsOp a := id rfl
@[simp] theorem op_listrange (a : D) : opSem .listrange [a] = listrangeOp a := id rfl
@[simp] theorem op_isi (ts : List String) (d : D) : opSem (.isi ts) [d] = (tyOf d).map fun t => .bl ((kidOf t).any ts.contains) := id rfl
@[simp] theorem op_max3 (a b c : D) : opSem .max3 [a, b, c] = max3Op a b c := id rfl
@[simp] theorem op_min4 (a b c d : D) : opSem .min4 [a, b, c, d] = min4Op a b c d := id rfl
@[simp] theorem op_get2 (a k d : D) : opSem .get2 [a, k, d] = if flatD d then getOp d a k else none := id rfl
@[simp] theorem add_int (i j : Int) : addOp (.int i) (.int j) = some (.int (i + j)) := id rfl
@[simp] theorem add_str (s t : Str) : addOp (.str s) (.str t) = if s.length + t.length ≤ line then some (.str (s ++ t)) else none := id rfl
@[simp] theorem add_lst (o p : Bool) (xs ys : List D) : addOp (.lst o xs) (.lst p ys) = if xs.length + ys.length ≤ line then some (.lst true (xs ++ ys)) else none := id rfl
@[simp] theorem add_tup (xs ys : List D) : addOp (.tup xs) (.tup ys) = if xs.length + ys.length ≤ line then some (.tup (xs ++ ys)) else none := id rfl
@[simp] theorem sub_int (i j : Int) : subOp (.int i) (.int j) = some (.int (i - j)) := id rfl
@[simp] theorem mod_int (i j : Int) : modOp (.int i) (.int j) = if 0 < j then some (.int (i % j)) else if j ≠ 0 then some (.int (i.fmod j)) else none := id rfl
@[simp] theorem lt_int (i j : Int) : ltOp (.int i) (.int j) = some (.bl (decide (i < j))) := id rfl
@[simp] theorem le_int (i j : Int) : leOp (.int i) (.int j) = some (.bl (decide (i ≤ j))) := id rfl
@[simp] theorem gt_int (i j : Int) : gtOp (.int i) (.int j) = some (.bl (decide (j < i))) := id rfl
@[simp] theorem ge_int (i j : Int) : geOp (.int i) (.int j) = some (.bl (decide (j ≤ i))) := id rfl
@[simp] theorem eq_int (i j : Int) : eqOp (.int i) (.int j) = some (decide (i = j)) := id rfl
@[simp] theorem eq_str (s t : Str) : eqOp (.str s) (.str t) = some (decide (s = t)) := by simp [eqOp, scalD, eqD, Bool.beq_eq_decide_eq]
@[simp] theorem eq_bl (s t : Bool) : eqOp (.bl s) (.bl t) = some (s == t) := id rfl
@[simp] theorem neg_int (i : Int) : negOp (.int i) = some (.int (-i)) := id rfl
@[simp] theorem abs_int (i : Int) : absOp (.int i) = some (.int (if i < 0 then -i else i)) := id rfl
@[simp] theorem int2_int (f : Int → Int → Int) (i j : Int) : int2 f (.int i) (.int j) = some (.int (f i j)) := id rfl
@[simp] theorem max3_int (i j k : Int) : max3Op (.int i) (.int j) (.int k) = some (.int (max i (max j k))) := id rfl
@[simp] theorem min4_int (i j k l : Int) : min4Op (.int i) (.int j) (.int k) (.int l) = some (.int (min i (min j (min k l)))) := id rfl
@[simp] theorem int_int (i : Int) : intOp (.int i) = some (.int i) := id rfl
@[simp] theorem int_bl (b : Bool) : intOp (.bl b) = some (.int (if b then 1 else 0)) := id rfl
@[simp] theorem idx_lst (o : Bool) (xs : List D) (i : Int) : idxOp (.lst o xs) (.int i) = atI xs i := id rfl
@[simp] theorem idx_tup (xs : List D) (i : Int) : idxOp (.tup xs) (.int i) = atI xs i := id rfl
@[simp] theorem idx_scr (ns : List Int) (i : Int) : idxOp (.scr ns) (.int i) = (atI ns i).map .int := id rfl
@[simp] theorem idx_dicS (o : Bool) (kvs : List (Sum Int Str × D)) (s : Str) : idxOp (.dic o kvs) (.str s) = valD kvs (.inr s) := id rfl
@[simp] theorem idx_dicI (o : Bool) (kvs : List (Sum Int Str × D)) (s : Int) : idxOp (.dic o kvs) (.int s) = valD kvs (.inl s) := id rfl
@[simp] theorem len_lst (o : Bool) (xs : List D) : lenOp (.lst o xs) = some (.int xs.length) := id rfl
@[simp] theorem len_tup (xs : List D) : lenOp (.tup xs) = some (.int xs.length) := id rfl
@[simp] theorem len_scr (ns : List Int) : lenOp (.scr ns) = some (.int ns.length) := id rfl
@[simp] theorem len_dic (o : Bool) (kvs : List (Sum Int Str × D)) : lenOp (.dic o kvs) = some (.int kvs.length) := id rfl
@[simp] theorem len_str (s : Str) : lenOp (.str s) = if s.length ≤ line then some (.int s.length) else none := id rfl
@[simp] theorem list_lst (o : Bool) (xs : List D) : listOp (.lst o xs) = some (.lst true xs) := id rfl
@[simp] theorem list_tup (xs : List D) : listOp (.tup xs) = some (.lst true xs) := id rfl
@[simp] theorem list_dic (o : Bool) (kvs : List (Sum Int Str × D)) : listOp (.dic o kvs) = some (.lst true (kvs.map fun kv => ofKey kv.1)) := id rfl
@[simp] theorem bools_lst (f : List Bool → Bool) (o : Bool) (xs : List D) : boolsOp f (.lst o xs) = (allB xs).map fun bs => .bl (f bs) := id rfl
@[simp] theorem allB_nil : allB [] = some [] := id rfl
@[simp] theorem allB_bl (b : Bool) (r : List D) : allB (.bl b :: r) = (allB r).map (b :: ·) := id rfl
@[simp] theorem allI_nil : allI [] = some [] := id rfl
@[simp] theorem allI_int (i : Int) (r : List D) : allI (.int i :: r) = (allI r).map (i :: ·) := id rfl
@[simp] theorem allS_nil : allS [] = some [] := id rfl
@[simp] theorem allS_str (s : Str) (r : List D) : allS (.str s :: r) = (allS r).map (s :: ·) := id rfl
@[simp] theorem lz1 (o p : Bool) (xs ys : List D) : listzipOp (.lst o xs) (.lst p ys) = some (.lst true (zipD xs ys)) := id rfl
@[simp] theorem lz2 (xs ys : List D) : listzipOp (.tup xs) (.tup ys) = some (.lst true (zipD xs ys)) := id rfl
@[simp] theorem lz3 (o : Bool) (xs ys : List D) : listzipOp (.lst o xs) (.tup ys) = some (.lst true (zipD xs ys)) := id rfl
@[simp] theorem lz4 (p : Bool) (xs ys : List D) : listzipOp (.tup xs) (.lst p ys) = some (.lst true (zipD xs ys)) := id rfl
@[simp] theorem zp1 (o p : Bool) (xs ys : List D) (env : Ev) : zipOf (.lst o xs) (.lst p ys) env = some (zipD xs ys, none, env) := id rfl
@[simp] theorem zp2 (xs ys : List D) (env : Ev) : zipOf (.tup xs) (.tup ys) env = some (zipD xs ys, none, env) := id rfl
@[simp] theorem zp3 (o : Bool) (xs ys : List D) (env : Ev) : zipOf (.lst o xs) (.tup ys) env = some (zipD xs ys, none, env) := id rfl
@[simp] theorem zp4 (p : Bool) (xs ys : List D) (env : Ev) : zipOf (.tup xs) (.lst p ys) env = some (zipD xs ys, none, env) := id rfl
@[simp] theorem zipD_nil (ys : List D) : zipD [] ys = [] := id rfl
@[simp] theorem zipD_nil2 (xs : List D) : zipD xs [] = [] := by cases xs <;> rfl
@[simp] theorem zipD_cons (x y : D) (xs ys : List D) : zipD (x :: xs) (y :: ys) = (.tup [x, y] :: zipD xs ys) := id rfl
@[simp] theorem getOp_dic (d : D) (o : Bool) (kvs : List (Sum Int Str × D)) (s : Str) : getOp d (.dic o kvs) (.str s) = some ((valD kvs (.inr s)).getD d) := id rfl
@[simp] theorem append_lst (xs : List D) (y : D) : muSem .append (.lst true xs) [y] = if xs.length < line then some (.non, .lst true (xs ++ [y])) else none := id rfl
@[simp] theorem extend_lst (xs ys : List D) (o : Bool) : muSem .extend (.lst true xs) [.lst o ys] = if xs.length + ys.length ≤ line then some (.non, .lst true (xs ++ ys)) else none := id rfl
@[simp] theorem pop_lst (xs : List D) : muSem .pop (.lst true xs) [] = (xs.getLast?).map fun y => (y, .lst true xs.dropLast) := id rfl
@[simp] theorem popAt_lst (xs : List D) (i : Int) : muSem .popAt (.lst true xs) [.int i] = (ixN xs.length i).bind fun k => (xs[k]?).map fun y => (y, .lst true (xs.eraseIdx k)) := id rfl
@[simp] theorem set_lst (xs : List D) (i : Int) (v : D) : setOp (.lst true xs) (.int i) v = (ixN xs.length i).map fun k => .lst true (xs.set k v) := id rfl
@[simp] theorem set_dicS (kvs : List (Sum Int Str × D)) (s : Str) (v : D) : setOp (.dic true kvs) (.str s) v = if kvs.length < line then some (.dic true (putD kvs (.inr s) v)) else none := id rfl
@[simp] theorem isOwnL_lst (o : Bool) (xs : List D) : isOwnL (.lst o xs) = o := by cases o <;> rfl
@[simp] theorem pinsOf_nil (n : Nat) : pinsOf n [] = [] := id rfl
@[simp] theorem pinsOf_cons (n : Nat) (d : D) (r : List D) : pinsOf n (d :: r) = if d.own then n :: pinsOf (n + 1) r else pinsOf (n + 1) r := id rfl
@[simp] theorem bindT_v (pin : List Nat) (i : Nat) (d : D) (env : Ev) : bindT pin (.v i) d env = if i ∈ pin ∨ env.length ≤ i then none else some (env.set i (some d)) := by simp only [bindT]
@[simp] theorem bindT_t (pin : List Nat) (ts : Ts) (d : D) (env : Ev) : bindT pin (.t ts) d env = (itemsOf d).bind fun xs => bindTs pin ts xs env := by simp only [bindT]
@[simp] theorem bindTs_nil (pin : List Nat) (env : Ev) : bindTs pin .nil [] env = some env := by simp only [bindTs]
@[simp] theorem bindTs_cons (pin : List Nat) (t : T) (r : Ts) (x : D) (xs : List D) (env : Ev) : bindTs pin (.cons t r) (x :: xs) env = (bindT pin t x env).bind fun e => bindTs pin r xs e := by simp only [bindTs]
@[simp] theorem peekA_v (env : Ev) (d : D) : peekA env (.v d) = some d := id rfl
@[simp] theorem peekA_r (env : Ev) (i : Nat) : peekA env (.r i) = getV env i := id rfl
@[simp] theorem peekAs_nil (env : Ev) : peekAs env [] = some [] := id rfl
@[simp] theorem peekAs_cons (env : Ev) (a : Ar) (r : List Ar) : peekAs env (a :: r) = (peekA env a).bind fun d => (peekAs env r).map (d :: ·) := id rfl
@[simp] theorem moveAs_nil (env : Ev) : moveAs [] env = some ([], env) := id rfl
@[simp] theorem moveAs_v (d : D) (r : List Ar) (env : Ev) : moveAs (.v d :: r) env = (moveAs r env).map fun q => (d :: q.1, q.2) := id rfl
@[simp] theorem moveAs_r (i : Nat) (r : List Ar) (env : Ev) : moveAs (.r i :: r) env = (getV env i).bind fun d => (moveAs r (if d.own then env.set i none else env)).map fun q => (d :: q.1, q.2) := id rfl
@[simp] theorem backAs_nil (ds : List D) (fs : List (Option D)) (env : Ev) : backAs [] ds fs env = env := id rfl
@[simp] theorem backAs_r (i : Nat) (r : List Ar) (d : D) (ds : List D) (f : Option D) (fs : List (Option D)) (env : Ev) : backAs (.r i :: r) (d :: ds) (f :: fs) env = backAs r ds fs (if d.own then env.set i f else env) := id rfl
@[simp] theorem backAs_v (x : D) (r : List Ar) (d : D) (ds : List D) (f : Option D) (fs : List (Option D)) (env : Ev) : backAs (.v x :: r) (d :: ds) (f :: fs) env = backAs r ds fs env := id rfl
@[simp] theorem unhide_none (env : Ev) : unhide env none = env := id rfl
@[simp] theorem unhide_some (env : Ev) (i : Nat) (d : D) : unhide env (some (i, d)) = env.set i (some d) := id rfl
@[simp] theorem wipeE_nil (env : Ev) : wipeE env [] = env := id rfl
@[simp] theorem wipeE_cons (env : Ev) (v : Nat) (vs : List Nat) : wipeE env (v :: vs) = (wipeE env vs).set v none := id rfl
@[simp] theorem setPar_cons (i : Nat) (is : List Nat) (d : D) (ds : List D) (env : Ev) : setPar (i :: is) (d :: ds) env = setPar is ds (env.set i (some d)) := id rfl
@[simp] theorem setPar_nil (ds : List D) (env : Ev) : setPar [] ds env = env := by cases ds <;> rfl
@[simp] theorem pk_lit (d : D) (env : Ev) (r : Option (D × Ev)) : pk (.lit d) env r = r.map fun q => (.v q.1, q.2) := id rfl
@[simp] theorem pk_vz (i : Nat) (env : Ev) (r : Option (D × Ev)) : pk (.vz i) env r = r.map fun q => (.v q.1, q.2) := id rfl
@[simp] theorem pk_gl (x : Str) (d : D) (env : Ev) (r : Option (D × Ev)) : pk (.gl x d) env r = r.map fun q => (.v q.1, q.2) := id rfl
@[simp] theorem pk_op (o : Op) (es : Es) (env : Ev) (r : Option (D × Ev)) : pk (.op o es) env r = r.map fun q => (.v q.1, q.2) := id rfl
@[simp] theorem pk_opm (o : Op) (a : E) (es : Es) (env : Ev) (r : Option (D × Ev)) : pk (.opm o a es) env r = r.map fun q => (.v q.1, q.2) := id rfl
@[simp] theorem pk_slc (a : E) (b c : Bool) (es : Es) (env : Ev) (r : Option (D × Ev)) : pk (.slc a b c es) env r = r.map fun q => (.v q.1, q.2) := id rfl
@[simp] theorem pk_chain (o p : Op) (a b c : E) (env : Ev) (r : Option (D × Ev)) : pk (.chain o p a b c) env r = r.map fun q => (.v q.1, q.2) := id rfl
@[simp] theorem pk_an (es : Es) (env : Ev) (r : Option (D × Ev)) : pk (.an es) env r = r.map fun q => (.v q.1, q.2) := id rfl
@[simp] theorem pk_orr (es : Es) (env : Ev) (r : Option (D × Ev)) : pk (.orr es) env r = r.map fun q => (.v q.1, q.2) := id rfl
@[simp] theorem pk_nt (e : E) (env : Ev) (r : Option (D × Ev)) : pk (.nt e) env r = r.map fun q => (.v q.1, q.2) := id rfl
@[simp] theorem pk_ite (c a b : E) (env : Ev) (r : Option (D × Ev)) : pk (.ite c a b) env r = r.map fun q => (.v q.1, q.2) := id rfl
@[simp] theorem pk_tup (es : Es) (env : Ev) (r : Option (D × Ev)) : pk (.tup es) env r = r.map fun q => (.v q.1, q.2) := id rfl
@[simp] theorem pk_lst (es : Es) (env : Ev) (r : Option (D × Ev)) : pk (.lst es) env r = r.map fun q => (.v q.1, q.2) := id rfl
@[simp] theorem pk_dnew (t : Bool) (env : Ev) (r : Option (D × Ev)) : pk (.dnew t) env r = r.map fun q => (.v q.1, q.2) := id rfl
@[simp] theorem pk_call (f : Str) (es : Es) (env : Ev) (r : Option (D × Ev)) : pk (.call f es) env r = r.map fun q => (.v q.1, q.2) := id rfl
@[simp] theorem pk_make (c q : Str) (es : Es) (env : Ev) (r : Option (D × Ev)) : pk (.make c q es) env r = r.map fun q => (.v q.1, q.2) := id rfl
@[simp] theorem pk_attr (e : E) (f : Str) (env : Ev) (r : Option (D × Ev)) : pk (.attr e f) env r = r.map fun q => (.v q.1, q.2) := id rfl
@[simp] theorem pk_lenI (c q : Str) (e : E) (env : Ev) (r : Option (D × Ev)) : pk (.lenI c q e) env r = r.map fun q => (.v q.1, q.2) := id rfl
@[simp] theorem op_isb (a b : D) : opSem .isb [a, b] = (isbOp a b).map .bl := id rfl
@[simp] theorem op_notb (a b : D) : opSem .notb [a, b] = (isbOp a b).map fun c => .bl (!c) := id rfl
@[simp] theorem isb_bl (a b : Bool) : isbOp (.bl a) (.bl b) = some (a == b) := id rfl
@[simp] theorem pk_prop (c q f : Str) (e : E) (env : Ev) (r : Option (D × Ev)) : pk (.prop c q f e) env r = r.map fun q => (.v q.1, q.2) := id rfl
@[simp] theorem pk_meth (q m : Str) (es : Es) (env : Ev) (r : Option (D × Ev)) : pk (.meth q m es) env r = r.map fun q => (.v q.1, q.2) := id rfl
@[simp] theorem pk_mut (m : Mu) (i : Nat) (es : Es) (env : Ev) (r : Option (D × Ev)) : pk (.mut m i es) env r = r.map fun q => (.v q.1, q.2) := id rfl
@[simp] theorem pk_comp (elt : E) (tg : T) (it : I) (ifs : Es) (own : List Nat) (env : Ev) (r : Option (D × Ev)) : pk (.comp elt tg it ifs own) env r = r.map fun q => (.v q.1, q.2) := id rfl
@[simp] theorem pk_var (i : Nat) (env : Ev) (r : Option (D × Ev)) : pk (.var i) env r = (getV env i).map fun _ => (.r i, env) := id rfl
theorem log_small {x : Int} (h : x.natAbs < 2 ^ 200) : x.natAbs.log2 < 200 := by
  by_cases h0 : x.natAbs = 0
  · rw [h0]; decide
  · exact (Nat.log2_lt h0).2 h
@[simp] theorem fdiv_ok {i j : Int} (h1 : 0 < j) (h2 : j < 1606938044258990275541962092341162602522202993782792835301376) : fdivOp (.int i) (.int j) = some (.int (i / j)) := by
  have h3 : j.natAbs < 2 ^ 200 := by omega
  have h4 := log_small h3
  simp only [fdivOp]; rw [if_pos ⟨h1, by omega⟩]
theorem mul_ok {i j : Int} (h1 : i.natAbs < 2 ^ 200) (h2 : j.natAbs < 2 ^ 200) : mulOp (.int i) (.int j) = some (.int (i * j)) := by
  have h4 := log_small h1; have h5 := log_small h2
  simp only [mulOp]; rw [if_pos (by omega)]
theorem cube_ok {i : Int} (h1 : i.natAbs < 2 ^ 200) : powOp (.int i) (.int 3) = some (.int (i ^ 3)) := by
  have h4 := log_small h1
  simp only [powOp]; rw [if_pos ⟨by decide, by omega⟩]; rfl
theorem ln_pos : 100 ≤ line := by decide
theorem ln_eq : line = 16777216 := by decide
@[simp] theorem le_line {n : Nat} (h : n ≤ 1000000) : n ≤ line := by rw [ln_eq]; omega
@[simp] theorem lt_line {n : Nat} (h : n ≤ 1000000) : n < line := by rw [ln_eq]; omega
end Vi
end
section
set_option maxRecDepth 100000
/-! Ba: what all laws' texts share: the pot, draws, choices, cells. -/
namespace Vi.B
open Vi L2
abbrev z (s : String) : PySem.Str := PySem.Str.ofString s
def ePot (p1 p2 : Int) : E := (.ite (.op .lt (.cons false (.var 1) (.cons false (.op .len (.cons false (.var 0) .nil)) .nil))) (.op .idx (.cons false (.var 0) (.cons false (.var 1) .nil))) (.op .add (.cons false (.op .add (.cons false (.op .mod (.cons false (.op .sum (.cons false (.slc (.var 0) false true (.cons false (.lit (.int (1))) .nil)) .nil)) (.cons false (.lit (.int (1000003))) .nil))) (.cons false (.op .mul (.cons false (.lit (.int p1)) (.cons false (.var 1) .nil))) .nil))) (.cons false (.lit (.int p2)) .nil))))
def fPot (p1 p2 p3 p4 p5 : Int) : Fn := ⟨2, 5, (.cons (.asg (.v 2) (ePot p1 p2)) (.cons (.asg (.v 3) (.op .mul (.cons false (.op .mod (.cons false (.op .int (.cons false (.op .abs (.cons false (.var 2) .nil)) .nil)) (.cons false (.op .pow (.cons false (.op .pow (.cons false (.lit (.int (10))) (.cons false (.lit (.int (60))) .nil))) (.cons false (.lit (.int (5))) .nil))) .nil))) (.cons false (.op .int (.cons false (.op .ge (.cons false (.op .abs (.cons false (.var 2) .nil)) (.cons false (.op .pow (.cons false (.lit (.int (10))) (.cons false (.lit (.int (18))) .nil))) .nil))) .nil)) .nil)))) (.cons (.asg (.v 4) (.op .mod (.cons false (.op .int (.cons false (.var 2) .nil)) (.cons false (.lit (.int (2305843009213693951))) .nil)))) (.cons (.ret (.lst (.cons false (.var 3) (.cons false (.op .mod (.cons false (.op .int (.cons false (.op .add (.cons false (.op .add (.cons false (.op .mul (.cons false (.var 4) (.cons false (.lit (.int p3)) .nil))) (.cons false (.op .mul (.cons false (.op .mul (.cons false (.lit (.int p4)) (.cons false (.var 1) .nil))) (.cons false (.var 1) .nil))) .nil))) (.cons false (.lit (.int p5)) .nil))) .nil)) (.cons false (.lit (.int (2305843009213693921))) .nil))) (.cons false (.lit (.int (0))) .nil))))) .nil))))⟩
def fTakeC (t1 t2 t3 t4 x0 x1 x2 x3 x4 y0 y1 : Int) : Fn := ⟨2, 5, (.cons (.iff (.op .gt (.cons false (.op .idx (.cons false (.var 0) (.cons false (.lit (.int (0))) .nil))) (.cons false (.lit (.int (0))) .nil))) (.cons (.asg (.v 4) (.op .mod (.cons false (.op .int (.cons false (.op .idx (.cons false (.var 0) (.cons false (.lit (.int (0))) .nil))) .nil)) (.cons false (.var 1) .nil)))) (.cons (.setix 0 (.lit (.int (0))) (.op .fdiv (.cons false (.op .idx (.cons false (.var 0) (.cons false (.lit (.int (0))) .nil))) (.cons false (.var 1) .nil)))) (.cons (.ret (.var 4)) .nil))) .nil) (.cons (.setix 0 (.lit (.int (2))) (.op .add (.cons false (.op .idx (.cons false (.var 0) (.cons false (.lit (.int (2))) .nil))) (.cons false (.lit (.int (1))) .nil)))) (.cons (.asg (.v 2) (.op .idx (.cons false (.lst (.cons false (.lit (.int x0)) (.cons false (.lit (.int x1)) (.cons false (.lit (.int x2)) (.cons false (.lit (.int x3)) (.cons false (.lit (.int x4)) .nil)))))) (.cons false (.op .mod (.cons false (.op .int (.cons false (.op .idx (.cons false (.var 0) (.cons false (.lit (.int (2))) .nil))) .nil)) (.cons false (.lit (.int (5))) .nil))) .nil)))) (.cons (.asg (.v 3) (.op .mod (.cons false (.op .int (.cons false (.op .pow (.cons false (.op .int (.cons false (.op .add (.cons false (.op .add (.cons false (.op .idx (.cons false (.var 0) (.cons false (.lit (.int (1))) .nil))) (.cons false (.op .mul (.cons false (.op .mul (.cons false (.lit (.int t1)) (.cons false (.op .idx (.cons false (.var 0) (.cons false (.lit (.int (2))) .nil))) .nil))) (.cons false (.op .idx (.cons false (.var 0) (.cons false (.lit (.int (2))) .nil))) .nil))) .nil))) (.cons false (.lit (.int t2)) .nil))) .nil)) (.cons false (.lit (.int (3))) .nil))) .nil)) (.cons false (.var 2) .nil)))) (.cons (.asg (.v 3) (.op .mod (.cons false (.op .int (.cons false (.op .mul (.cons false (.var 3) (.cons false (.op .add (.cons false (.op .mod (.cons false (.op .int (.cons false (.var 3) .nil)) (.cons false (.lit (.int t3)) .nil))) (.cons false (.op .mul (.cons false (.lit (.int t4)) (.cons false (.op .idx (.cons false (.var 0) (.cons false (.lit (.int (2))) .nil))) .nil))) .nil))) .nil))) .nil)) (.cons false (.lit (.int y0)) .nil)))) (.cons (.ret (.op .mod (.cons false (.op .int (.cons false (.op .fdiv (.cons false (.var 3) (.cons false (.lit (.int y1)) .nil))) .nil)) (.cons false (.var 1) .nil)))) .nil))))))⟩
def fTake (t1 t2 t3 t4 : Int) : Fn := fTakeC t1 t2 t3 t4 2147483647 2147483629 2147483587 2147483579 2147483563 2305843009213693907 167
def fOf : Fn := ⟨2, 2, (.cons (.ret (.op .idx (.cons false (.var 1) (.cons false (.call (z "_law_take") (.cons false (.var 0) (.cons false (.op .len (.cons false (.var 1) .nil)) .nil))) .nil)))) .nil)⟩
def fCells : Fn := ⟨2, 2, (.cons (.ret (.op .listrange (.cons false (.op .max2 (.cons false (.lit (.int (1))) (.cons false (.op .min2 (.cons false (.var 1) (.cons false (.op .len (.cons false (.var 0) .nil)) .nil))) .nil))) .nil))) .nil)⟩

theorem log_lt {x : Int} {c : Nat} (h : x.natAbs < 2 ^ c) (hc : 0 < c) : x.natAbs.log2 < c := by
  by_cases h0 : x.natAbs = 0
  · rw [h0]; simpa using hc
  · exact (Nat.log2_lt h0).2 h
/-- a pot that has been drawn from at most M times without own digits -/
def PotD (M : Int) (d : D) : Prop := ∃ own sm m, d = .lst true [.int own, .int sm, .int m] ∧ 0 ≤ sm ∧ sm < 2305843009213693951 ∧ 0 ≤ m ∧ m ≤ M
theorem PotD.mono {M N : Int} {d : D} (h : PotD M d) (hl : M ≤ N) : PotD N d := by
  obtain ⟨o, s, m, h1, h2, h3, h4, h5⟩ := h
  exact ⟨o, s, m, h1, h2, h3, h4, by omega⟩
theorem PotD.own {M : Int} {d : D} (h : PotD M d) : d.own = true := by obtain ⟨o, s, m, rfl, _⟩ := h; rfl
theorem take_idx (m : Int) : ∃ q : Int, 0 < q ∧ q < 4294967296 ∧ idxOp (.lst true [.int 2147483647, .int 2147483629, .int 2147483587, .int 2147483579, .int 2147483563]) (.int (m % 5)) = some (.int q) := by
  have h : m % 5 = 0 ∨ m % 5 = 1 ∨ m % 5 = 2 ∨ m % 5 = 3 ∨ m % 5 = 4 := by omega
  rcases h with h | h | h | h | h <;> rw [h] <;> refine ⟨_, ?_, ?_, rfl⟩ <;> decide
theorem take_ownA {u : Nat} {φ : Phi} {t1 t2 t3 t4 x0 x1 x2 x3 x4 y0 y1 own sm m upto q r : Int} (h0 : gtOp (.int own) (.int 0) = some (.bl true)) (h1 : fdivOp (.int own) (.int upto) = some (.int q)) (h2 : modOp (.int own) (.int upto) = some (.int r)) :
    callDK u φ (fTakeC t1 t2 t3 t4 x0 x1 x2 x3 x4 y0 y1) [.lst true [.int own, .int sm, .int m], .int upto] = some (.int r, [some (.lst true [.int q, .int sm, .int m]), some (.int upto)]) := by
  simp [callDK, execsK, execK, denK, denAK, denAnK, denOrK, denOK, denFK, denTK, denIK, denAlK, getV, compL, forL, atI, ixN, fTakeC, h0, h1, h2, -mod_int, -fdiv_ok, -gt_int]
theorem take_own {u : Nat} {φ : Phi} {t1 t2 t3 t4 own sm m upto : Int} (ho : 0 < own) (hu : 0 < upto) (hv : upto < 1267650600228229401496703205376) :
    callDK u φ (fTake t1 t2 t3 t4) [.lst true [.int own, .int sm, .int m], .int upto] = some (.int (own % upto), [some (.lst true [.int (own / upto), .int sm, .int m]), some (.int upto)]) :=
  take_ownA (by rw [gt_int, decide_eq_true ho]) (fdiv_ok hu (by omega)) (by rw [mod_int, if_pos hu])
theorem mul_b {i j : Int} {x y : Nat} (h1 : i.natAbs < 2 ^ x) (h2 : j.natAbs < 2 ^ y) : (i * j).natAbs < 2 ^ (x + y) := by
  rw [Int.natAbs_mul, Nat.pow_add]; exact Nat.mul_lt_mul_of_lt_of_lt h1 h2
theorem take_mixA {u : Nat} {φ : Phi} {t1 t2 t3 t4 x0 x1 x2 x3 x4 y0 y1 own sm m upto q r m5 p1 p2 p3 c c1 b e f g : Int} (h0 : gtOp (.int own) (.int 0) = some (.bl false))
    (h5 : modOp (.int (m + 1)) (.int 5) = some (.int m5)) (hq : atI [D.int x0, .int x1, .int x2, .int x3, .int x4] m5 = some (.int q))
    (e1 : mulOp (.int t1) (.int (m + 1)) = some (.int p1)) (e2 : mulOp (.int p1) (.int (m + 1)) = some (.int p2)) (e3 : powOp (.int (sm + p2 + t2)) (.int 3) = some (.int p3)) (e4 : modOp (.int p3) (.int q) = some (.int c))
    (e5 : modOp (.int c) (.int t3) = some (.int c1)) (e6 : mulOp (.int t4) (.int (m + 1)) = some (.int b)) (e7 : mulOp (.int c) (.int (c1 + b)) = some (.int e)) (e8 : modOp (.int e) (.int y0) = some (.int f))
    (e9 : fdivOp (.int f) (.int y1) = some (.int g)) (e10 : modOp (.int g) (.int upto) = some (.int r)) :
    callDK u φ (fTakeC t1 t2 t3 t4 x0 x1 x2 x3 x4 y0 y1) [.lst true [.int own, .int sm, .int m], .int upto] = some (.int r, [some (.lst true [.int own, .int sm, .int (m + 1)]), some (.int upto)]) := by
  have i0 : atI [D.int own, D.int sm, D.int m] 0 = some (.int own) := rfl
  have i2 : atI [D.int own, D.int sm, D.int m] 2 = some (.int m) := rfl
  have i1 : atI [D.int own, D.int sm, D.int (m + 1)] 1 = some (.int sm) := rfl
  have i3 : atI [D.int own, D.int sm, D.int (m + 1)] 2 = some (.int (m + 1)) := rfl
  have hs : setOp (.lst true [D.int own, D.int sm, D.int m]) (.int 2) (.int (m + 1)) = some (.lst true [.int own, .int sm, .int (m + 1)]) := rfl
  simp [callDK, execsK, execK, denK, denAK, denFK, denTK, getV, fTakeC, h0, h5, hq, e1, e2, e3, e4, e5, e6, e7, e8, e9, e10, i0, i1, i2, i3, hs, -mod_int, -fdiv_ok, -gt_int, -set_lst]
theorem take_mix {u : Nat} {φ : Phi} {t1 t2 t3 t4 own sm m upto : Int} (ho : ¬ 0 < own) (hu : 0 < upto) (hv : upto < 1267650600228229401496703205376)
    (h1 : 0 ≤ t1 ∧ t1 < 1048576) (h2 : 0 ≤ t2 ∧ t2 < 1048576) (h3 : 0 < t3 ∧ t3 < 1048576) (h4 : 0 ≤ t4 ∧ t4 < 1048576) (hs : 0 ≤ sm ∧ sm < 2305843009213693951) (hm : 0 ≤ m ∧ m < 1073741824) :
    ∃ r : Int, 0 ≤ r ∧ r < upto ∧ callDK u φ (fTake t1 t2 t3 t4) [.lst true [.int own, .int sm, .int m], .int upto] = some (.int r, [some (.lst true [.int own, .int sm, .int (m + 1)]), some (.int upto)]) := by
  obtain ⟨q, hq0, hq1, hq⟩ := take_idx (m + 1)
  have b1 : (m + 1).natAbs < 2 ^ 31 := by omega
  have c1 : (t1 * (m + 1)).natAbs < 2 ^ (20 + 31) := mul_b (by omega) b1
  have c2 : (t1 * (m + 1) * (m + 1)).natAbs < 2 ^ (20 + 31 + 31) := mul_b c1 b1
  have e1 : mulOp (.int t1) (.int (m + 1)) = some (.int (t1 * (m + 1))) := mul_ok (by omega) (by omega)
  have e2 : mulOp (.int (t1 * (m + 1))) (.int (m + 1)) = some (.int (t1 * (m + 1) * (m + 1))) := mul_ok (by omega) (by omega)
  generalize t1 * (m + 1) * (m + 1) = P2 at *
  have e3 : powOp (.int (sm + P2 + t2)) (.int 3) = some (.int ((sm + P2 + t2) ^ 3)) := cube_ok (by omega)
  generalize (sm + P2 + t2) ^ 3 = A at *
  have e6 : mulOp (.int t4) (.int (m + 1)) = some (.int (t4 * (m + 1))) := mul_ok (by omega) (by omega)
  have c4 : (t4 * (m + 1)).natAbs < 2 ^ (20 + 31) := mul_b (by omega) b1
  generalize t4 * (m + 1) = B at *
  have d1 := Int.emod_nonneg A (show q ≠ 0 by omega); have d2 := Int.emod_lt_of_pos A hq0
  have e4 : modOp (.int A) (.int q) = some (.int (A % q)) := by rw [mod_int, if_pos hq0]
  generalize A % q = C at *
  have d3 := Int.emod_nonneg C (show t3 ≠ 0 by omega); have d4 := Int.emod_lt_of_pos C h3.1
  have e7 : mulOp (.int C) (.int (C % t3 + B)) = some (.int (C * (C % t3 + B))) := mul_ok (by omega) (by omega)
  have e5 : modOp (.int C) (.int t3) = some (.int (C % t3)) := by rw [mod_int, if_pos h3.1]
  exact ⟨_, Int.emod_nonneg _ (by omega), Int.emod_lt_of_pos _ hu, take_mixA (by rw [gt_int, decide_eq_false ho]) (by rw [mod_int, if_pos (by decide)]) hq e1 e2 e3 e4 e5 e6 e7
    (by rw [mod_int, if_pos (by decide)]) (fdiv_ok (by decide) (by decide)) (by rw [mod_int, if_pos hu])⟩
/-- what a draw gives -/
def TakeOk (φ : Phi) : Prop := ∀ (M : Int) (d : D) (upto : Int), PotD M d → M < 1073741824 → 0 < upto → upto < 1267650600228229401496703205376 →
  ∃ (r : Int) (d' : D), 0 ≤ r ∧ r < upto ∧ PotD (M + 1) d' ∧ φ (z "_law_take") [d, .int upto] = some (.int r, [some d', some (.int upto)])
theorem take_ok {u : Nat} {φ : Phi} {t1 t2 t3 t4 : Int} (h1 : 0 ≤ t1 ∧ t1 < 1048576) (h2 : 0 ≤ t2 ∧ t2 < 1048576) (h3 : 0 < t3 ∧ t3 < 1048576) (h4 : 0 ≤ t4 ∧ t4 < 1048576)
    {M : Int} {d : D} {upto : Int} (hp : PotD M d) (hM : M < 1073741824) (hu : 0 < upto) (hv : upto < 1267650600228229401496703205376) :
    ∃ (r : Int) (d' : D), 0 ≤ r ∧ r < upto ∧ PotD (M + 1) d' ∧ callDK u φ (fTake t1 t2 t3 t4) [d, .int upto] = some (.int r, [some d', some (.int upto)]) := by
  obtain ⟨own, sm, m, rfl, s0, s1, m0, m1⟩ := hp
  by_cases ho : 0 < own
  · exact ⟨_, _, Int.emod_nonneg _ (by omega), Int.emod_lt_of_pos _ hu, ⟨_, _, _, rfl, s0, s1, m0, by omega⟩, take_own ho hu hv⟩
  · obtain ⟨r, r0, r1, hr⟩ := take_mix (u := u) (φ := φ) ho hu hv h1 h2 h3 h4 ⟨s0, s1⟩ ⟨m0, by omega⟩
    exact ⟨r, _, r0, r1, ⟨_, _, _, rfl, s0, s1, by omega, by omega⟩, hr⟩
theorem at_get {α : Type} {xs : List α} {i : Int} (h0 : 0 ≤ i) (h1 : i < xs.length) : ∃ x, x ∈ xs ∧ atI xs i = some x := by
  have h2 : i.toNat < xs.length := by omega
  refine ⟨xs[i.toNat], List.getElem_mem h2, ?_⟩
  simp [atI, ixN, h0, h1, h2]
/-- what a choice gives -/
theorem of_ok {u : Nat} {φ : Phi} (T : TakeOk φ) {M : Int} {d : D} {o : Bool} {xs : List D} (hp : PotD M d) (hM : M < 1073741824) (h0 : xs ≠ []) (h1 : xs.length < 16777216) :
    ∃ (x d' : D), x ∈ xs ∧ PotD (M + 1) d' ∧ callDK u φ fOf [d, .lst o xs] = some (x, [some d', some (.lst o xs)]) := by
  have hl : 0 < xs.length := by cases xs; exact absurd rfl h0; exact Nat.succ_pos _
  obtain ⟨r, d', r0, r1, hp', hr⟩ := T M d xs.length hp hM (by omega) (by omega)
  obtain ⟨x, hx, hi⟩ := at_get (xs := xs) r0 r1
  refine ⟨x, d', hx, hp', ?_⟩
  have hd := hp.own
  simp [callDK, execsK, execK, denK, denAK, getV, fOf, hr, hd, hi]


theorem allI_map : ∀ ns : List Int, allI (ns.map .int) = some ns
  | [] => rfl
  | n :: ns => by simp [allI_map ns]
theorem allB_map : ∀ ns : List Bool, allB (ns.map .bl) = some ns
  | [] => rfl
  | n :: ns => by simp [allB_map ns]
theorem ePot_ok {φ : Phi} {p1 p2 : Int} (ns : List Int) (p : Int) (h0 : 0 ≤ p) (h1 : p < 64) (hp : 0 ≤ p1 ∧ p1 < 1048576) :
    ∃ c : Int, denK φ (ePot p1 p2) [some (.scr ns), some (.int p), none, none, none] = some (.int c, [some (.scr ns), some (.int p), none, none, none]) := by
  by_cases hl : p < ns.length
  · obtain ⟨x, _, hx⟩ := at_get (xs := ns) h0 hl
    exact ⟨x, by simp [denK, denAK, getV, ePot, hl, hx]⟩
  · have e1 : mulOp (.int p1) (.int p) = some (.int (p1 * p)) := mul_ok (by omega) (by omega)
    have e2 : ∃ ms : List Int, slcOn (.scr ns) false true [1] = some (.lst true (ms.map .int)) := ⟨(ns.drop (HT.sIx (ns.map D.int).length 0 none)).take (HT.sIx (ns.map D.int).length (ns.map D.int).length (some 1) - HT.sIx (ns.map D.int).length 0 none), by simp only [slcOn, slcOp, cutD, List.map_take, List.map_drop]⟩
    obtain ⟨ms, e2⟩ := e2
    exact ⟨_, by simp [denK, denAK, denOK, getV, ePot, hl, e1, e2, allI_map]; rfl⟩
theorem potA {u : Nat} {φ : Phi} {p1 p2 p3 p4 p5 p c a k60 k300 k18 w own s0 s1 s2 s3 sm : Int} {b : Bool} (ns : List Int)
    (hc : denK φ (ePot p1 p2) [some (.scr ns), some (.int p), none, none, none] = some (.int c, [some (.scr ns), some (.int p), none, none, none]))
    (ha : absOp (.int c) = some (.int a)) (h60 : powOp (.int 10) (.int 60) = some (.int k60)) (h300 : powOp (.int k60) (.int 5) = some (.int k300)) (hw : modOp (.int a) (.int k300) = some (.int w))
    (h18 : powOp (.int 10) (.int 18) = some (.int k18)) (hb : geOp (.int a) (.int k18) = some (.bl b)) (ho : mulOp (.int w) (.int (if b then 1 else 0)) = some (.int own))
    (h0 : modOp (.int c) (.int 2305843009213693951) = some (.int s0)) (h1 : mulOp (.int s0) (.int p3) = some (.int s1)) (h2 : mulOp (.int p4) (.int p) = some (.int s2)) (h3 : mulOp (.int s2) (.int p) = some (.int s3))
    (h4 : modOp (.int (s1 + s3 + p5)) (.int 2305843009213693921) = some (.int sm)) :
    callDK u φ (fPot p1 p2 p3 p4 p5) [.scr ns, .int p] = some (.lst true [.int own, .int sm, .int 0], [some (.scr ns), some (.int p)]) := by
  simp [callDK, execsK, execK, denK, denAK, denFK, getV, fPot, hc, ha, h60, h300, hw, h18, hb, ho, h0, h1, h2, h3, h4, -mod_int, -fdiv_ok, -ge_int, -abs_int]
theorem mul_log {i j : Int} (h1 : i.natAbs.log2 < 5000) (h2 : j.natAbs.log2 < 5000) : mulOp (.int i) (.int j) = some (.int (i * j)) := by
  simp only [mulOp]; rw [if_pos (by omega)]
theorem bl_log (b : Bool) : (if b = true then 1 else 0 : Int).natAbs.log2 < 5000 := by cases b <;> decide
theorem pot_ok {u : Nat} {φ : Phi} {p1 p2 p3 p4 p5 : Int} (ns : List Int) {p : Int} (h0 : 0 ≤ p) (h1 : p < 64) (hp1 : 0 ≤ p1 ∧ p1 < 1048576) (hp3 : 0 ≤ p3 ∧ p3 < 1048576) (hp4 : 0 ≤ p4 ∧ p4 < 1048576) :
    ∃ d, PotD 0 d ∧ callDK u φ (fPot p1 p2 p3 p4 p5) [.scr ns, .int p] = some (d, [some (.scr ns), some (.int p)]) := by
  obtain ⟨c, hc⟩ := ePot_ok (φ := φ) (p2 := p2) ns p h0 h1 hp1
  have q60 : ∃ x : Int, x = 10 ^ 60 := ⟨_, rfl⟩
  obtain ⟨k60, hk60⟩ := q60
  have q300 : ∃ x : Int, x = k60 ^ 5 := ⟨_, rfl⟩
  obtain ⟨k300, hk300⟩ := q300
  have l60 : k60.natAbs.log2 < 100000 := by rw [hk60]; decide +kernel
  have l300 : 0 < k300 := by rw [hk300, hk60]; decide +kernel
  have m300 : k300.natAbs < 2 ^ 1000 := by rw [hk300, hk60]; decide +kernel
  have h60 : powOp (.int 10) (.int 60) = some (.int k60) := by simp only [powOp]; rw [if_pos (by decide +kernel), hk60]; rfl
  have h300 : powOp (.int k60) (.int 5) = some (.int k300) := by simp only [powOp]; rw [if_pos ⟨by decide, by decide, l60⟩, hk300]; rfl
  have h18 : powOp (.int 10) (.int 18) = some (.int 1000000000000000000) := by simp only [powOp]; rw [if_pos (by decide +kernel)]; rfl
  have d1 := Int.emod_nonneg c (show (2305843009213693951 : Int) ≠ 0 by decide); have d2 := Int.emod_lt_of_pos c (show (0 : Int) < 2305843009213693951 by decide)
  have hs0 : modOp (.int c) (.int 2305843009213693951) = some (.int (c % 2305843009213693951)) := by rw [mod_int, if_pos (by decide)]
  have f2 : (p4 * p).natAbs < 2 ^ (20 + 6) := mul_b (by omega) (by omega)
  have e1 : mulOp (.int (c % 2305843009213693951)) (.int p3) = some (.int (c % 2305843009213693951 * p3)) := mul_ok (by omega) (by omega)
  have e2 : mulOp (.int p4) (.int p) = some (.int (p4 * p)) := mul_ok (by omega) (by omega)
  have e3 : mulOp (.int (p4 * p)) (.int p) = some (.int (p4 * p * p)) := mul_ok (by omega) (by omega)
  have e4 : ∀ x : Int, modOp (.int x) (.int k300) = some (.int (x % k300)) := fun x => by rw [mod_int, if_pos l300]
  have w1 : ∀ x : Int, (x % k300).natAbs.log2 < 5000 := fun x => by
    have g1 := Int.emod_nonneg x (show k300 ≠ 0 by omega); have g2 := Int.emod_lt_of_pos x l300
    by_cases g0 : (x % k300).natAbs = 0
    · rw [g0]; decide
    · exact Nat.lt_trans ((Nat.log2_lt g0).2 (Nat.lt_trans (by omega) m300)) (by decide)
  refine ⟨_, ?_, potA ns hc (abs_int c) h60 h300 (e4 _) h18 (ge_int _ _) (mul_log (w1 _) ?_) hs0 e1 e2 e3 (by rw [mod_int, if_pos (by decide)])⟩
  · exact ⟨_, _, _, rfl, Int.emod_nonneg _ (by decide), Int.lt_trans (Int.emod_lt_of_pos _ (by decide)) (by decide), by decide, by decide⟩
  · exact bl_log _
theorem cells_ok {u : Nat} {φ : Phi} (ns : List Int) {m : Int} (h0 : 1 ≤ m) (h1 : m < 1000) :
    ∃ c : Nat, 1 ≤ c ∧ (c : Int) ≤ m ∧ callDK u φ fCells [.scr ns, .int m] = some (.lst true ((List.range c).map fun i => .int (i : Nat)), [some (.scr ns), some (.int m)]) := by
  have h : ∃ c : Int, 1 ≤ c ∧ c ≤ m ∧ int2 (fun a b => if b > a then b else a) (.int 1) (.int (if (ns.length : Int) < m then ns.length else m)) = some (.int c) := by
    simp only [int2_int]
    refine ⟨_, ?_, ?_, rfl⟩ <;> (split <;> split <;> omega)
  obtain ⟨c, c1, c2, hc⟩ := h
  refine ⟨c.toNat, by omega, by omega, ?_⟩
  have hr : listrangeOp (.int c) = some (.lst true ((List.range c.toNat).map fun i => .int (i : Nat))) := by
    simp only [listrangeOp]; rw [if_pos (by omega)]
  have hm : int2 (fun a b => if b < a then b else a) (.int m) (.int ns.length) = some (.int (if (ns.length : Int) < m then ns.length else m)) := rfl
  simp [callDK, execsK, execK, denK, denAK, getV, fCells, hc, hm, hr, -int2_int]
theorem compL_map {body : D → Ev → Option (Option D × Ev)} {f : D → D} {env : Ev} : ∀ (xs acc : List D), (∀ x ∈ xs, body x env = some (some (f x), env)) → acc.length + xs.length ≤ line → compL body xs acc env = some (acc ++ xs.map f, env)
  | [], acc, _, _ => by simp [compL]
  | x :: xs, acc, h, hl => by
    have h1 := h x (List.mem_cons_self ..)
    simp only [List.length_cons] at hl
    simp only [compL]
    rw [if_pos (by omega), h1]
    simp only [Option.bind_some]
    rw [compL_map xs (acc ++ [f x]) (fun y hy => h y (List.mem_cons_of_mem _ hy)) (by simp only [List.length_append, List.length_cons, List.length_nil]; omega)]
    simp
@[simp] theorem backAs_v1 (x d : D) (fin : List (Option D)) (env : Ev) : backAs [.v x] [d] fin env = env := by cases fin <;> rfl
/-- a law that asks for each of the first cells -/
def cLaw (m : Int) : E := .comp (.call (z "_law_right") (.cons false (.call (z "_law_pot") (.cons false (.var 0) (.cons false (.var 1) .nil))) .nil)) (.v 1) (.val (.call (z "_law_cells") (.cons false (.var 0) (.cons false (.lit (.int m)) .nil)))) .nil [1]
def fLaw (m : Int) : Fn := ⟨1, 2, (.cons (.ret (.op .all (.cons false (cLaw m) .nil))) .nil)⟩
theorem law_all {u : Nat} {φ : Phi} {m : Int} (ns : List Int) (h0 : 1 ≤ m) (h1 : m < 64)
    (hp : ∀ p : Int, 0 ≤ p → p < 64 → ∃ d, PotD 0 d ∧ φ (z "_law_pot") [.scr ns, .int p] = some (d, [some (.scr ns), some (.int p)]))
    (hc : ∃ c : Nat, 1 ≤ c ∧ (c : Int) ≤ m ∧ φ (z "_law_cells") [.scr ns, .int m] = some (.lst true ((List.range c).map fun i => .int (i : Nat)), [some (.scr ns), some (.int m)]))
    (hr : ∀ d, PotD 0 d → ∃ fin, φ (z "_law_right") [d] = some (.bl true, fin)) : ∃ fin, callDK u φ (fLaw m) [.scr ns] = some (.bl true, fin) := by
  obtain ⟨c, c1, c2, hc⟩ := hc
  refine ⟨[some (.scr ns)], ?_⟩
  have hb := compL_map (body := fun x e => (bindT [] (.v 1) x e).bind fun e1 => (denAlK φ .nil e1).bind fun b => if b.1 then (denK φ (.call (z "_law_right") (.cons false (.call (z "_law_pot") (.cons false (.var 0) (.cons false (.var 1) .nil))) .nil)) b.2).map fun y => (some y.1.frz, wipeE y.2 [1]) else some (none, wipeE b.2 [1]))
    (f := fun _ => .bl true) (env := [some (.scr ns), none]) ((List.range c).map fun i => D.int (i : Nat)) [] (by
      intro x hx
      obtain ⟨i, hi, rfl⟩ := List.mem_map.1 hx
      have hi' := List.mem_range.1 hi
      obtain ⟨d, hd, hpd⟩ := hp i (by omega) (by omega)
      obtain ⟨fin, hrd⟩ := hr d hd
      simp [denAlK, denK, denAK, getV, hpd, hrd]) (by simp; rw [ln_eq]; omega)
  have hI : denIK φ (.val (.call (z "_law_cells") (.cons false (.var 0) (.cons false (.lit (.int m)) .nil)))) [some (.scr ns), none] = some ((List.range c).map fun i => .int (i : Nat), none, [some (.scr ns), none]) := by
    simp [denIK, denK, denAK, getV, hc]
  have hC : denK φ (cLaw m) [some (.scr ns), none] = some (.lst true (((List.range c).map fun i => D.int (i : Nat)).map fun _ => .bl true), [some (.scr ns), none]) := by
    unfold cLaw
    rw [denK, hI]
    simp only [Option.bind_some, wipeE_cons, wipeE_nil, List.set_cons_succ, List.set_cons_zero]
    simp only [wipeE_cons, wipeE_nil] at hb
    rw [hb]; rfl
  have hall : allB (((List.range c).map fun i => D.int (i : Nat)).map fun _ => .bl true) = some ((List.range c).map fun _ => true) := by
    rw [List.map_map, ← allB_map, List.map_map]; rfl
  have hpk : ∀ env r, pk (cLaw m) env r = r.map fun q => (.v q.1, q.2) := fun _ _ => rfl
  simp [callDK, execsK, execK, denK, denAK, getV, fLaw, hpk, hC, -List.map_map, hall]
end Vi.B
end
section
/-! Bb: repr of tuples of integers. -/
namespace Vi.B
open PySem Vi L2
theorem toPys_ints : ∀ ns : List Int, toPys (ns.map .int) = ns.map .int
  | [] => by simp only [List.map_nil, toPys]
  | n :: ns => by simp only [List.map_cons, toPys, toPy, toPys_ints ns]
theorem plains_ints (k : Nat) : ∀ ns : List Int, plains k (ns.map .int) = true
  | [] => by simp only [List.map_nil, plains]
  | n :: ns => by simp only [List.map_cons, plains, plains_ints k ns]; cases k <;> rfl
theorem join_le {B : Nat} : ∀ ts : List Str, (∀ t ∈ ts, t.length ≤ B) → (Str.join ", " ts).length ≤ ts.length * (B + 2)
  | [], _ => by show (0 : Nat) ≤ _; omega
  | [x], h => by
    have := h x (List.mem_cons_self ..)
    show x.length ≤ _
    simp; omega
  | x :: y :: r, h => by
    have h1 := h x (List.mem_cons_self ..)
    have ih := join_le (y :: r) (fun t ht => h t (List.mem_cons_of_mem _ ht))
    have e2 : ((", " : String) : Str).length = 2 := rfl
    show (x ++ ", " ++ Str.join ", " (y :: r)).length ≤ _
    rw [strLen_append, strLen_append, e2]
    simp only [List.length_cons, Nat.add_mul, Nat.one_mul] at ih ⊢; omega
theorem repr_ints {ns : List Int} (h : ∀ n ∈ ns, n.natAbs.log2 < 1920) (hl : ns.length ≤ 1000) : opSem .repr [.tup (ns.map .int)] = some (.str (toPy (.tup (ns.map .int))).shown) := by
  have h1 : plain 60 (.tup (ns.map .int)) = true := by simp only [plain, plains_ints]
  have h2 : (toPy (.tup (ns.map .int))).showable = true := by
    simp only [toPy, toPys_ints, PyData.showable]
    exact PyData.showableAll_ints ns h
  have h3 : (toPy (.tup (ns.map .int))).shown.length ≤ line := by
    simp only [toPy, toPys_ints, PyData.shown_tuple, PyData.shownAll_ints]
    rw [strLen_append, strLen_append]
    have e1 : (("(" : String) : Str).length = 1 := rfl
    have e3 : (((if (List.map PyData.int ns).length == 1 then ",)" else ")" : String) : Str)).length ≤ 2 := by split <;> decide
    have e4 := join_le (B := 1921) (ns.map fun n => ((toString n : String) : Str)) (by
      intro t ht
      obtain ⟨n, hn, rfl⟩ := List.mem_map.1 ht
      exact PyProof.Rows.int_text_len_1921 (h n hn))
    rw [List.length_map] at e4
    rw [ln_eq]
    have : ns.length * (1921 + 2) ≤ 1000 * 1923 := Nat.mul_le_mul hl (Nat.le_refl _)
    omega
  simp only [opSem]
  rw [if_pos]
  rw [h1, h2, decide_eq_true h3]; rfl
theorem log_1920 {x : Int} (h : x.natAbs < 2 ^ 200) : x.natAbs.log2 < 1920 := Nat.lt_trans (log_small h) (by decide)
end Vi.B
end
section
set_option maxRecDepth 100000
/-! Bc: webs as rows of names: counts, roads, ends, one road called otherwise. -/
namespace Vi.B
open Vi L2
def fSome : Fn := ⟨3, 6, (.cons (.par [4, 5] (.cons false (.op .list (.cons false (.var 1) .nil)) (.cons false (.lst .nil) .nil))) (.cons (.forr (.v 3) (.range (.cons false (.var 2) .nil)) (.cons (.exp (.mut .append 5 (.cons false (.mut .popAt 4 (.cons false (.call (z "_law_take") (.cons false (.var 0) (.cons false (.op .len (.cons false (.var 4) .nil)) .nil))) .nil)) .nil))) .nil)) (.cons (.ret (.var 5)) .nil)))⟩
def fWText : Fn := ⟨1, 2, (.cons (.ret (.opm .join (.lit (.str (z "\n"))) (.cons false (.op .add (.cons false (.lst (.cons false (.lit (.str (z "web"))) .nil)) (.cons false (.comp (.op .add (.cons false (.lit (.str (z "meet "))) (.cons false (.opm .join (.lit (.str (z " "))) (.cons false (.op .list (.cons false (.var 1) .nil)) .nil)) .nil))) (.v 1) (.val (.var 0)) .nil [1]) .nil))) .nil))) .nil)⟩
def fTimes : Fn := ⟨1, 4, (.cons (.asg (.v 1) (.dnew false)) (.cons (.forr (.v 2) (.val (.var 0)) (.cons (.forr (.v 3) (.val (.var 2)) (.cons (.setix 1 (.var 3) (.op .add (.cons false (.opm .get2 (.var 1) (.cons false (.var 3) (.cons false (.lit (.int (0))) .nil))) (.cons false (.lit (.int (1))) .nil)))) .nil)) .nil)) (.cons (.ret (.var 1)) .nil)))⟩
def fWRoads : Fn := ⟨1, 1, (.cons (.ret (.op .sorted (.cons false (.op .list (.cons false (.call (z "_law_web_times") (.cons false (.var 0) .nil)) .nil)) .nil))) .nil)⟩
def fWEnds : Fn := ⟨1, 3, (.cons (.ret (.op .sorted (.cons false (.comp (.var 1) (.t (.cons (.v 1) (.cons (.v 2) .nil))) (.items (.call (z "_law_web_times") (.cons false (.var 0) .nil))) (.cons false (.op .eq (.cons false (.var 2) (.cons false (.lit (.int (1))) .nil))) .nil) [1, 2]) .nil))) .nil)⟩
def fWNames : Fn := ⟨2, 3, (.cons (.asg (.v 2) (.op .add (.cons false (.op .list (.cons false (.lit (.str (z "abcdefghijklmnopqrstuvwxyz"))) .nil)) (.cons false (.lst (.cons false (.lit (.str (z "meet"))) (.cons false (.lit (.str (z "web"))) (.cons false (.lit (.str (z "road"))) (.cons false (.lit (.str (z "ab"))) (.cons false (.lit (.str (z "zz"))) (.cons false (.lit (.str (z "round"))) .nil))))))) .nil)))) (.cons (.ret (.call (z "_law_some") (.cons false (.var 0) (.cons false (.var 2) (.cons false (.var 1) .nil))))) .nil))⟩
def fPut : Fn := ⟨4, 8, (.cons (.asg (.v 4) (.lst .nil)) (.cons (.forr (.v 5) (.val (.var 0)) (.cons (.asg (.v 6) (.lst .nil)) (.cons (.forr (.v 7) (.val (.var 5)) (.cons (.exp (.mut .append 6 (.cons false (.ite (.an (.cons false (.op .eq (.cons false (.var 7) (.cons false (.var 1) .nil))) (.cons false (.op .gt (.cons false (.var 3) (.cons false (.lit (.int (0))) .nil))) .nil))) (.var 2) (.var 7)) .nil))) (.cons (.asg (.v 3) (.op .sub (.cons false (.var 3) (.cons false (.op .int (.cons false (.op .eq (.cons false (.var 7) (.cons false (.var 1) .nil))) .nil)) .nil)))) .nil))) (.cons (.exp (.mut .append 4 (.cons false (.op .tuple (.cons false (.var 6) .nil)) .nil))) .nil)))) (.cons (.ret (.var 4)) .nil)))⟩
def fTree : Fn := ⟨3, 10, (.cons (.par [4, 5] (.cons false (.lst (.cons false (.op .tuple (.cons false (.slc (.var 1) false true (.cons false (.lit (.int (3))) .nil)) .nil)) .nil)) (.cons false (.op .list (.cons false (.slc (.var 1) true false (.cons false (.lit (.int (3))) .nil)) .nil)) .nil))) (.cons (.forr (.v 3) (.range (.cons false (.op .sub (.cons false (.var 2) (.cons false (.lit (.int (3))) .nil))) .nil)) (.cons (.asg (.v 6) (.call (z "_law_of") (.cons false (.var 0) (.cons false (.call (z "_law_web_roads") (.cons false (.var 4) .nil)) .nil)))) (.cons (.par [8, 9] (.cons false (.op .idx (.cons false (.var 5) (.cons false (.lit (.int (0))) .nil))) (.cons false (.op .idx (.cons false (.var 5) (.cons false (.lit (.int (1))) .nil))) .nil))) (.cons (.asg (.v 5) (.slc (.var 5) true false (.cons false (.lit (.int (2))) .nil))) (.cons (.asg (.v 7) (.op .idx (.cons false (.call (z "_law_web_times") (.cons false (.var 4) .nil)) (.cons false (.var 6) .nil)))) (.cons (.iff (.op .eq (.cons false (.var 7) (.cons false (.lit (.int (2))) .nil))) (.cons (.asg (.v 4) (.call (z "_law_web_put") (.cons false (.call (z "_law_web_put") (.cons false (.var 4) (.cons false (.var 6) (.cons false (.lit (.str (z "?"))) (.cons false (.lit (.int (1))) .nil))))) (.cons false (.var 6) (.cons false (.var 8) (.cons false (.lit (.int (1))) .nil)))))) (.cons (.asg (.v 4) (.call (z "_law_web_put") (.cons false (.var 4) (.cons false (.lit (.str (z "?"))) (.cons false (.var 6) (.cons false (.lit (.int (1))) .nil)))))) .nil)) .nil) (.cons (.asg (.v 4) (.op .add (.cons false (.var 4) (.cons false (.lst (.cons false (.tup (.cons false (.var 6) (.cons false (.var 8) (.cons false (.var 9) .nil)))) .nil)) .nil)))) .nil))))))) (.cons (.ret (.var 4)) .nil)))⟩
def fDrawn : Fn := ⟨3, 8, (.cons (.asg (.v 3) (.op .add (.cons false (.var 1) (.cons false (.op .mul (.cons false (.lit (.int (2))) (.cons false (.var 2) .nil))) .nil)))) (.cons (.asg (.v 4) (.call (z "_law_web_tree") (.cons false (.var 0) (.cons false (.call (z "_law_web_names") (.cons false (.var 0) (.cons false (.op .sub (.cons false (.op .mul (.cons false (.lit (.int (2))) (.cons false (.var 3) .nil))) (.cons false (.lit (.int (3))) .nil))) .nil))) (.cons false (.var 3) .nil))))) (.cons (.forr (.v 5) (.range (.cons false (.var 2) .nil)) (.cons (.asg (.t (.cons (.v 6) (.cons (.v 7) .nil))) (.call (z "_law_some") (.cons false (.var 0) (.cons false (.call (z "_law_web_ends") (.cons false (.var 4) .nil)) (.cons false (.lit (.int (2))) .nil))))) (.cons (.asg (.v 4) (.call (z "_law_web_put") (.cons false (.var 4) (.cons false (.var 7) (.cons false (.var 6) (.cons false (.lit (.int (1))) .nil)))))) .nil))) (.cons (.ret (.call (z "_law_web_turned") (.cons false (.var 0) (.cons false (.var 4) .nil)))) .nil))))⟩
def fTurned : Fn := ⟨2, 3, (.cons (.ret (.call (z "_law_some") (.cons false (.var 0) (.cons false (.comp (.op .tuple (.cons false (.call (z "_law_some") (.cons false (.var 0) (.cons false (.op .list (.cons false (.var 2) .nil)) (.cons false (.lit (.int (3))) .nil)))) .nil)) (.v 2) (.val (.var 1)) .nil [2]) (.cons false (.op .len (.cons false (.var 1) .nil)) .nil))))) .nil)⟩
abbrev Sg := PySem.Str
abbrev rowD (r : List Sg) : D := .tup (r.map .str)
abbrev ownD (o : Bool) (own : List (List Sg)) : D := .lst o (own.map rowD)
def putS (kvs : List (Sg × Int)) (s : Sg) (v : Int) : List (Sg × Int) := if (kvs.any fun kv => decide (kv.1 = s)) = true then kvs.map (fun kv => if kv.1 = s then (kv.1, v) else kv) else kvs ++ [(s, v)]
def getS (kvs : List (Sg × Int)) (s : Sg) : Option Int := (kvs.find? fun kv => decide (kv.1 = s)).map (·.2)
def encK (kvs : List (Sg × Int)) : List (Sum Int Sg × D) := kvs.map fun p => (.inr p.1, .int p.2)
theorem valD_enc (kvs : List (Sg × Int)) (s : Sg) : valD (encK kvs) (.inr s) = (getS kvs s).map .int := by
  induction kvs with
  | nil => rfl
  | cons p r ih =>
    simp only [valD, getS, encK, List.map_cons, List.find?_cons] at ih ⊢
    by_cases h : p.1 = s
    · simp [h]
    · have h2 : ¬ (Sum.inr p.1 : Sum Int Sg) = .inr s := by simpa using h
      simp only [decide_eq_false h, decide_eq_false h2]
      exact ih
theorem putD_enc (kvs : List (Sg × Int)) (s : Sg) (v : Int) : putD (encK kvs) (.inr s) (.int v) = encK (putS kvs s v) := by
  have h1 : ((encK kvs).any fun kv => decide (kv.1 = (.inr s : Sum Int Sg))) = (kvs.any fun kv => decide (kv.1 = s)) := by
    simp only [encK, List.any_map]
    congr 1; funext p
    simp [Function.comp]
  simp only [putD, putS, h1]
  split
  · simp only [encK, List.map_map]
    congr 1; funext p
    simp only [Function.comp]
    by_cases h : p.1 = s
    · have h2 : (Sum.inr p.1 : Sum Int Sg) = .inr s := by rw [h]
      simp [h]
    · have h2 : ¬ (Sum.inr p.1 : Sum Int Sg) = .inr s := by simpa using h
      simp [h]
  · simp [encK]
theorem encK_length (kvs : List (Sg × Int)) : (encK kvs).length = kvs.length := by simp [encK]
def bump (kvs : List (Sg × Int)) (s : Sg) : List (Sg × Int) := putS kvs s ((getS kvs s).getD 0 + 1)
def timesOf (xs : List Sg) : List (Sg × Int) := xs.foldl bump []
theorem putS_len (kvs : List (Sg × Int)) (s : Sg) (v : Int) : (putS kvs s v).length ≤ kvs.length + 1 := by
  unfold putS; split <;> simp
theorem bumps_len : ∀ (xs : List Sg) (kvs : List (Sg × Int)), (xs.foldl bump kvs).length ≤ kvs.length + xs.length
  | [], kvs => by simp
  | x :: xs, kvs => by
    have h1 := bumps_len xs (bump kvs x)
    have h2 := putS_len kvs x ((getS kvs x).getD 0 + 1)
    simp only [List.foldl_cons, List.length_cons]
    unfold bump at h1 ⊢; omega
theorem forL_rel {α : Type} {body : D → Ev → Option (Fl × Ev)} (d : α → D) (P : List α → Ev → Prop) : ∀ (rest done : List α) (env : Ev),
    (∀ done' x rest' env, done' ++ x :: rest' = done ++ rest → P done' env → ∃ env', body (d x) env = some (.nx, env') ∧ P (done' ++ [x]) env') → P done env →
    ∃ env', forL body (rest.map d) env = some (.nx, env') ∧ P (done ++ rest) env'
  | [], done, env, _, h => ⟨env, rfl, by simpa using h⟩
  | x :: rest, done, env, step, h => by
    obtain ⟨env1, h1, p1⟩ := step done x rest env rfl h
    obtain ⟨env2, h2, p2⟩ := forL_rel d P rest (done ++ [x]) env1 (fun done' y rest' e he hp => step done' y rest' e (by simpa using he) hp) p1
    exact ⟨env2, by simp only [List.map_cons, forL, h1, Option.bind_some]; exact h2, by simpa using p2⟩
theorem bindT_ok {pin : List Nat} {i : Nat} {d : D} {env : Ev} (h1 : i ∉ pin) (h2 : i < env.length) : bindT pin (.v i) d env = some (env.set i (some d)) := by
  rw [bindT_v, if_neg]; simp only [not_or]; exact ⟨h1, by omega⟩
def tB1 : Ss := match fTimes.body with | .cons _ (.cons (.forr _ _ s) _) => s | _ => .nil
def tB2 : Ss := match tB1 with | .cons (.forr _ _ s) _ => s | _ => .nil
theorem tB2_ok {u : Nat} {φ : Phi} {pin : List Nat} {A rv nv : Option D} (c : List (Sg × Int)) (s : Sg) (h1 : 1 ∉ pin) (h3 : 3 ∉ pin) (hc : c.length ≤ 1000000) :
    ((bindT pin (.v 3) (.str s) [A, some (.dic true (encK c)), rv, nv]).bind fun e => execsK u φ pin tB2 e) = some (.nx, [A, some (.dic true (encK (bump c s))), rv, some (.str s)]) := by
  have e1 : getOp (.int 0) (.dic true (encK c)) (.str s) = some (.int ((getS c s).getD 0)) := by
    rw [getOp_dic, valD_enc]; cases getS c s <;> rfl
  simp [execsK, execK, denK, denAK, getV, tB2, tB1, fTimes, h1, h3, recvOk, e1, putD_enc, encK_length, hc, bump, -getOp_dic]
theorem tB1_ok {u : Nat} {φ : Phi} {pin : List Nat} {A : Option D} (r : List Sg) (c : List (Sg × Int)) (rv nv : Option D) (h1 : 1 ∉ pin) (h2 : 2 ∉ pin) (h3 : 3 ∉ pin) (hc : c.length + r.length ≤ 1000000) :
    ∃ nv', ((bindT pin (.v 2) (rowD r) [A, some (.dic true (encK c)), rv, nv]).bind fun e => execsK u φ pin tB1 e) = some (.nx, [A, some (.dic true (encK (r.foldl bump c))), some (rowD r), nv']) := by
  obtain ⟨env', h, nv', rfl⟩ := forL_rel (body := fun x e => (bindT pin (.v 3) x e).bind fun e => execsK u φ pin tB2 e) (.str : Sg → D)
    (fun done env => ∃ nv, env = [A, some (.dic true (encK (done.foldl bump c))), some (rowD r), nv]) r [] [A, some (.dic true (encK c)), some (rowD r), nv] (by
      rintro done x rest env he ⟨nv, rfl⟩
      have hl := congrArg List.length he
      simp only [List.length_append, List.length_cons, List.length_nil] at hl
      have hb := bumps_len done c
      exact ⟨_, tB2_ok _ x h1 h3 (by omega), some (.str x), by simp [List.foldl_append]⟩) ⟨nv, rfl⟩
  refine ⟨nv', ?_⟩
  have hf : tB1 = match tB1 with | .cons (.forr a b _) c => .cons (.forr a b tB2) c | _ => .nil := rfl
  rw [hf]
  simp only [tB1, fTimes]
  simp only [List.nil_append] at h
  simp [execsK, execK, denK, denIK, getV, h2, h, bindT_ok, -bindT_v]
theorem times_ok {u : Nat} {φ : Phi} (o : Bool) (own : List (List Sg)) (hl : own.flatten.length ≤ 1000000) :
    callDK u φ fTimes [ownD o own] = some (.dic true (encK (timesOf own.flatten)), [some (ownD o own)]) := by
  have hf : fTimes = ⟨1, 4, match fTimes.body with | .cons x (.cons (.forr a b _) c) => .cons x (.cons (.forr a b tB1) c) | _ => .nil⟩ := rfl
  have key : ∀ (pin : List Nat) (A : Option D), 1 ∉ pin → 2 ∉ pin → 3 ∉ pin → ∃ rv nv, forL (fun x e => (bindT pin (.v 2) x e).bind fun e => execsK u φ pin tB1 e) (own.map rowD) [A, some (.dic true []), none, none] =
      some (.nx, [A, some (.dic true (encK (timesOf own.flatten))), rv, nv]) := by
    intro pin A h1 h2 h3
    obtain ⟨env', h, rv, nv, rfl⟩ := forL_rel (body := fun x e => (bindT pin (.v 2) x e).bind fun e => execsK u φ pin tB1 e) rowD
      (fun done env => ∃ rv nv, env = [A, some (.dic true (encK (timesOf done.flatten))), rv, nv]) own [] [A, some (.dic true []), none, none] (by
        rintro done x rest env he ⟨rv, nv, rfl⟩
        have hl2 := congrArg (fun l => l.flatten.length) he
        simp only [List.flatten_append, List.flatten_cons, List.length_append, List.flatten_nil, List.length_nil] at hl2
        have hb := bumps_len done.flatten []
        simp only [List.length_nil] at hb
        obtain ⟨nv', h4⟩ := tB1_ok (u := u) (φ := φ) (A := A) x (timesOf done.flatten) rv nv h1 h2 h3 (by unfold timesOf; omega)
        exact ⟨_, h4, some (rowD x), nv', by simp [timesOf, List.foldl_append]⟩) ⟨none, none, rfl⟩
    exact ⟨rv, nv, by simpa using h⟩
  rw [hf]
  simp only [fTimes]
  cases o
  · obtain ⟨rv, nv, h⟩ := key [] (some (ownD false own)) (by simp) (by simp) (by simp)
    simp [callDK, execsK, execK, denK, denIK, getV, h, bindT_ok, -bindT_v]
  · obtain ⟨rv, nv, h⟩ := key [0, 0] none (by simp) (by simp) (by simp)
    simp [callDK, execsK, execK, denK, denIK, getV, h, bindT_ok, -bindT_v]
def keysS (c : List (Sg × Int)) : List Sg := c.map (·.1)
theorem allS_map : ∀ ss : List Sg, allS (ss.map .str) = some ss
  | [] => rfl
  | s :: ss => by simp [allS_map ss]
theorem sort_strs (o : Bool) (ss : List Sg) (h : ss.length < 64) : sortOp (.lst o (ss.map .str)) = some (.lst true ((srtS ss).map .str)) := by
  cases ss with
  | nil => rfl
  | cons s r =>
    simp only [sortOp, List.map_cons]
    have h1 : allI (D.str s :: r.map D.str) = none := rfl
    have h2 : allS (D.str s :: r.map D.str) = some (s :: r) := allS_map (s :: r)
    simp only [h1, h2, Option.bind_some, if_pos h, List.map_cons]
theorem keys_enc (c : List (Sg × Int)) : (encK c).map (fun kv => ofKey kv.1) = (keysS c).map D.str := by
  simp only [encK, keysS, List.map_map]; rfl
def TimesOk (φ : Phi) : Prop := ∀ (o : Bool) (own : List (List Sg)), own.flatten.length ≤ 1000000 → φ (z "_law_web_times") [ownD o own] = some (.dic true (encK (timesOf own.flatten)), [some (ownD o own)])
def roadsOf (own : List (List Sg)) : List Sg := srtS (keysS (timesOf own.flatten))
theorem keys_len (own : List (List Sg)) : (keysS (timesOf own.flatten)).length ≤ own.flatten.length := by
  have := bumps_len own.flatten []; simpa [keysS, timesOf] using this
theorem roads_ok {u : Nat} {φ : Phi} (T : TimesOk φ) (o : Bool) (own : List (List Sg)) (hl : own.flatten.length < 64) :
    callDK u φ fWRoads [ownD o own] = some (.lst true ((roadsOf own).map .str), [some (ownD o own)]) := by
  have h := T o own (by omega)
  have h2 := sort_strs true (keysS (timesOf own.flatten)) (by have := keys_len own; omega)
  cases o <;> simp [callDK, execsK, execK, denK, denAK, getV, fWRoads, h, keys_enc, h2, roadsOf]
theorem compL_fm {α β : Type} {body : D → Ev → Option (Option D × Ev)} (d : α → D) (e : β → D) (g : α → Option β) {env : Ev} : ∀ (xs : List α) (acc : List D), (∀ x ∈ xs, body (d x) env = some ((g x).map e, env)) → acc.length + xs.length ≤ line →
    compL body (xs.map d) acc env = some (acc ++ (xs.filterMap g).map e, env)
  | [], acc, _, _ => by simp [compL]
  | x :: xs, acc, h, hl => by
    have h1 := h x (List.mem_cons_self ..)
    simp only [List.length_cons] at hl
    simp only [compL, List.map_cons]
    rw [if_pos (by omega), h1]
    simp only [Option.bind_some]
    cases hg : g x with
    | none =>
      simp only [Option.map_none]
      rw [compL_fm d e g xs acc (fun y hy => h y (List.mem_cons_of_mem _ hy)) (by omega)]
      simp [hg]
    | some y =>
      simp only [Option.map_some]
      rw [compL_fm d e g xs (acc ++ [e y]) (fun y hy => h y (List.mem_cons_of_mem _ hy)) (by simp only [List.length_append, List.length_cons, List.length_nil]; omega)]
      simp [hg]
def withN (n : Int) (c : List (Sg × Int)) : List Sg := c.filterMap fun p => if p.2 = n then some p.1 else none
def endsOf (own : List (List Sg)) : List Sg := srtS (withN 1 (timesOf own.flatten))
def cEnds (n : Int) : E := .comp (.var 1) (.t (.cons (.v 1) (.cons (.v 2) .nil))) (.items (.call (z "_law_web_times") (.cons false (.var 0) .nil))) (.cons false (.op .eq (.cons false (.var 2) (.cons false (.lit (.int n)) .nil))) .nil) [1, 2]
def fWEndsN (n : Int) : Fn := ⟨1, 3, (.cons (.ret (.op .sorted (.cons false (cEnds n) .nil))) .nil)⟩
theorem fWEnds_eq : fWEnds = fWEndsN 1 := rfl
theorem cEnds_ok {φ : Phi} (n : Int) (T : TimesOk φ) (o : Bool) (own : List (List Sg)) (hl : own.flatten.length < 64) :
    denK φ (cEnds n) [some (ownD o own), none, none] = some (.lst true ((withN n (timesOf own.flatten)).map .str), [some (ownD o own), none, none]) := by
  have h := T o own (by omega)
  have hI : denIK φ (.items (.call (z "_law_web_times") (.cons false (.var 0) .nil))) [some (ownD o own), none, none] = some ((timesOf own.flatten).map (fun p => .tup [.str p.1, .int p.2]), none, [some (ownD o own), none, none]) := by
    cases o <;> simp [denIK, denK, denAK, getV, h, encK] <;> (intro _ _ _; rfl)
  have hb := compL_fm (body := fun x e => (bindT [] (.t (.cons (.v 1) (.cons (.v 2) .nil))) x e).bind fun e1 => (denAlK φ (.cons false (.op .eq (.cons false (.var 2) (.cons false (.lit (.int n)) .nil))) .nil) e1).bind fun b => if b.1 then (denK φ (.var 1) b.2).map fun y => (some y.1.frz, wipeE y.2 [1, 2]) else some (none, wipeE b.2 [1, 2]))
    (fun p : Sg × Int => D.tup [.str p.1, .int p.2]) (D.str) (fun p => if p.2 = n then some p.1 else none) (env := [some (ownD o own), none, none]) (timesOf own.flatten) [] (by
      rintro ⟨s, m⟩ hx
      by_cases hm : m = n <;> simp [denAlK, denK, denAK, getV, hm]) (by have := bumps_len own.flatten []; simp only [List.length_nil] at this ⊢; rw [ln_eq]; unfold timesOf; omega)
  unfold cEnds
  rw [denK, hI]
  simp only [Option.bind_some, wipeE_cons, wipeE_nil, List.set_cons_succ, List.set_cons_zero]
  simp only [wipeE_cons, wipeE_nil] at hb
  rw [hb]; rfl
theorem ends_ok {u : Nat} {φ : Phi} (n : Int) (T : TimesOk φ) (o : Bool) (own : List (List Sg)) (hl : own.flatten.length < 64) :
    callDK u φ (fWEndsN n) [ownD o own] = some (.lst true ((srtS (withN n (timesOf own.flatten))).map .str), [some (ownD o own)]) := by
  have hC := cEnds_ok n T o own hl
  have hpk : ∀ env r, pk (cEnds n) env r = r.map fun q => (.v q.1, q.2) := fun _ _ => rfl
  have h2 := sort_strs true (withN n (timesOf own.flatten)) (by have h1 := bumps_len own.flatten []; have h3 := List.length_filterMap_le (fun p : Sg × Int => if p.2 = n then some p.1 else none) (timesOf own.flatten); simp only [List.length_nil] at h1; unfold withN; unfold timesOf at *; omega)
  cases o <;> simp [callDK, execsK, execK, denK, denAK, getV, fWEndsN, hpk, hC, h2]
end Vi.B
end
section
set_option maxRecDepth 100000
/-! Bd: a road called otherwise; some unlike ones of a pool. -/
namespace Vi.B
open Vi L2
def putL (old new : Sg) : List Sg → Int → List Sg × Int
  | [], t => ([], t)
  | x :: xs, t => ((if x = old ∧ 0 < t then new else x) :: (putL old new xs (t - if x = old then 1 else 0)).1, (putL old new xs (t - if x = old then 1 else 0)).2)
theorem putL_append (old new : Sg) : ∀ (xs ys : List Sg) (t : Int), putL old new (xs ++ ys) t = ((putL old new xs t).1 ++ (putL old new ys (putL old new xs t).2).1, (putL old new ys (putL old new xs t).2).2)
  | [], ys, t => rfl
  | x :: xs, ys, t => by simp only [List.cons_append, putL, putL_append old new xs ys]
def putO (old new : Sg) : List (List Sg) → Int → List (List Sg) × Int
  | [], t => ([], t)
  | r :: rs, t => ((putL old new r t).1 :: (putO old new rs (putL old new r t).2).1, (putO old new rs (putL old new r t).2).2)
theorem putO_append (old new : Sg) : ∀ (xs ys : List (List Sg)) (t : Int), putO old new (xs ++ ys) t = ((putO old new xs t).1 ++ (putO old new ys (putO old new xs t).2).1, (putO old new ys (putO old new xs t).2).2)
  | [], ys, t => rfl
  | x :: xs, ys, t => by simp only [List.cons_append, putO, putO_append old new xs ys]
theorem putO_flat (old new : Sg) : ∀ (own : List (List Sg)) (t : Int), (putO old new own t).1.flatten = (putL old new own.flatten t).1 ∧ (putO old new own t).2 = (putL old new own.flatten t).2
  | [], t => ⟨rfl, rfl⟩
  | r :: rs, t => by
    have h := putO_flat old new rs (putL old new r t).2
    simp only [putO, List.flatten_cons, putL_append, h, and_self]
theorem putL_len (old new : Sg) : ∀ (xs : List Sg) (t : Int), (putL old new xs t).1.length = xs.length
  | [], t => rfl
  | x :: xs, t => by simp only [putL, List.length_cons, putL_len old new xs]
theorem putO_len (old new : Sg) : ∀ (xs : List (List Sg)) (t : Int), (putO old new xs t).1.length = xs.length
  | [], t => rfl
  | x :: xs, t => by simp only [putO, List.length_cons, putO_len old new xs]
def pB1 : Ss := match fPut.body with | .cons _ (.cons (.forr _ _ s) _) => s | _ => .nil
def pB2 : Ss := match pB1 with | .cons _ (.cons (.forr _ _ s) _) => s | _ => .nil
theorem pB2_ok {u : Nat} {φ : Phi} {pin : List Nat} {A F rv nv : Option D} (old new : Sg) (t : Int) (ys : List D) (s : Sg) (h3 : 3 ∉ pin) (h7 : 7 ∉ pin) (hc : ys.length ≤ 1000000) :
    ((bindT pin (.v 7) (.str s) [A, some (.str old), some (.str new), some (.int t), F, rv, some (.lst true ys), nv]).bind fun e => execsK u φ pin pB2 e) =
      some (.nx, [A, some (.str old), some (.str new), some (.int (t - if s = old then 1 else 0)), F, rv, some (.lst true (ys ++ [.str (if s = old ∧ 0 < t then new else s)])), some (.str s)]) := by
  by_cases hs : s = old <;> by_cases ht : 0 < t <;> simp [execsK, execK, denK, denAK, denAnK, denFK, getV, pB2, pB1, fPut, h3, h7, hc, hs, ht]
theorem pB1_ok {u : Nat} {φ : Phi} {pin : List Nat} {A rv mv nv : Option D} (old new : Sg) (t : Int) (fs : List D) (r : List Sg) (h3 : 3 ∉ pin) (h5 : 5 ∉ pin) (h6 : 6 ∉ pin) (h7 : 7 ∉ pin) (hc : r.length ≤ 1000000) (hd : fs.length ≤ 1000000) :
    ∃ mv' nv', ((bindT pin (.v 5) (rowD r) [A, some (.str old), some (.str new), some (.int t), some (.lst true fs), rv, mv, nv]).bind fun e => execsK u φ pin pB1 e) =
      some (.nx, [A, some (.str old), some (.str new), some (.int (putL old new r t).2), some (.lst true (fs ++ [rowD (putL old new r t).1])), some (rowD r), mv', nv']) := by
  obtain ⟨env', h, nv', rfl⟩ := forL_rel (body := fun x e => (bindT pin (.v 7) x e).bind fun e => execsK u φ pin pB2 e) (.str : Sg → D)
    (fun done env => ∃ nv, env = [A, some (.str old), some (.str new), some (.int (putL old new done t).2), some (.lst true fs), some (rowD r), some (.lst true ((putL old new done t).1.map .str)), nv]) r [] [A, some (.str old), some (.str new), some (.int t), some (.lst true fs), some (rowD r), some (.lst true []), nv] (by
      rintro done x rest env he ⟨nv, rfl⟩
      have hl := congrArg List.length he
      simp only [List.length_append, List.length_cons, List.length_nil] at hl
      exact ⟨_, pB2_ok old new _ _ x h3 h7 (by rw [List.length_map, putL_len]; omega), some (.str x), by simp [putL_append, putL]⟩) ⟨nv, rfl⟩
  refine ⟨some (.lst true ((putL old new r t).1.map .str)), nv', ?_⟩
  have hf : pB1 = match pB1 with | .cons x (.cons (.forr a b _) c) => .cons x (.cons (.forr a b pB2) c) | _ => .nil := rfl
  rw [hf]
  simp only [pB1, fPut]
  simp only [List.nil_append] at h
  simp [execsK, execK, denK, denAK, denFK, denIK, getV, h3, h5, h6, h7, h, hd, bindT_ok, -bindT_v]
theorem put_ok {u : Nat} {φ : Phi} (o : Bool) (own : List (List Sg)) (old new : Sg) (t : Int) (hl : own.length ≤ 1000000) (hr : ∀ r ∈ own, r.length ≤ 1000000) :
    callDK u φ fPut [ownD o own, .str old, .str new, .int t] = some (ownD true (putO old new own t).1, [some (ownD o own), some (.str old), some (.str new), some (.int (putO old new own t).2)]) := by
  have hf : fPut = ⟨4, 8, match fPut.body with | .cons x (.cons (.forr a b _) c) => .cons x (.cons (.forr a b pB1) c) | _ => .nil⟩ := rfl
  have key : ∀ (pin : List Nat) (A : Option D), 3 ∉ pin → 5 ∉ pin → 6 ∉ pin → 7 ∉ pin → ∃ rv mv nv, forL (fun x e => (bindT pin (.v 5) x e).bind fun e => execsK u φ pin pB1 e) (own.map rowD) [A, some (.str old), some (.str new), some (.int t), some (.lst true []), none, none, none] =
      some (.nx, [A, some (.str old), some (.str new), some (.int (putO old new own t).2), some (ownD true (putO old new own t).1), rv, mv, nv]) := by
    intro pin A h3 h5 h6 h7
    obtain ⟨env', h, rv, mv, nv, rfl⟩ := forL_rel (body := fun x e => (bindT pin (.v 5) x e).bind fun e => execsK u φ pin pB1 e) rowD
      (fun done env => ∃ rv mv nv, env = [A, some (.str old), some (.str new), some (.int (putO old new done t).2), some (ownD true (putO old new done t).1), rv, mv, nv]) own [] [A, some (.str old), some (.str new), some (.int t), some (.lst true []), none, none, none] (by
        rintro done x rest env he ⟨rv, mv, nv, rfl⟩
        have hl2 := congrArg List.length he
        simp only [List.length_append, List.length_cons, List.length_nil] at hl2
        have hx : x ∈ own := by
          have : x ∈ [] ++ own := he ▸ (by simp)
          simpa using this
        obtain ⟨mv', nv', h4⟩ := pB1_ok (u := u) (φ := φ) (A := A) (rv := rv) (mv := mv) (nv := nv) old new (putO old new done t).2 ((putO old new done t).1.map rowD) x h3 h5 h6 h7 (hr x hx) (by rw [List.length_map, putO_len]; omega)
        exact ⟨_, h4, some (rowD x), mv', nv', by simp [putO_append, putO]⟩) ⟨none, none, none, rfl⟩
    exact ⟨rv, mv, nv, by simpa using h⟩
  rw [hf]
  simp only [fPut]
  cases o
  · obtain ⟨rv, mv, nv, h⟩ := key [] (some (ownD false own)) (by simp) (by simp) (by simp) (by simp)
    simp [callDK, execsK, execK, denK, denFK, denIK, getV, h, bindT_ok, -bindT_v]
  · obtain ⟨rv, mv, nv, h⟩ := key [0, 0] none (by simp) (by simp) (by simp) (by simp)
    simp [callDK, execsK, execK, denK, denFK, denIK, getV, h, bindT_ok, -bindT_v]
-- some of a pool
def sB : Ss := match fSome.body with | .cons _ (.cons (.forr _ _ s) _) => s | _ => .nil
theorem erase_perm {α : Type} : ∀ (l : List α) (i : Nat) (h : i < l.length), (l[i] :: l.eraseIdx i).Perm l
  | x :: l, 0, _ => .refl _
  | x :: l, i + 1, h => by
    simp only [List.getElem_cons_succ, List.eraseIdx_cons_succ]
    exact (List.Perm.swap x _ _).trans (.cons x (erase_perm l i (by simpa using h)))
theorem sB_ok {u : Nat} {φ : Phi} {pin : List Nat} {M : Int} {d pool many : D} {lv : Option D} {rs ys : List D} (T : TakeOk φ) (x : D) (hp : PotD M d) (hM : M < 1000000) (h0 : rs ≠ []) (h1 : rs.length ≤ 1000000) (h2 : ys.length ≤ 1000000) (h3 : 3 ∉ pin) (hz : ∀ x ∈ rs, x.frz = x) :
    ∃ d' y rs', PotD (M + 1) d' ∧ (y :: rs').Perm rs ∧ ((bindT pin (.v 3) x [some d, some pool, some many, lv, some (.lst true rs), some (.lst true ys)]).bind fun e => execsK u φ pin sB e) =
      some (.nx, [some d', some pool, some many, some x, some (.lst true rs'), some (.lst true (ys ++ [y]))]) := by
  have hl : 0 < rs.length := by cases rs; exact absurd rfl h0; exact Nat.succ_pos _
  obtain ⟨r, d', r0, r1, hp', hr⟩ := T M d rs.length hp (by omega) (by omega) (by omega)
  have hi : r.toNat < rs.length := by omega
  have e1 : ixN rs.length r = some r.toNat := by simp [ixN, r0, r1]
  have e2 : rs[r.toNat]? = some rs[r.toNat] := List.getElem?_eq_getElem hi
  refine ⟨d', rs[r.toNat], rs.eraseIdx r.toNat, hp', erase_perm rs _ hi, ?_⟩
  have o0 := hp.own; have o1 := hp'.own
  have hf := hz _ (List.getElem_mem hi)
  simp [execsK, execK, denK, denAK, denFK, getV, sB, fSome, h3, hr, o0, o1, e1, e2, hi, h2, hf]
def SomeOk (φ : Phi) : Prop := ∀ (M : Int) (d : D) (o : Bool) (xs : List D) (n : Nat), PotD M d → M + n < 1000000 → n ≤ xs.length → xs.length ≤ 1000 → (∀ x ∈ xs, x.frz = x) →
  ∃ d' ys rs, PotD (M + n) d' ∧ (ys ++ rs).Perm xs ∧ ys.length = n ∧ φ (z "_law_some") [d, .lst o xs, .int n] = some (.lst true ys, [some d', some (.lst o xs), some (.int n)])
theorem some_ok {u : Nat} {φ : Phi} (T : TakeOk φ) {M : Int} {d : D} {o : Bool} {xs : List D} {n : Nat} (hp : PotD M d) (hM : M + n < 1000000) (hn : n ≤ xs.length) (hx : xs.length ≤ 1000) (hz : ∀ x ∈ xs, x.frz = x) :
    ∃ d' ys rs, PotD (M + n) d' ∧ (ys ++ rs).Perm xs ∧ ys.length = n ∧ callDK u φ fSome [d, .lst o xs, .int n] = some (.lst true ys, [some d', some (.lst o xs), some (.int n)]) := by
  have key : ∀ (pin : List Nat), 3 ∉ pin → ∃ d' ys rs lv, PotD (M + n) d' ∧ (ys ++ rs).Perm xs ∧ ys.length = n ∧ forL (fun x e => (bindT pin (.v 3) x e).bind fun e => execsK u φ pin sB e) (rangeD 0 n) [some d, some (.lst o xs), some (.int n), none, some (.lst true xs), some (.lst true [])] =
      some (.nx, [some d', some (.lst o xs), some (.int n), lv, some (.lst true rs), some (.lst true ys)]) := by
    intro pin h3
    obtain ⟨env', h, d', ys, rs, lv, hp', pm, hy, rfl⟩ := forL_rel (body := fun x e => (bindT pin (.v 3) x e).bind fun e => execsK u φ pin sB e) (fun k : Nat => D.int (0 + (k : Nat)))
      (fun done env => ∃ d' ys rs lv, PotD (M + done.length) d' ∧ (ys ++ rs).Perm xs ∧ ys.length = done.length ∧ env = [some d', some (.lst o xs), some (.int n), lv, some (.lst true rs), some (.lst true ys)]) (List.range ((n : Int) - 0).toNat) []
      [some d, some (.lst o xs), some (.int n), none, some (.lst true xs), some (.lst true [])] (by
        rintro done x rest env he ⟨d1, ys, rs, lv, hp1, pm, hy, rfl⟩
        have hl := congrArg List.length he
        simp only [List.length_append, List.length_cons, List.length_nil, List.length_range] at hl
        have hpl := pm.length_eq
        simp only [List.length_append] at hpl
        obtain ⟨d2, y, rs', hp2, pm2, h4⟩ := sB_ok (u := u) (φ := φ) (pin := pin) (pool := .lst o xs) (many := .int n) (lv := lv) (ys := ys) T (.int (0 + (x : Nat))) hp1 (by omega) (rs := rs) (by intro h; subst h; simp at hpl; omega) (by omega) (by omega) h3 (fun x hx => hz x (pm.subset (List.mem_append_right _ hx)))
        refine ⟨_, h4, d2, ys ++ [y], rs', some (.int (0 + (x : Nat))), hp2.mono (by simp only [List.length_append, List.length_cons, List.length_nil]; omega), ?_, by simp [hy], rfl⟩
        rw [List.append_assoc]
        exact (List.Perm.append_left ys (by simpa using pm2)).trans pm) ⟨d, [], xs, none, by simpa using hp, by simp, rfl, rfl⟩
    simp only [List.nil_append, List.length_range] at hp' hy h
    have en : ((n : Int) - 0).toNat = n := by omega
    rw [en] at hp' hy
    exact ⟨d', ys, rs, lv, hp', pm, hy, h⟩
  have hf : fSome = ⟨3, 6, match fSome.body with | .cons x (.cons (.forr a b _) c) => .cons x (.cons (.forr a b sB) c) | _ => .nil⟩ := rfl
  have sm : smallI (n : Int) = true := by
    simp only [smallI, decide_eq_true_eq]
    exact Nat.lt_of_lt_of_le (log_lt (c := 20) (by omega) (by decide)) (by decide)
  have o0 := hp.own
  cases o
  · obtain ⟨d', ys, rs, lv, hp', pm, hy, h⟩ := key [0] (by simp)
    refine ⟨d', ys, rs, hp', pm, hy, ?_⟩
    rw [hf]
    simp only [fSome]
    simp [callDK, execsK, execK, denK, denAK, denFK, denOK, denIK, getV, o0, sm, h, -bindT_v]
  · obtain ⟨d', ys, rs, lv, hp', pm, hy, h⟩ := key [0, 1] (by simp)
    refine ⟨d', ys, rs, hp', pm, hy, ?_⟩
    rw [hf]
    simp only [fSome]
    simp [callDK, execsK, execK, denK, denAK, denFK, denOK, denIK, getV, o0, sm, h, -bindT_v]
end Vi.B
end
section
set_option maxRecDepth 100000
/-! Be: plain facts about counts, renamings, webs that hang together. -/
namespace Vi.B
open Vi L2
def CntOf (xs : List Sg) (c : List (Sg × Int)) : Prop := (keysS c).Nodup ∧ ∀ s n, (s, n) ∈ c ↔ (0 < xs.count s ∧ n = xs.count s)
theorem mem_keys {c : List (Sg × Int)} {s : Sg} : s ∈ keysS c ↔ ∃ n, (s, n) ∈ c := by
  simp only [keysS, List.mem_map]
  exact ⟨fun ⟨p, h, e⟩ => ⟨p.2, by rw [← e]; exact h⟩, fun ⟨n, h⟩ => ⟨(s, n), h, rfl⟩⟩
theorem getS_of {xs : List Sg} {c : List (Sg × Int)} (h : CntOf xs c) (s : Sg) : getS c s = if xs.count s = 0 then none else some (xs.count s : Int) := by
  unfold getS
  cases hf : c.find? fun kv => decide (kv.1 = s) with
  | none =>
    rw [List.find?_eq_none] at hf
    have : xs.count s = 0 := by
      apply Nat.eq_zero_of_not_pos
      intro hp
      have := hf _ ((h.2 s _).2 ⟨hp, rfl⟩)
      simp at this
    simp [this]
  | some p =>
    have h1 := List.mem_of_find?_eq_some hf
    have h2 := List.find?_some hf
    simp only [decide_eq_true_eq] at h2
    obtain ⟨a, b⟩ := p
    simp only at h2; subst h2
    obtain ⟨h3, h4⟩ := (h.2 a b).1 h1
    rw [if_neg (by omega)]; simp [h4]
theorem mem_putS {c : List (Sg × Int)} {s t : Sg} {v n : Int} : (t, n) ∈ putS c s v ↔ (t ≠ s ∧ (t, n) ∈ c) ∨ (t = s ∧ n = v) := by
  unfold putS
  split
  · rename_i ha
    simp only [List.any_eq_true, decide_eq_true_eq] at ha
    obtain ⟨q, hq, hs⟩ := ha
    simp only [List.mem_map]
    constructor
    · rintro ⟨p, hp, e⟩
      split at e
      · rename_i e2; cases e; exact .inr ⟨e2, rfl⟩
      · rename_i e2; cases e; exact .inl ⟨e2, hp⟩
    · rintro (⟨h1, h2⟩ | ⟨rfl, rfl⟩)
      · exact ⟨_, h2, by rw [if_neg h1]⟩
      · exact ⟨q, hq, by rw [if_pos hs, hs]⟩
  · rename_i ha
    simp only [Bool.not_eq_true, List.any_eq_false, decide_eq_true_eq] at ha
    simp only [List.mem_append, List.mem_singleton, Prod.mk.injEq]
    constructor
    · rintro (h | ⟨rfl, rfl⟩)
      · exact .inl ⟨ha _ h, h⟩
      · exact .inr ⟨rfl, rfl⟩
    · rintro (⟨_, h⟩ | ⟨rfl, rfl⟩)
      · exact .inl h
      · exact .inr ⟨rfl, rfl⟩
theorem nodup_putS {c : List (Sg × Int)} {s : Sg} {v : Int} (h : (keysS c).Nodup) : (keysS (putS c s v)).Nodup := by
  unfold putS
  split
  · have : keysS (c.map fun kv => if kv.1 = s then (kv.1, v) else kv) = keysS c := by
      simp only [keysS, List.map_map]; congr 1; funext p; simp only [Function.comp]; split <;> rfl
    rw [this]; exact h
  · rename_i ha
    simp only [Bool.not_eq_true, List.any_eq_false, decide_eq_true_eq] at ha
    simp only [keysS, List.map_append, List.map_cons, List.map_nil]
    rw [List.nodup_append]
    refine ⟨h, by simp, ?_⟩
    intro a ha1 b hb e
    simp only [List.mem_singleton] at hb
    obtain ⟨p, hp, rfl⟩ := List.mem_map.1 ha1
    exact ha p hp (e.trans hb)
theorem bump_cnt {xs : List Sg} {c : List (Sg × Int)} (h : CntOf xs c) (s : Sg) : CntOf (xs ++ [s]) (bump c s) := by
  refine ⟨nodup_putS h.1, fun t n => ?_⟩
  unfold bump
  rw [mem_putS, getS_of h s, h.2]
  have e : (xs ++ [s]).count t = xs.count t + if s = t then 1 else 0 := by simp [List.count_append, List.count_singleton]
  rw [e]
  by_cases hts : t = s
  · subst hts
    simp only [ne_eq, not_true_eq_false, false_and, true_and, false_or, if_true]
    by_cases h0 : xs.count t = 0
    · simp [h0]
    · rw [if_neg h0]; simp only [Option.getD_some]; omega
  · have : ¬ s = t := fun e => hts e.symm
    simp [hts, this]
theorem cnt_bumps : ∀ (ys xs : List Sg) (c : List (Sg × Int)), CntOf xs c → CntOf (xs ++ ys) (ys.foldl bump c)
  | [], xs, c, h => by simpa using h
  | y :: ys, xs, c, h => by
    have := cnt_bumps ys (xs ++ [y]) (bump c y) (bump_cnt h y)
    simpa using this
theorem cnt_times (xs : List Sg) : CntOf xs (timesOf xs) := by
  have h := cnt_bumps xs [] [] ⟨by simp [keysS], by simp⟩
  simpa [timesOf] using h
theorem insS_perm (x : Sg) : ∀ l : List Sg, (insS x l).Perm (x :: l)
  | [] => .refl _
  | y :: l => by
    simp only [insS]
    split
    · exact (List.Perm.cons y (insS_perm x l)).trans (List.Perm.swap x y l)
    · exact .refl _
theorem srtS_perm : ∀ l : List Sg, (srtS l).Perm l
  | [] => .refl _
  | x :: l => (insS_perm x _).trans (.cons x (srtS_perm l))
theorem mem_keys_times {xs : List Sg} {s : Sg} : s ∈ keysS (timesOf xs) ↔ s ∈ xs := by
  rw [mem_keys]
  have h := (cnt_times xs).2 s
  constructor
  · rintro ⟨n, hn⟩; exact List.count_pos_iff.1 ((h n).1 hn).1
  · intro hs; exact ⟨_, (h _).2 ⟨List.count_pos_iff.2 hs, rfl⟩⟩
theorem mem_roads {own : List (List Sg)} {s : Sg} : s ∈ roadsOf own ↔ s ∈ own.flatten := (srtS_perm _).mem_iff.trans mem_keys_times
theorem mem_withN {xs : List Sg} {s : Sg} {n : Int} (hn : 0 < n) : s ∈ withN n (timesOf xs) ↔ (xs.count s : Int) = n := by
  simp only [withN, List.mem_filterMap]
  constructor
  · rintro ⟨⟨t, m⟩, hm, e⟩
    split at e
    · rename_i e2; cases e
      have h9 := ((cnt_times xs).2 t m).1 hm
      simp only at e2
      show ((xs.count t : Nat) : Int) = n
      omega
    · cases e
  · intro h
    exact ⟨(s, n), ((cnt_times xs).2 s n).2 ⟨by omega, h.symm⟩, by simp⟩
theorem withN_sub (n : Int) : ∀ c : List (Sg × Int), (withN n c).Sublist (keysS c)
  | [] => .slnil
  | p :: c => by
    have h := withN_sub n c
    unfold withN keysS at *
    rw [List.filterMap_cons, List.map_cons]
    split
    · exact .cons _ h
    · rename_i e; split at e
      · cases e; exact .cons₂ _ h
      · cases e
theorem withN_nodup (n : Int) (xs : List Sg) : (withN n (timesOf xs)).Nodup := (cnt_times xs).1.sublist (withN_sub n _)
-- how many
theorem sum_len : ∀ {c : List (Sg × Int)}, (∀ p ∈ c, p.2 = 1 ∨ p.2 = 2) → (c.map (·.2)).sum = (withN 1 c).length + 2 * (withN 2 c).length ∧ c.length = (withN 1 c).length + (withN 2 c).length
  | [], _ => by simp [withN]
  | p :: c, h => by
    have ih := sum_len (c := c) fun q hq => h q (List.mem_cons_of_mem _ hq)
    have h1 := h p (List.mem_cons_self ..)
    unfold withN at *
    rw [List.map_cons, List.sum_cons, List.filterMap_cons, List.filterMap_cons, List.length_cons]
    rcases h1 with h1 | h1 <;> simp [h1] <;> omega
theorem sum_putS {c : List (Sg × Int)} (h : (keysS c).Nodup) (s : Sg) (v : Int) : ((putS c s v).map (·.2)).sum = (c.map (·.2)).sum - (getS c s).getD 0 + v := by
  induction c with
  | nil => simp [putS, getS]
  | cons p c ih =>
    simp only [keysS, List.map_cons, List.nodup_cons] at h
    have ih' := ih h.2
    by_cases hp : p.1 = s
    · have hns : ∀ q ∈ c, ¬ q.1 = s := fun q hq e => h.1 (by rw [hp, ← e]; exact List.mem_map_of_mem hq)
      have e1 : (c.map fun kv => if kv.1 = s then (kv.1, v) else kv) = c := by
        conv => rhs; rw [← List.map_id c]
        exact List.map_congr_left fun q hq => by rw [if_neg (hns q hq)]; rfl
      simp [putS, getS, hp, e1]; omega
    · have e2 : getS (p :: c) s = getS c s := by simp [getS, hp]
      have e3 : putS (p :: c) s v = p :: putS c s v := by
        unfold putS
        simp only [List.any_cons, hp, decide_false, Bool.false_or, List.map_cons, if_false, List.cons_append]
        split <;> rfl
      rw [e2, e3]; simp only [List.map_cons, List.sum_cons, ih']; omega
theorem sum_bumps : ∀ (ys : List Sg) (c : List (Sg × Int)), (keysS c).Nodup → ((ys.foldl bump c).map (·.2)).sum = (c.map (·.2)).sum + ys.length
  | [], c, _ => by simp
  | y :: ys, c, h => by
    have h1 := sum_putS h y ((getS c y).getD 0 + 1)
    have h2 := sum_bumps ys (bump c y) (nodup_putS h)
    simp only [List.foldl_cons, List.length_cons]
    unfold bump at *; omega
theorem ends_inner (xs : List Sg) (h : ∀ s, xs.count s ≤ 2) : (xs.length : Int) = (withN 1 (timesOf xs)).length + 2 * (withN 2 (timesOf xs)).length ∧ (timesOf xs).length = (withN 1 (timesOf xs)).length + (withN 2 (timesOf xs)).length := by
  have h1 := sum_bumps xs [] (by simp [keysS])
  have h2 := sum_len (c := timesOf xs) (by
    rintro ⟨s, n⟩ hp
    have := ((cnt_times xs).2 s n).1 hp
    have := h s
    simp only; omega)
  simp only [List.map_nil, List.sum_nil] at h1
  unfold timesOf at *; omega
-- renaming
def ren (old new : Sg) (x : Sg) : Sg := if x = old then new else x
theorem putL_map (old new : Sg) : ∀ (xs : List Sg) (t : Int), (xs.count old : Int) ≤ t → (putL old new xs t).1 = xs.map (ren old new) ∧ (putL old new xs t).2 = t - xs.count old
  | [], t, _ => by simp [putL]
  | x :: xs, t, h => by
    rw [List.count_cons] at h ⊢
    by_cases hx : x = old
    · subst hx
      simp only [beq_self_eq_true, if_true] at h ⊢
      have := putL_map x new xs (t - 1) (by omega)
      simp only [putL, if_true, true_and, List.map_cons, ren]
      rw [if_pos (by omega)]
      refine ⟨by rw [this.1], by rw [this.2]; omega⟩
    · have hb : (x == old) = false := by simpa using hx
      simp only [hb, Bool.false_eq_true, if_false] at h ⊢
      have := putL_map old new xs (t - 0) (by omega)
      simp only [putL, hx, false_and, if_false, List.map_cons, ren]
      refine ⟨by rw [this.1], by rw [this.2]; omega⟩
theorem putO_map (old new : Sg) : ∀ (own : List (List Sg)) (t : Int), (own.flatten.count old : Int) ≤ t → (putO old new own t).1 = own.map (·.map (ren old new))
  | [], t, _ => by simp [putO]
  | r :: rs, t, h => by
    rw [List.flatten_cons, List.count_append] at h
    obtain ⟨h1, h2⟩ := putL_map old new r t (by omega)
    simp only [putO, List.map_cons]
    rw [h1, putO_map old new rs _ (by rw [h2]; omega)]
theorem putL_back (old q : Sg) : ∀ (xs : List Sg) (t : Int), q ∉ xs → ((putL old q xs t).1).map (ren q old) = xs
  | [], t, _ => rfl
  | x :: xs, t, h => by
    simp only [List.mem_cons, not_or] at h
    simp only [putL, List.map_cons, putL_back old q xs _ h.2]
    split
    · rename_i e; simp [ren, e.1]
    · simp only [ren, List.cons.injEq, and_true]
      rw [if_neg fun e : x = q => h.1 e.symm]
theorem putO_back (old q : Sg) : ∀ (own : List (List Sg)) (t : Int), q ∉ own.flatten → ((putO old q own t).1).map (·.map (ren q old)) = own
  | [], t, _ => rfl
  | r :: rs, t, h => by
    simp only [List.flatten_cons, List.mem_append, not_or] at h
    simp only [putO, List.map_cons, putL_back old q r t h.1, putO_back old q rs _ h.2]
theorem putL_zero (old new : Sg) : ∀ (xs : List Sg) (t : Int), t ≤ 0 → (putL old new xs t).1 = xs
  | [], t, _ => rfl
  | x :: xs, t, h => by
    simp only [putL]
    rw [if_neg (by omega), putL_zero old new xs _ (by split <;> omega)]
theorem putL_count (old new : Sg) (hne : old ≠ new) : ∀ (xs : List Sg) (s : Sg), old ∈ xs → ((putL old new xs 1).1.count s : Int) = xs.count s - (if s = old then 1 else 0) + (if s = new then 1 else 0)
  | x :: xs, s, h => by
    by_cases hx : x = old
    · subst hx
      simp only [putL, if_true, true_and]
      rw [if_pos (by decide), putL_zero _ _ _ _ (by omega), List.count_cons, List.count_cons]
      by_cases h1 : s = x
      · have h2 : ¬ s = new := fun e => hne (h1 ▸ e)
        have h3 : (new == s) = false := by simpa using fun e : new = s => h2 e.symm
        simp [h1, hne, Ne.symm hne]
      · have h3 : ¬ x = s := fun e => h1 e.symm
        by_cases h2 : s = new
        · simp [h2, hne, Ne.symm hne]
        · have h5 : ¬ new = s := fun e => h2 e.symm
          simp [h1, h2, h3, h5]
    · have h0 : ¬ old = x := fun e => hx e.symm
      have h' : old ∈ xs := by simpa [h0] using h
      have ih := putL_count old new hne xs s h'
      simp only [putL, hx, false_and, if_false, Int.sub_zero, List.count_cons]
      omega
-- hanging together
def Conn (own : List (List Sg)) : Prop := ∀ N : Sg → Prop, (∀ r ∈ own, (∀ x ∈ r, N x) ∨ (∀ x ∈ r, ¬ N x)) → (∀ r ∈ own, ∀ x ∈ r, N x) ∨ (∀ r ∈ own, ∀ x ∈ r, ¬ N x)
theorem conn_map {own : List (List Sg)} (f : Sg → Sg) (h : Conn own) : Conn (own.map (·.map f)) := by
  intro N hN
  have := h (fun x => N (f x)) (by
    intro r hr
    rcases hN _ (List.mem_map_of_mem hr) with h1 | h1
    · exact .inl fun x hx => h1 _ (List.mem_map_of_mem hx)
    · exact .inr fun x hx => h1 _ (List.mem_map_of_mem hx))
  rcases this with h1 | h1
  · left; intro r hr x hx
    obtain ⟨r0, hr0, rfl⟩ := List.mem_map.1 hr
    obtain ⟨x0, hx0, rfl⟩ := List.mem_map.1 hx
    exact h1 r0 hr0 x0 hx0
  · right; intro r hr x hx
    obtain ⟨r0, hr0, rfl⟩ := List.mem_map.1 hr
    obtain ⟨x0, hx0, rfl⟩ := List.mem_map.1 hx
    exact h1 r0 hr0 x0 hx0
theorem conn_hang {own : List (List Sg)} {road half last : Sg} (h : Conn own) (hr : road ∈ own.flatten) : Conn (own ++ [[road, half, last]]) := by
  intro N hN
  obtain ⟨r0, hr0, hx0⟩ := List.mem_flatten.1 hr
  have hnew := hN [road, half, last] (by simp)
  rcases h N fun r hr => hN r (List.mem_append_left _ hr) with h1 | h1
  · left; intro r hr
    rcases List.mem_append.1 hr with hr | hr
    · exact h1 r hr
    · simp only [List.mem_singleton] at hr; subst hr
      rcases hnew with h2 | h2
      · exact h2
      · exact absurd (h1 r0 hr0 road hx0) (h2 road (by simp))
  · right; intro r hr
    rcases List.mem_append.1 hr with hr | hr
    · exact h1 r hr
    · simp only [List.mem_singleton] at hr; subst hr
      rcases hnew with h2 | h2
      · exact absurd (h2 road (by simp)) (h1 r0 hr0 road hx0)
      · exact h2
theorem conn_split {own1 : List (List Sg)} {g h : Sg → Sg} {road half last : Sg} (hc : Conn (own1.map (·.map h))) (hr : road ∈ (own1.map (·.map h)).flatten)
    (hgh : ∀ x, g x = h x ∨ (g x = half ∧ h x = road) ∨ (g x = road ∧ h x = half)) : Conn (own1.map (·.map g) ++ [[road, half, last]]) := by
  intro N hN
  have hnew := hN [road, half, last] (by simp)
  have e : ∀ x, N (g x) ↔ N (h x) := by
    have e0 : N road ↔ N half := by
      rcases hnew with h2 | h2
      · exact ⟨fun _ => h2 half (by simp), fun _ => h2 road (by simp)⟩
      · exact ⟨fun q => absurd q (h2 road (by simp)), fun q => absurd q (h2 half (by simp))⟩
    intro x
    rcases hgh x with h3 | ⟨h3, h4⟩ | ⟨h3, h4⟩
    · rw [h3]
    · rw [h3, h4]; exact e0.symm
    · rw [h3, h4]; exact e0
  obtain ⟨r0, hr0, hx0⟩ := List.mem_flatten.1 hr
  have key := hc N (by
    intro r hr
    obtain ⟨r1, hr1, rfl⟩ := List.mem_map.1 hr
    rcases hN (r1.map g) (List.mem_append_left _ (List.mem_map_of_mem hr1)) with h3 | h3
    · left; intro x hx
      obtain ⟨y, hy, rfl⟩ := List.mem_map.1 hx
      exact (e y).1 (h3 _ (List.mem_map_of_mem hy))
    · right; intro x hx
      obtain ⟨y, hy, rfl⟩ := List.mem_map.1 hx
      exact fun q => h3 _ (List.mem_map_of_mem hy) ((e y).2 q))
  rcases key with h1 | h1
  · left; intro r hr x hx
    rcases List.mem_append.1 hr with hr | hr
    · obtain ⟨r1, hr1, rfl⟩ := List.mem_map.1 hr
      obtain ⟨y, hy, rfl⟩ := List.mem_map.1 hx
      exact (e y).2 (h1 _ (List.mem_map_of_mem hr1) _ (List.mem_map_of_mem hy))
    · simp only [List.mem_singleton] at hr; subst hr
      rcases hnew with h2 | h2
      · exact h2 x hx
      · exact absurd (h1 r0 hr0 road hx0) (h2 road (by simp))
  · right; intro r hr x hx
    rcases List.mem_append.1 hr with hr | hr
    · obtain ⟨r1, hr1, rfl⟩ := List.mem_map.1 hr
      obtain ⟨y, hy, rfl⟩ := List.mem_map.1 hx
      exact fun q => h1 _ (List.mem_map_of_mem hr1) _ (List.mem_map_of_mem hy) ((e y).1 q)
    · simp only [List.mem_singleton] at hr; subst hr
      rcases hnew with h2 | h2
      · exact absurd (h2 road (by simp)) (h1 r0 hr0 road hx0)
      · exact h2 x hx
theorem conn_same {own own' : List (List Sg)} (h1 : ∀ r ∈ own', ∃ r2 ∈ own, ∀ x, x ∈ r ↔ x ∈ r2) (h2 : ∀ r ∈ own, ∃ r2 ∈ own', ∀ x, x ∈ r ↔ x ∈ r2) (h : Conn own) : Conn own' := by
  intro N hN
  have := h N (by
    intro r hr
    obtain ⟨r2, hr2, e⟩ := h2 r hr
    rcases hN r2 hr2 with h3 | h3
    · exact .inl fun x hx => h3 x ((e x).1 hx)
    · exact .inr fun x hx => h3 x ((e x).1 hx))
  rcases this with h3 | h3
  · left; intro r hr x hx
    obtain ⟨r2, hr2, e⟩ := h1 r hr
    exact h3 r2 hr2 x ((e x).1 hx)
  · right; intro r hr x hx
    obtain ⟨r2, hr2, e⟩ := h1 r hr
    exact h3 r2 hr2 x ((e x).1 hx)
end Vi.B
end
section
set_option maxRecDepth 100000
/-! Bf: webs drawn: what hanging an end on, joining two ends, turning keep. -/
namespace Vi.B
open Vi L2
structure WebT (own : List (List Sg)) : Prop where
  len3 : ∀ r ∈ own, r.length = 3
  two : ∀ s, own.flatten.count s ≤ 2
  conn : Conn own
theorem flat3 : ∀ {own : List (List Sg)}, (∀ r ∈ own, r.length = 3) → own.flatten.length = 3 * own.length
  | [], _ => rfl
  | r :: rs, h => by
    have h1 := h r (List.mem_cons_self ..)
    have h2 := flat3 (own := rs) fun q hq => h q (List.mem_cons_of_mem _ hq)
    simp only [List.flatten_cons, List.length_append, List.length_cons]; omega
def eOf (own : List (List Sg)) : Nat := (withN 1 (timesOf own.flatten)).length
def iOf (own : List (List Sg)) : Nat := (withN 2 (timesOf own.flatten)).length
def nOf (own : List (List Sg)) : Nat := (timesOf own.flatten).length
theorem WebT.nums {own : List (List Sg)} (W : WebT own) : 3 * own.length = eOf own + 2 * iOf own ∧ nOf own = eOf own + iOf own := by
  have h1 := ends_inner own.flatten W.two
  have h2 := flat3 W.len3
  unfold eOf iOf nOf; omega
theorem nOf_eq {own : List (List Sg)} {l : List Sg} (hn : l.Nodup) (hm : ∀ s, s ∈ l ↔ s ∈ own.flatten) : nOf own = l.length := by
  have hp : (keysS (timesOf own.flatten)).Perm l := (List.perm_ext_iff_of_nodup (cnt_times _).1 hn).2 fun s => mem_keys_times.trans (hm s).symm
  have := hp.length_eq
  simpa [keysS, nOf] using this
theorem count_ren {a b : Sg} (hab : a ≠ b) (s : Sg) : ∀ xs : List Sg, (xs.map (ren a b)).count s = (if s = a then 0 else xs.count s) + (if s = b then xs.count a else 0)
  | [] => by simp
  | x :: xs => by
    have ih := count_ren hab s xs
    simp only [List.map_cons, List.count_cons, ih]
    by_cases hx : x = a
    · subst hx
      have e1 : ren x b x = b := by simp [ren]
      rw [e1]
      by_cases h1 : s = x
      · subst h1
        have : ¬ b = s := fun e => hab e.symm
        simp [this, hab]
      · have h3 : ¬ x = s := fun e => h1 e.symm
        by_cases h2 : s = b
        · subst h2; simp [h1, h3]; omega
        · have h4 : ¬ b = s := fun e => h2 e.symm
          simp [h1, h2, h3, h4]
    · have e1 : ren a b x = x := by simp [ren, hx]
      rw [e1]
      by_cases h1 : s = a
      · subst h1
        simp [hx, hab]
      · by_cases h2 : s = b
        · subst h2; simp [h1, hx]; omega
        · simp [h1, h2]
theorem flat_map (f : Sg → Sg) : ∀ own : List (List Sg), (own.map (·.map f)).flatten = own.flatten.map f
  | [] => rfl
  | r :: rs => by simp only [List.map_cons, List.flatten_cons, List.map_append, flat_map f rs]
abbrev qm : Sg := z "?"
def split2 (own : List (List Sg)) (road half : Sg) : List (List Sg) := (putO qm road (putO road half (putO road qm own 1).1 1).1 1).1
def hang (own : List (List Sg)) (road half last : Sg) : List (List Sg) := (if own.flatten.count road = 2 then split2 own road half else own) ++ [[road, half, last]]
theorem split2_eq {own : List (List Sg)} {road half : Sg} (hq : qm ∉ own.flatten) (hr : own.flatten.count road = 2) (hh : half ∉ own.flatten) (h1 : half ≠ qm) :
    ∃ own1 : List (List Sg), own = own1.map (·.map (ren qm road)) ∧ split2 own road half = own1.map (·.map fun x => ren qm road (ren road half x)) ∧ (∀ s, (own1.flatten.count s : Int) = own.flatten.count s - (if s = road then 1 else 0) + (if s = qm then 1 else 0)) := by
  have hm : road ∈ own.flatten := List.count_pos_iff.1 (by omega)
  have hrq : road ≠ qm := fun e => hq (e ▸ hm)
  have hc : ∀ s, (((putO road qm own 1).1.flatten.count s : Nat) : Int) = own.flatten.count s - (if s = road then 1 else 0) + (if s = qm then 1 else 0) := fun s => by
    rw [(putO_flat road qm own 1).1]; exact putL_count road qm hrq _ s hm
  refine ⟨(putO road qm own 1).1, (putO_back road qm own 1 hq).symm, ?_, hc⟩
  unfold split2
  have c1 := hc road
  have c2 := hc qm
  have q0 : own.flatten.count qm = 0 := List.count_eq_zero.2 hq
  simp only [if_true, hrq, if_false, Ne.symm hrq] at c1 c2
  rw [putO_map road half _ 1 (by omega)]
  have hrh : road ≠ half := fun e => hh (e ▸ hm)
  have c3 := count_ren hrh qm (putO road qm own 1).1.flatten
  rw [← flat_map] at c3
  simp only [Ne.symm hrq, if_false, Ne.symm h1] at c3
  rw [putO_map qm road _ 1 (by omega)]
  rw [List.map_map]
  congr 1; funext r
  simp only [Function.comp, List.map_map]
  rfl
theorem count_hang {own : List (List Sg)} {road half last : Sg} (hq : qm ∉ own.flatten) (hm : road ∈ own.flatten) (htwo : own.flatten.count road ≤ 2) (hh : half ∉ own.flatten) (hl : last ∉ own.flatten) (h1 : half ≠ qm) (h2 : last ≠ qm) (h3 : half ≠ last) (s : Sg) :
    (hang own road half last).flatten.count s = if s = road then 2 else if s = half then own.flatten.count road else if s = last then 1 else own.flatten.count s := by
  have hrh : road ≠ half := fun e => hh (e ▸ hm)
  have hrl : road ≠ last := fun e => hl (e ▸ hm)
  have hrq : road ≠ qm := fun e => hq (e ▸ hm)
  have p0 : 0 < own.flatten.count road := List.count_pos_iff.2 hm
  have q0 : own.flatten.count qm = 0 := List.count_eq_zero.2 hq
  have q1 : own.flatten.count half = 0 := List.count_eq_zero.2 hh
  have q2 : own.flatten.count last = 0 := List.count_eq_zero.2 hl
  unfold hang
  rw [List.flatten_append, List.count_append]
  have e3 : ([[road, half, last]] : List (List Sg)).flatten.count s = (if road = s then 1 else 0) + (if half = s then 1 else 0) + (if last = s then 1 else 0) := by
    simp only [List.flatten_cons, List.flatten_nil, List.append_nil, List.count_cons, List.count_nil, beq_iff_eq]; omega
  rw [e3]
  by_cases hr : own.flatten.count road = 2
  · rw [if_pos hr]
    obtain ⟨own1, e1, e2, hc⟩ := split2_eq hq hr hh h1
    rw [e2, flat_map]
    have e4 : own1.flatten.map (fun x => ren qm road (ren road half x)) = (own1.flatten.map (ren road half)).map (ren qm road) := by rw [List.map_map]; rfl
    rw [e4, count_ren (Ne.symm hrq), count_ren hrh, count_ren hrh]
    have c1 := hc s; have c2 := hc road; have c3 := hc qm
    simp only [if_true, hrq, if_false, Ne.symm hrq] at c2 c3
    by_cases a1 : s = road
    · subst a1
      simp [hrq, hrh, hrl, Ne.symm hrh, Ne.symm hrl, Ne.symm hrq, Ne.symm h1] at c1 ⊢; omega
    · by_cases a2 : s = half
      · subst a2
        simp [a1, Ne.symm a1, h1, h3, Ne.symm h3] at c1 ⊢; omega
      · by_cases a3 : s = last
        · subst a3
          simp [a1, Ne.symm a1, h2, h3, Ne.symm h3, a2, Ne.symm a2] at c1 ⊢; omega
        · by_cases a4 : s = qm
          · subst a4
            simp [a1, Ne.symm a1, a2, Ne.symm a2, a3, Ne.symm a3] at c1 ⊢; omega
          · simp [a1, Ne.symm a1, a2, Ne.symm a2, a3, Ne.symm a3, a4] at c1 ⊢; omega
  · rw [if_neg hr]
    by_cases a1 : s = road
    · subst a1
      simp [hrh, hrl, Ne.symm hrh, Ne.symm hrl]; omega
    · by_cases a2 : s = half
      · subst a2
        simp [a1, Ne.symm a1, h3, Ne.symm h3]; omega
      · by_cases a3 : s = last
        · subst a3
          simp [a1, Ne.symm a1, a2, Ne.symm a2]; omega
        · simp [a1, Ne.symm a1, a2, Ne.symm a2, a3, Ne.symm a3]
theorem mem_hang {own : List (List Sg)} {road half last : Sg} (hq : qm ∉ own.flatten) (hm : road ∈ own.flatten) (htwo : own.flatten.count road ≤ 2) (hh : half ∉ own.flatten) (hl : last ∉ own.flatten) (h1 : half ≠ qm) (h2 : last ≠ qm) (h3 : half ≠ last) (s : Sg) :
    s ∈ (hang own road half last).flatten ↔ s = half ∨ s = last ∨ s ∈ own.flatten := by
  have c := count_hang hq hm htwo hh hl h1 h2 h3 s
  have p0 : 0 < own.flatten.count road := List.count_pos_iff.2 hm
  rw [← List.count_pos_iff, c]
  by_cases a1 : s = road
  · subst a1; simp [hm]
  · by_cases a2 : s = half
    · simp [a1, a2, p0]; split <;> omega
    · by_cases a3 : s = last
      · simp [a1, a2, a3]; split <;> (try split) <;> omega
      · simp [a1, a2, a3, List.count_pos_iff]
theorem hang_ok {own : List (List Sg)} {road half last : Sg} (W : WebT own) (hq : qm ∉ own.flatten) (hm : road ∈ own.flatten) (hh : half ∉ own.flatten) (hl : last ∉ own.flatten) (h1 : half ≠ qm) (h2 : last ≠ qm) (h3 : half ≠ last) :
    WebT (hang own road half last) ∧ (hang own road half last).length = own.length + 1 ∧ nOf (hang own road half last) = nOf own + 2 := by
  have htwo := W.two road
  have hlen : (if own.flatten.count road = 2 then split2 own road half else own).length = own.length := by
    split
    · unfold split2; rw [putO_len, putO_len, putO_len]
    · rfl
  refine ⟨⟨?_, ?_, ?_⟩, ?_, ?_⟩
  · intro r hr
    unfold hang at hr
    rcases List.mem_append.1 hr with hr | hr
    · split at hr
      · rename_i h9
        obtain ⟨own1, e1, e2, hc⟩ := split2_eq hq h9 hh h1
        rw [e2] at hr
        obtain ⟨r1, hr1, rfl⟩ := List.mem_map.1 hr
        have := W.len3 (r1.map (ren qm road)) (by rw [e1]; exact List.mem_map_of_mem hr1)
        simpa using this
      · exact W.len3 r hr
    · simp only [List.mem_singleton] at hr; subst hr; rfl
  · intro s
    rw [count_hang hq hm htwo hh hl h1 h2 h3]
    have := W.two s
    split
    · omega
    · split
      · omega
      · split <;> omega
  · unfold hang
    split
    · rename_i h9
      obtain ⟨own1, e1, e2, hc⟩ := split2_eq hq h9 hh h1
      rw [e2]
      refine conn_split (h := ren qm road) (by rw [← e1]; exact W.conn) (by rw [← e1]; exact hm) fun x => ?_
      have hrq : road ≠ qm := fun e => hq (e ▸ hm)
      by_cases hx : x = road
      · subst hx
        right; left
        simp [ren, h1, hrq]
      · left; simp [ren, hx]
    · exact conn_hang W.conn hm
  · unfold hang; rw [List.length_append, hlen]; rfl
  · have hn : (half :: last :: keysS (timesOf own.flatten)).Nodup := by
      have := (cnt_times own.flatten).1
      rw [List.nodup_cons, List.nodup_cons]
      refine ⟨?_, ?_, this⟩
      · rw [List.mem_cons, mem_keys_times]; exact fun e => e.elim h3 hh
      · rw [mem_keys_times]; exact hl
    rw [nOf_eq hn fun s => by rw [mem_hang hq hm htwo hh hl h1 h2 h3, List.mem_cons, List.mem_cons, mem_keys_times]]
    simp [keysS, nOf]
theorem join_ok {own : List (List Sg)} {one other : Sg} (W : WebT own) (h1 : own.flatten.count one = 1) (h2 : own.flatten.count other = 1) (hne : one ≠ other) :
    WebT (putO other one own 1).1 ∧ (putO other one own 1).1.length = own.length ∧ nOf (putO other one own 1).1 + 1 = nOf own ∧ (∀ s, s ∈ (putO other one own 1).1.flatten → s ∈ own.flatten) := by
  have e := putO_map other one own 1 (by omega)
  have hc : ∀ s, (putO other one own 1).1.flatten.count s = (if s = other then 0 else own.flatten.count s) + (if s = one then 1 else 0) := fun s => by
    rw [e, flat_map, count_ren (Ne.symm hne), h2]
  have hm : ∀ s, s ∈ (putO other one own 1).1.flatten ↔ s ≠ other ∧ s ∈ own.flatten := fun s => by
    rw [← List.count_pos_iff, hc, ← List.count_pos_iff]
    by_cases a1 : s = other
    · subst a1; simp [Ne.symm hne]
    · by_cases a2 : s = one
      · subst a2; simp [a1, h1]
      · simp [a1, a2]
  refine ⟨⟨?_, ?_, ?_⟩, putO_len .., ?_, fun s hs => ((hm s).1 hs).2⟩
  · intro r hr
    rw [e] at hr
    obtain ⟨r1, hr1, rfl⟩ := List.mem_map.1 hr
    simpa using W.len3 r1 hr1
  · intro s
    rw [hc]
    have := W.two s
    by_cases a2 : s = one
    · subst a2; simp only [hne, if_false, if_true]; omega
    · simp only [a2, if_false]; split <;> omega
  · rw [e]; exact conn_map _ W.conn
  · have hn : (other :: keysS (timesOf (putO other one own 1).1.flatten)).Nodup := by
      rw [List.nodup_cons]
      exact ⟨by rw [mem_keys_times, hm]; simp, (cnt_times _).1⟩
    have hmo : other ∈ own.flatten := List.count_pos_iff.1 (by omega)
    have := nOf_eq (own := own) hn fun s => by
      rw [List.mem_cons, mem_keys_times, hm]
      by_cases a : s = other
      · subst a; simp [hmo]
      · simp [a]
    rw [this]; simp [keysS, nOf]
theorem perm_flat {a b : List (List Sg)} (h : a.Perm b) : a.flatten.Perm b.flatten := by
  induction h with
  | nil => exact .refl _
  | cons x _ ih => simp only [List.flatten_cons]; exact List.Perm.append_left x ih
  | swap x y l => simp only [List.flatten_cons, ← List.append_assoc]; exact List.Perm.append_right _ List.perm_append_comm
  | trans _ _ h1 h2 => exact h1.trans h2
/-- words of lines in another sequence -/
inductive RowsP : List (List Sg) → List (List Sg) → Prop
  | nil : RowsP [] []
  | cons {a b : List Sg} {as bs : List (List Sg)} : a.Perm b → RowsP as bs → RowsP (a :: as) (b :: bs)
theorem RowsP.flat {a b : List (List Sg)} (h : RowsP a b) : a.flatten.Perm b.flatten := by
  induction h with
  | nil => exact .refl _
  | cons h1 _ ih => simp only [List.flatten_cons]; exact h1.append ih
theorem RowsP.len {a b : List (List Sg)} (h : RowsP a b) : a.length = b.length := by
  induction h with
  | nil => rfl
  | cons h1 _ ih => simp [ih]
theorem RowsP.left {a b : List (List Sg)} (h : RowsP a b) : ∀ r ∈ b, ∃ r2 ∈ a, r2.Perm r := by
  induction h with
  | nil => intro r hr; cases hr
  | @cons x y as bs h1 _ ih =>
    intro r hr
    rcases List.mem_cons.1 hr with rfl | hr
    · exact ⟨x, List.mem_cons_self .., h1⟩
    · obtain ⟨r2, h2, h3⟩ := ih r hr; exact ⟨r2, List.mem_cons_of_mem _ h2, h3⟩
theorem RowsP.right {a b : List (List Sg)} (h : RowsP a b) : ∀ r ∈ a, ∃ r2 ∈ b, r2.Perm r := by
  induction h with
  | nil => intro r hr; cases hr
  | @cons x y as bs h1 _ ih =>
    intro r hr
    rcases List.mem_cons.1 hr with rfl | hr
    · exact ⟨y, List.mem_cons_self .., h1.symm⟩
    · obtain ⟨r2, h2, h3⟩ := ih r hr; exact ⟨r2, List.mem_cons_of_mem _ h2, h3⟩
theorem RowsP.snoc {a b : List (List Sg)} {x y : List Sg} (h : RowsP a b) (h1 : x.Perm y) : RowsP (a ++ [x]) (b ++ [y]) := by
  induction h with
  | nil => exact .cons h1 .nil
  | cons h2 _ ih => exact .cons h2 ih
theorem turned_ok {a b c : List (List Sg)} (W : WebT a) (h : RowsP a b) (hp : b.Perm c) : WebT c ∧ c.length = a.length ∧ a.flatten.Perm c.flatten := by
  have hf : a.flatten.Perm c.flatten := h.flat.trans (perm_flat hp)
  refine ⟨⟨?_, fun s => by rw [← hf.count_eq]; exact W.two s, ?_⟩, by rw [← hp.length_eq, ← h.len], hf⟩
  · intro r hr
    obtain ⟨r2, h2, h3⟩ := h.left r (hp.mem_iff.2 hr)
    rw [← h3.length_eq]; exact W.len3 r2 h2
  · refine conn_same (own := a) (fun r hr => ?_) (fun r hr => ?_) W.conn
    · obtain ⟨r2, h2, h3⟩ := h.left r (hp.mem_iff.2 hr)
      exact ⟨r2, h2, fun x => h3.mem_iff.symm⟩
    · obtain ⟨r2, h2, h3⟩ := h.right r hr
      exact ⟨r2, hp.mem_iff.1 h2, fun x => h3.mem_iff.symm⟩
theorem WebT.of_flat {a b : List (List Sg)} (W : WebT a) (h3 : ∀ r ∈ b, r.length = 3) (hp : a.flatten.Perm b.flatten) (hc : Conn b) : WebT b :=
  ⟨h3, fun s => by rw [← hp.count_eq]; exact W.two s, hc⟩
theorem nOf_perm {a b : List (List Sg)} (hp : a.flatten.Perm b.flatten) : nOf a = nOf b := by
  have := nOf_eq (own := a) (cnt_times b.flatten).1 fun s => mem_keys_times.trans hp.mem_iff.symm
  rw [this]; simp [keysS, nOf]
end Vi.B
end
section
set_option maxRecDepth 100000
/-! Bg: drawn webs. -/
namespace Vi.B
open Vi L2
def poolA : List Sg := [z "a", z "b", z "c", z "d", z "e", z "f", z "g", z "h", z "i", z "j", z "k", z "l", z "m", z "n", z "o", z "p", z "q", z "r", z "s", z "t", z "u", z "v", z "w", z "x", z "y", z "z"]
def poolB : List Sg := [z "meet", z "web", z "road", z "ab", z "zz", z "round"]
def pool : List Sg := poolA ++ poolB
theorem pool_nodup : pool.Nodup := by decide +kernel
theorem pool_qm : qm ∉ pool := by decide +kernel
theorem list_az : listOp (.str (z "abcdefghijklmnopqrstuvwxyz")) = some (.lst true (poolA.map .str)) := by kernel_rfl
def strOf : D → Sg | .str s => s | _ => z ""
def rowOf : D → List Sg | .tup xs => xs.map strOf | _ => []
theorem perm_inv {α : Type} (f : α → D) (g : D → α) (hg : ∀ x, g (f x) = x) {ys rs : List D} {xs : List α} (h : (ys ++ rs).Perm (xs.map f)) :
    ∃ (us vs : List α), ys = us.map f ∧ (us ++ vs).Perm xs := by
  refine ⟨ys.map g, rs.map g, ?_, ?_⟩
  · rw [List.map_map]
    conv => lhs; rw [← List.map_id ys]
    refine List.map_congr_left fun y hy => ?_
    have : y ∈ xs.map f := h.subset (List.mem_append_left _ hy)
    obtain ⟨x, _, rfl⟩ := List.mem_map.1 this
    simp [hg]
  · have := h.map g
    rw [List.map_append, List.map_map] at this
    refine this.trans ?_
    have e : xs.map (g ∘ f) = xs := by
      conv => rhs; rw [← List.map_id xs]
      exact List.map_congr_left fun x _ => hg x
    rw [e]
theorem rowOf_rowD (r : List Sg) : rowOf (rowD r) = r := by
  simp only [rowOf, List.map_map]
  conv => rhs; rw [← List.map_id r]
  exact List.map_congr_left fun x _ => rfl
theorem names_ok {u : Nat} {φ : Phi} (Sm : SomeOk φ) {M : Int} {d : D} {n : Nat} (hp : PotD M d) (hM : M + n < 1000000) (hn : n ≤ 32) :
    ∃ (d' : D) (us vs : List Sg), PotD (M + n) d' ∧ (us ++ vs).Perm pool ∧ us.length = n ∧ callDK u φ fWNames [d, .int n] = some (.lst true (us.map .str), [some d', some (.int n)]) := by
  obtain ⟨d', ys, rs, hp', pm, hy, h⟩ := Sm M d true (pool.map .str) n hp hM (by rw [List.length_map, show pool.length = 32 from rfl]; exact hn) (by simp [pool, poolA, poolB]) (by
    intro x hx; obtain ⟨s, _, rfl⟩ := List.mem_map.1 hx; rfl)
  obtain ⟨us, vs, rfl, pm2⟩ := perm_inv D.str strOf (fun _ => rfl) pm
  refine ⟨d', us, vs, hp', pm2, by simpa using hy, ?_⟩
  have o0 := hp.own
  have hl := list_az
  have e1 : D.lst true (pool.map D.str) = D.lst true (poolA.map D.str ++ [.str (z "meet"), .str (z "web"), .str (z "road"), .str (z "ab"), .str (z "zz"), .str (z "round")]) := by
    rw [pool, List.map_append]; rfl
  rw [e1] at h
  simp [callDK, execsK, execK, denK, denAK, denFK, getV, fWNames, hl, o0, h, show (poolA.length ≤ 1000) by decide, show poolA.length + 6 ≤ 1000000 by decide]
-- the tree
theorem cut_from {xs : List D} (k : Nat) (hk : k ≤ xs.length) : cutD xs (some (k : Int)) none = xs.drop k := by
  simp only [cutD, HT.sIx_none, HT.sIx_nat, Nat.min_eq_left hk]
  exact List.take_of_length_le (by simp)
theorem cut_to {xs : List D} (k : Nat) (hk : k ≤ xs.length) : cutD xs none (some (k : Int)) = xs.take k := by
  simp only [cutD, HT.sIx_none, HT.sIx_nat, Nat.min_eq_left hk]
  simp
def RoadsOk (φ : Phi) : Prop := ∀ (o : Bool) (own : List (List Sg)), own.flatten.length < 64 → φ (z "_law_web_roads") [ownD o own] = some (.lst true ((roadsOf own).map .str), [some (ownD o own)])
def EndsOk (φ : Phi) : Prop := ∀ (o : Bool) (own : List (List Sg)), own.flatten.length < 64 → φ (z "_law_web_ends") [ownD o own] = some (.lst true ((endsOf own).map .str), [some (ownD o own)])
def OfOk (φ : Phi) : Prop := ∀ (M : Int) (d : D) (o : Bool) (xs : List D), PotD M d → M < 1000000 → xs ≠ [] → xs.length < 16777216 → ∃ (x d' : D), x ∈ xs ∧ PotD (M + 1) d' ∧ φ (z "_law_of") [d, .lst o xs] = some (x, [some d', some (.lst o xs)])
def PutOk (φ : Phi) : Prop := ∀ (o : Bool) (own : List (List Sg)) (old new : Sg) (t : Int), own.length ≤ 1000000 → (∀ r ∈ own, r.length ≤ 1000000) →
  φ (z "_law_web_put") [ownD o own, .str old, .str new, .int t] = some (ownD true (putO old new own t).1, [some (ownD o own), some (.str old), some (.str new), some (.int (putO old new own t).2)])
theorem at_zero {α : Type} (x : α) (xs : List α) : atI (x :: xs) 0 = some x := by
  simp only [atI, ixN, List.length_cons]; rw [if_pos (by decide), if_pos (by omega)]; rfl
theorem at_one {α : Type} (x y : α) (xs : List α) : atI (x :: y :: xs) 1 = some y := by
  simp only [atI, ixN, List.length_cons]; rw [if_pos (by decide), if_pos (by omega)]; rfl
def hB : Ss := match fTree.body with | .cons _ (.cons (.forr _ _ s) _) => s | _ => .nil
theorem putO_row (old new : Sg) (own : List (List Sg)) (t : Int) (h : ∀ r ∈ own, r.length ≤ 1000000) : ∀ r ∈ (putO old new own t).1, r.length ≤ 1000000 := by
  induction own generalizing t with
  | nil => intro r hr; cases hr
  | cons a as ih =>
    intro r hr
    simp only [putO, List.mem_cons] at hr
    rcases hr with rfl | hr
    · rw [putL_len]; exact h a (List.mem_cons_self ..)
    · exact ih _ (fun q hq => h q (List.mem_cons_of_mem _ hq)) r hr
theorem hB_ok {u : Nat} {φ : Phi} {pin : List Nat} {M : Int} {d names ends x : D} {lv rv tv av bv : Option D} (To : TimesOk φ) (Ro : RoadsOk φ) (Oo : OfOk φ) (Po : PutOk φ)
    (own : List (List Sg)) (h l : Sg) (rest : List Sg) (hp : PotD M d) (hM : M < 1000000) (h3 : ∀ r ∈ own, r.length = 3) (hlen : own.length ≤ 20) (hne : own ≠ []) (hrest : rest.length ≤ 1000)
    (p0 : ∀ i ∈ pin, i < 3) :
    ∃ (road : Sg) (d' : D), road ∈ own.flatten ∧ PotD (M + 1) d' ∧ ((bindT pin (.v 3) x [some d, some names, some ends, lv, some (ownD true own), some (.lst true (.str h :: .str l :: rest.map .str)), rv, tv, av, bv]).bind fun e => execsK u φ pin hB e) =
      some (.nx, [some d', some names, some ends, some x, some (ownD true (hang own road h l)), some (.lst true (rest.map .str)), some (.str road), some (.int (own.flatten.count road)), some (.str h), some (.str l)]) := by
  have hf := flat3 h3
  have hfl : own.flatten.length < 64 := by omega
  have hrne : (roadsOf own).map D.str ≠ [] := by
    intro e
    have e2 : roadsOf own = [] := by simpa using e
    obtain ⟨r, hr⟩ := List.exists_mem_of_ne_nil _ hne
    have : r.length = 3 := h3 r hr
    obtain ⟨s, hs⟩ := List.exists_mem_of_ne_nil r (by intro e3; rw [e3] at this; simp at this)
    have := mem_roads.2 (List.mem_flatten.2 ⟨r, hr, hs⟩)
    rw [e2] at this; cases this
  have hkl : (roadsOf own).length ≤ 64 := by have := keys_len own; unfold roadsOf; rw [(srtS_perm _).length_eq]; omega
  obtain ⟨v, d', hv, hp', e1⟩ := Oo M d true ((roadsOf own).map .str) hp hM hrne (by rw [List.length_map]; omega)
  obtain ⟨road, hr, rfl⟩ := List.mem_map.1 hv
  have hm := mem_roads.1 hr
  refine ⟨road, d', hm, hp', ?_⟩
  have e2 := Ro true own hfl
  have e3 := To true own (by omega)
  have e4 : valD (encK (timesOf own.flatten)) (.inr road) = some (.int (own.flatten.count road)) := by
    rw [valD_enc, getS_of (cnt_times _), if_neg (by have := List.count_pos_iff.2 hm; omega)]; rfl
  have hb : ∀ r ∈ own, r.length ≤ 1000000 := fun r hr => by have := h3 r hr; omega
  have e5 := Po true own road qm 1 (by omega) hb
  have e6 := Po true (putO road qm own 1).1 road h 1 (by rw [putO_len]; omega) (putO_row _ _ _ _ hb)
  have e7 := Po true (putO road h (putO road qm own 1).1 1).1 qm road 1 (by rw [putO_len, putO_len]; omega) (putO_row _ _ _ _ (putO_row _ _ _ _ hb))
  have o0 := hp.own; have o1 := hp'.own
  have n : ∀ i, 3 ≤ i → i ∉ pin := fun i hi hm => by have := p0 i hm; omega
  have e8 : slcOn (.lst true (.str h :: .str l :: rest.map .str)) true false [2] = some (.lst true (rest.map .str)) := by
    simp only [slcOn, slcOp]
    have e9 := cut_from (xs := D.str h :: D.str l :: rest.map D.str) 2 (by simp)
    rw [show ((2 : Nat) : Int) = 2 from rfl] at e9
    rw [e9]; rfl
  by_cases hc : own.flatten.count road = 2
  · have hc2 : (own.flatten.count road : Int) = 2 := by omega
    simp [execsK, execK, denK, denAK, denFK, denOK, denTK, getV, hB, fTree, n, o0, o1, e1, e2, e3, e4, e5, e6, e7, e8, hc, hc2, hang, split2, at_zero, at_one, show own.length + 1 ≤ 1000000 by omega, putO_len]
  · have hc2 : ¬ (own.flatten.count road : Int) = 2 := by omega
    simp [execsK, execK, denK, denAK, denFK, denOK, denTK, getV, hB, fTree, n, o0, o1, e1, e2, e3, e4, e8, hc, hc2, hang, at_zero, at_one, show own.length + 1 ≤ 1000000 by omega]
end Vi.B
end
section
set_option maxRecDepth 100000
/-! Bh: drawn webs: the tree, the turning, the whole. -/
namespace Vi.B
open Vi L2
theorem small_nat {n : Nat} (h : n < 1000000) : smallI (n : Int) = true := by
  simp only [smallI, decide_eq_true_eq]
  exact Nat.lt_of_lt_of_le (log_lt (c := 20) (by omega) (by decide)) (by decide)
theorem row_conn (r : List Sg) : Conn [r] := by
  intro N hN
  rcases hN r (by simp) with h | h
  · left; intro q hq; simp only [List.mem_singleton] at hq; subst hq; exact h
  · right; intro q hq; simp only [List.mem_singleton] at hq; subst hq; exact h
theorem tree_ok {u : Nat} {φ : Phi} {M : Int} {d : D} (To : TimesOk φ) (Ro : RoadsOk φ) (Oo : OfOk φ) (Po : PutOk φ) (ns : List Sg) (ends : Nat) (hp : PotD M d) (hM : M + 100 < 1000000) (h3 : 3 ≤ ends) (h20 : ends ≤ 20) (hn : ns.length = 2 * ends - 3) (hnd : ns.Nodup) (hq : qm ∉ ns) :
    ∃ (own : List (List Sg)) (d' : D), PotD (M + 100) d' ∧ WebT own ∧ own.length = ends - 2 ∧ nOf own = 2 * ends - 3 ∧ (∀ s ∈ own.flatten, s ∈ ns) ∧
      callDK u φ fTree [d, .lst true (ns.map .str), .int ends] = some (ownD true own, [some d', some (.lst true (ns.map .str)), some (.int ends)]) := by
  have hsplit : ns = ns.take 3 ++ ns.drop 3 := (List.take_append_drop 3 ns).symm
  have hnd2 := hnd
  rw [hsplit, List.nodup_append] at hnd2
  obtain ⟨nd1, nd2, nd3⟩ := hnd2
  obtain ⟨env', h, d', own, spare, lv, rv, tv, av, bv, hp', W, hl, hnn, hsub, hsn, hsp, hsl, rfl⟩ := forL_rel (body := fun x e => (bindT [0, 1] (.v 3) x e).bind fun e => execsK u φ [0, 1] hB e) (fun k : Nat => D.int (0 + (k : Nat)))
    (fun done env => ∃ (d' : D) (own : List (List Sg)) (spare : List Sg) (lv rv tv av bv : Option D), PotD (M + done.length) d' ∧ WebT own ∧ own.length = 1 + done.length ∧ nOf own = 3 + 2 * done.length ∧ (∀ s ∈ own.flatten, s ∈ ns) ∧ spare.Nodup ∧ (∀ s ∈ spare, s ∈ ns ∧ s ∉ own.flatten) ∧ spare.length = 2 * (ends - 3 - done.length) ∧
      env = [some d', some (.lst true (ns.map .str)), some (.int ends), lv, some (ownD true own), some (.lst true (spare.map .str)), rv, tv, av, bv]) (List.range (((ends : Int) - 3) - 0).toNat) []
    [some d, some (.lst true (ns.map .str)), some (.int ends), none, some (ownD true [ns.take 3]), some (.lst true ((ns.drop 3).map .str)), none, none, none, none] (by
      rintro done x rest env he ⟨d1, own, spare, lv, rv, tv, av, bv, hp1, W, hl, hnn, hsub, hsn, hsp, hsl, rfl⟩
      have hlen := congrArg List.length he
      simp only [List.length_append, List.length_cons, List.length_nil, List.length_range] at hlen
      have hs2 : ∃ a b sp, spare = a :: b :: sp := by
        match spare, hsl with
        | a :: b :: sp, _ => exact ⟨a, b, sp, rfl⟩
        | [], e => simp at e; omega
        | [a], e => simp at e; omega
      obtain ⟨a, b, sp, rfl⟩ := hs2
      have hne : own ≠ [] := by intro e; rw [e] at hl; simp at hl; omega
      simp only [List.length_cons] at hsl
      obtain ⟨road, d2, hm, hp2, e⟩ := hB_ok (u := u) (φ := φ) (pin := [0, 1]) (names := .lst true (ns.map .str)) (ends := .int ends) (x := .int (0 + (x : Nat))) (lv := lv) (rv := rv) (tv := tv) (av := av) (bv := bv) To Ro Oo Po own a b sp hp1 (by omega) W.len3 (by omega) hne (by omega) (by
        intro i hi; simp only [List.mem_cons, List.not_mem_nil, or_false] at hi; omega)
      have ha := hsp a (by simp); have hb := hsp b (by simp)
      have hqo : qm ∉ own.flatten := fun e => hq (hsub _ e)
      have haq : a ≠ qm := fun e => hq (e ▸ ha.1)
      have hbq : b ≠ qm := fun e => hq (e ▸ hb.1)
      rw [List.nodup_cons, List.nodup_cons] at hsn
      have hab : a ≠ b := fun e => hsn.1 (by rw [e]; simp)
      obtain ⟨W2, l2, n2⟩ := hang_ok W hqo hm ha.2 hb.2 haq hbq hab
      have hmem := mem_hang hqo hm (W.two road) ha.2 hb.2 haq hbq hab
      refine ⟨_, e, d2, hang own road a b, sp, _, _, _, _, _, ?_, W2, ?_, ?_, ?_, hsn.2.2, ?_, ?_, rfl⟩
      · refine hp2.mono ?_; simp only [List.length_append, List.length_cons, List.length_nil]; omega
      · simp only [List.length_append, List.length_cons, List.length_nil]; omega
      · simp only [List.length_append, List.length_cons, List.length_nil]; omega
      · intro s hs
        rcases (hmem s).1 hs with rfl | rfl | hs
        · exact ha.1
        · exact hb.1
        · exact hsub s hs
      · intro s hs
        refine ⟨(hsp s (by simp [hs])).1, fun e => ?_⟩
        rcases (hmem s).1 e with rfl | rfl | e
        · exact hsn.1 (by simp [hs])
        · exact hsn.2.1 hs
        · exact (hsp s (by simp [hs])).2 e
      · simp only [List.length_append, List.length_cons, List.length_nil]; omega) (by
    have hl3 : (ns.take 3).length = 3 := by rw [List.length_take]; omega
    refine ⟨d, [ns.take 3], ns.drop 3, none, none, none, none, none, by simpa using hp, ⟨?_, ?_, row_conn _⟩, rfl, ?_, ?_, nd2, ?_, ?_, rfl⟩
    · intro r hr; simp only [List.mem_singleton] at hr; subst hr; exact hl3
    · intro s
      simp only [List.flatten_cons, List.flatten_nil, List.append_nil]
      have := List.nodup_iff_count.1 nd1 s
      omega
    · rw [nOf_eq (own := [ns.take 3]) nd1 (by intro s; simp)]; simp; omega
    · intro s hs
      simp only [List.flatten_cons, List.flatten_nil, List.append_nil] at hs
      exact List.mem_of_mem_take hs
    · intro s hs
      refine ⟨List.mem_of_mem_drop hs, fun e => ?_⟩
      simp only [List.flatten_cons, List.flatten_nil, List.append_nil] at e
      exact nd3 s e s hs rfl
    · rw [List.length_drop]; simp; omega)
  simp only [List.nil_append, List.length_range] at hp' hl hnn h
  have en : (((ends : Int) - 3) - 0).toNat = ends - 3 := by omega
  rw [en] at hp' hl hnn
  refine ⟨own, d', hp'.mono (by omega), W, by omega, by omega, hsub, ?_⟩
  have hf : fTree = ⟨3, 10, match fTree.body with | .cons x (.cons (.forr a b _) c) => .cons x (.cons (.forr a b hB) c) | _ => .nil⟩ := rfl
  have o0 := hp.own
  have c1 : slcOn (.lst true (ns.map D.str)) false true [3] = some (.lst true ((ns.take 3).map .str)) := by
    have := cut_to (xs := ns.map D.str) 3 (by rw [List.length_map]; omega)
    rw [show ((3 : Nat) : Int) = 3 from rfl] at this
    simp only [slcOn, slcOp, this, List.map_take]
  have c2 : slcOn (.lst true (ns.map D.str)) true false [3] = some (.lst true ((ns.drop 3).map .str)) := by
    have := cut_from (xs := ns.map D.str) 3 (by rw [List.length_map]; omega)
    rw [show ((3 : Nat) : Int) = 3 from rfl] at this
    simp only [slcOn, slcOp, this, List.map_drop]
  have sm : smallI ((ends : Int) - 3) = true := by
    rw [show (ends : Int) - 3 = ((ends - 3 : Nat) : Int) by omega]; exact small_nat (by omega)
  have h' : forL (fun x e => (bindT [0, 1] (.v 3) x e).bind fun e => execsK u φ [0, 1] hB e) (rangeD 0 ((ends : Int) - 3)) _ = _ := h
  rw [hf]
  simp only [fTree]
  simp only [ownD, List.map_cons, List.map_nil] at h'
  generalize ns.take 3 = A at c1 h'
  generalize ns.drop 3 = B at c2 h'
  simp [callDK, execsK, execK, denK, denAK, denFK, denOK, denIK, getV, o0, sm, c1, c2, h', -bindT_v]
-- turning
theorem compL_rel {α : Type} {body : D → Ev → Option (Option D × Ev)} (d : α → D) (P : List α → List D → Ev → Prop) : ∀ (rest done : List α) (acc : List D) (env : Ev),
    (∀ done' x rest' acc env, done' ++ x :: rest' = done ++ rest → P done' acc env → ∃ y env', body (d x) env = some (some y, env') ∧ P (done' ++ [x]) (acc ++ [y]) env') → P done acc env → acc.length + rest.length ≤ line →
    ∃ ys env', compL body (rest.map d) acc env = some (ys, env') ∧ P (done ++ rest) ys env'
  | [], done, acc, env, _, h, _ => ⟨acc, env, rfl, by simpa using h⟩
  | x :: rest, done, acc, env, step, h, hl => by
    simp only [List.length_cons] at hl
    obtain ⟨y, env1, h1, p1⟩ := step done x rest acc env rfl h
    obtain ⟨ys, env2, h2, p2⟩ := compL_rel d P rest (done ++ [x]) (acc ++ [y]) env1 (fun done' y rest' acc e he hp => step done' y rest' acc e (by simpa using he) hp) p1 (by simp only [List.length_append, List.length_cons, List.length_nil]; omega)
    exact ⟨ys, env2, by simp only [List.map_cons, compL]; rw [if_pos (by omega), h1]; exact h2, by simpa using p2⟩
def cTurned : E := .comp (.op .tuple (.cons false (.call (z "_law_some") (.cons false (.var 0) (.cons false (.op .list (.cons false (.var 2) .nil)) (.cons false (.lit (.int (3))) .nil)))) .nil)) (.v 2) (.val (.var 1)) .nil [2]
def fTurnedC : Fn := ⟨2, 3, (.cons (.ret (.call (z "_law_some") (.cons false (.var 0) (.cons false cTurned (.cons false (.op .len (.cons false (.var 1) .nil)) .nil))))) .nil)⟩
theorem fTurned_eq : fTurned = fTurnedC := rfl
theorem cTurned_ok {φ : Phi} (Sm : SomeOk φ) {M : Int} {d : D} (o : Bool) (own : List (List Sg)) (hp : PotD M d) (hl : own.length ≤ 100) (hM : M + 1000 < 1000000) (h3 : ∀ r ∈ own, r.length = 3) :
    ∃ (d' : D) (rows : List (List Sg)), PotD (M + 3 * own.length) d' ∧ RowsP own rows ∧ denK φ cTurned [some d, some (ownD o own), none] = some (ownD true rows, [some d', some (ownD o own), none]) := by
  have key : ∀ O : Option D, ∃ ys env', compL (fun x e => (bindT [] (.v 2) x e).bind fun e1 => (denAlK φ .nil e1).bind fun b => if b.1 then (denK φ (.op .tuple (.cons false (.call (z "_law_some") (.cons false (.var 0) (.cons false (.op .list (.cons false (.var 2) .nil)) (.cons false (.lit (.int (3))) .nil)))) .nil)) b.2).map fun y => (some y.1.frz, wipeE y.2 [2]) else some (none, wipeE b.2 [2])) (own.map rowD) [] [some d, O, none] = some (ys, env') ∧
      ∃ d' rows, PotD (M + 3 * own.length) d' ∧ RowsP own rows ∧ ys = rows.map rowD ∧ env' = [some d', O, none] := by
    intro O
    have h := compL_rel (body := fun x e => (bindT [] (.v 2) x e).bind fun e1 => (denAlK φ .nil e1).bind fun b => if b.1 then (denK φ (.op .tuple (.cons false (.call (z "_law_some") (.cons false (.var 0) (.cons false (.op .list (.cons false (.var 2) .nil)) (.cons false (.lit (.int (3))) .nil)))) .nil)) b.2).map fun y => (some y.1.frz, wipeE y.2 [2]) else some (none, wipeE b.2 [2])) rowD
      (fun done acc env => ∃ d' rows, PotD (M + 3 * done.length) d' ∧ RowsP done rows ∧ acc = rows.map rowD ∧ env = [some d', O, none]) own [] [] [some d, O, none] (by
        rintro done x rest acc env he ⟨d1, rows, hp1, R, rfl, rfl⟩
        have hlen := congrArg List.length he
        simp only [List.length_append, List.length_cons, List.length_nil] at hlen
        have hx : x ∈ own := by
          have : x ∈ [] ++ own := he ▸ (by simp)
          simpa using this
        have hx3 := h3 x hx
        obtain ⟨d2, ys, rs, hp2, pm, hy, e⟩ := Sm _ d1 true (x.map .str) 3 hp1 (by omega) (by rw [List.length_map, hx3]; exact Nat.le_refl _) (by rw [List.length_map, hx3]; decide) (by
          intro q hq; obtain ⟨s, _, rfl⟩ := List.mem_map.1 hq; rfl)
        obtain ⟨us, vs, rfl, pm2⟩ := perm_inv D.str strOf (fun _ => rfl) pm
        have hv : vs = [] := by
          have := pm2.length_eq
          simp only [List.length_append, List.length_map] at this hy
          exact List.eq_nil_of_length_eq_zero (by omega)
        subst hv
        simp only [List.append_nil] at pm2
        have o0 := hp1.own
        rw [show ((3 : Nat) : Int) = 3 from rfl] at e
        refine ⟨rowD us, [some d2, O, none], ?_, d2, rows ++ [us], hp2.mono ?_, R.snoc pm2.symm, by simp, rfl⟩
        · simp [denAlK, denK, denAK, getV, e, o0]
        · simp only [List.length_append, List.length_cons, List.length_nil]; omega) ⟨d, [], by simpa using hp, .nil, rfl, rfl⟩ (by rw [ln_eq]; simp; omega)
    simpa using h
  have hI : denIK φ (.val (.var 1)) [some d, some (ownD o own), none] = some (own.map rowD, (if o then some (1, ownD o own) else none), [some d, (if o then none else some (ownD o own)), none]) := by
    cases o <;> simp [denIK, denK, getV]
  obtain ⟨ys, env', h, d', rows, hp', R, rfl, rfl⟩ := key (if o then none else some (ownD o own))
  refine ⟨d', rows, hp', R, ?_⟩
  unfold cTurned
  rw [denK, hI]
  simp only [Option.bind_some, wipeE_cons, wipeE_nil, List.set_cons_succ, List.set_cons_zero]
  simp only [wipeE_cons, wipeE_nil] at h
  rw [h]
  cases o <;> rfl
theorem turned_run {u : Nat} {φ : Phi} (Sm : SomeOk φ) {M : Int} {d : D} (o : Bool) (own : List (List Sg)) (hp : PotD M d) (hl : own.length ≤ 100) (hM : M + 1000 < 1000000) (W : WebT own) :
    ∃ (d' : D) (c : List (List Sg)), PotD (M + 500) d' ∧ WebT c ∧ c.length = own.length ∧ own.flatten.Perm c.flatten ∧ callDK u φ fTurned [d, ownD o own] = some (ownD true c, [some d', some (ownD o own)]) := by
  obtain ⟨d1, rows, hp1, R, hC⟩ := cTurned_ok Sm o own hp hl hM W.len3
  have hrl := R.len
  obtain ⟨d2, ys, rs, hp2, pm, hy, e⟩ := Sm _ d1 true (rows.map rowD) own.length hp1 (by omega) (by rw [List.length_map]; omega) (by rw [List.length_map]; omega) (by
    intro q hq; obtain ⟨s, _, rfl⟩ := List.mem_map.1 hq; rfl)
  obtain ⟨us, vs, rfl, pm2⟩ := perm_inv rowD rowOf rowOf_rowD pm
  have hv : vs = [] := by
    have := pm2.length_eq
    simp only [List.length_append, List.length_map] at this hy
    exact List.eq_nil_of_length_eq_zero (by omega)
  subst hv
  simp only [List.append_nil] at pm2
  obtain ⟨W2, l2, f2⟩ := turned_ok W R pm2.symm
  have o0 := hp.own; have o1 := hp1.own
  have hpk : ∀ env r, pk cTurned env r = r.map fun q => (.v q.1, q.2) := fun _ _ => rfl
  refine ⟨d2, us, hp2.mono (by omega), W2, l2, f2, ?_⟩
  rw [fTurned_eq]
  cases o <;> simp [callDK, execsK, execK, denK, denAK, getV, fTurnedC, hpk, hC, e, o0, o1]
end Vi.B
end
section
set_option maxRecDepth 100000
/-! Bi: drawn webs, the whole. -/
namespace Vi.B
open Vi L2
def jB : Ss := match fDrawn.body with | .cons _ (.cons _ (.cons (.forr _ _ s) _)) => s | _ => .nil
theorem jB_ok {u : Nat} {φ : Phi} {M : Int} {d A B C x : D} {lv ov tv : Option D} (Eo : EndsOk φ) (Sm : SomeOk φ) (Po : PutOk φ) (own : List (List Sg)) (hp : PotD M d) (hM : M + 10 < 1000000) (W : WebT own) (hl : own.length ≤ 20) (he : 2 ≤ eOf own) :
    ∃ (d' : D) (own' : List (List Sg)) (p q : Option D), PotD (M + 2) d' ∧ WebT own' ∧ own'.length = own.length ∧ nOf own' + 1 = nOf own ∧ (∀ s ∈ own'.flatten, s ∈ own.flatten) ∧
      ((bindT [0] (.v 5) x [some d, some A, some B, some C, some (ownD true own), lv, ov, tv]).bind fun e => execsK u φ [0] jB e) =
        some (.nx, [some d', some A, some B, some C, some (ownD true own'), some x, p, q]) := by
  have hf := flat3 W.len3
  have e1 := Eo true own (by omega)
  have hlen : (endsOf own).length = eOf own := (srtS_perm _).length_eq
  have hnd : (endsOf own).Nodup := (srtS_perm _).nodup_iff.2 (withN_nodup 1 _)
  have hbound : (endsOf own).length ≤ 64 := by have := W.nums; omega
  obtain ⟨d', ys, rs, hp', pm, hy, e2⟩ := Sm M d true ((endsOf own).map .str) 2 hp (by omega) (by rw [List.length_map]; omega) (by rw [List.length_map]; omega) (by
    intro q hq; obtain ⟨s, _, rfl⟩ := List.mem_map.1 hq; rfl)
  obtain ⟨us, vs, rfl, pm2⟩ := perm_inv D.str strOf (fun _ => rfl) pm
  have hu : ∃ one other, us = [one, other] := by
    simp only [List.length_map] at hy
    match us, hy with
    | [a, b], _ => exact ⟨a, b, rfl⟩
  obtain ⟨one, other, rfl⟩ := hu
  have hnd2 := pm2.nodup_iff.2 hnd
  simp only [List.cons_append, List.nil_append, List.nodup_cons, List.mem_cons, not_or] at hnd2
  have m1 : one ∈ endsOf own := pm2.subset (by simp)
  have m2 : other ∈ endsOf own := pm2.subset (by simp)
  have c1 := (mem_withN (xs := own.flatten) (s := one) (n := 1) (by decide)).1 ((srtS_perm _).mem_iff.1 m1)
  have c2 := (mem_withN (xs := own.flatten) (s := other) (n := 1) (by decide)).1 ((srtS_perm _).mem_iff.1 m2)
  obtain ⟨W', l', n', s'⟩ := join_ok W (by omega) (by omega) hnd2.1.1
  have e3 := Po true own other one 1 (by omega) (fun r hr => by have := W.len3 r hr; omega)
  have o0 := hp.own; have o1 := hp'.own
  rw [show ((2 : Nat) : Int) = 2 from rfl] at e2
  refine ⟨d', (putO other one own 1).1, some (.str one), some (.str other), hp', W', l', n', s', ?_⟩
  simp only [List.map_cons, List.map_nil] at e2
  simp [execsK, execK, denK, denAK, getV, jB, fDrawn, e1, e2, e3, o0, o1]
theorem mul2_nat {n : Nat} (h : n < 1000000) : mulOp (.int 2) (.int (n : Int)) = some (.int (2 * (n : Int))) := mul_ok (by decide) (by omega)
theorem drawn_ok {u : Nat} {φ : Phi} {M : Int} {d : D} (Eo : EndsOk φ) (Sm : SomeOk φ) (Po : PutOk φ) (ends rounds : Nat) (hp : PotD M d) (hM : M + 1000 < 1000000) (h3 : 3 ≤ ends + 2 * rounds) (h17 : ends + 2 * rounds ≤ 17)
    (No : ∀ (M : Int) (d : D) (n : Nat), PotD M d → M + n < 1000000 → n ≤ 32 → ∃ (d' : D) (us vs : List Sg), PotD (M + n) d' ∧ (us ++ vs).Perm pool ∧ us.length = n ∧ φ (z "_law_web_names") [d, .int n] = some (.lst true (us.map .str), [some d', some (.int n)]))
    (Tr : ∀ (M : Int) (d : D) (ns : List Sg) (ends : Nat), PotD M d → M + 100 < 1000000 → 3 ≤ ends → ends ≤ 20 → ns.length = 2 * ends - 3 → ns.Nodup → qm ∉ ns →
      ∃ (own : List (List Sg)) (d' : D), PotD (M + 100) d' ∧ WebT own ∧ own.length = ends - 2 ∧ nOf own = 2 * ends - 3 ∧ (∀ s ∈ own.flatten, s ∈ ns) ∧ φ (z "_law_web_tree") [d, .lst true (ns.map .str), .int ends] = some (ownD true own, [some d', some (.lst true (ns.map .str)), some (.int ends)]))
    (Tu : ∀ (M : Int) (d : D) (o : Bool) (own : List (List Sg)), PotD M d → own.length ≤ 100 → M + 1000 < 1000000 → WebT own →
      ∃ (d' : D) (c : List (List Sg)), PotD (M + 500) d' ∧ WebT c ∧ c.length = own.length ∧ own.flatten.Perm c.flatten ∧ φ (z "_law_web_turned") [d, ownD o own] = some (ownD true c, [some d', some (ownD o own)])) (hM2 : M + 2000 < 1000000) :
    ∃ (own : List (List Sg)) (d' : D), PotD (M + 1000) d' ∧ WebT own ∧ own.length = ends + 2 * rounds - 2 ∧ eOf own = ends ∧ (∀ s ∈ own.flatten, s ∈ pool) ∧
      callDK u φ fDrawn [d, .int ends, .int rounds] = some (ownD true own, [some d', some (.int ends), some (.int rounds)]) := by
  obtain ⟨d1, us, vs, hp1, pm, hul, e1⟩ := No M d (2 * (ends + 2 * rounds) - 3) hp (by omega) (by omega)
  have und : us.Nodup := (List.nodup_append.1 (pm.nodup_iff.2 pool_nodup)).1
  have usub : ∀ s ∈ us, s ∈ pool := fun s hs => pm.subset (List.mem_append_left _ hs)
  obtain ⟨own0, d2, hp2, W0, l0, n0, s0, e2⟩ := Tr _ d1 us (ends + 2 * rounds) hp1 (by omega) h3 (by omega) hul und (fun e => pool_qm (usub _ e))
  obtain ⟨env', h, d3, own, lv, p, q, hp3, W, hl, hn, hs, rfl⟩ := forL_rel (body := fun x e => (bindT [0] (.v 5) x e).bind fun e => execsK u φ [0] jB e) (fun k : Nat => D.int (0 + (k : Nat)))
    (fun done env => ∃ (d' : D) (own : List (List Sg)) (lv p q : Option D), PotD (M + 200 + 2 * done.length) d' ∧ WebT own ∧ own.length = ends + 2 * rounds - 2 ∧ nOf own + done.length = 2 * (ends + 2 * rounds) - 3 ∧ (∀ s ∈ own.flatten, s ∈ pool) ∧
      env = [some d', some (.int ends), some (.int rounds), some (.int ((ends + 2 * rounds : Nat) : Int)), some (ownD true own), lv, p, q]) (List.range ((rounds : Int) - 0).toNat) []
    [some d2, some (.int ends), some (.int rounds), some (.int ((ends + 2 * rounds : Nat) : Int)), some (ownD true own0), none, none, none] (by
      rintro done x rest env he ⟨d4, own, lv, p, q, hp4, W, hl, hn, hs, rfl⟩
      have hlen := congrArg List.length he
      simp only [List.length_append, List.length_cons, List.length_nil, List.length_range] at hlen
      have nn := W.nums
      obtain ⟨d5, own', p', q', hp5, W', l', n', s', e⟩ := jB_ok (u := u) (φ := φ) (A := .int ends) (B := .int rounds) (C := .int ((ends + 2 * rounds : Nat) : Int)) (x := .int (0 + (x : Nat))) (lv := lv) (ov := p) (tv := q) Eo Sm Po own hp4 (by omega) W (by omega) (by omega)
      refine ⟨_, e, d5, own', _, _, _, hp5.mono ?_, W', by omega, ?_, fun s h9 => hs s (s' s h9), rfl⟩
      · simp only [List.length_append, List.length_cons, List.length_nil]; omega
      · simp only [List.length_append, List.length_cons, List.length_nil]; omega) (by
    exact ⟨d2, own0, none, none, none, hp2.mono (by simp; omega), W0, l0, by simpa using n0, fun s h9 => usub s (s0 s h9), rfl⟩)
  simp only [List.nil_append, List.length_range] at hp3 hn h
  have en : ((rounds : Int) - 0).toNat = rounds := by omega
  rw [en] at hp3 hn
  obtain ⟨d6, c, hp6, Wc, lc, fc, e6⟩ := Tu _ d3 true own hp3 (by omega) (by omega) W
  have hnc := nOf_perm fc
  have nn := Wc.nums
  refine ⟨c, d6, hp6.mono (by omega), Wc, by omega, by omega, fun s h9 => hs s (fc.mem_iff.2 h9), ?_⟩
  have hf : fDrawn = ⟨3, 8, match fDrawn.body with | .cons x (.cons y (.cons (.forr a b _) c)) => .cons x (.cons y (.cons (.forr a b jB) c)) | _ => .nil⟩ := rfl
  have o0 := hp.own; have o1 := hp1.own; have o2 := hp2.own; have o3 := hp3.own
  have m1 := mul2_nat (n := rounds) (by omega)
  have m2 := mul2_nat (n := ends + 2 * rounds) (by omega)
  have sm : smallI (rounds : Int) = true := small_nat (by omega)
  have c1 : ((ends + 2 * rounds : Nat) : Int) = (ends : Int) + 2 * rounds := by omega
  have c2 : ((2 * (ends + 2 * rounds) - 3 : Nat) : Int) = 2 * ((ends : Int) + 2 * rounds) - 3 := by omega
  rw [c2] at e1
  rw [c1] at e2 m2 h
  have h' : forL (fun x e => (bindT [0] (.v 5) x e).bind fun e => execsK u φ [0] jB e) (rangeD 0 (rounds : Int)) _ = _ := h
  rw [hf]
  simp only [fDrawn]
  simp [callDK, execsK, execK, denK, denAK, denIK, getV, o0, o1, o2, o3, m1, m2, sm, e1, e2, e6, h', bindT_ok, -bindT_v]
end Vi.B
end
section
set_option maxRecDepth 100000
/-! Bj: texts of webs, and how they are read. -/
namespace Vi.B
open Vi L2
/- is_name: MOST_LETTERS, LETTERS -/
def fIsName (g0 g1 : PySem.Str) : Fn := ⟨1, 2, (.cons (.ret (.an (.cons false (.op (.isi ["str"]) (.cons false (.var 0) .nil)) (.cons false (.chain .le .le (.lit (.int (1))) (.op .len (.cons false (.var 0) .nil)) (.gl g0 (.int (6)))) (.cons false (.op .all (.cons false (.comp (.op .isin (.cons false (.var 1) (.cons false (.gl g1 (.str (z "abcdefghijklmnopqrstuvwxyz"))) .nil))) (.v 1) (.val (.var 0)) .nil [1]) .nil)) .nil))))) .nil)⟩
/- lines_of: BLANK, FEED -/
def fLines (g0 g1 : PySem.Str) : Fn := ⟨1, 2, (.cons (.ret (.comp (.opm .split (.var 1) (.cons false (.gl g0 (.str (z " "))) .nil)) (.v 1) (.val (.opm .split (.var 0) (.cons false (.gl g1 (.str (z "\n"))) .nil))) .nil [1])) .nil)⟩
/- meet_in: FOUR, MEET -/
def fMeetIn (g0 g1 : PySem.Str) : Fn := ⟨1, 2, (.cons (.iff (.orr (.cons false (.op .ne (.cons false (.op .len (.cons false (.var 0) .nil)) (.cons false (.gl g0 (.int (4))) .nil))) (.cons false (.op .ne (.cons false (.op .idx (.cons false (.var 0) (.cons false (.lit (.int (0))) .nil))) (.cons false (.gl g1 (.str (z "meet"))) .nil))) (.cons false (.nt (.op .all (.cons false (.comp (.call (z "is_name") (.cons false (.var 1) .nil)) (.v 1) (.val (.slc (.var 0) true false (.cons false (.lit (.int (1))) .nil))) .nil [1]) .nil))) .nil)))) (.cons (.ret (.lit .non)) .nil) .nil) (.cons (.ret (.op .tuple (.cons false (.slc (.var 0) true false (.cons false (.lit (.int (1))) .nil)) .nil))) .nil))⟩
/- counted:  -/
def fCounted : Fn := ⟨1, 4, (.cons (.asg (.v 1) (.dnew false)) (.cons (.forr (.v 2) (.val (.var 0)) (.cons (.forr (.v 3) (.val (.var 2)) (.cons (.setix 1 (.var 3) (.op .add (.cons false (.opm .get2 (.var 1) (.cons false (.var 3) (.cons false (.lit (.int (0))) .nil))) (.cons false (.lit (.int (1))) .nil)))) .nil)) .nil)) (.cons (.ret (.var 1)) .nil)))⟩
/- junctions_in: WEB, MOST_JUNCTIONS, PAIR -/
def fJunc (g0 g1 g2 : PySem.Str) : Fn := ⟨1, 8, (.cons (.par [3, 4] (.cons false (.call (z "lines_of") (.cons false (.var 0) .nil)) (.cons false (.lst .nil) .nil))) (.cons (.iff (.op .ne (.cons false (.op .idx (.cons false (.var 3) (.cons false (.lit (.int (0))) .nil))) (.cons false (.lst (.cons false (.gl g0 (.str (z "web"))) .nil)) .nil))) (.cons (.ret (.tup (.cons false (.lit .non) (.cons false (.lit (.int (1))) .nil)))) .nil) .nil) (.cons (.forr (.t (.cons (.v 5) (.cons (.v 6) .nil))) (.enum (.slc (.var 3) true false (.cons false (.lit (.int (1))) .nil))) (.cons (.asg (.v 7) (.call (z "meet_in") (.cons false (.var 6) .nil))) (.cons (.iff (.orr (.cons false (.op .isN (.cons false (.var 7) .nil)) (.cons false (.op .eq (.cons false (.op .len (.cons false (.var 4) .nil)) (.cons false (.gl g1 (.int (12))) .nil))) (.cons false (.op .gt (.cons false (.op .maxvals (.cons false (.call (z "counted") (.cons false (.lst (.cons true (.var 4) (.cons false (.var 7) .nil))) .nil)) .nil)) (.cons false (.gl g2 (.int (2))) .nil))) .nil)))) (.cons (.ret (.tup (.cons false (.lit .non) (.cons false (.op .add (.cons false (.var 5) (.cons false (.gl g2 (.int (2))) .nil))) .nil)))) .nil) .nil) (.cons (.exp (.mut .append 4 (.cons false (.var 7) .nil))) .nil)))) (.cons (.iff (.op .eq (.cons false (.var 4) (.cons false (.lst .nil) .nil))) (.cons (.ret (.tup (.cons false (.lit .non) (.cons false (.op .add (.cons false (.op .len (.cons false (.var 3) .nil)) (.cons false (.lit (.int (1))) .nil))) .nil)))) .nil) .nil) (.cons (.asg (.v 1) (.call (z "reached") (.cons false (.var 4) (.cons false (.lit (.int (0))) (.cons false (.lit .non) .nil))))) (.cons (.asg (.v 2) (.comp (.var 5) (.v 5) (.range (.cons false (.op .len (.cons false (.var 4) .nil)) .nil)) (.cons false (.op .notin (.cons false (.var 5) (.cons false (.var 1) .nil))) .nil) [5])) (.cons (.ret (.ite (.op .ne (.cons false (.var 2) (.cons false (.lst .nil) .nil))) (.tup (.cons false (.lit .non) (.cons false (.op .add (.cons false (.op .idx (.cons false (.var 2) (.cons false (.lit (.int (0))) .nil))) (.cons false (.gl g2 (.int (2))) .nil))) .nil))) (.tup (.cons false (.var 4) (.cons false (.lit .non) .nil))))) .nil)))))))⟩
/- reached:  -/
def fReached : Fn := ⟨3, 9, (.cons (.par [3, 4] (.cons false (.lst (.cons false (.var 1) .nil)) (.cons false (.lst (.cons false (.var 1) .nil)) .nil))) (.cons (.whl (.op .ne (.cons false (.var 4) (.cons false (.lst .nil) .nil))) (.cons (.asg (.v 5) (.mut .pop 4 .nil)) (.cons (.forr (.t (.cons (.v 6) (.cons (.v 7) .nil))) (.enum (.var 0)) (.cons (.iff (.an (.cons false (.op .notin (.cons false (.var 6) (.cons false (.var 3) .nil))) (.cons false (.op .any (.cons false (.comp (.an (.cons false (.op .isin (.cons false (.var 8) (.cons false (.var 7) .nil))) (.cons false (.op .ne (.cons false (.var 8) (.cons false (.var 2) .nil))) .nil))) (.v 8) (.val (.op .idx (.cons false (.var 0) (.cons false (.var 5) .nil)))) .nil [8]) .nil)) .nil))) (.cons (.exp (.mut .append 3 (.cons false (.var 6) .nil))) (.cons (.exp (.mut .append 4 (.cons false (.var 6) .nil))) .nil)) .nil) .nil)) .nil))) (.cons (.ret (.var 3)) .nil)))⟩
/- web_text: BLANK_webs, MEET, FEED_webs, WEB -/
def fWebText (g0 g1 g2 g3 : PySem.Str) : Fn := ⟨1, 3, (.cons (.asg (.v 1) (.comp (.opm .join (.gl g0 (.str (z " "))) (.cons false (.lst (.cons false (.gl g1 (.str (z "meet"))) (.cons true (.var 2) .nil))) .nil)) (.v 2) (.val (.var 0)) .nil [2])) (.cons (.ret (.opm .join (.gl g2 (.str (z "\n"))) (.cons false (.lst (.cons false (.gl g3 (.str (z "web"))) (.cons true (.var 1) .nil))) .nil))) .nil))⟩
/- Web___init__:  -/
def fInit : Fn := ⟨2, 4, (.cons (.iff (.nt (.op (.isi ["str"]) (.cons false (.var 1) .nil))) (.cons .rais .nil) .nil) (.cons (.asg (.t (.cons (.v 2) (.cons (.v 3) .nil))) (.call (z "junctions_in") (.cons false (.var 1) .nil))) (.cons (.iff (.op .isN (.cons false (.var 2) .nil)) (.cons .rais .nil) .nil) (.cons (.setat 0 (z "Web") (z "own_text") (.var 1)) (.cons (.setat 0 (z "Web") (z "own_junctions") (.op .tuple (.cons false (.var 2) .nil))) (.cons (.setat 0 (z "Web") (z "own_counts") (.call (z "counted") (.cons false (.var 2) .nil))) .nil))))))⟩
/- Web_roads:  -/
def fRoads : Fn := ⟨1, 1, (.cons (.ret (.op .tuple (.cons false (.op .sorted (.cons false (.attr (.var 0) (z "own_counts")) .nil)) .nil))) .nil)⟩
/- Web_inner: PAIR -/
def fInner (g0 : PySem.Str) : Fn := ⟨1, 2, (.cons (.ret (.op .tuple (.cons false (.op .sorted (.cons false (.comp (.var 1) (.v 1) (.val (.attr (.var 0) (z "own_counts"))) (.cons false (.op .eq (.cons false (.op .idx (.cons false (.attr (.var 0) (z "own_counts")) (.cons false (.var 1) .nil))) (.cons false (.gl g0 (.int (2))) .nil))) .nil) [1]) .nil)) .nil))) .nil)⟩
/- Web_ends:  -/
def fEnds : Fn := ⟨1, 2, (.cons (.ret (.op .tuple (.cons false (.op .sorted (.cons false (.comp (.var 1) (.v 1) (.val (.attr (.var 0) (z "own_counts"))) (.cons false (.op .eq (.cons false (.op .idx (.cons false (.attr (.var 0) (z "own_counts")) (.cons false (.var 1) .nil))) (.cons false (.lit (.int (1))) .nil))) .nil) [1]) .nil)) .nil))) .nil)⟩
/- Web_rounds:  -/
def fRounds : Fn := ⟨1, 1, (.cons (.ret (.op .add (.cons false (.op .sub (.cons false (.op .len (.cons false (.prop (z "Web") (z "Web.inner") (z "inner") (.var 0)) .nil)) (.cons false (.op .len (.cons false (.attr (.var 0) (z "own_junctions")) .nil)) .nil))) (.cons false (.lit (.int (1))) .nil)))) .nil)⟩
def NameOk (s : Sg) : Prop := 1 ≤ s.length ∧ s.length ≤ 6 ∧ ∀ c ∈ TL.tl s, 97 ≤ c ∧ c ≤ 122
instance (s : Sg) : Decidable (NameOk s) := by unfold NameOk; infer_instance
theorem pool_ok : ∀ s ∈ pool, NameOk s := by decide +kernel
theorem sign_in {c : Nat} (h : 97 ≤ c ∧ c ≤ 122) : inOp (.str ⟨#[c]⟩) (.str (z "abcdefghijklmnopqrstuvwxyz")) = some true := by
  have : ∀ d : _root_.Fin 26, (!(PySem.Builtin.Str.occurrences (z "abcdefghijklmnopqrstuvwxyz") ⟨#[97 + d.val]⟩ 0 (z "abcdefghijklmnopqrstuvwxyz").length 1).isEmpty) = true := by decide +kernel
  have h2 := this ⟨c - 97, by omega⟩
  have e : 97 + (c - 97) = c := by omega
  simp only [e] at h2
  show some _ = _
  rw [h2]
def lineOf (r : List Sg) : Sg := PySem.Txt.join (z " ") (z "meet" :: r)
def textOf (own : List (List Sg)) : Sg := PySem.Txt.join (z "\n") (z "web" :: own.map lineOf)
theorem join_cons (y a b : Sg) (r : List Sg) : PySem.Txt.join y (a :: b :: r) = a ++ y ++ PySem.Txt.join y (b :: r) := by
  rw [TL.join_eq, TL.join_eq]; rfl
theorem tl_join_mem {y : Sg} {c : Nat} : ∀ {ps : List Sg}, c ∈ TL.tl (PySem.Txt.join y ps) → c ∈ TL.tl y ∨ ∃ p ∈ ps, c ∈ TL.tl p
  | [], h => by rw [TL.join_eq] at h; exact absurd h (by simp [PySem.Str.join, TL.tl, PySem.Str.empty])
  | [p], h => by rw [TL.join_eq] at h; exact .inr ⟨p, by simp, h⟩
  | a :: b :: r, h => by
    rw [join_cons, TL.tl_append, TL.tl_append, List.mem_append, List.mem_append] at h
    rcases h with (h | h) | h
    · exact .inr ⟨a, by simp, h⟩
    · exact .inl h
    · rcases tl_join_mem h with h | ⟨p, hp, h⟩
      · exact .inl h
      · exact .inr ⟨p, by simp at hp ⊢; exact .inr hp, h⟩
theorem join_len {y : Sg} {B : Nat} (ps : List Sg) (h : ∀ p ∈ ps, p.length ≤ B) : (PySem.Txt.join y ps).length ≤ ps.length * B + ps.length * y.length := by
  rw [TL.join_eq]
  have h1 := PySem.StrLaws.join_length_le y ps
  have h2 := PySem.StrLaws.sumLen_le ps h
  omega
theorem line_len {r : List Sg} (h3 : r.length = 3) (hn : ∀ s ∈ r, NameOk s) : (lineOf r).length ≤ 28 := by
  have h := join_len (y := z " ") (B := 6) (z "meet" :: r) (by
    intro p hp
    rcases List.mem_cons.1 hp with rfl | hp
    · decide
    · exact (hn p hp).2.1)
  have e : (z " ").length = 1 := by decide
  rw [e] at h
  simp only [List.length_cons, h3] at h
  unfold lineOf; omega
theorem text_len {own : List (List Sg)} (hl : own.length ≤ 100) (h3 : ∀ r ∈ own, r.length = 3) (hn : ∀ r ∈ own, ∀ s ∈ r, NameOk s) : (textOf own).length ≤ 3000 := by
  have h := join_len (y := z "\n") (B := 28) (z "web" :: own.map lineOf) (by
    intro p hp
    rcases List.mem_cons.1 hp with rfl | hp
    · decide
    · obtain ⟨r, hr, rfl⟩ := List.mem_map.1 hp
      exact line_len (h3 r hr) (hn r hr))
  have e : (z "\n").length = 1 := by decide
  rw [e] at h
  simp only [List.length_cons, List.length_map] at h
  unfold textOf; omega
theorem split_line {r : List Sg} (hn : ∀ s ∈ r, NameOk s) : PySem.Txt.split (lineOf r) (z " ") = z "meet" :: r :=
  TL.split_join (y := z " ") (s := 32) (S := []) (by decide) (by decide +kernel) (by simp) (by
    intro p hp
    rcases List.mem_cons.1 hp with rfl | hp
    · decide
    · intro h; have := (hn p hp).2.2 _ h; omega)
theorem split_text {own : List (List Sg)} (hn : ∀ r ∈ own, ∀ s ∈ r, NameOk s) : PySem.Txt.split (textOf own) (z "\n") = z "web" :: own.map lineOf :=
  TL.split_join (y := z "\n") (s := 10) (S := []) (by decide) (by decide +kernel) (by simp) (by
    intro p hp
    rcases List.mem_cons.1 hp with rfl | hp
    · decide
    · obtain ⟨r, hr, rfl⟩ := List.mem_map.1 hp
      intro h
      rcases tl_join_mem h with h | ⟨q, hq, h⟩
      · exact absurd h (by decide)
      · rcases List.mem_cons.1 hq with rfl | hq
        · exact absurd h (by decide)
        · have := (hn r hr q hq).2.2 _ h; omega)
theorem split_web : PySem.Txt.split (z "web") (z " ") = [z "web"] := by
  have := TL.split_join (y := z " ") (s := 32) (S := []) (by decide) (by decide +kernel) (parts := [z "web"]) (by simp) (by
    intro p hp; simp only [List.mem_singleton] at hp; subst hp; decide)
  exact this
-- the law's own text
def cWText : E := .comp (.op .add (.cons false (.lit (.str (z "meet "))) (.cons false (.opm .join (.lit (.str (z " "))) (.cons false (.op .list (.cons false (.var 1) .nil)) .nil)) .nil))) (.v 1) (.val (.var 0)) .nil [1]
def fWTextC : Fn := ⟨1, 2, (.cons (.ret (.opm .join (.lit (.str (z "\n"))) (.cons false (.op .add (.cons false (.lst (.cons false (.lit (.str (z "web"))) .nil)) (.cons false cWText .nil))) .nil))) .nil)⟩
theorem fWText_eq : fWText = fWTextC := rfl
theorem compL_mapA {α : Type} {body : D → Ev → Option (Option D × Ev)} (d : α → D) (f : α → D) {env : Ev} : ∀ (xs : List α) (acc : List D), (∀ x ∈ xs, body (d x) env = some (some (f x), env)) → acc.length + xs.length ≤ line → compL body (xs.map d) acc env = some (acc ++ xs.map f, env)
  | [], acc, _, _ => by simp [compL]
  | x :: xs, acc, h, hl => by
    have h1 := h x (List.mem_cons_self ..)
    simp only [List.length_cons] at hl
    simp only [compL, List.map_cons]
    rw [if_pos (by omega), h1]
    simp only [Option.bind_some]
    rw [compL_mapA d f xs (acc ++ [f x]) (fun y hy => h y (List.mem_cons_of_mem _ hy)) (by simp only [List.length_append, List.length_cons, List.length_nil]; omega)]
    simp
theorem sum_len_le {B : Nat} (ps : List Sg) (h : ∀ p ∈ ps, p.length ≤ B) : (ps.map PySem.Str.length).sum ≤ ps.length * B := PySem.StrLaws.sumLen_le ps h
theorem wtext_ok {u : Nat} {φ : Phi} (o : Bool) (own : List (List Sg)) (hl : own.length ≤ 100) (h3 : ∀ r ∈ own, r.length = 3) (hn : ∀ r ∈ own, ∀ s ∈ r, NameOk s) :
    callDK u φ fWText [ownD o own] = some (.str (textOf own), [some (ownD o own)]) := by
  have key : ∀ O : Option D, compL (fun x e => (bindT [] (.v 1) x e).bind fun e1 => (denAlK φ .nil e1).bind fun b => if b.1 then (denK φ (.op .add (.cons false (.lit (.str (z "meet "))) (.cons false (.opm .join (.lit (.str (z " "))) (.cons false (.op .list (.cons false (.var 1) .nil)) .nil)) .nil))) b.2).map fun y => (some y.1.frz, wipeE y.2 [1]) else some (none, wipeE b.2 [1])) (own.map rowD) [] [O, none] =
      some (own.map (fun r => D.str (lineOf r)), [O, none]) := by
    intro O
    have h := compL_mapA (body := fun x e => (bindT [] (.v 1) x e).bind fun e1 => (denAlK φ .nil e1).bind fun b => if b.1 then (denK φ (.op .add (.cons false (.lit (.str (z "meet "))) (.cons false (.opm .join (.lit (.str (z " "))) (.cons false (.op .list (.cons false (.var 1) .nil)) .nil)) .nil))) b.2).map fun y => (some y.1.frz, wipeE y.2 [1]) else some (none, wipeE b.2 [1])) rowD (fun r => D.str (lineOf r)) (env := [O, none]) own [] (by
      intro r hr
      have hw : wordsOk (z " ").length r = true := by
        have := sum_len_le r (B := 6) (fun p hp => (hn r hr p hp).2.1)
        have h9 := h3 r hr
        have e : (z " ").length = 1 := by decide
        simp only [wordsOk, decide_eq_true_eq, ln_eq, e]; omega
      have e1 : joinOp (.str (z " ")) (.lst true (r.map D.str)) = some (.str (PySem.Txt.join (z " ") r)) := by
        simp only [joinOp, allS_map, Option.bind_some, hw, if_true]
      have hne : ∃ a b, r = a :: b := by
        match r, h3 r hr with
        | a :: b, _ => exact ⟨a, b, rfl⟩
      have e2 : z "meet " ++ PySem.Txt.join (z " ") r = lineOf r := by
        obtain ⟨a, b, rfl⟩ := hne
        unfold lineOf
        rw [join_cons]
        congr 1
      have e3 : (z "meet ").length + (PySem.Txt.join (z " ") r).length ≤ 1000000 := by
        have h5 := join_len (y := z " ") (B := 6) r (fun p hp => (hn r hr p hp).2.1)
        have h9 := h3 r hr
        have e : (z " ").length = 1 := by decide
        have e' : (z "meet ").length = 5 := by decide
        rw [e] at h5; rw [e']; omega
      simp [denAlK, denK, denAK, getV, recvOk, e1, e2, e3]) (by rw [ln_eq]; simp; omega)
    simpa using h
  have hI : denIK φ (.val (.var 0)) [some (ownD o own), none] = some (own.map rowD, (if o then some (0, ownD o own) else none), [(if o then none else some (ownD o own)), none]) := by
    cases o <;> simp [denIK, denK, getV]
  have hC : denK φ cWText [some (ownD o own), none] = some (.lst true (own.map (fun r => D.str (lineOf r))), [some (ownD o own), none]) := by
    unfold cWText
    rw [denK, hI]
    have h := key (if o then none else some (ownD o own))
    simp only [Option.bind_some, wipeE_cons, wipeE_nil, List.set_cons_succ, List.set_cons_zero]
    simp only [wipeE_cons, wipeE_nil] at h
    rw [h]
    cases o <;> rfl
  have hw : wordsOk (z "\n").length (z "web" :: own.map lineOf) = true := by
    have := sum_len_le (z "web" :: own.map lineOf) (B := 28) (by
      intro p hp
      rcases List.mem_cons.1 hp with rfl | hp
      · decide
      · obtain ⟨r, hr, rfl⟩ := List.mem_map.1 hp
        exact line_len (h3 r hr) (hn r hr))
    have e : (z "\n").length = 1 := by decide
    simp only [List.length_cons, List.length_map] at this
    simp only [wordsOk, decide_eq_true_eq, ln_eq, e, List.length_cons, List.length_map]; omega
  have e1 : joinOp (.str (z "\n")) (.lst true (D.str (z "web") :: own.map (fun r => D.str (lineOf r)))) = some (.str (textOf own)) := by
    have e2 : (D.str (z "web") :: own.map (fun r => D.str (lineOf r))) = (z "web" :: own.map lineOf).map D.str := by simp
    rw [e2]
    simp only [joinOp, allS_map, Option.bind_some, hw, if_true]; rfl
  have hpk : ∀ env r, pk cWText env r = r.map fun q => (.v q.1, q.2) := fun _ _ => rfl
  rw [fWText_eq]
  cases o <;> simp [callDK, execsK, execK, denK, denAK, denFK, getV, fWTextC, hpk, hC, recvOk, e1, show 1 + own.length ≤ 1000000 by omega]
end Vi.B
end
section
set_option maxRecDepth 100000
/-! Bk: what hangs together: reached. -/
namespace Vi.B
open Vi L2
def jD : Option Bool → List (List Sg) → D
  | some o, own => .lst o (own.map rowD)
  | none, own => .tup (own.map rowD)
def jF : Option Bool → Option Bool
  | some _ => some false
  | none => none
theorem jD_frz (k : Option Bool) (own : List (List Sg)) : D.frz (jD k own) = jD (jF k) own := by cases k <;> rfl
theorem jD_own (k : Option Bool) (own : List (List Sg)) : D.own (jD k own) = k.getD false := by cases k <;> rfl
theorem jD_items (k : Option Bool) (own : List (List Sg)) : itemsL (jD k own) = some (own.map rowD) := by cases k <;> rfl
theorem jD_idx (k : Option Bool) (own : List (List Sg)) (i : Int) : idxOp (jD k own) (.int i) = atI (own.map rowD) i := by cases k <;> rfl
theorem jF_jF (k : Option Bool) : jF (jF k) = jF k := by cases k <;> rfl
abbrev nD (i : Nat) : D := .int (i : Int)
def idxd : Nat → List (List Sg) → List (Nat × List Sg)
  | _, [] => []
  | n, r :: rs => (n, r) :: idxd (n + 1) rs
theorem numbered_idxd : ∀ (own : List (List Sg)) (n : Nat), numbered n (own.map rowD) = (idxd n own).map fun p => .tup [nD p.1, rowD p.2]
  | [], _ => rfl
  | r :: rs, n => by simp only [List.map_cons, numbered, idxd, numbered_idxd rs (n + 1)]
theorem idxd_len : ∀ (own : List (List Sg)) (n : Nat), (idxd n own).length = own.length
  | [], _ => rfl
  | r :: rs, n => by simp only [idxd, List.length_cons, idxd_len rs]
theorem idxd_get : ∀ (own : List (List Sg)) (n k : Nat), (idxd n own)[k]? = (own[k]?).map fun r => (n + k, r)
  | [], n, k => by simp [idxd]
  | r :: rs, n, 0 => by simp [idxd]
  | r :: rs, n, k + 1 => by
    simp only [idxd, List.getElem?_cons_succ, idxd_get rs (n + 1) k]
    congr 1; funext q; simp; omega
theorem idxd_mid {own : List (List Sg)} {done rest : List (Nat × List Sg)} {p : Nat × List Sg} (h : done ++ p :: rest = idxd 0 own) : p.1 = done.length ∧ own[done.length]? = some p.2 := by
  have h1 : (idxd 0 own)[done.length]? = some p := by rw [← h]; simp
  rw [idxd_get] at h1
  cases e : own[done.length]? with
  | none => rw [e] at h1; cases h1
  | some r => rw [e] at h1; simp at h1; subst h1; simp
def bD : Option Sg → D
  | none => .non
  | some b => .str b
theorem eq_bD (s : Sg) (b : Option Sg) : eqOp (.str s) (bD b) = some (decide (b = some s)) := by
  cases b with
  | none => rfl
  | some b =>
    simp only [bD, eq_str, Option.some.injEq]
    by_cases h : s = b
    · simp [h]
    · have : ¬ b = s := fun e => h e.symm
      simp [h, this]
theorem in_strs (s : Sg) (r : List Sg) : inOp (.str s) (rowD r) = some (decide (s ∈ r)) := by
  have h1 : (r.map D.str).all flatD = true := by simp
  have h2 : (r.map D.str).any (fun y => eqD y (.str s)) = decide (s ∈ r) := by
    rw [Bool.eq_iff_iff]
    simp only [List.any_eq_true, List.mem_map, decide_eq_true_eq]
    constructor
    · rintro ⟨_, ⟨q, hq, rfl⟩, e⟩; simp only [eqD, beq_iff_eq] at e; exact e ▸ hq
    · intro h; exact ⟨_, ⟨s, h, rfl⟩, by simp [eqD]⟩
  simp only [inOp, flatD, h1, Bool.and_self, if_true, h2]
theorem in_nats (o : Bool) (i : Nat) (F : List Nat) : inOp (nD i) (.lst o (F.map nD)) = some (decide (i ∈ F)) := by
  have h1 : (F.map nD).all flatD = true := by simp
  have h2 : (F.map nD).any (fun y => eqD y (nD i)) = decide (i ∈ F) := by
    rw [Bool.eq_iff_iff]
    simp only [List.any_eq_true, List.mem_map, decide_eq_true_eq]
    constructor
    · rintro ⟨_, ⟨q, hq, rfl⟩, e⟩; simp only [eqD, beq_iff_eq] at e; have : q = i := by omega
      exact this ▸ hq
    · intro h; exact ⟨_, ⟨i, h, rfl⟩, by simp [eqD]⟩
  simp only [inOp, flatD, h1, Bool.and_self, if_true, h2]
theorem plains_nats (k : Nat) : ∀ F : List Nat, plains k (F.map nD) = true
  | [] => by simp only [List.map_nil, plains]
  | n :: ns => by simp only [List.map_cons, plains, plains_nats k ns]; cases k <;> rfl
theorem eq_nil_nats (o p : Bool) (F : List Nat) : eqOp (.lst o (F.map nD)) (.lst p []) = some (decide (F = [])) := by
  have h1 : scalD (.lst o (F.map nD)) (.lst p []) = false := rfl
  have h2 : plain 60 (.lst o (F.map nD)) = true := by simp only [plain, plains_nats]
  have h3 : plain 60 (.lst p []) = true := by simp only [plain, plains]
  simp only [eqOp, h1, h2, h3, Bool.false_eq_true, if_false, Bool.and_self, if_true]
  cases F with
  | nil => rfl
  | cons a b => simp [eqD, eqDs]
def adjR (b : Option Sg) (hr r : List Sg) : Bool := hr.any fun s => decide (s ∈ r) && !(decide (b = some s))
def rB : Ss := match fReached.body with | .cons _ (.cons (.whl _ s) _) => s | _ => .nil
def rI : Ss := match rB with | .cons _ (.cons (.forr _ _ s) _) => s | _ => .nil
abbrev rEnv (k : Option Bool) (own : List (List Sg)) (first : D) (b : Option Sg) (F T : List Nat) (h a n : Option D) : Ev :=
  [some (jD k own), some first, some (bD b), some (.lst true (F.map nD)), some (.lst true (T.map nD)), h, a, n, none]
def cAny : E := .comp (.an (.cons false (.op .isin (.cons false (.var 8) (.cons false (.var 7) .nil))) (.cons false (.op .ne (.cons false (.var 8) (.cons false (.var 2) .nil))) .nil))) (.v 8) (.val (.op .idx (.cons false (.var 0) (.cons false (.var 5) .nil)))) .nil [8]
theorem cAny_ok {φ : Phi} (k : Option Bool) (own : List (List Sg)) (first : D) (b : Option Sg) (F T : List Nat) (h : Nat) (a : Option D) (hr r : List Sg) (hh : own[h]? = some hr) (hl : hr.length ≤ 1000) :
    denK φ cAny (rEnv k own first b F T (some (nD h)) a (some (rowD r))) = some (.lst true (hr.map fun s => .bl (decide (s ∈ r) && !(decide (b = some s)))), rEnv k own first b F T (some (nD h)) a (some (rowD r))) := by
  have e1 : atI (own.map rowD) (h : Int) = some (rowD hr) := by
    obtain ⟨h1, h2⟩ := List.getElem?_eq_some_iff.1 hh
    simp only [atI, ixN, List.length_map]
    rw [if_pos (by omega), if_pos (by omega)]
    simp [hh]
  have hI : denIK φ (.val (.op .idx (.cons false (.var 0) (.cons false (.var 5) .nil)))) (rEnv k own first b F T (some (nD h)) a (some (rowD r))) = some (hr.map .str, none, rEnv k own first b F T (some (nD h)) a (some (rowD r))) := by
    simp [denIK, denK, denAK, getV, jD_idx, e1]
  have hb := compL_mapA (body := fun x e => (bindT [] (.v 8) x e).bind fun e1 => (denAlK φ .nil e1).bind fun b => if b.1 then (denK φ (.an (.cons false (.op .isin (.cons false (.var 8) (.cons false (.var 7) .nil))) (.cons false (.op .ne (.cons false (.var 8) (.cons false (.var 2) .nil))) .nil))) b.2).map fun y => (some y.1.frz, wipeE y.2 [8]) else some (none, wipeE b.2 [8])) (.str : Sg → D) (fun s => D.bl (decide (s ∈ r) && !(decide (b = some s))))
    (env := rEnv k own first b F T (some (nD h)) a (some (rowD r))) hr [] (by
      intro s hs
      by_cases h1 : s ∈ r <;> simp [denAlK, denK, denAK, denAnK, getV, in_strs, eq_bD, h1]) (by rw [ln_eq]; simp; omega)
  unfold cAny
  rw [denK, hI]
  simp only [Option.bind_some, wipeE_cons, wipeE_nil, List.set_cons_succ, List.set_cons_zero]
  simp only [wipeE_cons, wipeE_nil] at hb
  rw [hb]; rfl
theorem rI_ok {u : Nat} {φ : Phi} {pin : List Nat} (k : Option Bool) (own : List (List Sg)) (first : D) (b : Option Sg) (F T : List Nat) (h i : Nat) (a n : Option D) (hr r : List Sg) (hh : own[h]? = some hr) (hl : hr.length ≤ 1000) (p6 : 6 ∉ pin) (p7 : 7 ∉ pin) (hF : F.length ≤ 1000) (hT : T.length ≤ 1000) :
    ((bindT pin (.t (.cons (.v 6) (.cons (.v 7) .nil))) (.tup [nD i, rowD r]) (rEnv k own first b F T (some (nD h)) a n)).bind fun e => execsK u φ pin rI e) =
      some (.nx, rEnv k own first b (if i ∉ F ∧ adjR b hr r = true then F ++ [i] else F) (if i ∉ F ∧ adjR b hr r = true then T ++ [i] else T) (some (nD h)) (some (nD i)) (some (rowD r))) := by
  have hC := cAny_ok (φ := φ) k own first b F T h (some (nD i)) hr r hh hl
  have hpk : ∀ env r, pk cAny env r = r.map fun q => (.v q.1, q.2) := fun _ _ => rfl
  have e2 := allB_map (hr.map fun s => (decide (s ∈ r) && !(decide (b = some s))))
  rw [List.map_map] at e2
  have e3 : (hr.map fun s => (decide (s ∈ r) && !(decide (b = some s)))).any id = adjR b hr r := by simp [adjR, List.any_map]
  have hf : rI = .cons (.iff (.an (.cons false (.op .notin (.cons false (.var 6) (.cons false (.var 3) .nil))) (.cons false (.op .any (.cons false cAny .nil)) .nil))) (.cons (.exp (.mut .append 3 (.cons false (.var 6) .nil))) (.cons (.exp (.mut .append 4 (.cons false (.var 6) .nil))) .nil)) .nil) .nil := rfl
  have e4 : boolsOp (fun bs => bs.any id) (.lst true (hr.map fun s => D.bl (decide (s ∈ r) && !(decide (b = some s))))) = some (.bl (adjR b hr r)) := by
    rw [bools_lst, show (hr.map fun s => D.bl (decide (s ∈ r) && !(decide (b = some s)))) = hr.map (D.bl ∘ fun s => (decide (s ∈ r) && !(decide (b = some s)))) from rfl, e2]
    simp only [Option.map_some, e3]
  rw [hf]
  by_cases h1 : i ∈ F
  · simp [execsK, execK, denK, denAK, denAnK, denTK, getV, p6, p7, in_nats, h1]
  · by_cases h2 : adjR b hr r = true
    · simp [execsK, execK, denK, denAK, denAnK, denFK, denTK, getV, p6, p7, in_nats, h1, h2, hpk, hC, e4, show F.length ≤ 1000000 by omega, show T.length ≤ 1000000 by omega, -bools_lst]
    · simp [execsK, execK, denK, denAK, denAnK, denFK, denTK, getV, p6, p7, in_nats, h1, h2, hpk, hC, e4, -bools_lst]
end Vi.B
end
section
set_option maxRecDepth 100000
/-! Bl: reached, the whole. -/
namespace Vi.B
open Vi L2
/-- two junctions have a road in common that is not barred -/
def Adj (own : List (List Sg)) (b : Option Sg) (i j : Nat) : Prop := ∃ r q, own[i]? = some r ∧ own[j]? = some q ∧ adjR b r q = true
structure Reach (own : List (List Sg)) (b : Option Sg) (first : Nat) (F : List Nat) : Prop where
  nodup : F.Nodup
  lt : ∀ i ∈ F, i < own.length
  has : first ∈ F
  closed : ∀ i ∈ F, ∀ j, Adj own b i j → j ∈ F
  least : ∀ C : Nat → Prop, C first → (∀ i j, C i → Adj own b i j → C j) → ∀ i ∈ F, C i
/-- what one look at all junctions finds anew -/
theorem look_ok {u : Nat} {φ : Phi} {pin : List Nat} (k : Option Bool) (own : List (List Sg)) (first : D) (b : Option Sg) (F T : List Nat) (h : Nat) (a n : Option D) (hr : List Sg) (hh : own[h]? = some hr) (hl : hr.length ≤ 1000) (p6 : 6 ∉ pin) (p7 : 7 ∉ pin) (hown : own.length ≤ 100) (hF : F.length ≤ 500) (hT : T.length ≤ 500) :
    ∃ (N : List Nat) (a' n' : Option D), N.Nodup ∧ (∀ j, j ∈ N ↔ j ∉ F ∧ Adj own b h j) ∧
      forL (fun x e => (bindT pin (.t (.cons (.v 6) (.cons (.v 7) .nil))) x e).bind fun e => execsK u φ pin rI e) (numbered 0 (own.map rowD)) (rEnv k own first b F T (some (nD h)) a n) =
        some (.nx, rEnv k own first b (F ++ N) (T ++ N) (some (nD h)) a' n') := by
  obtain ⟨env', e, N, a', n', nd, hm, hb, rfl⟩ := forL_rel (body := fun x e => (bindT pin (.t (.cons (.v 6) (.cons (.v 7) .nil))) x e).bind fun e => execsK u φ pin rI e) (fun p : Nat × List Sg => D.tup [nD p.1, rowD p.2])
    (fun done env => ∃ (N : List Nat) (a' n' : Option D), N.Nodup ∧ (∀ j, j ∈ N ↔ j ∉ F ∧ j < done.length ∧ Adj own b h j) ∧ N.length ≤ done.length ∧ env = rEnv k own first b (F ++ N) (T ++ N) (some (nD h)) a' n') (idxd 0 own) []
    (rEnv k own first b F T (some (nD h)) a n) (by
      rintro done ⟨i, r⟩ rest env he ⟨N, a', n', nd, hm, hlen, rfl⟩
      simp only [List.nil_append] at he
      obtain ⟨h1, h2⟩ := idxd_mid he
      simp only at h1 h2
      have hdl := congrArg List.length he
      simp only [List.length_append, List.length_cons, idxd_len] at hdl
      have e := rI_ok (u := u) (φ := φ) (pin := pin) k own first b (F ++ N) (T ++ N) h i a' n' hr r hh hl p6 p7 (by simp only [List.length_append]; omega) (by simp only [List.length_append]; omega)
      have hadj : Adj own b h i ↔ adjR b hr r = true := by
        constructor
        · rintro ⟨r1, q, e1, e2, e3⟩
          rw [hh] at e1; rw [h1, h2] at e2; cases e1; cases e2; exact e3
        · intro e3; exact ⟨hr, r, hh, by rw [h1]; exact h2, e3⟩
      have hiN : i ∉ N := fun hi => by have := ((hm i).1 hi).2.1; omega
      by_cases hc : i ∉ F ++ N ∧ adjR b hr r = true
      · rw [if_pos hc, if_pos hc] at e
        refine ⟨_, e, N ++ [i], some (nD i), some (rowD r), ?_, ?_, ?_, by simp only [List.append_assoc]⟩
        · rw [List.nodup_append]
          refine ⟨nd, by simp, ?_⟩
          intro x hx y hy e9
          simp only [List.mem_singleton] at hy
          exact hiN (by rw [← hy, ← e9]; exact hx)
        · intro j
          simp only [List.mem_append, List.mem_singleton, hm, List.length_append, List.length_cons, List.length_nil]
          constructor
          · rintro (⟨g1, g2, g3⟩ | rfl)
            · exact ⟨g1, by omega, g3⟩
            · exact ⟨fun g => hc.1 (List.mem_append_left _ g), by omega, hadj.2 hc.2⟩
          · rintro ⟨g1, g2, g3⟩
            by_cases hj : j = i
            · exact .inr hj
            · exact .inl ⟨g1, by omega, g3⟩
        · simp only [List.length_append, List.length_cons, List.length_nil]; omega
      · rw [if_neg hc, if_neg hc] at e
        refine ⟨_, e, N, some (nD i), some (rowD r), nd, ?_, ?_, rfl⟩
        · intro j
          simp only [hm, List.length_append, List.length_cons, List.length_nil]
          constructor
          · rintro ⟨g1, g2, g3⟩; exact ⟨g1, by omega, g3⟩
          · rintro ⟨g1, g2, g3⟩
            refine ⟨g1, ?_, g3⟩
            by_cases hj : j = i
            · subst hj
              exact absurd ⟨by simp only [List.mem_append, not_or]; exact ⟨g1, hiN⟩, hadj.1 g3⟩ hc
            · omega
        · simp only [List.length_append, List.length_cons, List.length_nil]; omega) ⟨[], a, n, by simp, by simp, by simp, by simp⟩
  rw [← numbered_idxd] at e
  refine ⟨N, a', n', nd, ?_, e⟩
  intro j
  rw [hm]
  simp only [List.nil_append, idxd_len]
  constructor
  · rintro ⟨g1, _, g3⟩; exact ⟨g1, g3⟩
  · rintro ⟨g1, g3⟩
    refine ⟨g1, ?_, g3⟩
    obtain ⟨_, q, _, e2, _⟩ := g3
    exact (List.getElem?_eq_some_iff.1 e2).1
structure RInv (own : List (List Sg)) (b : Option Sg) (first : Nat) (F T : List Nat) : Prop where
  nodup : F.Nodup
  tnd : T.Nodup
  sub : ∀ i ∈ T, i ∈ F
  lt : ∀ i ∈ F, i < own.length
  has : first ∈ F
  closed : ∀ i ∈ F, i ∉ T → ∀ j, Adj own b i j → j ∈ F
  least : ∀ C : Nat → Prop, C first → (∀ i j, C i → Adj own b i j → C j) → ∀ i ∈ F, C i
theorem Adj.lt {own : List (List Sg)} {b : Option Sg} {i j : Nat} (h : Adj own b i j) : j < own.length := by
  obtain ⟨_, q, _, e2, _⟩ := h
  exact (List.getElem?_eq_some_iff.1 e2).1
theorem nodup_len {F : List Nat} {n : Nat} (h : F.Nodup) (hl : ∀ i ∈ F, i < n) : F.length ≤ n := by
  have := h.length_le_of_subset (l₂ := List.range n) fun i hi => List.mem_range.2 (hl i hi)
  simpa using this
theorem RInv.step {own : List (List Sg)} {b : Option Sg} {first : Nat} {F T N : List Nat} {h : Nat} (R : RInv own b first F (T ++ [h])) (nd : N.Nodup) (hm : ∀ j, j ∈ N ↔ j ∉ F ∧ Adj own b h j) : RInv own b first (F ++ N) (T ++ N) := by
  have tn := List.nodup_append.1 R.tnd
  constructor
  · rw [List.nodup_append]
    exact ⟨R.nodup, nd, fun x hx y hy e => ((hm y).1 hy).1 (e ▸ hx)⟩
  · rw [List.nodup_append]
    exact ⟨tn.1, nd, fun x hx y hy e => ((hm y).1 hy).1 (e ▸ R.sub x (List.mem_append_left _ hx))⟩
  · intro i hi
    rcases List.mem_append.1 hi with hi | hi
    · exact List.mem_append_left _ (R.sub i (List.mem_append_left _ hi))
    · exact List.mem_append_right _ hi
  · intro i hi
    rcases List.mem_append.1 hi with hi | hi
    · exact R.lt i hi
    · exact ((hm i).1 hi).2.lt
  · exact List.mem_append_left _ R.has
  · intro i hi hiT j hj
    simp only [List.mem_append, not_or] at hiT
    rcases List.mem_append.1 hi with hi | hi
    · by_cases e : i = h
      · subst e
        by_cases hjF : j ∈ F
        · exact List.mem_append_left _ hjF
        · exact List.mem_append_right _ ((hm j).2 ⟨hjF, hj⟩)
      · exact List.mem_append_left _ (R.closed i hi (by simp only [List.mem_append, List.mem_singleton, not_or]; exact ⟨hiT.1, e⟩) j hj)
    · exact absurd hi hiT.2
  · intro C c0 cs i hi
    rcases List.mem_append.1 hi with hi | hi
    · exact R.least C c0 cs i hi
    · exact cs h i (R.least C c0 cs h (R.sub h (by simp))) ((hm i).1 hi).2
theorem whl_ok {u : Nat} {φ : Phi} {pin : List Nat} (own : List (List Sg)) (first : Nat) (b : Option Sg) (hown : own.length ≤ 100) (hrow : ∀ r ∈ own, r.length ≤ 1000) (p4 : 5 ∉ pin) (p6 : 6 ∉ pin) (p7 : 7 ∉ pin) : ∀ (fuel : Nat) (k : Option Bool) (F T : List Nat) (h a n : Option D), RInv own b first F T → T.length + (own.length - F.length) < fuel →
    ∃ (F' : List Nat) (k' : Option Bool) (h' a' n' : Option D), Reach own b first F' ∧ (k' = k ∨ k' = jF k) ∧ (T ≠ [] → k' = jF k) ∧
      whlL (denTK φ (.op .ne (.cons false (.var 4) (.cons false (.lst .nil) .nil)))) (execsK u φ pin rB) fuel (rEnv k own (nD first) b F T h a n) = some (.nx, rEnv k' own (nD first) b F' [] h' a' n')
  | 0, k, F, T, h, a, n, R, hf => absurd hf (Nat.not_lt_zero _)
  | fuel + 1, k, F, T, h, a, n, R, hf => by
    by_cases hT : T = []
    · subst hT
      refine ⟨F, k, h, a, n, ⟨R.nodup, R.lt, R.has, fun i hi => R.closed i hi (by simp), R.least⟩, .inl rfl, fun e => absurd rfl e, ?_⟩
      have := eq_nil_nats true true []
      simp only [List.map_nil] at this
      simp [whlL, denTK, denK, denAK, denFK, getV, this]
    · obtain ⟨T0, x, rfl⟩ : ∃ T0 x, T = T0 ++ [x] := ⟨T.dropLast, T.getLast hT, (List.dropLast_concat_getLast hT).symm⟩
      have hx := R.sub x (by simp)
      obtain ⟨hr, hh⟩ : ∃ hr, own[x]? = some hr := ⟨own[x]'(R.lt x hx), List.getElem?_eq_getElem (R.lt x hx)⟩
      have hrl := hrow hr (List.mem_of_getElem? hh)
      have fl := nodup_len R.nodup R.lt
      have tl := nodup_len R.tnd fun i hi => R.lt i (R.sub i hi)
      simp only [List.length_append, List.length_cons, List.length_nil] at tl hf
      obtain ⟨N, a', n', nd, hm, e⟩ := look_ok (u := u) (φ := φ) (pin := pin) (jF k) own (nD first) b F T0 x a n hr hh hrl p6 p7 hown (by omega) (by omega)
      have R2 := R.step nd hm
      have fl2 := nodup_len R2.nodup R2.lt
      simp only [List.length_append] at fl2
      obtain ⟨F', k', h', a2, n2, RR, hk, hk2, e2⟩ := whl_ok own first b hown hrow p4 p6 p7 fuel (jF k) (F ++ N) (T0 ++ N) (some (nD x)) a' n' R2 (by simp only [List.length_append]; omega)
      rw [jF_jF] at hk hk2
      have hkk : k' = jF k := by rcases hk with hk | hk <;> exact hk
      refine ⟨F', k', h', a2, n2, RR, .inr hkk, fun _ => hkk, ?_⟩
      have c1 := eq_nil_nats true true (T0 ++ [x])
      have c2 : ¬ (T0 ++ [x] = []) := by simp
      have hf : rB = match rB with | .cons y (.cons (.forr a b _) c) => .cons y (.cons (.forr a b rI) c) | _ => .nil := rfl
      have b1 : execsK u φ pin rB (rEnv k own (nD first) b F (T0 ++ [x]) h a n) = some (.nx, rEnv (jF k) own (nD first) b (F ++ N) (T0 ++ N) (some (nD x)) a' n') := by
        rw [hf]
        simp only [rB, fReached]
        simp [execsK, execK, denK, denFK, denIK, getV, p4, jD_frz, jD_items, e, bindT_ok, -bindT_v, -bindT_t]
      rw [whlL]
      have t1 : denTK φ (.op .ne (.cons false (.var 4) (.cons false (.lst .nil) .nil))) (rEnv k own (nD first) b F (T0 ++ [x]) h a n) = some (true, rEnv k own (nD first) b F (T0 ++ [x]) h a n) := by
        simp [denTK, denK, denAK, denFK, getV]
        rw [show (T0.map nD ++ [D.int (x : Int)]) = (T0 ++ [x]).map nD by simp, c1]
        simp
      rw [t1]
      simp only [Option.bind_some, if_true]
      rw [b1]
      exact e2
theorem reached_ok {u : Nat} {φ : Phi} (k : Option Bool) (own : List (List Sg)) (first : Nat) (b : Option Sg) (hown : own.length ≤ 50) (hrow : ∀ r ∈ own, r.length ≤ 1000) (hf : first < own.length) (hu : 55 ≤ u) :
    ∃ F : List Nat, Reach own b first F ∧ callDK u φ fReached [jD k own, nD first, bD b] = some (.lst true (F.map nD), [some (jD (jF k) own), some (nD first), some (bD b)]) := by
  have R0 : RInv own b first [first] [first] := ⟨by simp, by simp, by simp, by simpa using hf, by simp, by intro i hi hn; exact absurd hi hn, by intro C c0 _ i hi; simp only [List.mem_singleton] at hi; exact hi ▸ c0⟩
  have hff : fReached = ⟨3, 9, match fReached.body with | .cons x (.cons (.whl c _) r) => .cons x (.cons (.whl c rB) r) | _ => .nil⟩ := rfl
  have hb : (bD b).own = false := by cases b <;> rfl
  have hkk : (jD k own).own = true → (0 : Nat) < 5 := fun _ => by decide
  have key : ∀ pin : List Nat, 5 ∉ pin → 6 ∉ pin → 7 ∉ pin → ∃ (F : List Nat) (h' a' n' : Option D), Reach own b first F ∧ whlL (denTK φ (.op .ne (.cons false (.var 4) (.cons false (.lst .nil) .nil)))) (execsK u φ pin rB) u (rEnv k own (nD first) b [first] [first] none none none) = some (.nx, rEnv (jF k) own (nD first) b F [] h' a' n') := by
    intro pin q5 q6 q7
    obtain ⟨F', k', h', a', n', RR, _, hk, e⟩ := whl_ok (u := u) (φ := φ) (pin := pin) own first b (by omega) hrow q5 q6 q7 u k [first] [first] none none none R0 (by simp; omega)
    rw [hk (by simp)] at e
    exact ⟨F', h', a', n', RR, e⟩
  rw [hff]
  simp only [fReached]
  cases ho : (jD k own).own with
  | false =>
    obtain ⟨F, h', a', n', RR, e⟩ := key [] (by simp) (by simp) (by simp)
    refine ⟨F, RR, ?_⟩
    have e' : whlL (denTK φ (.op .ne (.cons false (.var 4) (.cons false (.lst .nil) .nil)))) (execsK u φ [] rB) u [some (jD k own), some (nD first), some (bD b), some (.lst true [nD first]), some (.lst true [nD first]), none, none, none, none] = _ := e
    simp [callDK, execsK, execK, denK, denFK, denOK, getV, ho, hb, e']
  | true =>
    obtain ⟨F, h', a', n', RR, e⟩ := key [0] (by simp) (by simp) (by simp)
    refine ⟨F, RR, ?_⟩
    have e' : whlL (denTK φ (.op .ne (.cons false (.var 4) (.cons false (.lst .nil) .nil)))) (execsK u φ [0] rB) u [some (jD k own), some (nD first), some (bD b), some (.lst true [nD first]), some (.lst true [nD first]), none, none, none, none] = _ := e
    simp [callDK, execsK, execK, denK, denFK, denOK, getV, ho, hb, e']
end Vi.B
end
section
set_option maxRecDepth 100000
/-! Bm: a text is read. -/
namespace Vi.B
open Vi L2
theorem conn_all {own : List (List Sg)} {F : List Nat} (hc : Conn own) (h3 : ∀ r ∈ own, r.length = 3) (hne : own ≠ []) (R : Reach own none 0 F) : ∀ i, i < own.length → i ∈ F := by
  have mem3 : ∀ r ∈ own, ∃ x, x ∈ r := fun r hr => by
    have := h3 r hr
    match r, this with
    | a :: _, _ => exact ⟨a, by simp⟩
  have key := hc (fun x => ∃ i ∈ F, ∃ r, own[i]? = some r ∧ x ∈ r) (by
    intro q hq
    by_cases h : ∃ x ∈ q, ∃ i ∈ F, ∃ r, own[i]? = some r ∧ x ∈ r
    · left
      obtain ⟨x, hx, i, hi, r, hr, hxr⟩ := h
      obtain ⟨j, hj, rfl⟩ := List.mem_iff_getElem.1 hq
      have hjF : j ∈ F := R.closed i hi j ⟨r, own[j], hr, List.getElem?_eq_getElem hj, by
        simp only [adjR, List.any_eq_true]
        exact ⟨x, hxr, by simp [hx]⟩⟩
      exact fun y hy => ⟨j, hjF, own[j], List.getElem?_eq_getElem hj, hy⟩
    · right
      exact fun x hx hN => h ⟨x, hx, hN⟩)
  rcases key with h | h
  · intro j hj
    obtain ⟨x, hx⟩ := mem3 own[j] (List.getElem_mem hj)
    obtain ⟨i, hi, r, hr, hxr⟩ := h own[j] (List.getElem_mem hj) x hx
    exact R.closed i hi j ⟨r, own[j], hr, List.getElem?_eq_getElem hj, by
      simp only [adjR, List.any_eq_true]
      exact ⟨x, hxr, by simp [hx]⟩⟩
  · exfalso
    have h0 : 0 < own.length := R.lt 0 R.has
    obtain ⟨x, hx⟩ := mem3 own[0] (List.getElem_mem h0)
    exact h own[0] (List.getElem_mem h0) x hx ⟨0, R.has, own[0], List.getElem?_eq_getElem h0, hx⟩
def wD (r : List Sg) : D := .lst false ((z "meet" :: r).map .str)
def linesD (own : List (List Sg)) : D := .lst true (.lst false [.str (z "web")] :: own.map wD)
def cLines (g0 g1 : Sg) : E := .comp (.opm .split (.var 1) (.cons false (.gl g0 (.str (z " "))) .nil)) (.v 1) (.val (.opm .split (.var 0) (.cons false (.gl g1 (.str (z "\n"))) .nil))) .nil [1]
theorem fLines_eq (g0 g1 : Sg) : fLines g0 g1 = ⟨1, 2, .cons (.ret (cLines g0 g1)) .nil⟩ := rfl
theorem split_ok {s t : Sg} (h1 : t.length ≠ 0) (h2 : s.length ≤ 1000000) : splitOp (.str s) (.str t) = some (.lst true ((PySem.Txt.split s t).map .str)) := by
  simp only [splitOp]; rw [if_pos ⟨h1, by rw [ln_eq]; omega⟩]
theorem lines_ok {u : Nat} {φ : Phi} (g0 g1 : Sg) (own : List (List Sg)) (hl : own.length ≤ 100) (h3 : ∀ r ∈ own, r.length = 3) (hn : ∀ r ∈ own, ∀ s ∈ r, NameOk s) :
    callDK u φ (fLines g0 g1) [.str (textOf own)] = some (linesD own, [some (.str (textOf own))]) := by
  have s1 : splitOp (.str (textOf own)) (.str (z "\n")) = some (.lst true ((z "web" :: own.map lineOf).map .str)) := by
    rw [split_ok (by decide) (by have := text_len hl h3 hn; omega), split_text hn]
  have s2 : splitOp (.str (z "web")) (.str (z " ")) = some (.lst true [.str (z "web")]) := by
    rw [split_ok (by decide) (by decide), split_web]; rfl
  have s3 : ∀ r ∈ own, splitOp (.str (lineOf r)) (.str (z " ")) = some (.lst true ((z "meet" :: r).map .str)) := fun r hr => by
    rw [split_ok (by decide) (by have := line_len (h3 r hr) (hn r hr); omega), split_line (hn r hr)]
  have hI : denIK φ (.val (.opm .split (.var 0) (.cons false (.gl g1 (.str (z "\n"))) .nil))) [some (.str (textOf own)), none] = some ((z "web" :: own.map lineOf).map .str, none, [some (.str (textOf own)), none]) := by
    simp [denIK, denK, denAK, getV, recvOk, s1]
  have hb := compL_mapA (body := fun x e => (bindT [] (.v 1) x e).bind fun e1 => (denAlK φ .nil e1).bind fun b => if b.1 then (denK φ (.opm .split (.var 1) (.cons false (.gl g0 (.str (z " "))) .nil)) b.2).map fun y => (some y.1.frz, wipeE y.2 [1]) else some (none, wipeE b.2 [1])) (.str : Sg → D)
    (fun s => .lst false ((PySem.Txt.split s (z " ")).map .str)) (env := [some (.str (textOf own)), none]) (z "web" :: own.map lineOf) [] (by
      intro s hs
      have : splitOp (.str s) (.str (z " ")) = some (.lst true ((PySem.Txt.split s (z " ")).map .str)) := by
        rcases List.mem_cons.1 hs with rfl | hs
        · exact split_ok (by decide) (by decide)
        · obtain ⟨r, hr, rfl⟩ := List.mem_map.1 hs
          exact split_ok (by decide) (by have := line_len (h3 r hr) (hn r hr); omega)
      simp [denAlK, denK, denAK, getV, recvOk, this]) (by rw [ln_eq]; simp; omega)
  have e1 : (z "web" :: own.map lineOf).map (fun s => D.lst false ((PySem.Txt.split s (z " ")).map .str)) = D.lst false [.str (z "web")] :: own.map wD := by
    simp only [List.map_cons, split_web, List.map_map]
    congr 1
    refine List.map_congr_left fun r hr => ?_
    simp only [Function.comp, wD, split_line (hn r hr)]
  have hC : denK φ (cLines g0 g1) [some (.str (textOf own)), none] = some (linesD own, [some (.str (textOf own)), none]) := by
    unfold cLines
    rw [denK, hI]
    simp only [Option.bind_some, wipeE_cons, wipeE_nil, List.set_cons_succ, List.set_cons_zero]
    simp only [wipeE_cons, wipeE_nil] at hb
    rw [hb, e1]; rfl
  have hx : execK u φ [] (.ret (cLines g0 g1)) [some (.str (textOf own)), none] = some (.rt (linesD own), [some (.str (textOf own)), none]) := by
    have : execK u φ [] (.ret (cLines g0 g1)) [some (.str (textOf own)), none] = (denK φ (cLines g0 g1) [some (.str (textOf own)), none]).map fun q => (.rt q.1, q.2) := by unfold cLines; rw [execK]; intro i e; cases e
    rw [this, hC]; rfl
  rw [fLines_eq]
  simp [callDK, execsK, hx]
-- names
def cName (g1 : Sg) : E := .comp (.op .isin (.cons false (.var 1) (.cons false (.gl g1 (.str (z "abcdefghijklmnopqrstuvwxyz"))) .nil))) (.v 1) (.val (.var 0)) .nil [1]
theorem name_ok {u : Nat} {φ : Phi} (g0 g1 : Sg) (s : Sg) (h : NameOk s) : callDK u φ (fIsName g0 g1) [.str s] = some (.bl true, [some (.str s)]) := by
  have hI : denIK φ (.val (.var 0)) [some (.str s), none] = some (s.cps.toList.map (fun c => D.str ⟨#[c]⟩), none, [some (.str s), none]) := by
    simp [denIK, denK, getV]
  have hb := compL_mapA (body := fun x e => (bindT [] (.v 1) x e).bind fun e1 => (denAlK φ .nil e1).bind fun b => if b.1 then (denK φ (.op .isin (.cons false (.var 1) (.cons false (.gl g1 (.str (z "abcdefghijklmnopqrstuvwxyz"))) .nil))) b.2).map fun y => (some y.1.frz, wipeE y.2 [1]) else some (none, wipeE b.2 [1])) (fun c : Nat => D.str ⟨#[c]⟩)
    (fun _ => .bl true) (env := [some (.str s), none]) s.cps.toList [] (by
      intro c hc
      simp [denAlK, denK, denAK, getV, sign_in (h.2.2 c hc)]) (by rw [ln_eq]; have := h.2.1; have e := TL.len_tl s; simp only [TL.tl] at e; simp only [List.length_nil]; omega)
  have hC : denK φ (cName g1) [some (.str s), none] = some (.lst true (s.cps.toList.map fun _ => .bl true), [some (.str s), none]) := by
    unfold cName
    rw [denK, hI]
    simp only [Option.bind_some, wipeE_cons, wipeE_nil, List.set_cons_succ, List.set_cons_zero]
    simp only [wipeE_cons, wipeE_nil] at hb
    rw [hb]; rfl
  have hpk : ∀ env r, pk (cName g1) env r = r.map fun q => (.v q.1, q.2) := fun _ _ => rfl
  have e2 := allB_map (s.cps.toList.map fun _ => true)
  rw [List.map_map] at e2
  have e4 : boolsOp (fun bs => bs.all id) (.lst true (s.cps.toList.map fun _ => D.bl true)) = some (.bl true) := by
    rw [bools_lst, show (s.cps.toList.map fun _ => D.bl true) = s.cps.toList.map (D.bl ∘ fun _ => true) from rfl, e2]
    simp
  have l1 : (1 : Int) ≤ s.length := by have := h.1; omega
  have l2 : (s.length : Int) ≤ 6 := by have := h.2.1; omega
  have hf : fIsName g0 g1 = ⟨1, 2, (.cons (.ret (.an (.cons false (.op (.isi ["str"]) (.cons false (.var 0) .nil)) (.cons false (.chain .le .le (.lit (.int (1))) (.op .len (.cons false (.var 0) .nil)) (.gl g0 (.int (6)))) (.cons false (.op .all (.cons false (cName g1) .nil)) .nil))))) .nil)⟩ := rfl
  rw [hf]
  simp [callDK, execsK, execK, denK, denAK, denAnK, getV, kidOf, l1, l2, hpk, hC, e4, show s.length ≤ 1000000 by have := h.2.1; omega, -bools_lst]
def NamesOk (φ : Phi) : Prop := ∀ s, NameOk s → φ (z "is_name") [.str s] = some (.bl true, [some (.str s)])
def cMeet : E := .comp (.call (z "is_name") (.cons false (.var 1) .nil)) (.v 1) (.val (.slc (.var 0) true false (.cons false (.lit (.int (1))) .nil))) .nil [1]
theorem meet_ok {u : Nat} {φ : Phi} (No : NamesOk φ) (g0 g1 : Sg) (r : List Sg) (h3 : r.length = 3) (hn : ∀ s ∈ r, NameOk s) : callDK u φ (fMeetIn g0 g1) [wD r] = some (rowD r, [some (wD r)]) := by
  have c1 : slcOn (wD r) true false [1] = some (.lst true (r.map .str)) := by
    have := cut_from (xs := (z "meet" :: r).map D.str) 1 (by simp)
    rw [show ((1 : Nat) : Int) = 1 from rfl] at this
    simp only [slcOn, slcOp, wD, this]; rfl
  have hI : denIK φ (.val (.slc (.var 0) true false (.cons false (.lit (.int (1))) .nil))) [some (wD r), none] = some (r.map .str, none, [some (wD r), none]) := by
    simp [denIK, denK, denOK, getV, c1]
  have hb := compL_mapA (body := fun x e => (bindT [] (.v 1) x e).bind fun e1 => (denAlK φ .nil e1).bind fun b => if b.1 then (denK φ (.call (z "is_name") (.cons false (.var 1) .nil)) b.2).map fun y => (some y.1.frz, wipeE y.2 [1]) else some (none, wipeE b.2 [1])) (.str : Sg → D)
    (fun _ => .bl true) (env := [some (wD r), none]) r [] (by
      intro s hs
      have := No s (hn s hs)
      simp [denAlK, denK, denAK, getV, this]) (by rw [ln_eq, h3]; decide)
  have hC : denK φ cMeet [some (wD r), none] = some (.lst true (r.map fun _ => .bl true), [some (wD r), none]) := by
    unfold cMeet
    rw [denK, hI]
    simp only [Option.bind_some, wipeE_cons, wipeE_nil, List.set_cons_succ, List.set_cons_zero]
    simp only [wipeE_cons, wipeE_nil] at hb
    rw [hb]; rfl
  have hpk : ∀ env r, pk cMeet env r = r.map fun q => (.v q.1, q.2) := fun _ _ => rfl
  have e2 := allB_map (r.map fun _ => true)
  rw [List.map_map] at e2
  have e4 : boolsOp (fun bs => bs.all id) (.lst true (r.map fun _ => D.bl true)) = some (.bl true) := by
    rw [bools_lst, show (r.map fun _ => D.bl true) = r.map (D.bl ∘ fun _ => true) from rfl, e2]
    simp
  have w1 : lenOp (wD r) = some (.int 4) := by simp [wD, h3]
  have w2 : idxOp (wD r) (.int 0) = some (.str (z "meet")) := by simp only [wD, idx_lst, List.map_cons, at_zero]
  have w3 : D.own (wD r) = false := rfl
  have hf : fMeetIn g0 g1 = ⟨1, 2, (.cons (.iff (.orr (.cons false (.op .ne (.cons false (.op .len (.cons false (.var 0) .nil)) (.cons false (.gl g0 (.int (4))) .nil))) (.cons false (.op .ne (.cons false (.op .idx (.cons false (.var 0) (.cons false (.lit (.int (0))) .nil))) (.cons false (.gl g1 (.str (z "meet"))) .nil))) (.cons false (.nt (.op .all (.cons false cMeet .nil))) .nil)))) (.cons (.ret (.lit .non)) .nil) .nil) (.cons (.ret (.op .tuple (.cons false (.slc (.var 0) true false (.cons false (.lit (.int (1))) .nil)) .nil))) .nil))⟩ := rfl
  rw [hf]
  simp [callDK, execsK, execK, denK, denAK, denOK, denOrK, denTK, getV, w1, w2, w3, c1, hpk, hC, e4, -bools_lst]
end Vi.B
end
section
set_option maxRecDepth 100000
/-! Bn: junctions of a text; a web is made. -/
namespace Vi.B
open Vi L2
theorem fCounted_eq : fCounted = fTimes := rfl
def CountedOk (φ : Phi) : Prop := ∀ (o : Bool) (own : List (List Sg)), own.flatten.length ≤ 1000000 → φ (z "counted") [ownD o own] = some (.dic true (encK (timesOf own.flatten)), [some (ownD o own)])
def MeetOk (φ : Phi) : Prop := ∀ r : List Sg, r.length = 3 → (∀ s ∈ r, NameOk s) → φ (z "meet_in") [wD r] = some (rowD r, [some (wD r)])
def LinesOk (φ : Phi) : Prop := ∀ own : List (List Sg), own.length ≤ 100 → (∀ r ∈ own, r.length = 3) → (∀ r ∈ own, ∀ s ∈ r, NameOk s) → φ (z "lines_of") [.str (textOf own)] = some (linesD own, [some (.str (textOf own))])
def ReachedOk (φ : Phi) : Prop := ∀ (k : Option Bool) (own : List (List Sg)) (first : Nat) (b : Option Sg), own.length ≤ 50 → (∀ r ∈ own, r.length ≤ 1000) → first < own.length →
  ∃ F : List Nat, Reach own b first F ∧ φ (z "reached") [jD k own, nD first, bD b] = some (.lst true (F.map nD), [some (jD (jF k) own), some (nD first), some (bD b)])
theorem maxI_le : ∀ {ns : List Int}, ns ≠ [] → (∀ n ∈ ns, n ≤ 2) → maxI ns ≤ 2
  | [], h, _ => absurd rfl h
  | [x], _, h => h x (by simp)
  | x :: y :: r, _, h => by
    have h1 := h x (by simp)
    have h2 := maxI_le (ns := y :: r) (by simp) fun n hn => h n (List.mem_cons_of_mem _ hn)
    simp only [maxI]; omega
theorem maxvals_ok (o : Bool) {xs : List Sg} (hne : xs ≠ []) (h2 : ∀ s, xs.count s ≤ 2) : ∃ m : Int, m ≤ 2 ∧ maxvalsOp (.dic o (encK (timesOf xs))) = some (.int m) := by
  have e1 : (encK (timesOf xs)).map (·.2) = ((timesOf xs).map (·.2)).map .int := by simp [encK]
  have hn : (timesOf xs).map (·.2) ≠ [] := by
    intro e
    have e2 : timesOf xs = [] := by simpa using e
    obtain ⟨s, hs⟩ := List.exists_mem_of_ne_nil _ hne
    have := mem_keys_times.2 hs
    rw [e2] at this; cases this
  refine ⟨maxI ((timesOf xs).map (·.2)), maxI_le hn ?_, ?_⟩
  · intro n hn
    obtain ⟨⟨s, m⟩, hp, rfl⟩ := List.mem_map.1 hn
    have h3 := ((cnt_times xs).2 s m).1 hp
    have := h2 s
    simp only; omega
  · simp only [maxvalsOp, e1, allI_map, Option.bind_some, hn, if_false]
theorem strOk_of {s : Sg} (h : NameOk s) : PySem.PyData.strOk s = true := by
  unfold PySem.PyData.strOk
  rw [Array.all_eq_true']
  intro c hc
  have := h.2.2 c (by simpa [TL.tl] using hc)
  simp; omega
theorem plain_row {k : Nat} {r : List Sg} (h : ∀ s ∈ r, NameOk s) : plain (k + 1) (rowD r) = true := by
  have : ∀ r : List Sg, (∀ s ∈ r, NameOk s) → plains k (r.map .str) = true := by
    intro r
    induction r with
    | nil => intro _; simp only [List.map_nil, plains]
    | cons a r ih =>
      intro h
      have e : plain k (.str a) = true := by have := strOk_of (h a (by simp)); cases k <;> simp only [plain, this]
      simp only [List.map_cons, plains, e, ih fun s hs => h s (by simp [hs]), Bool.and_self]
  simp only [rowD, plain, this r h]
theorem eq_nil_rows (o p : Bool) (own : List (List Sg)) (hn : ∀ r ∈ own, ∀ s ∈ r, NameOk s) : eqOp (ownD o own) (.lst p []) = some (decide (own = [])) := by
  have h1 : scalD (ownD o own) (.lst p []) = false := rfl
  have h0 : ∀ own : List (List Sg), (∀ r ∈ own, ∀ s ∈ r, NameOk s) → plains 59 (own.map rowD) = true := by
    intro own
    induction own with
    | nil => intro _; simp only [List.map_nil, plains]
    | cons a r ih => intro h; simp only [List.map_cons, plains, plain_row (k := 58) (h a (by simp)), ih fun q hq => h q (by simp [hq]), Bool.and_self]
  have h2 : plain 60 (ownD o own) = true := by simp only [ownD, plain, h0 own hn]
  have h3 : plain 60 (.lst p []) = true := by simp only [plain, plains]
  simp only [eqOp, h1, h2, h3, Bool.false_eq_true, if_false, Bool.and_self, if_true]
  cases own with
  | nil => rfl
  | cons a b => simp [eqD, eqDs]
theorem numbered_wD : ∀ (own : List (List Sg)) (n : Nat), numbered n (own.map wD) = (idxd n own).map fun p => .tup [nD p.1, wD p.2]
  | [], _ => rfl
  | r :: rs, n => by simp only [List.map_cons, numbered, idxd, numbered_wD rs (n + 1)]
theorem idxd_snd : ∀ (own : List (List Sg)) (n : Nat), (idxd n own).map (·.2) = own
  | [], _ => rfl
  | r :: rs, n => by simp only [idxd, List.map_cons, idxd_snd rs]
def jL (g1 g2 : Sg) : Ss := match (fJunc (z "") g1 g2).body with | .cons _ (.cons _ (.cons (.forr _ _ s) _)) => s | _ => .nil
theorem jL_ok {u : Nat} {φ : Phi} (g1 g2 : Sg) (Mo : MeetOk φ) (Co : CountedOk φ) (done : List (List Sg)) (r : List Sg) (i : Nat) (A B C R : Option D) (v5 v6 v7 : Option D) (h3 : r.length = 3) (hn : ∀ s ∈ r, NameOk s) (hl : done.length < 12) (hd : ∀ q ∈ done, q.length = 3) (h2 : ∀ s, (done ++ [r]).flatten.count s ≤ 2) :
    ((bindT [] (.t (.cons (.v 5) (.cons (.v 6) .nil))) (.tup [nD i, wD r]) [A, B, C, R, some (ownD true done), v5, v6, v7]).bind fun e => execsK u φ [] (jL g1 g2) e) =
      some (.nx, [A, B, C, R, some (ownD true (done ++ [r])), some (nD i), some (wD r), some (rowD r)]) := by
  have e1 := Mo r h3 hn
  have hfl : (done ++ [r]).flatten.length ≤ 100 := by
    have := flat3 (own := done ++ [r]) (by intro q hq; rcases List.mem_append.1 hq with hq | hq; exact hd q hq; simp only [List.mem_singleton] at hq; exact hq ▸ h3)
    rw [this]; simp only [List.length_append, List.length_cons, List.length_nil]; omega
  have e2 := Co true (done ++ [r]) (by omega)
  have hne : (done ++ [r]).flatten ≠ [] := by
    intro e
    have := flat3 (own := done ++ [r]) (by intro q hq; rcases List.mem_append.1 hq with hq | hq; exact hd q hq; simp only [List.mem_singleton] at hq; exact hq ▸ h3)
    rw [e] at this; simp only [List.length_append, List.length_cons, List.length_nil] at this; omega
  obtain ⟨m, hm, e3⟩ := maxvals_ok true hne h2
  have e4 : ¬ (done.length : Int) = 12 := by omega
  have e5 : ¬ 2 < m := by omega
  have w3 : D.own (wD r) = false := rfl
  have w4 : D.frz (wD r) = wD r := rfl
  generalize (done ++ [r]).flatten = X at e2 e3
  simp only [ownD, List.map_append, List.map_cons, List.map_nil] at e2
  simp [execsK, execK, denK, denAK, denFK, denOrK, denTK, getV, jL, fJunc, e1, e2, e3, e4, e5, w3, w4, show done.length + 1 ≤ 1000000 by omega, show done.length ≤ 1000000 by omega]
def cApart : E := .comp (.var 5) (.v 5) (.range (.cons false (.op .len (.cons false (.var 4) .nil)) .nil)) (.cons false (.op .notin (.cons false (.var 5) (.cons false (.var 1) .nil))) .nil) [5]
theorem cApart_ok {φ : Phi} (own : List (List Sg)) (F : List Nat) (A C R v5 v6 v7 : Option D) (hl : own.length ≤ 1000) (h : ∀ i, i < own.length → i ∈ F) :
    denK φ cApart [A, some (.lst true (F.map nD)), C, R, some (ownD false own), v5, v6, v7] = some (.lst true [], [A, some (.lst true (F.map nD)), C, R, some (ownD false own), none, v6, v7]) := by
  have sm := small_nat (n := own.length) (by omega)
  have hI : denIK φ (.range (.cons false (.op .len (.cons false (.var 4) .nil)) .nil)) [A, some (.lst true (F.map nD)), C, R, some (ownD false own), v5, v6, v7] = some ((List.range own.length).map (fun k : Nat => D.int (0 + (k : Nat))), none, [A, some (.lst true (F.map nD)), C, R, some (ownD false own), v5, v6, v7]) := by
    have e : rangeD 0 (own.length : Int) = (List.range own.length).map (fun k : Nat => D.int (0 + (k : Nat))) := by
      simp only [rangeD]; congr 1; 
    simp [denIK, denK, denAK, getV, sm, e]
  have hb := compL_fm (body := fun x e => (bindT [] (.v 5) x e).bind fun e1 => (denAlK φ (.cons false (.op .notin (.cons false (.var 5) (.cons false (.var 1) .nil))) .nil) e1).bind fun b => if b.1 then (denK φ (.var 5) b.2).map fun y => (some y.1.frz, wipeE y.2 [5]) else some (none, wipeE b.2 [5])) (fun k : Nat => D.int (0 + (k : Nat))) nD (fun _ => none)
    (env := [A, some (.lst true (F.map nD)), C, R, some (ownD false own), none, v6, v7]) (List.range own.length) [] (by
      intro i hi
      have := in_nats true i F
      have h2 := h i (List.mem_range.1 hi)
      simp only [h2, decide_true] at this
      simp [denAlK, denK, denAK, getV, this]) (by rw [ln_eq]; simp; omega)
  unfold cApart
  rw [denK, hI]
  simp only [Option.bind_some, wipeE_cons, wipeE_nil, List.set_cons_succ, List.set_cons_zero]
  simp only [wipeE_cons, wipeE_nil] at hb
  rw [hb]
  simp
theorem junc_ok {u : Nat} {φ : Phi} (g0 g1 g2 : Sg) (Lo : LinesOk φ) (Mo : MeetOk φ) (Co : CountedOk φ) (Ro : ReachedOk φ) (own : List (List Sg)) (W : WebT own) (hne : own ≠ []) (hl : own.length ≤ 12) (hn : ∀ r ∈ own, ∀ s ∈ r, NameOk s) :
    callDK u φ (fJunc g0 g1 g2) [.str (textOf own)] = some (.tup [ownD false own, .non], [some (.str (textOf own))]) := by
  have e1 := Lo own (by omega) W.len3 hn
  obtain ⟨env', h, v5, v6, v7, rfl⟩ := forL_rel (body := fun x e => (bindT [] (.t (.cons (.v 5) (.cons (.v 6) .nil))) x e).bind fun e => execsK u φ [] (jL g1 g2) e) (fun p : Nat × List Sg => D.tup [nD p.1, wD p.2])
    (fun done env => ∃ v5 v6 v7, env = [some (.str (textOf own)), none, none, some (linesD own), some (ownD true (done.map (·.2))), v5, v6, v7]) (idxd 0 own) [] [some (.str (textOf own)), none, none, some (linesD own), some (.lst true []), none, none, none] (by
      rintro done ⟨i, r⟩ rest env he ⟨v5, v6, v7, rfl⟩
      simp only [List.nil_append] at he
      have hsnd := congrArg (List.map (·.2)) he
      rw [idxd_snd] at hsnd
      simp only [List.map_append, List.map_cons] at hsnd
      have hr : r ∈ own := by rw [← hsnd]; simp
      have hlen := congrArg List.length hsnd
      simp only [List.length_append, List.length_cons, List.length_map] at hlen
      have e := jL_ok (u := u) (φ := φ) g1 g2 Mo Co (done.map (·.2)) r i (some (.str (textOf own))) none none (some (linesD own)) v5 v6 v7 (W.len3 r hr) (hn r hr) (by rw [List.length_map]; omega)
        (fun q hq => W.len3 q (by rw [← hsnd]; exact List.mem_append_left _ hq)) (fun s => by
          have h5 := W.two s
          rw [← hsnd] at h5
          simp only [List.flatten_append, List.flatten_cons, List.count_append, List.flatten_nil, List.count_nil] at h5 ⊢
          omega)
      exact ⟨_, e, some (nD i), some (wD r), some (rowD r), by simp⟩) ⟨none, none, none, rfl⟩
  rw [← numbered_wD] at h
  simp only [List.nil_append, idxd_snd] at h
  obtain ⟨F, R, e2⟩ := Ro (some true) own 0 none (by omega) (fun r hr => by have := W.len3 r hr; omega) (by cases own; exact absurd rfl hne; simp)
  have hall := conn_all W.conn W.len3 hne R
  have hC := cApart_ok (φ := φ) own F (some (.str (textOf own))) none (some (linesD own)) v5 v6 v7 (by omega) hall
  have c1 := eq_nil_rows true true own hn
  simp only [hne, decide_false] at c1
  have c2 : eqOp (.lst false [.str (z "web")]) (.lst true [.str (z "web")]) = some true := by kernel_rfl
  have c3 : eqOp (.lst true []) (.lst true []) = some true := by kernel_rfl
  have l0 : idxOp (linesD own) (.int 0) = some (.lst false [.str (z "web")]) := by simp only [linesD, idx_lst, at_zero]
  have l1 : slcOn (linesD own) true false [1] = some (.lst true (own.map wD)) := by
    have := cut_from (xs := .lst false [.str (z "web")] :: own.map wD) 1 (by simp)
    rw [show ((1 : Nat) : Int) = 1 from rfl] at this
    simp only [slcOn, slcOp, linesD, this]; rfl
  have hpk : ∀ env r, pk cApart env r = r.map fun q => (.v q.1, q.2) := fun _ _ => rfl
  have e2' : φ (z "reached") [ownD true own, D.int 0, .non] = some (.lst true (F.map nD), [some (ownD false own), some (.int 0), some .non]) := e2
  have hf : fJunc g0 g1 g2 = ⟨1, 8, match (fJunc g0 g1 g2).body with | .cons a (.cons b (.cons (.forr x y _) (.cons c (.cons d (.cons (.asg t _) r))))) => .cons a (.cons b (.cons (.forr x y (jL g1 g2)) (.cons c (.cons d (.cons (.asg t cApart) r))))) | _ => .nil⟩ := rfl
  rw [hf]
  simp only [fJunc]
  simp [callDK, execsK, execK, denK, denAK, denFK, denOK, denTK, denIK, getV, e1, e2', hC, c1, c2, c3, l0, l1, h, bindT_ok, -bindT_v, -bindT_t]
abbrev webD (o : Bool) (own : List (List Sg)) : D := .ins o (z "Web") [(z "own_text", .str (textOf own)), (z "own_junctions", .tup (own.map rowD)), (z "own_counts", .dic false (encK (timesOf own.flatten)))]
theorem init_ok {u : Nat} {φ : Phi} (Co : CountedOk φ) (own : List (List Sg)) (W : WebT own) (hl : own.length ≤ 100) (Jo : φ (z "junctions_in") [.str (textOf own)] = some (.tup [ownD false own, .non], [some (.str (textOf own))])) :
    callDK u φ fInit [.ins true (z "Web") [], .str (textOf own)] = some (.non, [some (webD true own), some (.str (textOf own))]) := by
  have e1 := Co false own (by have := flat3 W.len3; omega)
  have k1 : ¬ (z "own_text" = z "own_junctions") := by decide
  have k2 : ¬ (z "own_text" = z "own_counts") := by decide
  have k3 : ¬ (z "own_junctions" = z "own_counts") := by decide
  simp [callDK, execsK, execK, denK, denAK, denTK, getV, fInit, Jo, e1, putD, kidOf, k1, k2, k3]
end Vi.B
end
section
set_option maxRecDepth 100000
/-! Bo: a web is asked: roads, inner roads, ends, places, bridges. -/
namespace Vi.B
open Vi L2
/- Web___len__:  -/
def fLenW : Fn := ⟨1, 1, (.cons (.ret (.op .len (.cons false (.attr (.var 0) (z "own_junctions")) .nil))) .nil)⟩
/- places_of:  -/
def fPlaces : Fn := ⟨2, 6, (.cons (.asg (.v 2) (.lst .nil)) (.cons (.forr (.t (.cons (.v 3) (.cons (.v 4) .nil))) (.enum (.attr (.var 0) (z "own_junctions"))) (.cons (.exp (.mut .extend 2 (.cons false (.comp (.var 3) (.v 5) (.val (.var 4)) (.cons false (.op .eq (.cons false (.var 5) (.cons false (.var 1) .nil))) .nil) [5]) .nil))) .nil)) (.cons (.ret (.var 2)) .nil)))⟩
/- is_bridge:  -/
def fIsBridge : Fn := ⟨2, 4, (.cons (.asg (.t (.cons (.v 2) (.cons (.v 3) .nil))) (.call (z "places_of") (.cons false (.var 0) (.cons false (.var 1) .nil)))) (.cons (.ret (.an (.cons false (.op .ne (.cons false (.var 2) (.cons false (.var 3) .nil))) (.cons false (.op .notin (.cons false (.var 3) (.cons false (.call (z "reached") (.cons false (.attr (.var 0) (z "own_junctions")) (.cons false (.var 2) (.cons false (.var 1) .nil)))) .nil))) .nil)))) .nil))⟩
/- bridges:  -/
def fBridges : Fn := ⟨1, 2, (.cons (.ret (.op .tuple (.cons false (.comp (.var 1) (.v 1) (.val (.prop (z "Web") (z "Web.inner") (z "inner") (.var 0))) (.cons false (.call (z "is_bridge") (.cons false (.var 0) (.cons false (.var 1) .nil))) .nil) [1]) .nil))) .nil)⟩
/- _law_web_pieces:  -/
def fPieces : Fn := ⟨2, 10, (.cons (.asg (.v 2) (.lst .nil)) (.cons (.forr (.v 3) (.range (.cons false (.op .len (.cons false (.var 0) .nil)) .nil)) (.cons (.iff (.op .any (.cons false (.comp (.op .isin (.cons false (.var 3) (.cons false (.var 4) .nil))) (.v 4) (.val (.var 2)) .nil [4]) .nil)) (.cons .cont .nil) .nil) (.cons (.par [4, 5] (.cons false (.lst (.cons false (.var 3) .nil)) (.cons false (.lst (.cons false (.var 3) .nil)) .nil))) (.cons (.whl (.op .ne (.cons false (.var 5) (.cons false (.lst .nil) .nil))) (.cons (.asg (.v 6) (.op .idx (.cons false (.var 0) (.cons false (.mut .pop 5 .nil) .nil)))) (.cons (.forr (.t (.cons (.v 7) (.cons (.v 8) .nil))) (.enum (.var 0)) (.cons (.iff (.an (.cons false (.op .notin (.cons false (.var 7) (.cons false (.var 4) .nil))) (.cons false (.op .any (.cons false (.comp (.an (.cons false (.op .isin (.cons false (.var 9) (.cons false (.var 8) .nil))) (.cons false (.op .notin (.cons false (.var 9) (.cons false (.var 1) .nil))) .nil))) (.v 9) (.val (.var 6)) .nil [9]) .nil)) .nil))) (.cons (.exp (.mut .append 4 (.cons false (.var 7) .nil))) (.cons (.exp (.mut .append 5 (.cons false (.var 7) .nil))) .nil)) .nil) .nil)) .nil))) (.cons (.exp (.mut .append 2 (.cons false (.op .sorted (.cons false (.var 4) .nil)) .nil))) .nil))))) (.cons (.ret (.var 2)) .nil)))⟩
/- _law_web_bridges:  -/
def fWBridges : Fn := ⟨1, 2, (.cons (.ret (.comp (.var 1) (.v 1) (.val (.call (z "_law_web_inner") (.cons false (.var 0) .nil))) (.cons false (.op .gt (.cons false (.op .len (.cons false (.call (z "_law_web_pieces") (.cons false (.var 0) (.cons false (.lst (.cons false (.var 1) .nil)) .nil))) .nil)) (.cons false (.lit (.int (1))) .nil))) .nil) [1])) .nil)⟩
/- _law_web_rounds:  -/
def fWRounds : Fn := ⟨1, 1, (.cons (.ret (.op .add (.cons false (.op .sub (.cons false (.op .len (.cons false (.call (z "_law_web_inner") (.cons false (.var 0) .nil)) .nil)) (.cons false (.op .len (.cons false (.var 0) .nil)) .nil))) (.cons false (.lit (.int (1))) .nil)))) .nil)⟩
/- _law_is:  -/
def fIs : Fn := ⟨2, 5, (.cons (.iff (.op (.isi ["tuple"]) (.cons false (.var 1) .nil)) (.cons (.asg (.v 2) (.an (.cons false (.op (.isi ["tuple"]) (.cons false (.var 0) .nil)) (.cons false (.op .eq (.cons false (.op .len (.cons false (.var 0) .nil)) (.cons false (.op .len (.cons false (.var 1) .nil)) .nil))) .nil)))) (.cons (.ret (.an (.cons false (.var 2) (.cons false (.op .all (.cons false (.comp (.call (z "_law_is") (.cons false (.var 3) (.cons false (.var 4) .nil))) (.t (.cons (.v 3) (.cons (.v 4) .nil))) (.zip (.var 0) (.var 1)) .nil [3, 4]) .nil)) .nil)))) .nil)) .nil) (.cons (.iff (.op (.isi ["bool"]) (.cons false (.var 1) .nil)) (.cons (.ret (.an (.cons false (.op (.isi ["bool"]) (.cons false (.var 0) .nil)) (.cons false (.op .eq (.cons false (.var 0) (.cons false (.var 1) .nil))) .nil)))) .nil) .nil) (.cons (.iff (.op (.isi ["int"]) (.cons false (.var 1) .nil)) (.cons (.ret (.an (.cons false (.op (.isi ["int"]) (.cons false (.var 0) .nil)) (.cons false (.nt (.op (.isi ["bool"]) (.cons false (.var 0) .nil))) (.cons false (.op .eq (.cons false (.var 0) (.cons false (.var 1) .nil))) .nil))))) .nil) .nil) (.cons (.ret (.ite (.op .isN (.cons false (.var 1) .nil)) (.op .isN (.cons false (.var 0) .nil)) (.an (.cons false (.op (.isi ["str"]) (.cons false (.var 0) .nil)) (.cons false (.op .eq (.cons false (.var 0) (.cons false (.var 1) .nil))) .nil))))) .nil))))⟩
theorem lenOk_nat {n : Nat} (h : n < 1000000) : lenOk (.int (n : Int)) = some (.int n) := by
  simp only [lenOk]
  rw [if_pos ⟨by omega, Nat.lt_of_lt_of_le (log_lt (c := 20) (by omega) (by decide)) (by decide)⟩]
theorem in_ints (o : Bool) (i : Int) (F : List Int) : inOp (.int i) (.lst o (F.map .int)) = some (decide (i ∈ F)) := by
  have h1 : (F.map D.int).all flatD = true := by simp
  have h2 : (F.map D.int).any (fun y => eqD y (.int i)) = decide (i ∈ F) := by
    rw [Bool.eq_iff_iff]
    simp only [List.any_eq_true, List.mem_map, decide_eq_true_eq]
    constructor
    · rintro ⟨_, ⟨q, hq, rfl⟩, e⟩; simp only [eqD, beq_iff_eq] at e; exact e ▸ hq
    · intro h; exact ⟨_, ⟨i, h, rfl⟩, by simp [eqD]⟩
  simp only [inOp, flatD, h1, Bool.and_self, if_true, h2]
theorem lk_text (o : Bool) (own : List (List Sg)) : ([(z "own_text", D.str (textOf own)), (z "own_junctions", .tup (own.map rowD)), (z "own_counts", .dic false (encK (timesOf own.flatten)))] : List (Sg × D)).lookup (z "own_counts") = some (.dic false (encK (timesOf own.flatten))) := by
  have k2 : (z "own_counts" == z "own_text") = false := by decide
  have k3 : (z "own_counts" == z "own_junctions") = false := by decide
  simp only [List.lookup, k2, k3, beq_self_eq_true]
theorem lk_junc (own : List (List Sg)) : ([(z "own_text", D.str (textOf own)), (z "own_junctions", .tup (own.map rowD)), (z "own_counts", .dic false (encK (timesOf own.flatten)))] : List (Sg × D)).lookup (z "own_junctions") = some (.tup (own.map rowD)) := by
  have k2 : (z "own_junctions" == z "own_text") = false := by decide
  simp only [List.lookup, k2, beq_self_eq_true]
theorem wroads_ok {u : Nat} {φ : Phi} (own : List (List Sg)) (hl : own.flatten.length < 64) : callDK u φ fRoads [webD false own] = some (.tup ((roadsOf own).map .str), [some (webD false own)]) := by
  have e1 : sortOp (.dic false (encK (timesOf own.flatten))) = some (.lst true ((roadsOf own).map .str)) := by
    simp only [sortOp, keys_enc, allS_map, Option.bind_some]
    rw [if_pos (by have := keys_len own; omega)]; rfl
  simp [callDK, execsK, execK, denK, denAK, getV, fRoads, lk_text false, e1]
def cIn (n : E) : E := .comp (.var 1) (.v 1) (.val (.attr (.var 0) (z "own_counts"))) (.cons false (.op .eq (.cons false (.op .idx (.cons false (.attr (.var 0) (z "own_counts")) (.cons false (.var 1) .nil))) (.cons false n .nil))) .nil) [1]
def fInN (n : E) : Fn := ⟨1, 2, (.cons (.ret (.op .tuple (.cons false (.op .sorted (.cons false (cIn n) .nil)) .nil))) .nil)⟩
theorem fInner_eq (g0 : Sg) : fInner g0 = fInN (.gl g0 (.int 2)) := rfl
theorem fEnds_eq : fEnds = fInN (.lit (.int 1)) := rfl
theorem cIn_ok {φ : Phi} (ne : E) (n : Int) (hne : ∀ env, denK φ ne env = some (.int n, env)) (hpn : ∀ env r, pk ne env r = r.map fun q => (.v q.1, q.2)) (own : List (List Sg)) (hl : own.flatten.length < 64) :
    denK φ (cIn ne) [some (webD false own), none] = some (.lst true ((withN n (timesOf own.flatten)).map .str), [some (webD false own), none]) := by
  have hI : denIK φ (.val (.attr (.var 0) (z "own_counts"))) [some (webD false own), none] = some ((timesOf own.flatten).map (fun p => .str p.1), none, [some (webD false own), none]) := by
    have : (encK (timesOf own.flatten)).map (fun kv => ofKey kv.1) = (timesOf own.flatten).map (fun p => D.str p.1) := by
      rw [keys_enc]; simp [keysS]
    simp [denIK, denK, getV, lk_text false, this]
  have hb := compL_fm (body := fun x e => (bindT [] (.v 1) x e).bind fun e1 => (denAlK φ (.cons false (.op .eq (.cons false (.op .idx (.cons false (.attr (.var 0) (z "own_counts")) (.cons false (.var 1) .nil))) (.cons false ne .nil))) .nil) e1).bind fun b => if b.1 then (denK φ (.var 1) b.2).map fun y => (some y.1.frz, wipeE y.2 [1]) else some (none, wipeE b.2 [1]))
    (fun p : Sg × Int => D.str p.1) D.str (fun p => if p.2 = n then some p.1 else none) (env := [some (webD false own), none]) (timesOf own.flatten) [] (by
      rintro ⟨s, m⟩ hx
      have hv : valD (encK (timesOf own.flatten)) (.inr s) = some (.int m) := by
        have h1 := ((cnt_times own.flatten).2 s m).1 hx
        rw [valD_enc, getS_of (cnt_times _), if_neg (by omega), h1.2]; rfl
      by_cases hm : m = n <;> simp [denAlK, denK, denAK, getV, lk_text false, hv, hne, hpn, hm]) (by have := bumps_len own.flatten []; simp only [List.length_nil] at this ⊢; rw [ln_eq]; unfold timesOf; omega)
  unfold cIn
  rw [denK, hI]
  simp only [Option.bind_some, wipeE_cons, wipeE_nil, List.set_cons_succ, List.set_cons_zero]
  simp only [wipeE_cons, wipeE_nil] at hb
  rw [hb]; rfl
theorem win_ok {u : Nat} {φ : Phi} (ne : E) (n : Int) (hne : ∀ env, denK φ ne env = some (.int n, env)) (hpn : ∀ env r, pk ne env r = r.map fun q => (.v q.1, q.2)) (own : List (List Sg)) (hl : own.flatten.length < 64) :
    callDK u φ (fInN ne) [webD false own] = some (.tup ((srtS (withN n (timesOf own.flatten))).map .str), [some (webD false own)]) := by
  have hC := cIn_ok ne n hne hpn own hl
  have hpk : ∀ env r, pk (cIn ne) env r = r.map fun q => (.v q.1, q.2) := fun _ _ => rfl
  have h2 := sort_strs true (withN n (timesOf own.flatten)) (by have h1 := bumps_len own.flatten []; have h3 := List.length_filterMap_le (fun p : Sg × Int => if p.2 = n then some p.1 else none) (timesOf own.flatten); simp only [List.length_nil] at h1; unfold withN; unfold timesOf at *; omega)
  simp [callDK, execsK, execK, denK, denAK, getV, fInN, hpk, hC, h2]
def innerOf (own : List (List Sg)) : List Sg := srtS (withN 2 (timesOf own.flatten))
def InnerOk (φ : Phi) : Prop := ∀ own : List (List Sg), own.flatten.length < 64 → φ (z "Web.inner") [webD false own] = some (.tup ((innerOf own).map .str), [some (webD false own)])
theorem wrounds_ok {u : Nat} {φ : Phi} (Io : InnerOk φ) (own : List (List Sg)) (hl : own.flatten.length < 64) : callDK u φ fRounds [webD false own] = some (.int ((innerOf own).length - own.length + 1), [some (webD false own)]) := by
  have e := Io own hl
  have hi : isIns (z "Web") (webD false own) = true := by simp [isIns]
  simp [callDK, execsK, execK, denK, denAK, getV, fRounds, lk_junc, e, isIns]
theorem wlen_ok {u : Nat} {φ : Phi} (own : List (List Sg)) : callDK u φ fLenW [webD false own] = some (.int own.length, [some (webD false own)]) := by
  simp [callDK, execsK, execK, denK, denAK, getV, fLenW, lk_junc]
theorem wr_ok {u : Nat} {φ : Phi} (o : Bool) (own : List (List Sg)) (h : φ (z "_law_web_inner") [ownD o own] = some (.lst true ((innerOf own).map .str), [some (ownD o own)])) : callDK u φ fWRounds [ownD o own] = some (.int ((innerOf own).length - own.length + 1), [some (ownD o own)]) := by
  cases o <;> simp [callDK, execsK, execK, denK, denAK, getV, fWRounds, h]
-- places
def placesN (s : Sg) : List (Nat × List Sg) → List Nat
  | [] => []
  | p :: r => (p.2.filter fun q => decide (q = s)).map (fun _ => p.1) ++ placesN s r
theorem placesN_append (s : Sg) : ∀ (a b : List (Nat × List Sg)), placesN s (a ++ b) = placesN s a ++ placesN s b
  | [], b => rfl
  | p :: a, b => by simp only [List.cons_append, placesN, placesN_append s a b, List.append_assoc]
theorem placesN_len (s : Sg) : ∀ (own : List (List Sg)) (n : Nat), (placesN s (idxd n own)).length = own.flatten.count s
  | [], _ => rfl
  | r :: rs, n => by
    simp only [idxd, placesN, List.length_append, List.length_map, List.flatten_cons, List.count_append, placesN_len s rs (n + 1)]
    congr 1
    rw [List.count_eq_countP, List.countP_eq_length_filter]; congr 1
theorem mem_placesN (s : Sg) : ∀ (l : List (Nat × List Sg)) (i : Nat), i ∈ placesN s l ↔ ∃ p ∈ l, p.1 = i ∧ s ∈ p.2
  | [], i => by simp [placesN]
  | p :: r, i => by
    simp only [placesN, List.mem_append, List.mem_map, List.mem_filter, decide_eq_true_eq, mem_placesN s r i, List.mem_cons]
    constructor
    · rintro (⟨q, ⟨h1, h2⟩, h3⟩ | ⟨q, h1, h2⟩)
      · subst h2; exact ⟨p, .inl rfl, h3, h1⟩
      · exact ⟨q, .inr h1, h2⟩
    · rintro ⟨q, rfl | h1, h2, h3⟩
      · exact .inl ⟨s, ⟨h3, rfl⟩, h2⟩
      · exact .inr ⟨q, h1, h2, h3⟩
theorem mem_idxd {own : List (List Sg)} {p : Nat × List Sg} : p ∈ idxd 0 own ↔ own[p.1]? = some p.2 := by
  rw [List.mem_iff_getElem?]
  constructor
  · rintro ⟨k, hk⟩
    rw [idxd_get] at hk
    cases e : own[k]? with
    | none => rw [e] at hk; cases hk
    | some r => rw [e] at hk; simp at hk; subst hk; simpa using e
  · intro h; exact ⟨p.1, by rw [idxd_get, h]; simp⟩
def plB : Ss := match fPlaces.body with | .cons _ (.cons (.forr _ _ s) _) => s | _ => .nil
def cPl : E := .comp (.var 3) (.v 5) (.val (.var 4)) (.cons false (.op .eq (.cons false (.var 5) (.cons false (.var 1) .nil))) .nil) [5]
theorem places_ok {u : Nat} {φ : Phi} (own : List (List Sg)) (s : Sg) (h3 : ∀ r ∈ own, r.length = 3) (hl : own.length ≤ 100) : callDK u φ fPlaces [webD false own, .str s] = some (.lst true ((placesN s (idxd 0 own)).map nD), [some (webD false own), some (.str s)]) := by
  have hC : ∀ (i : Nat) (r : List Sg) (F : Option D), r.length ≤ 1000 → denK φ cPl [some (webD false own), some (.str s), F, some (nD i), some (rowD r), none] = some (.lst true (((r.filter fun q => decide (q = s)).map fun _ => i).map nD), [some (webD false own), some (.str s), F, some (nD i), some (rowD r), none]) := by
    intro i r F hr
    have hI : denIK φ (.val (.var 4)) [some (webD false own), some (.str s), F, some (nD i), some (rowD r), none] = some (r.map .str, none, [some (webD false own), some (.str s), F, some (nD i), some (rowD r), none]) := by
      simp [denIK, denK, getV]
    have hb := compL_fm (body := fun x e => (bindT [] (.v 5) x e).bind fun e1 => (denAlK φ (.cons false (.op .eq (.cons false (.var 5) (.cons false (.var 1) .nil))) .nil) e1).bind fun b => if b.1 then (denK φ (.var 3) b.2).map fun y => (some y.1.frz, wipeE y.2 [5]) else some (none, wipeE b.2 [5]))
      (D.str : Sg → D) nD (fun q => if q = s then some i else none) (env := [some (webD false own), some (.str s), F, some (nD i), some (rowD r), none]) r [] (by
        intro q hq
        by_cases hm : q = s <;> simp [denAlK, denK, denAK, getV, hm]) (by rw [ln_eq]; simp; omega)
    have e1 : r.filterMap (fun q => if q = s then some i else none) = (r.filter fun q => decide (q = s)).map fun _ => i := by
      clear hb hI hr
      induction r with
      | nil => rfl
      | cons a r ih => by_cases h : a = s <;> simp [h, ih]
    unfold cPl
    rw [denK, hI]
    simp only [Option.bind_some, wipeE_cons, wipeE_nil, List.set_cons_succ, List.set_cons_zero]
    simp only [wipeE_cons, wipeE_nil] at hb
    rw [hb, e1]; rfl
  obtain ⟨env', h, v3, v4, rfl⟩ := forL_rel (body := fun x e => (bindT [] (.t (.cons (.v 3) (.cons (.v 4) .nil))) x e).bind fun e => execsK u φ [] plB e) (fun p : Nat × List Sg => D.tup [nD p.1, rowD p.2])
    (fun done env => ∃ v3 v4, env = [some (webD false own), some (.str s), some (.lst true ((placesN s done).map nD)), v3, v4, none]) (idxd 0 own) [] [some (webD false own), some (.str s), some (.lst true []), none, none, none] (by
      rintro done ⟨i, r⟩ rest env he ⟨v3, v4, rfl⟩
      simp only [List.nil_append] at he
      have hr : own[i]? = some r := (mem_idxd (p := (i, r))).1 (by rw [← he]; simp)
      have hr3 := h3 r (List.mem_of_getElem? hr)
      have hc := hC i r (some (.lst true ((placesN s done).map nD))) (by omega)
      have hpk : ∀ env r, pk cPl env r = r.map fun q => (.v q.1, q.2) := fun _ _ => rfl
      have hlen : (placesN s done).length + r.length ≤ 100000 := by
        have h1 := congrArg List.length he
        simp only [List.length_append, List.length_cons, idxd_len] at h1
        have h2 := placesN_len s own 0
        rw [← he, placesN_append, List.length_append] at h2
        have h5 := List.count_le_length (a := s) (l := own.flatten)
        have h6 := flat3 h3
        omega
      have hfl := List.length_filter_le (fun q => decide (q = s)) r
      have hf : plB = .cons (.exp (.mut .extend 2 (.cons false cPl .nil))) .nil := rfl
      refine ⟨[some (webD false own), some (.str s), some (.lst true ((placesN s (done ++ [(i, r)])).map nD)), some (nD i), some (rowD r), none], ?_, some (nD i), some (rowD r), rfl⟩
      rw [hf]
      simp [execsK, execK, denK, denFK, getV, hc, placesN_append, placesN, show (placesN s done).length + (r.filter fun q => decide (q = s)).length ≤ 1000000 by omega]) ⟨none, none, rfl⟩
  rw [← numbered_idxd] at h
  have hff : fPlaces = ⟨2, 6, match fPlaces.body with | .cons x (.cons (.forr a b _) r) => .cons x (.cons (.forr a b plB) r) | _ => .nil⟩ := rfl
  rw [hff]
  simp only [fPlaces]
  simp only [List.nil_append] at h
  simp [callDK, execsK, execK, denK, denFK, denIK, getV, lk_junc, h, -bindT_t, -bindT_v, bindT_ok]
end Vi.B
end
section
set_option maxRecDepth 100000
/-! Bp: bridges, by the package and by a law's own walks. -/
namespace Vi.B
open Vi L2
theorem adj_symm {own : List (List Sg)} {b : Option Sg} {i j : Nat} (h : Adj own b i j) : Adj own b j i := by
  obtain ⟨r, q, h1, h2, h3⟩ := h
  refine ⟨q, r, h2, h1, ?_⟩
  simp only [adjR, List.any_eq_true, Bool.and_eq_true, decide_eq_true_eq] at h3 ⊢
  obtain ⟨s, hs, h4, h5⟩ := h3
  exact ⟨s, h4, hs, h5⟩
theorem Reach.symm {own : List (List Sg)} {b : Option Sg} {i j : Nat} {F G : List Nat} (R : Reach own b i F) (S : Reach own b j G) (h : j ∈ F) : i ∈ G := by
  have := R.least (fun k => k ∈ G → i ∈ G) (fun h => h) (fun k l hk hkl hl => hk (S.closed l hl k (adj_symm hkl))) j h
  exact this S.has
theorem Reach.trans {own : List (List Sg)} {b : Option Sg} {i j : Nat} {F G : List Nat} (R : Reach own b i F) (S : Reach own b j G) (h : j ∈ F) : ∀ k ∈ G, k ∈ F :=
  S.least (fun k => k ∈ F) h fun k l hk hkl => R.closed k hk l hkl
/-- a road of two standings, at one and at other: the web falls apart without it just if other is not reached from one -/
theorem bridge_iff {own : List (List Sg)} {s : Sg} {one other : Nat} {F0 F1 : List Nat} (hc : Conn own) (h3 : ∀ r ∈ own, r.length = 3) (hat : ∀ i r, own[i]? = some r → (s ∈ r ↔ i = one ∨ i = other)) (h1 : one < own.length) (h2 : other < own.length)
    (R0 : Reach own (some s) 0 F0) (R1 : Reach own (some s) one F1) : (one ≠ other ∧ other ∉ F1) ↔ ∃ j, j < own.length ∧ j ∉ F0 := by
  have inF : ∀ {i : Nat} {r : List Sg} {x : Sg}, own[i]? = some r → x ∈ r → x ≠ s → ((∃ k ∈ F0, ∃ q, own[k]? = some q ∧ x ∈ q) ↔ i ∈ F0) := by
    intro i r x hr hx hne
    constructor
    · rintro ⟨k, hk, q, hq, hxq⟩
      refine R0.closed k hk i ⟨q, r, hq, hr, ?_⟩
      simp only [adjR, List.any_eq_true, Bool.and_eq_true, decide_eq_true_eq, Bool.not_eq_true', decide_eq_false_iff_not, Option.some.injEq]
      exact ⟨x, hxq, hx, fun e => hne e.symm⟩
    · intro hi; exact ⟨i, hi, r, hr, hx⟩
  constructor
  · rintro ⟨hne, ho⟩
    by_cases h : one ∈ F0
    · refine ⟨other, h2, fun h' => ho ?_⟩
      exact R0.symm R1 h |> fun z => R1.trans R0 z other h'
    · exact ⟨one, h1, h⟩
  · rintro ⟨j, hj, hjF⟩
    apply Classical.byContradiction
    intro hnot
    have same : one = other ∨ other ∈ F1 := by
      by_cases e : one = other
      · exact .inl e
      · right; apply Classical.byContradiction; intro h'; exact hnot ⟨e, h'⟩
    have hs : one ∈ F0 ↔ other ∈ F0 := by
      rcases same with rfl | h'
      · exact Iff.rfl
      · constructor
        · intro h; exact R0.trans R1 h other h'
        · intro h
          obtain ⟨r, hr⟩ : ∃ r, own[other]? = some r := ⟨_, List.getElem?_eq_getElem h2⟩
          -- from other back to one
          have := R1.least (fun k => k ∈ F0 → one ∈ F0) (fun h => h) (fun k l hk hkl hl => hk (R0.closed l hl k (adj_symm hkl))) other h'
          exact this h
    have key := hc (fun x => if x = s then one ∈ F0 else ∃ k ∈ F0, ∃ q, own[k]? = some q ∧ x ∈ q) (by
      intro r hr
      obtain ⟨i, hi, rfl⟩ := List.mem_iff_getElem.1 hr
      have hri : own[i]? = some own[i] := List.getElem?_eq_getElem hi
      have eq : ∀ x ∈ own[i], (if x = s then one ∈ F0 else ∃ k ∈ F0, ∃ q, own[k]? = some q ∧ x ∈ q) ↔ i ∈ F0 := by
        intro x hx
        by_cases e : x = s
        · subst e
          simp only [if_true]
          rcases (hat i own[i] hri).1 hx with e | e
          · rw [e]
          · rw [e]; exact hs
        · simp only [e, if_false]; exact inF hri hx e
      by_cases h : i ∈ F0
      · left; intro x hx; exact (eq x hx).2 h
      · right; intro x hx; exact fun n => h ((eq x hx).1 n))
    have el : ∀ i, i < own.length → ∀ x ∈ own[i]!, True := fun _ _ _ _ => trivial
    have get : ∀ i (hi : i < own.length), ∃ x ∈ own[i], ((if x = s then one ∈ F0 else ∃ k ∈ F0, ∃ q, own[k]? = some q ∧ x ∈ q) ↔ i ∈ F0) := by
      intro i hi
      have hl := h3 own[i] (List.getElem_mem hi)
      obtain ⟨x, hx⟩ : ∃ x, x ∈ own[i] := by
        match own[i], hl with
        | a :: _, _ => exact ⟨a, by simp⟩
      refine ⟨x, hx, ?_⟩
      have hri : own[i]? = some own[i] := List.getElem?_eq_getElem hi
      by_cases e : x = s
      · subst e
        simp only [if_true]
        rcases (hat i own[i] hri).1 hx with e | e
        · rw [e]
        · rw [e]; exact hs
      · simp only [e, if_false]; exact inF hri hx e
    have h0 : 0 < own.length := R0.lt 0 R0.has
    obtain ⟨x0, hx0, e0⟩ := get 0 h0
    obtain ⟨xj, hxj, ej⟩ := get j hj
    rcases key with h | h
    · exact hjF (ej.1 (h own[j] (List.getElem_mem hj) xj hxj))
    · exact h own[0] (List.getElem_mem h0) x0 hx0 (e0.2 R0.has)
theorem places2 {own : List (List Sg)} {s : Sg} (h2 : own.flatten.count s = 2) : ∃ one other, placesN s (idxd 0 own) = [one, other] ∧ one < own.length ∧ other < own.length ∧ ∀ i r, own[i]? = some r → (s ∈ r ↔ i = one ∨ i = other) := by
  have hl := placesN_len s own 0
  rw [h2] at hl
  obtain ⟨one, other, e⟩ : ∃ one other, placesN s (idxd 0 own) = [one, other] := by
    match placesN s (idxd 0 own), hl with
    | [a, b], _ => exact ⟨a, b, rfl⟩
  have hm : ∀ i, i ∈ placesN s (idxd 0 own) ↔ ∃ r, own[i]? = some r ∧ s ∈ r := by
    intro i
    rw [mem_placesN]
    constructor
    · rintro ⟨p, hp, rfl, hs⟩; exact ⟨p.2, mem_idxd.1 hp, hs⟩
    · rintro ⟨r, hr, hs⟩; exact ⟨(i, r), mem_idxd.2 hr, rfl, hs⟩
  have lt : ∀ i, i ∈ placesN s (idxd 0 own) → i < own.length := fun i hi => by
    obtain ⟨r, hr, _⟩ := (hm i).1 hi
    exact (List.getElem?_eq_some_iff.1 hr).1
  refine ⟨one, other, e, lt one (by rw [e]; simp), lt other (by rw [e]; simp), fun i r hr => ?_⟩
  constructor
  · intro hs
    have := (hm i).2 ⟨r, hr, hs⟩
    rw [e] at this; simpa using this
  · intro h
    have hi : i ∈ placesN s (idxd 0 own) := by rw [e]; simpa using h
    obtain ⟨r', hr', hs⟩ := (hm i).1 hi
    rw [hr] at hr'; cases hr'; exact hs
def PlacesOk (φ : Phi) : Prop := ∀ (own : List (List Sg)) (s : Sg), (∀ r ∈ own, r.length = 3) → own.length ≤ 100 → φ (z "places_of") [webD false own, .str s] = some (.lst true ((placesN s (idxd 0 own)).map nD), [some (webD false own), some (.str s)])
theorem isbridge_ok {u : Nat} {φ : Phi} (Po : PlacesOk φ) (Ro : ReachedOk φ) (own : List (List Sg)) (s : Sg) (h3 : ∀ r ∈ own, r.length = 3) (hl : own.length ≤ 50) (h2 : own.flatten.count s = 2) :
    ∃ (one other : Nat) (F1 : List Nat), one < own.length ∧ other < own.length ∧ (∀ i r, own[i]? = some r → (s ∈ r ↔ i = one ∨ i = other)) ∧ Reach own (some s) one F1 ∧
      callDK u φ fIsBridge [webD false own, .str s] = some (.bl (decide (one ≠ other ∧ other ∉ F1)), [some (webD false own), some (.str s)]) := by
  obtain ⟨one, other, e, l1, l2, hat⟩ := places2 h2
  obtain ⟨F1, R1, e2⟩ := Ro none own one (some s) hl (fun r hr => by have := h3 r hr; omega) l1
  refine ⟨one, other, F1, l1, l2, hat, R1, ?_⟩
  have e1 := Po own s h3 (by omega)
  rw [e] at e1
  have e2' : φ (z "reached") [.tup (own.map rowD), nD one, .str s] = some (.lst true (F1.map nD), [some (.tup (own.map rowD)), some (nD one), some (.str s)]) := e2
  have e3 := in_nats true other F1
  by_cases h : one = other
  · subst h
    simp [callDK, execsK, execK, denK, denAK, denAnK, getV, fIsBridge, e1]
  · have hi : ¬ (one : Int) = (other : Int) := by omega
    by_cases h' : other ∈ F1
    · simp only [h', decide_true] at e3
      simp [callDK, execsK, execK, denK, denAK, denAnK, getV, fIsBridge, e1, e2', e3, h, hi, h', lk_junc]
    · simp only [h', decide_false] at e3
      simp [callDK, execsK, execK, denK, denAK, denAnK, getV, fIsBridge, e1, e2', e3, h, hi, h', lk_junc]
end Vi.B
end
section
set_option maxRecDepth 100000
/-! Bq: the pieces of a web without a road, by a law's own walks. -/
namespace Vi.B
open Vi L2
def piL : Ss := match fPieces.body with | .cons _ (.cons (.forr _ _ s) _) => s | _ => .nil
def piW : Ss := match piL with | .cons _ (.cons _ (.cons (.whl _ s) _)) => s | _ => .nil
def piI : Ss := match piW with | .cons _ (.cons (.forr _ _ s) _) => s | _ => .nil
abbrev barD (o : Bool) (s : Sg) : D := .lst o [.str s]
abbrev pEnv (k : Bool) (own : List (List Sg)) (B : D) (fnd st : Option D) (F T : List Nat) (row a n : Option D) : Ev :=
  [some (ownD k own), some B, fnd, st, some (.lst true (F.map nD)), some (.lst true (T.map nD)), row, a, n, none]
theorem notin_bar (o : Bool) (x s : Sg) : inOp (.str x) (barD o s) = some (decide (s = x)) := by
  have h : (D.str x).own = false := rfl
  simp only [inOp, flatD, List.all_cons, List.all_nil, Bool.and_self, if_true, List.any_cons, List.any_nil, Bool.or_false, eqD, Bool.beq_eq_decide_eq]
def cAnyP : E := .comp (.an (.cons false (.op .isin (.cons false (.var 9) (.cons false (.var 8) .nil))) (.cons false (.op .notin (.cons false (.var 9) (.cons false (.var 1) .nil))) .nil))) (.v 9) (.val (.var 6)) .nil [9]
theorem cAnyP_ok {φ : Phi} (k o : Bool) (own : List (List Sg)) (s : Sg) (fnd st : Option D) (F T : List Nat) (a : Option D) (hr r : List Sg) (hl : hr.length ≤ 1000) :
    denK φ cAnyP (pEnv k own (barD o s) fnd st F T (some (rowD hr)) a (some (rowD r))) = some (.lst true (hr.map fun x => .bl (decide (x ∈ r) && !(decide (some s = some x)))), pEnv k own (barD o s) fnd st F T (some (rowD hr)) a (some (rowD r))) := by
  have hI : denIK φ (.val (.var 6)) (pEnv k own (barD o s) fnd st F T (some (rowD hr)) a (some (rowD r))) = some (hr.map .str, none, pEnv k own (barD o s) fnd st F T (some (rowD hr)) a (some (rowD r))) := by
    simp [denIK, denK, getV]
  have hb := compL_mapA (body := fun x e => (bindT [] (.v 9) x e).bind fun e1 => (denAlK φ .nil e1).bind fun b => if b.1 then (denK φ (.an (.cons false (.op .isin (.cons false (.var 9) (.cons false (.var 8) .nil))) (.cons false (.op .notin (.cons false (.var 9) (.cons false (.var 1) .nil))) .nil))) b.2).map fun y => (some y.1.frz, wipeE y.2 [9]) else some (none, wipeE b.2 [9])) (.str : Sg → D) (fun x => D.bl (decide (x ∈ r) && !(decide (some s = some x))))
    (env := pEnv k own (barD o s) fnd st F T (some (rowD hr)) a (some (rowD r))) hr [] (by
      intro x hx
      have e1 := notin_bar o x s
      by_cases h1 : x ∈ r <;> simp [denAlK, denK, denAK, denAnK, getV, in_strs, e1, h1]) (by rw [ln_eq]; simp; omega)
  unfold cAnyP
  rw [denK, hI]
  simp only [Option.bind_some, wipeE_cons, wipeE_nil, List.set_cons_succ, List.set_cons_zero]
  simp only [wipeE_cons, wipeE_nil] at hb
  rw [hb]; rfl
theorem piI_ok {u : Nat} {φ : Phi} {pin : List Nat} (k o : Bool) (own : List (List Sg)) (s : Sg) (fnd st : Option D) (F T : List Nat) (i : Nat) (a n : Option D) (hr r : List Sg) (hl : hr.length ≤ 1000) (p7 : 7 ∉ pin) (p8 : 8 ∉ pin) (hF : F.length ≤ 1000) (hT : T.length ≤ 1000) :
    ((bindT pin (.t (.cons (.v 7) (.cons (.v 8) .nil))) (.tup [nD i, rowD r]) (pEnv k own (barD o s) fnd st F T (some (rowD hr)) a n)).bind fun e => execsK u φ pin piI e) =
      some (.nx, pEnv k own (barD o s) fnd st (if i ∉ F ∧ adjR (some s) hr r = true then F ++ [i] else F) (if i ∉ F ∧ adjR (some s) hr r = true then T ++ [i] else T) (some (rowD hr)) (some (nD i)) (some (rowD r))) := by
  have hC := cAnyP_ok (φ := φ) k o own s fnd st F T (some (nD i)) hr r hl
  have hpk : ∀ env r, pk cAnyP env r = r.map fun q => (.v q.1, q.2) := fun _ _ => rfl
  have e2 := allB_map (hr.map fun x => (decide (x ∈ r) && !(decide (some s = some x))))
  rw [List.map_map] at e2
  have e3 : (hr.map fun x => (decide (x ∈ r) && !(decide (some s = some x)))).any id = adjR (some s) hr r := by simp [adjR, List.any_map]
  have hf : piI = .cons (.iff (.an (.cons false (.op .notin (.cons false (.var 7) (.cons false (.var 4) .nil))) (.cons false (.op .any (.cons false cAnyP .nil)) .nil))) (.cons (.exp (.mut .append 4 (.cons false (.var 7) .nil))) (.cons (.exp (.mut .append 5 (.cons false (.var 7) .nil))) .nil)) .nil) .nil := rfl
  have e4 : boolsOp (fun bs => bs.any id) (.lst true (hr.map fun x => D.bl (decide (x ∈ r) && !(decide (some s = some x))))) = some (.bl (adjR (some s) hr r)) := by
    rw [bools_lst, show (hr.map fun x => D.bl (decide (x ∈ r) && !(decide (some s = some x)))) = hr.map (D.bl ∘ fun x => (decide (x ∈ r) && !(decide (some s = some x)))) from rfl, e2]
    simp only [Option.map_some, e3]
  generalize (D.lst true (hr.map fun x => D.bl (decide (x ∈ r) && !(decide (some s = some x))))) = Z at hC e4
  rw [hf]
  by_cases h1 : i ∈ F
  · simp [execsK, execK, denK, denAK, denAnK, denTK, getV, p7, p8, in_nats, h1]
  · by_cases h2 : adjR (some s) hr r = true
    · simp [execsK, execK, denK, denAK, denAnK, denFK, denTK, getV, p7, p8, in_nats, h1, h2, hpk, hC, e4, show F.length ≤ 1000000 by omega, show T.length ≤ 1000000 by omega, -bools_lst]
    · simp [execsK, execK, denK, denAK, denAnK, denFK, denTK, getV, p7, p8, in_nats, h1, h2, hpk, hC, e4, -bools_lst]
theorem lookP_ok {u : Nat} {φ : Phi} {pin : List Nat} (k o : Bool) (own : List (List Sg)) (s : Sg) (fnd st : Option D) (F T : List Nat) (h : Nat) (a n : Option D) (hr : List Sg) (hh : own[h]? = some hr) (hl : hr.length ≤ 1000) (p7 : 7 ∉ pin) (p8 : 8 ∉ pin) (hown : own.length ≤ 100) (hF : F.length ≤ 500) (hT : T.length ≤ 500) :
    ∃ (N : List Nat) (a' n' : Option D), N.Nodup ∧ (∀ j, j ∈ N ↔ j ∉ F ∧ Adj own (some s) h j) ∧
      forL (fun x e => (bindT pin (.t (.cons (.v 7) (.cons (.v 8) .nil))) x e).bind fun e => execsK u φ pin piI e) (numbered 0 (own.map rowD)) (pEnv k own (barD o s) fnd st F T (some (rowD hr)) a n) =
        some (.nx, pEnv k own (barD o s) fnd st (F ++ N) (T ++ N) (some (rowD hr)) a' n') := by
  obtain ⟨env', e, N, a', n', nd, hm, hb, rfl⟩ := forL_rel (body := fun x e => (bindT pin (.t (.cons (.v 7) (.cons (.v 8) .nil))) x e).bind fun e => execsK u φ pin piI e) (fun p : Nat × List Sg => D.tup [nD p.1, rowD p.2])
    (fun done env => ∃ (N : List Nat) (a' n' : Option D), N.Nodup ∧ (∀ j, j ∈ N ↔ j ∉ F ∧ j < done.length ∧ Adj own (some s) h j) ∧ N.length ≤ done.length ∧ env = pEnv k own (barD o s) fnd st (F ++ N) (T ++ N) (some (rowD hr)) a' n') (idxd 0 own) []
    (pEnv k own (barD o s) fnd st F T (some (rowD hr)) a n) (by
      rintro done ⟨i, r⟩ rest env he ⟨N, a', n', nd, hm, hlen, rfl⟩
      simp only [List.nil_append] at he
      obtain ⟨h1, h2⟩ := idxd_mid he
      simp only at h1 h2
      have hdl := congrArg List.length he
      simp only [List.length_append, List.length_cons, idxd_len] at hdl
      have e := piI_ok (u := u) (φ := φ) (pin := pin) k o own s fnd st (F ++ N) (T ++ N) i a' n' hr r hl p7 p8 (by simp only [List.length_append]; omega) (by simp only [List.length_append]; omega)
      have hadj : Adj own (some s) h i ↔ adjR (some s) hr r = true := by
        constructor
        · rintro ⟨r1, q, e1, e2, e3⟩
          rw [hh] at e1; rw [h1, h2] at e2; cases e1; cases e2; exact e3
        · intro e3; exact ⟨hr, r, hh, by rw [h1]; exact h2, e3⟩
      have hiN : i ∉ N := fun hi => by have := ((hm i).1 hi).2.1; omega
      by_cases hc : i ∉ F ++ N ∧ adjR (some s) hr r = true
      · rw [if_pos hc, if_pos hc] at e
        refine ⟨_, e, N ++ [i], some (nD i), some (rowD r), ?_, ?_, ?_, by simp only [List.append_assoc]⟩
        · rw [List.nodup_append]
          refine ⟨nd, by simp, ?_⟩
          intro x hx y hy e9
          simp only [List.mem_singleton] at hy
          exact hiN (by rw [← hy, ← e9]; exact hx)
        · intro j
          simp only [List.mem_append, List.mem_singleton, hm, List.length_append, List.length_cons, List.length_nil]
          constructor
          · rintro (⟨g1, g2, g3⟩ | rfl)
            · exact ⟨g1, by omega, g3⟩
            · exact ⟨fun g => hc.1 (List.mem_append_left _ g), by omega, hadj.2 hc.2⟩
          · rintro ⟨g1, g2, g3⟩
            by_cases hj : j = i
            · exact .inr hj
            · exact .inl ⟨g1, by omega, g3⟩
        · simp only [List.length_append, List.length_cons, List.length_nil]; omega
      · rw [if_neg hc, if_neg hc] at e
        refine ⟨_, e, N, some (nD i), some (rowD r), nd, ?_, ?_, rfl⟩
        · intro j
          simp only [hm, List.length_append, List.length_cons, List.length_nil]
          constructor
          · rintro ⟨g1, g2, g3⟩; exact ⟨g1, by omega, g3⟩
          · rintro ⟨g1, g2, g3⟩
            refine ⟨g1, ?_, g3⟩
            by_cases hj : j = i
            · subst hj
              exact absurd ⟨by simp only [List.mem_append, not_or]; exact ⟨g1, hiN⟩, hadj.1 g3⟩ hc
            · omega
        · simp only [List.length_append, List.length_cons, List.length_nil]; omega) ⟨[], a, n, by simp, by simp, by simp, by simp⟩
  rw [← numbered_idxd] at e
  refine ⟨N, a', n', nd, ?_, e⟩
  intro j
  rw [hm]
  simp only [List.nil_append, idxd_len]
  constructor
  · rintro ⟨g1, _, g3⟩; exact ⟨g1, g3⟩
  · rintro ⟨g1, g3⟩
    exact ⟨g1, g3.lt, g3⟩
theorem whlP_ok {u : Nat} {φ : Phi} {pin : List Nat} (o : Bool) (own : List (List Sg)) (s : Sg) (fnd st : Option D) (first : Nat) (hown : own.length ≤ 100) (hrow : ∀ r ∈ own, r.length ≤ 1000) (p6 : 6 ∉ pin) (p7 : 7 ∉ pin) (p8 : 8 ∉ pin) : ∀ (fuel : Nat) (k : Bool) (F T : List Nat) (row a n : Option D), RInv own (some s) first F T → T.length + (own.length - F.length) < fuel →
    ∃ (F' : List Nat) (k' : Bool) (row' a' n' : Option D), Reach own (some s) first F' ∧
      whlL (denTK φ (.op .ne (.cons false (.var 5) (.cons false (.lst .nil) .nil)))) (execsK u φ pin piW) fuel (pEnv k own (barD o s) fnd st F T row a n) = some (.nx, pEnv k' own (barD o s) fnd st F' [] row' a' n')
  | 0, k, F, T, row, a, n, R, hf => absurd hf (Nat.not_lt_zero _)
  | fuel + 1, k, F, T, row, a, n, R, hf => by
    by_cases hT : T = []
    · subst hT
      refine ⟨F, k, row, a, n, ⟨R.nodup, R.lt, R.has, fun i hi => R.closed i hi (by simp), R.least⟩, ?_⟩
      have := eq_nil_nats true true []
      simp only [List.map_nil] at this
      simp [whlL, denTK, denK, denAK, denFK, getV, this]
    · obtain ⟨T0, x, rfl⟩ : ∃ T0 x, T = T0 ++ [x] := ⟨T.dropLast, T.getLast hT, (List.dropLast_concat_getLast hT).symm⟩
      have hx := R.sub x (by simp)
      have hxl := R.lt x hx
      obtain ⟨hr, hh⟩ : ∃ hr, own[x]? = some hr := ⟨own[x]'hxl, List.getElem?_eq_getElem hxl⟩
      have hrl := hrow hr (List.mem_of_getElem? hh)
      have fl := nodup_len R.nodup R.lt
      have tl := nodup_len R.tnd fun i hi => R.lt i (R.sub i hi)
      simp only [List.length_append, List.length_cons, List.length_nil] at tl hf
      obtain ⟨N, a', n', nd, hm, e⟩ := lookP_ok (u := u) (φ := φ) (pin := pin) false o own s fnd st F T0 x a n hr hh hrl p7 p8 hown (by omega) (by omega)
      have R2 := R.step nd hm
      have fl2 := nodup_len R2.nodup R2.lt
      simp only [List.length_append] at fl2
      obtain ⟨F', k', row', a2, n2, RR, e2⟩ := whlP_ok o own s fnd st first hown hrow p6 p7 p8 fuel false (F ++ N) (T0 ++ N) (some (rowD hr)) a' n' R2 (by simp only [List.length_append]; omega)
      refine ⟨F', k', row', a2, n2, RR, ?_⟩
      have c1 := eq_nil_nats true true (T0 ++ [x])
      have c2 : ¬ (T0 ++ [x] = []) := by simp
      have e1 : atI (own.map rowD) (x : Int) = some (rowD hr) := by
        simp only [atI, ixN, List.length_map]
        rw [if_pos (by omega), if_pos (by omega)]
        simp [hh]
      have hf : piW = match piW with | .cons y (.cons (.forr a b _) c) => .cons y (.cons (.forr a b piI) c) | _ => .nil := rfl
      have b1 : execsK u φ pin piW (pEnv k own (barD o s) fnd st F (T0 ++ [x]) row a n) = some (.nx, pEnv false own (barD o s) fnd st (F ++ N) (T0 ++ N) (some (rowD hr)) a' n') := by
        rw [hf]
        simp only [piW, piL, fPieces]
        simp [execsK, execK, denK, denAK, denFK, denIK, getV, p6, e1, e, bindT_ok, -bindT_v, -bindT_t]
      rw [whlL]
      have t1 : denTK φ (.op .ne (.cons false (.var 5) (.cons false (.lst .nil) .nil))) (pEnv k own (barD o s) fnd st F (T0 ++ [x]) row a n) = some (true, pEnv k own (barD o s) fnd st F (T0 ++ [x]) row a n) := by
        simp [denTK, denK, denAK, denFK, getV]
        rw [show (T0.map nD ++ [D.int (x : Int)]) = (T0 ++ [x]).map nD by simp, c1]
        simp
      rw [t1]
      simp only [Option.bind_some, if_true]
      rw [b1]
      exact e2
end Vi.B
end
section
set_option maxRecDepth 100000
/-! Br: pieces, the whole; bridges; what is due. -/
namespace Vi.B
open Vi L2
theorem insI_perm (x : Int) : ∀ l : List Int, (insI x l).Perm (x :: l)
  | [] => .refl _
  | y :: l => by
    simp only [insI]
    split
    · exact (List.Perm.cons y (insI_perm x l)).trans (List.Perm.swap x y l)
    · exact .refl _
theorem srtI_perm : ∀ l : List Int, (srtI l).Perm l
  | [] => .refl _
  | x :: l => (insI_perm x _).trans (.cons x (srtI_perm l))
abbrev lotD (l : List Int) : D := .lst false (l.map .int)
theorem forL_relc {α : Type} {body : D → Ev → Option (Fl × Ev)} (d : α → D) (P : List α → Ev → Prop) : ∀ (rest done : List α) (env : Ev),
    (∀ done' x rest' env, done' ++ x :: rest' = done ++ rest → P done' env → ∃ env', (body (d x) env = some (.nx, env') ∨ body (d x) env = some (.ct, env')) ∧ P (done' ++ [x]) env') → P done env →
    ∃ env', forL body (rest.map d) env = some (.nx, env') ∧ P (done ++ rest) env'
  | [], done, env, _, h => ⟨env, rfl, by simpa using h⟩
  | x :: rest, done, env, step, h => by
    obtain ⟨env1, h1, p1⟩ := step done x rest env rfl h
    obtain ⟨env2, h2, p2⟩ := forL_relc d P rest (done ++ [x]) env1 (fun done' y rest' e he hp => step done' y rest' e (by simpa using he) hp) p1
    refine ⟨env2, ?_, by simpa using p2⟩
    rcases h1 with h1 | h1 <;> (simp only [List.map_cons, forL, h1, Option.bind_some]; exact h2)
structure LInv (own : List (List Sg)) (b : Option Sg) (n : Nat) (lots : List (List Int)) : Prop where
  cov : ∀ i : Nat, i < n → ∃ l ∈ lots, (i : Int) ∈ l
  len : lots.length ≤ n
  fst : 0 < n → ∃ l0 rest F0, lots = l0 :: rest ∧ Reach own b 0 F0 ∧ (∀ i : Nat, (i : Int) ∈ l0 ↔ i ∈ F0) ∧ ∀ l ∈ rest, ∃ j : Nat, j < own.length ∧ (j : Int) ∈ l ∧ j ∉ F0
def cStart : E := .comp (.op .isin (.cons false (.var 3) (.cons false (.var 4) .nil))) (.v 4) (.val (.var 2)) .nil [4]
theorem cStart_ok {φ : Phi} (A B : Option D) (lots : List (List Int)) (i : Nat) (v4 v5 v6 v7 v8 v9 : Option D) (hl : lots.length ≤ 1000) :
    denK φ cStart [A, B, some (.lst true (lots.map lotD)), some (nD i), v4, v5, v6, v7, v8, v9] = some (.lst true (lots.map fun l => .bl (decide ((i : Int) ∈ l))), [A, B, some (.lst true (lots.map lotD)), some (nD i), none, v5, v6, v7, v8, v9]) := by
  have hI : denIK φ (.val (.var 2)) [A, B, some (.lst true (lots.map lotD)), some (nD i), v4, v5, v6, v7, v8, v9] = some (lots.map lotD, some (2, .lst true (lots.map lotD)), [A, B, none, some (nD i), v4, v5, v6, v7, v8, v9]) := by
    simp [denIK, denK, getV]
  have hb := compL_mapA (body := fun x e => (bindT [] (.v 4) x e).bind fun e1 => (denAlK φ .nil e1).bind fun b => if b.1 then (denK φ (.op .isin (.cons false (.var 3) (.cons false (.var 4) .nil))) b.2).map fun y => (some y.1.frz, wipeE y.2 [4]) else some (none, wipeE b.2 [4])) lotD (fun l => D.bl (decide ((i : Int) ∈ l)))
    (env := [A, B, none, some (nD i), none, v5, v6, v7, v8, v9]) lots [] (by
      intro l hl
      have e1 := in_ints false (i : Int) l
      simp [denAlK, denK, denAK, getV, e1]) (by rw [ln_eq]; simp; omega)
  unfold cStart
  rw [denK, hI]
  simp only [Option.bind_some, wipeE_cons, wipeE_nil, List.set_cons_succ, List.set_cons_zero]
  simp only [wipeE_cons, wipeE_nil] at hb
  rw [hb]; rfl
theorem piL_ok {u : Nat} {φ : Phi} {pin : List Nat} (k o : Bool) (own : List (List Sg)) (s : Sg) (lots : List (List Int)) (i : Nat) (v3 v4 v5 v6 v7 v8 : Option D) (hown : own.length ≤ 50) (hrow : ∀ r ∈ own, r.length ≤ 1000) (hi : i < own.length) (I : LInv own (some s) i lots) (hp : ∀ j ∈ pin, j < 2) (hu : 55 ≤ u) :
    ∃ (k' : Bool) (lots' : List (List Int)) (w4 w5 w6 w7 w8 : Option D) (fl : Fl), (fl = .nx ∨ fl = .ct) ∧ LInv own (some s) (i + 1) lots' ∧
      ((bindT pin (.v 3) (.int (0 + (i : Nat))) [some (ownD k own), some (barD o s), some (.lst true (lots.map lotD)), v3, v4, v5, v6, v7, v8, none]).bind fun e => execsK u φ pin piL e) =
        some (fl, [some (ownD k' own), some (barD o s), some (.lst true (lots'.map lotD)), some (nD i), w4, w5, w6, w7, w8, none]) := by
  have n : ∀ j, 2 ≤ j → j ∉ pin := fun j hj hm => by have := hp j hm; omega
  have ll := I.len
  have hC := cStart_ok (φ := φ) (some (ownD k own)) (some (barD o s)) lots i v4 v5 v6 v7 v8 none (by omega)
  have hpk : ∀ env r, pk cStart env r = r.map fun q => (.v q.1, q.2) := fun _ _ => rfl
  have e2 := allB_map (lots.map fun l => decide ((i : Int) ∈ l))
  rw [List.map_map] at e2
  have e4 : boolsOp (fun bs => bs.any id) (.lst true (lots.map fun l => D.bl (decide ((i : Int) ∈ l)))) = some (.bl (lots.any fun l => decide ((i : Int) ∈ l))) := by
    rw [bools_lst, show (lots.map fun l => D.bl (decide ((i : Int) ∈ l))) = lots.map (D.bl ∘ fun l => decide ((i : Int) ∈ l)) from rfl, e2]
    simp [List.any_map, Function.comp_def]
  generalize (D.lst true (lots.map fun l => D.bl (decide ((i : Int) ∈ l)))) = Z at hC e4
  have hf : piL = match piL with | .cons (.iff _ a b) (.cons y (.cons (.whl c _) r)) => .cons (.iff (.op .any (.cons false cStart .nil)) a b) (.cons y (.cons (.whl c piW) r)) | _ => .nil := rfl
  rw [hf]
  simp only [piL, fPieces]
  by_cases hc : (lots.any fun l => decide ((i : Int) ∈ l)) = true
  · rw [hc] at e4
    have hc2 : ∃ l ∈ lots, (i : Int) ∈ l := by simpa using hc
    refine ⟨k, lots, none, v5, v6, v7, v8, .ct, .inr rfl, ⟨?_, by omega, ?_⟩, ?_⟩
    · intro j hj
      by_cases e : j = i
      · rw [e]; exact hc2
      · exact I.cov j (by omega)
    · intro _
      by_cases h0 : 0 < i
      · exact I.fst h0
      · have : lots = [] := List.eq_nil_of_length_eq_zero (by omega)
        obtain ⟨l, hl, _⟩ := hc2
        rw [this] at hl; cases hl
    · simp [execsK, execK, denK, denAK, denTK, getV, n, hpk, hC, e4, -bools_lst]
  · have hcf : (lots.any fun l => decide ((i : Int) ∈ l)) = false := by simpa using hc
    rw [hcf] at e4
    have R0 : RInv own (some s) i [i] [i] := ⟨by simp, by simp, by simp, by simpa using hi, by simp, by intro j hj hn; exact absurd hj hn, by intro C c0 _ j hj; simp only [List.mem_singleton] at hj; exact hj ▸ c0⟩
    obtain ⟨F', k', row', a', n', RR, e⟩ := whlP_ok (u := u) (φ := φ) (pin := pin) o own s (some (.lst true (lots.map lotD))) (some (nD i)) i (by omega) hrow (n 6 (by decide)) (n 7 (by decide)) (n 8 (by decide)) u k [i] [i] v6 v7 v8 R0 (by simp; omega)
    have e' : whlL (denTK φ (.op .ne (.cons false (.var 5) (.cons false (.lst .nil) .nil)))) (execsK u φ pin piW) u [some (ownD k own), some (barD o s), some (.lst true (lots.map lotD)), some (nD i), some (.lst true [nD i]), some (.lst true [nD i]), v6, v7, v8, none] = _ := e
    have hs : sortOp (.lst true (F'.map nD)) = some (.lst true ((srtI (F'.map fun j : Nat => (j : Int))).map .int)) := by
      have : allI (F'.map nD) = some (F'.map fun j : Nat => (j : Int)) := by
        rw [show F'.map nD = (F'.map fun j : Nat => (j : Int)).map .int by simp, allI_map]
      simp only [sortOp, this]
    have hmem : ∀ j : Nat, (j : Int) ∈ srtI (F'.map fun j : Nat => (j : Int)) ↔ j ∈ F' := by
      intro j
      rw [(srtI_perm _).mem_iff, List.mem_map]
      constructor
      · rintro ⟨q, hq, e⟩; have : q = j := by omega
        exact this ▸ hq
      · intro h; exact ⟨j, h, rfl⟩
    generalize srtI (F'.map fun j : Nat => (j : Int)) = l at hs hmem
    have hnone : ∀ q ∈ lots, (i : Int) ∉ q := by
      intro q hq hm
      have := List.any_eq_false.1 hcf q hq
      simp [hm] at this
    refine ⟨k', lots ++ [l], some (.lst true (F'.map nD)), some (.lst true []), row', a', n', .nx, .inl rfl, ⟨?_, by simp only [List.length_append, List.length_cons, List.length_nil]; omega, ?_⟩, ?_⟩
    · intro j hj
      by_cases e : j = i
      · exact ⟨l, by simp, by rw [e]; exact (hmem i).2 RR.has⟩
      · obtain ⟨q, hq, hm⟩ := I.cov j (by omega)
        exact ⟨q, List.mem_append_left _ hq, hm⟩
    · intro _
      by_cases h0 : 0 < i
      · obtain ⟨l0, rest, F0, rfl, R00, hm0, hr⟩ := I.fst h0
        refine ⟨l0, rest ++ [l], F0, by simp, R00, hm0, ?_⟩
        intro q hq
        rcases List.mem_append.1 hq with hq | hq
        · exact hr q hq
        · simp only [List.mem_singleton] at hq; subst hq
          exact ⟨i, hi, (hmem i).2 RR.has, fun h => hnone l0 (by simp) ((hm0 i).2 h)⟩
      · have hi0 : i = 0 := by omega
        subst hi0
        have : lots = [] := List.eq_nil_of_length_eq_zero (by omega)
        subst this
        exact ⟨l, [], F', by simp, RR, hmem, by simp⟩
    · simp [execsK, execK, denK, denAK, denFK, denOK, denTK, getV, n, hpk, hC, e4, e', hs, show lots.length ≤ 1000000 by omega, -bools_lst]
theorem pieces_ok {u : Nat} {φ : Phi} (o o2 : Bool) (own : List (List Sg)) (s : Sg) (hown : own.length ≤ 50) (hrow : ∀ r ∈ own, r.length ≤ 1000) (h0 : 0 < own.length) (hu : 55 ≤ u) :
    ∃ (lots : List (List Int)) (F0 : List Nat) (k : Bool), Reach own (some s) 0 F0 ∧ (1 < lots.length ↔ ∃ j, j < own.length ∧ j ∉ F0) ∧ lots.length ≤ 1000 ∧
      callDK u φ fPieces [ownD o own, barD o2 s] = some (.lst true (lots.map lotD), [some (ownD k own), some (barD o2 s)]) := by
  have key : ∀ pin : List Nat, (∀ j ∈ pin, j < 2) → ∃ (k' : Bool) (lots' : List (List Int)) (v3 v4 v5 v6 v7 v8 : Option D), LInv own (some s) own.length lots' ∧
      forL (fun x e => (bindT pin (.v 3) x e).bind fun e => execsK u φ pin piL e) (rangeD 0 (own.length : Int)) [some (ownD o own), some (barD o2 s), some (.lst true []), none, none, none, none, none, none, none] =
        some (.nx, [some (ownD k' own), some (barD o2 s), some (.lst true (lots'.map lotD)), v3, v4, v5, v6, v7, v8, none]) := by
    intro pin hp
    obtain ⟨env', h, k', lots', v3, v4, v5, v6, v7, v8, I, rfl⟩ := forL_relc (body := fun x e => (bindT pin (.v 3) x e).bind fun e => execsK u φ pin piL e) (fun k : Nat => D.int (0 + (k : Nat)))
      (fun done env => ∃ (k' : Bool) (lots' : List (List Int)) (v3 v4 v5 v6 v7 v8 : Option D), LInv own (some s) done.length lots' ∧ env = [some (ownD k' own), some (barD o2 s), some (.lst true (lots'.map lotD)), v3, v4, v5, v6, v7, v8, none]) (List.range ((own.length : Int) - 0).toNat) []
      [some (ownD o own), some (barD o2 s), some (.lst true []), none, none, none, none, none, none, none] (by
        rintro done i rest env he ⟨k1, lots, v3, v4, v5, v6, v7, v8, I, rfl⟩
        simp only [List.nil_append] at he
        have hlen := congrArg List.length he
        simp only [List.length_append, List.length_cons, List.length_range] at hlen
        have hi : i = done.length := by
          have h1 : (List.range ((own.length : Int) - 0).toNat)[done.length]? = some i := by rw [← he]; simp
          rw [List.getElem?_range (by omega)] at h1
          exact (Option.some.inj h1).symm
        subst hi
        obtain ⟨k2, lots2, w4, w5, w6, w7, w8, fl, hfl, I2, e⟩ := piL_ok (u := u) (φ := φ) (pin := pin) k1 o2 own s lots done.length v3 v4 v5 v6 v7 v8 hown hrow (by omega) I hp hu
        refine ⟨_, ?_, k2, lots2, some (nD done.length), w4, w5, w6, w7, w8, by simpa using I2, rfl⟩
        rcases hfl with rfl | rfl
        · exact .inl e
        · exact .inr e) ⟨o, [], none, none, none, none, none, none, ⟨by intro i hi; simp at hi, by simp, by intro h; simp at h⟩, rfl⟩
    have en : ((own.length : Int) - 0).toNat = own.length := by omega
    simp only [List.nil_append, List.length_range, en] at I
    exact ⟨k', lots', v3, v4, v5, v6, v7, v8, I, h⟩
  have sm := small_nat (n := own.length) (by omega)
  have hff : fPieces = ⟨2, 10, match fPieces.body with | .cons x (.cons (.forr a b _) r) => .cons x (.cons (.forr a b piL) r) | _ => .nil⟩ := rfl
  have fin : ∀ lots, LInv own (some s) own.length lots → ∃ F0, Reach own (some s) 0 F0 ∧ (1 < lots.length ↔ ∃ j, j < own.length ∧ j ∉ F0) := by
    intro lots I
    obtain ⟨l0, rest, F0, rfl, R0, hm, hr⟩ := I.fst h0
    refine ⟨F0, R0, ?_⟩
    constructor
    · intro h
      match rest, hr, h with
      | q :: r, hr, _ =>
        obtain ⟨j, hj, _, hn⟩ := hr q (by simp)
        exact ⟨j, hj, hn⟩
      | [], _, h => simp at h
    · rintro ⟨j, hj, hn⟩
      obtain ⟨q, hq, hjq⟩ := I.cov j hj
      rcases List.mem_cons.1 hq with rfl | hq
      · exact absurd ((hm j).1 hjq) hn
      · match rest, hq with
        | a :: r, _ => simp
  rw [hff]
  simp only [fPieces]
  cases o <;> cases o2
  · obtain ⟨k', lots, v3, v4, v5, v6, v7, v8, I, h⟩ := key [] (by simp)
    obtain ⟨F0, R0, hb⟩ := fin lots I
    refine ⟨lots, F0, k', R0, hb, by have := I.len; omega, ?_⟩
    simp [callDK, execsK, execK, denK, denAK, denFK, denIK, getV, sm, h, bindT_ok, -bindT_v]
  · obtain ⟨k', lots, v3, v4, v5, v6, v7, v8, I, h⟩ := key [1] (by simp)
    obtain ⟨F0, R0, hb⟩ := fin lots I
    refine ⟨lots, F0, k', R0, hb, by have := I.len; omega, ?_⟩
    simp [callDK, execsK, execK, denK, denAK, denFK, denIK, getV, sm, h, bindT_ok, -bindT_v]
  · obtain ⟨k', lots, v3, v4, v5, v6, v7, v8, I, h⟩ := key [0] (by simp)
    obtain ⟨F0, R0, hb⟩ := fin lots I
    refine ⟨lots, F0, k', R0, hb, by have := I.len; omega, ?_⟩
    simp [callDK, execsK, execK, denK, denAK, denFK, denIK, getV, sm, h, bindT_ok, -bindT_v]
  · obtain ⟨k', lots, v3, v4, v5, v6, v7, v8, I, h⟩ := key [0, 1] (by simp)
    obtain ⟨F0, R0, hb⟩ := fin lots I
    refine ⟨lots, F0, k', R0, hb, by have := I.len; omega, ?_⟩
    simp [callDK, execsK, execK, denK, denAK, denFK, denIK, getV, sm, h, bindT_ok, -bindT_v]
end Vi.B
end
section
set_option maxRecDepth 100000
/-! Bs: the bridges, by both; what is just due. -/
namespace Vi.B
open Vi L2
def IsBr (own : List (List Sg)) (s : Sg) : Prop := ∃ F0, Reach own (some s) 0 F0 ∧ ∃ j, j < own.length ∧ j ∉ F0
open Classical in
noncomputable def brB (own : List (List Sg)) (s : Sg) : Bool := decide (IsBr own s)
noncomputable def brOf (own : List (List Sg)) : List Sg := (innerOf own).filter (brB own)
theorem mem_inner {own : List (List Sg)} {s : Sg} (h : s ∈ innerOf own) : own.flatten.count s = 2 := by
  have := (mem_withN (xs := own.flatten) (s := s) (n := 2) (by decide)).1 ((srtS_perm _).mem_iff.1 h)
  omega
def BridgeOk (φ : Phi) : Prop := ∀ (own : List (List Sg)) (s : Sg), WebT own → own.length ≤ 50 → 0 < own.length → own.flatten.count s = 2 → φ (z "is_bridge") [webD false own, .str s] = some (.bl (brB own s), [some (webD false own), some (.str s)])
theorem bridge_ok {u : Nat} {φ : Phi} (Po : PlacesOk φ) (Ro : ReachedOk φ) (own : List (List Sg)) (s : Sg) (W : WebT own) (hl : own.length ≤ 50) (h0 : 0 < own.length) (h2 : own.flatten.count s = 2) :
    callDK u φ fIsBridge [webD false own, .str s] = some (.bl (brB own s), [some (webD false own), some (.str s)]) := by
  obtain ⟨one, other, F1, l1, l2, hat, R1, e⟩ := isbridge_ok (u := u) Po Ro own s W.len3 hl h2
  obtain ⟨F0, R0, _⟩ := Ro none own 0 (some s) hl (fun r hr => by have := W.len3 r hr; omega) h0
  have hb : decide (one ≠ other ∧ other ∉ F1) = brB own s := by
    unfold brB
    rw [decide_eq_decide]
    constructor
    · intro h; exact ⟨F0, R0, (bridge_iff W.conn W.len3 hat l1 l2 R0 R1).1 h⟩
    · rintro ⟨F, R, h⟩; exact (bridge_iff W.conn W.len3 hat l1 l2 R R1).2 h
  rw [e, hb]
theorem inner_len {own : List (List Sg)} : (innerOf own).length ≤ own.flatten.length := by
  have h1 := bumps_len own.flatten []
  have h3 := List.length_filterMap_le (fun p : Sg × Int => if p.2 = 2 then some p.1 else none) (timesOf own.flatten)
  simp only [List.length_nil] at h1
  unfold innerOf; rw [(srtS_perm _).length_eq]; unfold withN; unfold timesOf at *; omega
def cBr : E := .comp (.var 1) (.v 1) (.val (.prop (z "Web") (z "Web.inner") (z "inner") (.var 0))) (.cons false (.call (z "is_bridge") (.cons false (.var 0) (.cons false (.var 1) .nil))) .nil) [1]
theorem filterMap_filter {α : Type} (p : α → Bool) : ∀ l : List α, l.filterMap (fun x => if p x = true then some x else none) = l.filter p
  | [] => rfl
  | a :: l => by cases h : p a <;> simp [h, filterMap_filter p l]
theorem bridges_ok {u : Nat} {φ : Phi} (Io : InnerOk φ) (Bo : BridgeOk φ) (own : List (List Sg)) (W : WebT own) (hl : own.length ≤ 20) (h0 : 0 < own.length) : callDK u φ fBridges [webD false own] = some (.tup ((brOf own).map .str), [some (webD false own)]) := by
  have hfl := flat3 W.len3
  have e1 := Io own (by omega)
  have hI : denIK φ (.val (.prop (z "Web") (z "Web.inner") (z "inner") (.var 0))) [some (webD false own), none] = some ((innerOf own).map .str, none, [some (webD false own), none]) := by
    simp [denIK, denK, getV, isIns, e1]
  have hil := inner_len (own := own)
  have hb := compL_fm (body := fun x e => (bindT [] (.v 1) x e).bind fun e1 => (denAlK φ (.cons false (.call (z "is_bridge") (.cons false (.var 0) (.cons false (.var 1) .nil))) .nil) e1).bind fun b => if b.1 then (denK φ (.var 1) b.2).map fun y => (some y.1.frz, wipeE y.2 [1]) else some (none, wipeE b.2 [1]))
    (D.str : Sg → D) D.str (fun s => if brB own s = true then some s else none) (env := [some (webD false own), none]) (innerOf own) [] (by
      intro s hs
      have e := Bo own s W (by omega) h0 (mem_inner hs)
      by_cases hm : brB own s = true
      · simp [denAlK, denK, denAK, getV, e, hm]
      · have hm2 : brB own s = false := by simpa using hm
        simp [denAlK, denK, denAK, getV, e, hm2]) (by rw [ln_eq]; simp; omega)
  have hC : denK φ cBr [some (webD false own), none] = some (.lst true ((brOf own).map .str), [some (webD false own), none]) := by
    unfold cBr
    rw [denK, hI]
    simp only [Option.bind_some, wipeE_cons, wipeE_nil, List.set_cons_succ, List.set_cons_zero]
    simp only [wipeE_cons, wipeE_nil] at hb
    rw [hb, filterMap_filter]; rfl
  have hpk : ∀ env r, pk cBr env r = r.map fun q => (.v q.1, q.2) := fun _ _ => rfl
  have hf : fBridges = ⟨1, 2, .cons (.ret (.op .tuple (.cons false cBr .nil))) .nil⟩ := rfl
  rw [hf]
  simp [callDK, execsK, execK, denK, denAK, hpk, hC]
-- by own walks
theorem compL_relF {α : Type} {body : D → Ev → Option (Option D × Ev)} (d : α → D) (P : List α → List D → Ev → Prop) : ∀ (rest done : List α) (acc : List D) (env : Ev),
    (∀ done' x rest' acc env, done' ++ x :: rest' = done ++ rest → P done' acc env → ∃ (y : Option D) (env' : Ev), body (d x) env = some (y, env') ∧ P (done' ++ [x]) (acc ++ y.toList) env') → P done acc env → acc.length + rest.length ≤ line →
    ∃ ys env', compL body (rest.map d) acc env = some (ys, env') ∧ P (done ++ rest) ys env'
  | [], done, acc, env, _, h, _ => ⟨acc, env, rfl, by simpa using h⟩
  | x :: rest, done, acc, env, step, h, hl => by
    simp only [List.length_cons] at hl
    obtain ⟨y, env1, h1, p1⟩ := step done x rest acc env rfl h
    obtain ⟨ys, env2, h2, p2⟩ := compL_relF d P rest (done ++ [x]) (acc ++ y.toList) env1 (fun done' y rest' acc e he hp => step done' y rest' acc e (by simpa using he) hp) p1 (by cases y <;> simp <;> omega)
    refine ⟨ys, env2, ?_, by simpa using p2⟩
    simp only [List.map_cons, compL]; rw [if_pos (by omega), h1]
    cases y with
    | none => simpa using h2
    | some y => simpa using h2
def PiecesOk (φ : Phi) : Prop := ∀ (o o2 : Bool) (own : List (List Sg)) (s : Sg), own.length ≤ 50 → (∀ r ∈ own, r.length ≤ 1000) → 0 < own.length →
  ∃ (lots : List (List Int)) (F0 : List Nat) (k : Bool), Reach own (some s) 0 F0 ∧ (1 < lots.length ↔ ∃ j, j < own.length ∧ j ∉ F0) ∧ lots.length ≤ 1000 ∧ φ (z "_law_web_pieces") [ownD o own, barD o2 s] = some (.lst true (lots.map lotD), [some (ownD k own), some (barD o2 s)])
def WInnerOk (φ : Phi) : Prop := ∀ (o : Bool) (own : List (List Sg)), own.flatten.length < 64 → φ (z "_law_web_inner") [ownD o own] = some (.lst true ((innerOf own).map .str), [some (ownD o own)])
def cWBr : E := .comp (.var 1) (.v 1) (.val (.call (z "_law_web_inner") (.cons false (.var 0) .nil))) (.cons false (.op .gt (.cons false (.op .len (.cons false (.call (z "_law_web_pieces") (.cons false (.var 0) (.cons false (.lst (.cons false (.var 1) .nil)) .nil))) .nil)) (.cons false (.lit (.int (1))) .nil))) .nil) [1]
theorem wbridges_ok {u : Nat} {φ : Phi} (Wo : WInnerOk φ) (Pi : PiecesOk φ) (o : Bool) (own : List (List Sg)) (W : WebT own) (hl : own.length ≤ 20) (h0 : 0 < own.length) : ∃ k, callDK u φ fWBridges [ownD o own] = some (.lst true ((brOf own).map .str), [some (ownD k own)]) := by
  have hfl := flat3 W.len3
  have e1 := Wo o own (by omega)
  have hil := inner_len (own := own)
  have hI : denIK φ (.val (.call (z "_law_web_inner") (.cons false (.var 0) .nil))) [some (ownD o own), none] = some ((innerOf own).map .str, none, [some (ownD o own), none]) := by
    cases o <;> simp [denIK, denK, denAK, getV, e1]
  obtain ⟨ys, env', h, k, rfl, rfl⟩ := compL_relF (body := fun x e => (bindT [] (.v 1) x e).bind fun e1 => (denAlK φ (.cons false (.op .gt (.cons false (.op .len (.cons false (.call (z "_law_web_pieces") (.cons false (.var 0) (.cons false (.lst (.cons false (.var 1) .nil)) .nil))) .nil)) (.cons false (.lit (.int (1))) .nil))) .nil) e1).bind fun b => if b.1 then (denK φ (.var 1) b.2).map fun y => (some y.1.frz, wipeE y.2 [1]) else some (none, wipeE b.2 [1]))
    (D.str : Sg → D) (fun done acc env => ∃ k, acc = (done.filter (brB own)).map D.str ∧ env = [some (ownD k own), none]) (innerOf own) [] [] [some (ownD o own), none] (by
      rintro done s rest acc env he ⟨k, rfl, rfl⟩
      obtain ⟨lots, F0, k2, R0, hb, hlot, e⟩ := Pi k true own s (by omega) (fun r hr => by have := W.len3 r hr; omega) h0
      have hbr : (1 < lots.length) ↔ brB own s = true := by
        rw [hb]; simp only [brB, decide_eq_true_eq]
        constructor
        · intro h; exact ⟨F0, R0, h⟩
        · rintro ⟨F, R, j, hj, hn⟩
          exact ⟨j, hj, fun h => hn (R0.least (fun i => i ∈ F) R.has (fun i j hi hij => R.closed i hi j hij) j h)⟩
      by_cases hm : brB own s = true
      · have hlt : (1 : Int) < lots.length := by have := hbr.2 hm; omega
        refine ⟨some (.str s), [some (ownD (k && k2) own), none], ?_, k && k2, by simp [hm], rfl⟩
        cases k <;> cases k2 <;> simp [denAlK, denK, denAK, denFK, getV, e, hlt]
      · have hlt : ¬ (1 : Int) < lots.length := fun h => hm (hbr.1 (by omega))
        have hm2 : brB own s = false := by simpa using hm
        refine ⟨none, [some (ownD (k && k2) own), none], ?_, k && k2, by simp [hm2], rfl⟩
        cases k <;> cases k2 <;> simp [denAlK, denK, denAK, denFK, getV, e, hlt]) ⟨o, rfl, rfl⟩ (by rw [ln_eq]; simp; omega)
  refine ⟨k, ?_⟩
  have hC : denK φ cWBr [some (ownD o own), none] = some (.lst true ((brOf own).map .str), [some (ownD k own), none]) := by
    unfold cWBr
    rw [denK, hI]
    simp only [Option.bind_some, wipeE_cons, wipeE_nil, List.set_cons_succ, List.set_cons_zero]
    simp only [wipeE_cons, wipeE_nil, List.nil_append] at h
    rw [h]; rfl
  have hx : execK u φ (pinsOf 0 [ownD o own]) (.ret cWBr) [some (ownD o own), none] = some (.rt (.lst true ((brOf own).map .str)), [some (ownD k own), none]) := by
    have : execK u φ (pinsOf 0 [ownD o own]) (.ret cWBr) [some (ownD o own), none] = (denK φ cWBr [some (ownD o own), none]).map fun q => (.rt q.1, q.2) := by unfold cWBr; rw [execK]; intro i e; cases e
    rw [this, hC]; rfl
  have hf : fWBridges = ⟨1, 2, .cons (.ret cWBr) .nil⟩ := rfl
  rw [hf]
  simp only [callDK, execsK, List.length_cons, List.length_nil, if_true, List.map_cons, List.map_nil, Nat.reduceAdd, Nat.reduceSub, List.replicate, List.cons_append, List.nil_append]
  rw [hx]; rfl
-- what is due
theorem is_int {u : Nat} {φ : Phi} (i : Int) : callDK u φ fIs [.int i, .int i] = some (.bl true, [some (.int i), some (.int i)]) := by
  simp [callDK, execsK, execK, denK, denAK, denAnK, denTK, getV, fIs, kidOf]
theorem is_str {u : Nat} {φ : Phi} (s : Sg) : callDK u φ fIs [.str s, .str s] = some (.bl true, [some (.str s), some (.str s)]) := by
  simp [callDK, execsK, execK, denK, denAK, denAnK, denTK, getV, fIs, kidOf]
def cIs : E := .comp (.call (z "_law_is") (.cons false (.var 3) (.cons false (.var 4) .nil))) (.t (.cons (.v 3) (.cons (.v 4) .nil))) (.zip (.var 0) (.var 1)) .nil [3, 4]
def Flat (d : D) : Prop := d.own = false
theorem zip_self : ∀ xs : List D, zipD xs xs = xs.map fun x => .tup [x, x]
  | [] => rfl
  | x :: xs => by simp [zip_self xs]
theorem is_tup {u : Nat} {φ : Phi} (xs : List D) (hl : xs.length ≤ 1000) (ho : ∀ x ∈ xs, x.own = false ∧ x.frz = x) (h : ∀ x ∈ xs, φ (z "_law_is") [x, x] = some (.bl true, [some x, some x])) :
    callDK u φ fIs [.tup xs, .tup xs] = some (.bl true, [some (.tup xs), some (.tup xs)]) := by
  have hI : denIK φ (.zip (.var 0) (.var 1)) [some (.tup xs), some (.tup xs), some (.bl true), none, none] = some (xs.map (fun x => .tup [x, x]), none, [some (.tup xs), some (.tup xs), some (.bl true), none, none]) := by
    simp [denIK, denK, getV, zip_self]
  have hb := compL_mapA (body := fun x e => (bindT [] (.t (.cons (.v 3) (.cons (.v 4) .nil))) x e).bind fun e1 => (denAlK φ .nil e1).bind fun b => if b.1 then (denK φ (.call (z "_law_is") (.cons false (.var 3) (.cons false (.var 4) .nil))) b.2).map fun y => (some y.1.frz, wipeE y.2 [3, 4]) else some (none, wipeE b.2 [3, 4])) (fun x : D => D.tup [x, x]) (fun _ => D.bl true)
    (env := [some (.tup xs), some (.tup xs), some (.bl true), none, none]) xs [] (by
      intro x hx
      have e := h x hx
      obtain ⟨o1, o2⟩ := ho x hx
      simp [denAlK, denK, denAK, getV, e, o1, o2]) (by rw [ln_eq]; simp; omega)
  have hC : denK φ cIs [some (.tup xs), some (.tup xs), some (.bl true), none, none] = some (.lst true (xs.map fun _ => .bl true), [some (.tup xs), some (.tup xs), some (.bl true), none, none]) := by
    unfold cIs
    rw [denK, hI]
    simp only [Option.bind_some, wipeE_cons, wipeE_nil, List.set_cons_succ, List.set_cons_zero]
    simp only [wipeE_cons, wipeE_nil] at hb
    rw [hb]; rfl
  have hpk : ∀ env r, pk cIs env r = r.map fun q => (.v q.1, q.2) := fun _ _ => rfl
  have e2 := allB_map (xs.map fun _ => true)
  rw [List.map_map] at e2
  have e4 : boolsOp (fun bs => bs.all id) (.lst true (xs.map fun _ => D.bl true)) = some (.bl true) := by
    rw [bools_lst, show (xs.map fun _ => D.bl true) = xs.map (D.bl ∘ fun _ => true) from rfl, e2]
    simp
  have hf : fIs = ⟨2, 5, match fIs.body with | .cons (.iff c (.cons a (.cons (.ret (.an (.cons b1 v (.cons b2 (.op o (.cons b3 _ r1)) r2)))) r3)) d) r => .cons (.iff c (.cons a (.cons (.ret (.an (.cons b1 v (.cons b2 (.op o (.cons b3 cIs r1)) r2)))) r3)) d) r | _ => .nil⟩ := rfl
  rw [hf]
  simp only [fIs]
  simp [callDK, execsK, execK, denK, denAK, denAnK, denTK, getV, kidOf, hpk, hC, e4, -bools_lst]
end Vi.B
end
section
set_option maxRecDepth 100000
/-! Bt: webs that are known beforehand: a walk that the kernel can go, bridges under turning, sorted lists. -/
namespace Vi.B
open Vi L2
-- sorted texts
theorem ltS_iff (a b : Sg) : ltS a b = true ↔ a.cps.toList < b.cps.toList := by simp [ltS]
theorem ltS_anti {a b : Sg} (h1 : ltS a b = false) (h2 : ltS b a = false) : a = b := by
  have g1 : ¬ a.cps.toList < b.cps.toList := by rw [← ltS_iff, h1]; simp
  have g2 : ¬ b.cps.toList < a.cps.toList := by rw [← ltS_iff, h2]; simp
  have h : a.cps.toList = b.cps.toList := List.le_antisymm (List.not_lt.1 g2) (List.not_lt.1 g1)
  exact TL.ext_tl h
theorem ltS_trans {a b c : Sg} (h1 : ltS a b = true) (h2 : ltS b c = true) : ltS a c = true := by
  rw [ltS_iff] at *
  exact List.lt_trans h1 h2
theorem ltS_asymm {a b : Sg} (h : ltS a b = true) : ltS b a = false := by
  cases h2 : ltS b a with
  | false => rfl
  | true =>
    rw [ltS_iff] at *
    exact absurd (List.lt_trans h h2) (List.lt_irrefl _)
/-- ascending, weakly -/
abbrev Srt (l : List Sg) : Prop := l.Pairwise fun a b => ltS b a = false
theorem le_trans' {a b c : Sg} (h1 : ltS b a = false) (h2 : ltS c b = false) : ltS c a = false := by
  cases h : ltS c a with
  | false => rfl
  | true =>
    cases h3 : ltS a b with
    | true => rw [ltS_trans h h3] at h2; cases h2
    | false => have := ltS_anti h3 h1; subst this; rw [h] at h2; cases h2
theorem insS_srt (x : Sg) : ∀ {l : List Sg}, Srt l → Srt (insS x l)
  | [], _ => by simp [insS, Srt]
  | y :: l, h => by
    have h' := List.pairwise_cons.1 h
    simp only [insS]
    split
    · rename_i hy
      refine List.pairwise_cons.2 ⟨fun z hz => ?_, insS_srt x h'.2⟩
      rcases List.mem_cons.1 ((insS_perm x l).mem_iff.1 hz) with rfl | hz
      · exact ltS_asymm hy
      · exact h'.1 z hz
    · rename_i hy
      have hy' : ltS y x = false := by simpa using hy
      refine List.pairwise_cons.2 ⟨fun z hz => ?_, h⟩
      rcases List.mem_cons.1 hz with rfl | hz
      · exact hy'
      · exact le_trans' hy' (h'.1 z hz)
theorem srtS_srt : ∀ l : List Sg, Srt (srtS l)
  | [] => List.Pairwise.nil
  | x :: l => insS_srt x (srtS_srt l)
theorem srt_uniq : ∀ {l m : List Sg}, Srt l → Srt m → l.Perm m → l = m
  | [], m, _, _, h => by rw [List.nil_perm.1 h]
  | a :: l, [], _, _, h => absurd h.symm (by simp)
  | a :: l, b :: m, h1, h2, h => by
    have g1 := List.pairwise_cons.1 h1; have g2 := List.pairwise_cons.1 h2
    have e : a = b := by
      rcases List.mem_cons.1 (h.subset (List.mem_cons_self ..)) with e | ha
      · exact e
      · rcases List.mem_cons.1 (h.symm.subset (List.mem_cons_self ..)) with e | hb
        · exact e.symm
        · exact ltS_anti (g2.1 a ha) (g1.1 b hb) |> fun e => e
    subst e
    rw [srt_uniq g1.2 g2.2 (List.Perm.cons_inv h)]
theorem brOf_eq {own : List (List Sg)} {spans : List Sg} (hn : spans.Nodup) (h : ∀ s, s ∈ spans ↔ own.flatten.count s = 2 ∧ IsBr own s) : brOf own = srtS spans := by
  refine srt_uniq ((srtS_srt _).filter _) (srtS_srt _) ?_
  refine (List.perm_ext_iff_of_nodup (((srtS_perm _).nodup_iff.2 (withN_nodup 2 _)).filter _) ((srtS_perm _).nodup_iff.2 hn)).2 fun s => ?_
  rw [(srtS_perm spans).mem_iff, h, List.mem_filter]
  have e : s ∈ innerOf own ↔ own.flatten.count s = 2 := by
    unfold innerOf
    rw [(srtS_perm _).mem_iff, mem_withN (by decide)]; omega
  rw [← innerOf, e]
  simp only [brB, decide_eq_true_eq]
-- falling apart, said by partitions
def ConnS (own : List (List Sg)) (s : Sg) : Prop := ∀ N : Sg → Prop, (∀ r ∈ own, (∀ x ∈ r, x ≠ s → N x) ∨ (∀ x ∈ r, x ≠ s → ¬ N x)) → (∀ r ∈ own, ∀ x ∈ r, x ≠ s → N x) ∨ (∀ r ∈ own, ∀ x ∈ r, x ≠ s → ¬ N x)
theorem other3 {r : List Sg} {s : Sg} (h3 : r.length = 3) (h2 : r.count s ≤ 2) : ∃ x ∈ r, x ≠ s := by
  apply Classical.byContradiction
  intro hn
  have : ∀ x ∈ r, x = s := fun x hx => Classical.byContradiction fun e => hn ⟨x, hx, e⟩
  have : r.count s = r.length := List.count_eq_length.2 fun x hx => (this x hx).symm
  omega
theorem count_row {own : List (List Sg)} {r : List Sg} (hr : r ∈ own) (s : Sg) : r.count s ≤ own.flatten.count s := by
  induction own with
  | nil => cases hr
  | cons a as ih =>
    simp only [List.flatten_cons, List.count_append]
    rcases List.mem_cons.1 hr with rfl | hr
    · omega
    · have := ih hr; omega
theorem adj_some {own : List (List Sg)} {s x : Sg} {i j : Nat} {r q : List Sg} (h1 : own[i]? = some r) (h2 : own[j]? = some q) (hx : x ∈ r) (hy : x ∈ q) (hne : x ≠ s) : Adj own (some s) i j := by
  refine ⟨r, q, h1, h2, ?_⟩
  simp only [adjR, List.any_eq_true, Bool.and_eq_true, decide_eq_true_eq, Bool.not_eq_true', decide_eq_false_iff_not, Option.some.injEq]
  exact ⟨x, hx, hy, fun e => hne e.symm⟩
theorem isBr_iff {own : List (List Sg)} {s : Sg} {F0 : List Nat} (W : WebT own) (R : Reach own (some s) 0 F0) : (∃ j, j < own.length ∧ j ∉ F0) ↔ ¬ ConnS own s := by
  have get : ∀ i (hi : i < own.length), ∃ x ∈ own[i], x ≠ s := fun i hi => other3 (W.len3 _ (List.getElem_mem hi)) (Nat.le_trans (count_row (List.getElem_mem hi) s) (W.two s))
  have hN : ∀ i (hi : i < own.length), ∀ x ∈ own[i], x ≠ s → ((∃ k ∈ F0, ∃ q, own[k]? = some q ∧ x ∈ q) ↔ i ∈ F0) := by
    intro i hi x hx hne
    constructor
    · rintro ⟨k, hk, q, hq, hxq⟩
      exact R.closed k hk i (adj_some hq (List.getElem?_eq_getElem hi) hxq hx hne)
    · intro h; exact ⟨i, h, own[i], List.getElem?_eq_getElem hi, hx⟩
  have h0 : 0 < own.length := R.lt 0 R.has
  constructor
  · rintro ⟨j, hj, hjF⟩ hC
    have := hC (fun x => ∃ k ∈ F0, ∃ q, own[k]? = some q ∧ x ∈ q) (by
      intro r hr
      obtain ⟨i, hi, rfl⟩ := List.mem_iff_getElem.1 hr
      by_cases h : i ∈ F0
      · exact .inl fun x hx hne => (hN i hi x hx hne).2 h
      · exact .inr fun x hx hne n => h ((hN i hi x hx hne).1 n))
    obtain ⟨x0, hx0, n0⟩ := get 0 h0
    obtain ⟨xj, hxj, nj⟩ := get j hj
    rcases this with h | h
    · exact hjF ((hN j hj xj hxj nj).1 (h _ (List.getElem_mem hj) xj hxj nj))
    · exact h _ (List.getElem_mem h0) x0 hx0 n0 ((hN 0 h0 x0 hx0 n0).2 R.has)
  · intro hC
    apply Classical.byContradiction
    intro hall
    refine hC fun N hcomp => ?_
    have all : ∀ j, j < own.length → j ∈ F0 := fun j hj => Classical.byContradiction fun h => hall ⟨j, hj, h⟩
    obtain ⟨x0, hx0, n0⟩ := get 0 h0
    by_cases c0 : N x0
    · left
      have := R.least (fun i => ∀ r, own[i]? = some r → ∀ x ∈ r, x ≠ s → N x) (by
        intro r hr x hx hne
        rw [List.getElem?_eq_getElem h0] at hr; cases hr
        rcases hcomp _ (List.getElem_mem h0) with h | h
        · exact h x hx hne
        · exact absurd c0 (h x0 hx0 n0)) (by
        intro i j hi hij q hq x hx hne
        obtain ⟨r, q', h1, h2, h3⟩ := hij
        rw [hq] at h2; cases h2
        simp only [adjR, List.any_eq_true, Bool.and_eq_true, decide_eq_true_eq, Bool.not_eq_true', decide_eq_false_iff_not, Option.some.injEq] at h3
        obtain ⟨y, hy, hyq, hys⟩ := h3
        have ny := hi r h1 y hy fun e => hys e.symm
        rcases hcomp q (List.mem_of_getElem? hq) with h | h
        · exact h x hx hne
        · exact absurd ny (h y hyq fun e => hys e.symm))
      intro r hr x hx hne
      obtain ⟨i, hi, rfl⟩ := List.mem_iff_getElem.1 hr
      exact this i (all i hi) _ (List.getElem?_eq_getElem hi) x hx hne
    · right
      have := R.least (fun i => ∀ r, own[i]? = some r → ∀ x ∈ r, x ≠ s → ¬ N x) (by
        intro r hr x hx hne
        rw [List.getElem?_eq_getElem h0] at hr; cases hr
        rcases hcomp _ (List.getElem_mem h0) with h | h
        · exact absurd (h x0 hx0 n0) c0
        · exact h x hx hne) (by
        intro i j hi hij q hq x hx hne
        obtain ⟨r, q', h1, h2, h3⟩ := hij
        rw [hq] at h2; cases h2
        simp only [adjR, List.any_eq_true, Bool.and_eq_true, decide_eq_true_eq, Bool.not_eq_true', decide_eq_false_iff_not, Option.some.injEq] at h3
        obtain ⟨y, hy, hyq, hys⟩ := h3
        have ny := hi r h1 y hy fun e => hys e.symm
        rcases hcomp q (List.mem_of_getElem? hq) with h | h
        · exact absurd (h y hyq fun e => hys e.symm) ny
        · exact h x hx hne)
      intro r hr x hx hne
      obtain ⟨i, hi, rfl⟩ := List.mem_iff_getElem.1 hr
      exact this i (all i hi) _ (List.getElem?_eq_getElem hi) x hx hne
theorem connS_same {own own' : List (List Sg)} {s : Sg} (h1 : ∀ r ∈ own', ∃ r2 ∈ own, ∀ x, x ∈ r ↔ x ∈ r2) (h2 : ∀ r ∈ own, ∃ r2 ∈ own', ∀ x, x ∈ r ↔ x ∈ r2) (h : ConnS own s) : ConnS own' s := by
  intro N hN
  have := h N (by
    intro r hr
    obtain ⟨r2, hr2, e⟩ := h2 r hr
    rcases hN r2 hr2 with h3 | h3
    · exact .inl fun x hx => h3 x ((e x).1 hx)
    · exact .inr fun x hx => h3 x ((e x).1 hx))
  rcases this with h3 | h3
  · left; intro r hr x hx
    obtain ⟨r2, hr2, e⟩ := h1 r hr
    exact h3 r2 hr2 x ((e x).1 hx)
  · right; intro r hr x hx
    obtain ⟨r2, hr2, e⟩ := h1 r hr
    exact h3 r2 hr2 x ((e x).1 hx)
-- a walk that the kernel can go
def stepC (own : List (List Sg)) (b : Option Sg) (F : List Nat) : List Nat := F ++ ((List.range own.length).filter fun j => !F.contains j && F.any fun i => adjR b (own.getD i []) (own.getD j []))
def reachC (own : List (List Sg)) (b : Option Sg) : Nat → List Nat → List Nat
  | 0, F => F
  | n + 1, F => reachC own b n (stepC own b F)
end Vi.B
end
section
set_option maxRecDepth 100000
/-! Bu: webs by hand: what is checked of them, and that it stays under turning. -/
namespace Vi.B
open Vi L2
theorem reachC_least {own : List (List Sg)} {b : Option Sg} {C : Nat → Prop} (hc : ∀ i j, C i → Adj own b i j → C j) : ∀ (n : Nat) (F : List Nat), (∀ i ∈ F, i < own.length) → (∀ i ∈ F, C i) → (∀ i ∈ reachC own b n F, C i) ∧ (∀ i ∈ reachC own b n F, i < own.length) ∧ (∀ i ∈ F, i ∈ reachC own b n F)
  | 0, F, hl, h => ⟨h, hl, fun i hi => hi⟩
  | n + 1, F, hl, h => by
    have key : (∀ i ∈ stepC own b F, i < own.length) ∧ (∀ i ∈ stepC own b F, C i) := by
      constructor
      · intro j hj
        rcases List.mem_append.1 hj with hj | hj
        · exact hl j hj
        · exact List.mem_range.1 (List.mem_filter.1 hj).1
      · intro j hj
        rcases List.mem_append.1 hj with hj | hj
        · exact h j hj
        · obtain ⟨h1, h2⟩ := List.mem_filter.1 hj
          have hjl := List.mem_range.1 h1
          simp only [Bool.and_eq_true, List.any_eq_true] at h2
          obtain ⟨_, i, hi, ha⟩ := h2
          have hil := hl i hi
          refine hc i j (h i hi) ⟨own[i], own[j], List.getElem?_eq_getElem hil, List.getElem?_eq_getElem hjl, ?_⟩
          simpa [List.getD_eq_getElem?_getD, hil, hjl] using ha
    obtain ⟨g1, g2, g3⟩ := reachC_least hc n (stepC own b F) key.1 key.2
    exact ⟨g1, g2, fun i hi => g3 i (List.mem_append_left _ hi)⟩
def setC (own : List (List Sg)) (b : Option Sg) : List Nat := reachC own b own.length [0]
def okC (own : List (List Sg)) (b : Option Sg) : Bool := decide (setC own b).Nodup && (setC own b).all fun i => (List.range own.length).all fun j => !(adjR b (own.getD i []) (own.getD j [])) || (setC own b).contains j
theorem okC_reach {own : List (List Sg)} {b : Option Sg} (h0 : 0 < own.length) (h : okC own b = true) : Reach own b 0 (setC own b) := by
  unfold okC at h
  simp only [Bool.and_eq_true, decide_eq_true_eq, List.all_eq_true, List.mem_range, Bool.or_eq_true, Bool.not_eq_true', List.contains_eq_mem] at h
  have L := fun (C : Nat → Prop) hc c0 => reachC_least (own := own) (b := b) (C := C) hc own.length [0] (by simpa using h0) (by simpa using c0)
  refine ⟨h.1, (L (fun _ => True) (fun _ _ _ _ => trivial) trivial).2.1, (L (fun _ => True) (fun _ _ _ _ => trivial) trivial).2.2 0 (by simp), ?_, fun C c0 hc => (L C hc c0).1⟩
  intro i hi j hij
  have hjl := hij.lt
  obtain ⟨r, q, h1, h2, h3⟩ := hij
  rcases h.2 i hi j hjl with h4 | h4
  · have e1 : own.getD i [] = r := by simp [List.getD_eq_getElem?_getD, h1]
    have e2 : own.getD j [] = q := by simp [List.getD_eq_getElem?_getD, h2]
    rw [e1, e2, h3] at h4; cases h4
  · simpa using h4
def brC (own : List (List Sg)) (b : Option Sg) : Bool := (List.range own.length).any fun j => !(setC own b).contains j
theorem brC_iff {own : List (List Sg)} {b : Option Sg} : brC own b = true ↔ ∃ j, j < own.length ∧ j ∉ setC own b := by
  simp only [brC, List.any_eq_true, List.mem_range, Bool.not_eq_true', List.contains_eq_mem, decide_eq_false_iff_not]
theorem conn_of {own : List (List Sg)} {F : List Nat} (h3 : ∀ r ∈ own, r.length = 3) (R : Reach own none 0 F) (all : ∀ j, j < own.length → j ∈ F) : Conn own := by
  intro N hcomp
  have h0 : 0 < own.length := R.lt 0 R.has
  have hl := h3 own[0] (List.getElem_mem h0)
  obtain ⟨x0, hx0⟩ : ∃ x, x ∈ own[0] := by
    match own[0], hl with
    | a :: _, _ => exact ⟨a, by simp⟩
  by_cases c0 : N x0
  · left
    have := R.least (fun i => ∀ r, own[i]? = some r → ∀ x ∈ r, N x) (by
      intro r hr x hx
      rw [List.getElem?_eq_getElem h0] at hr; cases hr
      rcases hcomp _ (List.getElem_mem h0) with h | h
      · exact h x hx
      · exact absurd c0 (h x0 hx0)) (by
      intro i j hi hij q hq x hx
      obtain ⟨r, q', h1, h2, h3⟩ := hij
      rw [hq] at h2; cases h2
      simp only [adjR, List.any_eq_true, Bool.and_eq_true, decide_eq_true_eq] at h3
      obtain ⟨y, hy, hyq, _⟩ := h3
      have ny := hi r h1 y hy
      rcases hcomp q (List.mem_of_getElem? hq) with h | h
      · exact h x hx
      · exact absurd ny (h y hyq))
    intro r hr x hx
    obtain ⟨i, hi, rfl⟩ := List.mem_iff_getElem.1 hr
    exact this i (all i hi) _ (List.getElem?_eq_getElem hi) x hx
  · right
    have := R.least (fun i => ∀ r, own[i]? = some r → ∀ x ∈ r, ¬ N x) (by
      intro r hr x hx
      rw [List.getElem?_eq_getElem h0] at hr; cases hr
      rcases hcomp _ (List.getElem_mem h0) with h | h
      · exact absurd (h x0 hx0) c0
      · exact h x hx) (by
      intro i j hi hij q hq x hx
      obtain ⟨r, q', h1, h2, h3⟩ := hij
      rw [hq] at h2; cases h2
      simp only [adjR, List.any_eq_true, Bool.and_eq_true, decide_eq_true_eq] at h3
      obtain ⟨y, hy, hyq, _⟩ := h3
      have ny := hi r h1 y hy
      rcases hcomp q (List.mem_of_getElem? hq) with h | h
      · exact absurd (h y hyq) ny
      · exact h x hx)
    intro r hr x hx
    obtain ⟨i, hi, rfl⟩ := List.mem_iff_getElem.1 hr
    exact this i (all i hi) _ (List.getElem?_eq_getElem hi) x hx
/-- a web by hand: so many ends and rounds, just these bridges -/
structure Hand (own : List (List Sg)) (ends rounds : Nat) (spans : List Sg) : Prop where
  web : WebT own
  names : ∀ s ∈ own.flatten, NameOk s
  pos : 0 < own.length
  le : own.length ≤ 12
  en : eOf own = ends
  len : own.length + 2 = ends + 2 * rounds
  nd : spans.Nodup
  br : ∀ s, s ∈ spans ↔ own.flatten.count s = 2 ∧ ¬ ConnS own s
def handC (own : List (List Sg)) (ends rounds : Nat) (spans : List Sg) : Bool :=
  own.all (fun r => r.length == 3) && own.flatten.all (fun s => decide (NameOk s) && decide (own.flatten.count s ≤ 2)) && okC own none && !(brC own none) && decide (0 < own.length) && decide (own.length ≤ 12) &&
  decide (eOf own = ends) && decide (own.length + 2 = ends + 2 * rounds) && decide spans.Nodup && spans.all (fun s => decide (own.flatten.count s = 2)) &&
  own.flatten.all fun s => !(decide (own.flatten.count s = 2)) || (okC own (some s) && (decide (s ∈ spans) == brC own (some s)))
theorem hand_of {own : List (List Sg)} {ends rounds : Nat} {spans : List Sg} (h : handC own ends rounds spans = true) : Hand own ends rounds spans := by
  unfold handC at h
  simp only [Bool.and_eq_true, List.all_eq_true, decide_eq_true_eq, beq_iff_eq, Bool.or_eq_true, Bool.not_eq_true', decide_eq_false_iff_not] at h
  obtain ⟨⟨⟨⟨⟨⟨⟨⟨⟨⟨h1, h2⟩, h3⟩, h4⟩, h5⟩, h6⟩, h7⟩, h8⟩, h9⟩, h10⟩, h11⟩ := h
  have R := okC_reach h5 h3
  have all : ∀ j, j < own.length → j ∈ setC own none := fun j hj => Classical.byContradiction fun hn => by
    have := brC_iff.2 ⟨j, hj, hn⟩
    rw [h4] at this; cases this
  have W : WebT own := ⟨h1, fun s => by
    by_cases hs : s ∈ own.flatten
    · exact (h2 s hs).2
    · rw [List.count_eq_zero.2 hs]; omega, conn_of h1 R all⟩
  refine ⟨W, fun s hs => (h2 s hs).1, h5, h6, h7, h8, h9, fun s => ?_⟩
  have key : ∀ s, own.flatten.count s = 2 → (s ∈ spans ↔ ¬ ConnS own s) := by
    intro s hc
    have hs : s ∈ own.flatten := List.count_pos_iff.1 (by omega)
    rcases h11 s hs with hn | ⟨ho, he⟩
    · exact absurd hc hn
    · have R2 := okC_reach h5 ho
      rw [← isBr_iff W R2, ← brC_iff, ← he]; simp
  constructor
  · intro hs; exact ⟨h10 s hs, (key s (h10 s hs)).1 hs⟩
  · rintro ⟨hc, hn⟩; exact (key s hc).2 hn
theorem Hand.turn {a b c : List (List Sg)} {ends rounds : Nat} {spans : List Sg} (H : Hand a ends rounds spans) (h : RowsP a b) (hp : b.Perm c) : Hand c ends rounds spans := by
  obtain ⟨W, hl, hf⟩ := turned_ok H.web h hp
  have n1 := H.web.nums; have n2 := W.nums; have n3 := nOf_perm hf
  have hs : ∀ s, ConnS a s ↔ ConnS c s := by
    have r1 : ∀ r ∈ c, ∃ r2 ∈ a, ∀ x, x ∈ r ↔ x ∈ r2 := fun r hr => by
      obtain ⟨r2, h2, h3⟩ := h.left r (hp.mem_iff.2 hr)
      exact ⟨r2, h2, fun x => h3.mem_iff.symm⟩
    have r2 : ∀ r ∈ a, ∃ r2 ∈ c, ∀ x, x ∈ r ↔ x ∈ r2 := fun r hr => by
      obtain ⟨r2, h2, h3⟩ := h.right r hr
      exact ⟨r2, hp.mem_iff.1 h2, fun x => h3.mem_iff.symm⟩
    exact fun s => ⟨connS_same r1 r2, connS_same r2 r1⟩
  have hpos := H.pos; have hle := H.le; have hen := H.en; have hlen := H.len
  exact ⟨W, fun s hs => H.names s (hf.mem_iff.2 hs), by omega, by omega, by omega, by omega, H.nd, fun s => by rw [H.br, hf.count_eq, hs]⟩
theorem Hand.spans {own : List (List Sg)} {ends rounds : Nat} {spans : List Sg} (H : Hand own ends rounds spans) (sp' : List Sg) (h : sp'.Perm spans) : Hand own ends rounds sp' :=
  ⟨H.web, H.names, H.pos, H.le, H.en, H.len, h.nodup_iff.2 H.nd, fun s => h.mem_iff.trans (H.br s)⟩
theorem RowsP.refl : ∀ a : List (List Sg), RowsP a a
  | [] => .nil
  | r :: rs => .cons (.refl r) (RowsP.refl rs)
theorem Hand.brOf {own : List (List Sg)} {ends rounds : Nat} {spans : List Sg} (H : Hand own ends rounds spans) (hR : ∀ s, own.flatten.count s = 2 → ∃ F0, Reach own (some s) 0 F0) : brOf own = srtS spans := by
  refine brOf_eq H.nd fun s => ?_
  rw [H.br]
  constructor
  · rintro ⟨hc, hn⟩
    obtain ⟨F0, R⟩ := hR s hc
    exact ⟨hc, F0, R, (isBr_iff H.web R).2 hn⟩
  · rintro ⟨hc, F0, R, hj⟩
    exact ⟨hc, (isBr_iff H.web R).1 hj⟩
end Vi.B
end
section
set_option maxRecDepth 100000
namespace Vi.P
open Vi
abbrev z (s : String) : PySem.Str := PySem.Str.ofString s
def top (i : Nat) : PySem.Stmt := PySem.Challenge.pw_threeroadcars_k03_whole_combs_rings_and.main.body.getD i (.Pass ⟨0, 0, 0, 0⟩)
def cf : Cf := { N := [], bl := [(z "abs"), (z "all"), (z "any"), (z "enumerate"), (z "int"), (z "isinstance"), (z "len"), (z "list"), (z "max"), (z "min"), (z "range"), (z "sorted"), (z "str"), (z "sum"), (z "tuple"), (z "zip"), (z "bool")], gl := [((z "FEED"), (.str (z "\n"))), ((z "BLANK"), (.str (z " "))), ((z "LETTERS"), (.str (z "abcdefghijklmnopqrstuvwxyz"))), ((z "MOST_LETTERS"), (.int (6))), ((z "WEB"), (.str (z "web"))), ((z "MEET"), (.str (z "meet"))), ((z "FOUR"), (.int (4))), ((z "MOST_JUNCTIONS"), (.int (12))), ((z "PAIR"), (.int (2)))], fs := [(z "is_name"), (z "lines_of"), (z "meet_in"), (z "counted"), (z "junctions_in"), (z "reached"), (z "places_of"), (z "is_bridge"), (z "bridges"), (z "_law_pot"), (z "_law_take"), (z "_law_some"), (z "_law_cells"), (z "_law_web_text"), (z "_law_web_turned"), (z "_law_is"), (z "_law_word"), (z "_law_comb"), (z "_law_ring"), (z "_law_drummed"), (z "_law_is_so"), (z "_law_right"), (z "law")], cl := [((z "Web"), (z "Web.__init__"))], pr := [((z "Web"), (z "text"), (z "Web.text")), ((z "Web"), (z "roads"), (z "Web.roads")), ((z "Web"), (z "inner"), (z "Web.inner")), ((z "Web"), (z "ends"), (z "Web.ends")), ((z "Web"), (z "junctions"), (z "Web.junctions")), ((z "Web"), (z "rounds"), (z "Web.rounds"))], sa := [((z "Web"), (z "own_counts")), ((z "Web"), (z "own_junctions")), ((z "Web"), (z "own_text"))], ln := [((z "Web"), (z "Web.__len__"))] }
/- is_name -/
abbrev sf_is_name : PySem.Stmt := top 5
def nf_is_name : List PySem.Str := [(z "value"), (z "sign")]
def f_is_name : Fn := ⟨1, 2, (.cons (.ret (.an (.cons false (.op (.isi ["str"]) (.cons false (.var 0) .nil)) (.cons false (.chain .le .le (.lit (.int (1))) (.op .len (.cons false (.var 0) .nil)) (.gl (z "MOST_LETTERS") (.int (6)))) (.cons false (.op .all (.cons false (.comp (.op .isin (.cons false (.var 1) (.cons false (.gl (z "LETTERS") (.str (z "abcdefghijklmnopqrstuvwxyz"))) .nil))) (.v 1) (.val (.var 0)) .nil [1]) .nil)) .nil))))) .nil)⟩
/- lines_of -/
abbrev sf_lines_of : PySem.Stmt := top 6
def nf_lines_of : List PySem.Str := [(z "text"), (z "line")]
def f_lines_of : Fn := ⟨1, 2, (.cons (.ret (.comp (.opm .split (.var 1) (.cons false (.gl (z "BLANK") (.str (z " "))) .nil)) (.v 1) (.val (.opm .split (.var 0) (.cons false (.gl (z "FEED") (.str (z "\n"))) .nil))) .nil [1])) .nil)⟩
/- meet_in -/
abbrev sf_meet_in : PySem.Stmt := top 16
def nf_meet_in : List PySem.Str := [(z "words"), (z "word")]
def f_meet_in : Fn := ⟨1, 2, (.cons (.iff (.orr (.cons false (.op .ne (.cons false (.op .len (.cons false (.var 0) .nil)) (.cons false (.gl (z "FOUR") (.int (4))) .nil))) (.cons false (.op .ne (.cons false (.op .idx (.cons false (.var 0) (.cons false (.lit (.int (0))) .nil))) (.cons false (.gl (z "MEET") (.str (z "meet"))) .nil))) (.cons false (.nt (.op .all (.cons false (.comp (.call (z "is_name") (.cons false (.var 1) .nil)) (.v 1) (.val (.slc (.var 0) true false (.cons false (.lit (.int (1))) .nil))) .nil [1]) .nil))) .nil)))) (.cons (.ret (.lit .non)) .nil) .nil) (.cons (.ret (.op .tuple (.cons false (.slc (.var 0) true false (.cons false (.lit (.int (1))) .nil)) .nil))) .nil))⟩
/- counted -/
abbrev sf_counted : PySem.Stmt := top 17
def nf_counted : List PySem.Str := [(z "junctions"), (z "found"), (z "names"), (z "name")]
def f_counted : Fn := ⟨1, 4, (.cons (.asg (.v 1) (.dnew false)) (.cons (.forr (.v 2) (.val (.var 0)) (.cons (.forr (.v 3) (.val (.var 2)) (.cons (.setix 1 (.var 3) (.op .add (.cons false (.opm .get2 (.var 1) (.cons false (.var 3) (.cons false (.lit (.int (0))) .nil))) (.cons false (.lit (.int (1))) .nil)))) .nil)) .nil)) (.cons (.ret (.var 1)) .nil)))⟩
/- junctions_in -/
abbrev sf_junctions_in : PySem.Stmt := top 18
def nf_junctions_in : List PySem.Str := [(z "text"), (z "together"), (z "apart"), (z "rows"), (z "found"), (z "at"), (z "words"), (z "names")]
def f_junctions_in : Fn := ⟨1, 8, (.cons (.par [3, 4] (.cons false (.call (z "lines_of") (.cons false (.var 0) .nil)) (.cons false (.lst .nil) .nil))) (.cons (.iff (.op .ne (.cons false (.op .idx (.cons false (.var 3) (.cons false (.lit (.int (0))) .nil))) (.cons false (.lst (.cons false (.gl (z "WEB") (.str (z "web"))) .nil)) .nil))) (.cons (.ret (.tup (.cons false (.lit .non) (.cons false (.lit (.int (1))) .nil)))) .nil) .nil) (.cons (.forr (.t (.cons (.v 5) (.cons (.v 6) .nil))) (.enum (.slc (.var 3) true false (.cons false (.lit (.int (1))) .nil))) (.cons (.asg (.v 7) (.call (z "meet_in") (.cons false (.var 6) .nil))) (.cons (.iff (.orr (.cons false (.op .isN (.cons false (.var 7) .nil)) (.cons false (.op .eq (.cons false (.op .len (.cons false (.var 4) .nil)) (.cons false (.gl (z "MOST_JUNCTIONS") (.int (12))) .nil))) (.cons false (.op .gt (.cons false (.op .maxvals (.cons false (.call (z "counted") (.cons false (.lst (.cons true (.var 4) (.cons false (.var 7) .nil))) .nil)) .nil)) (.cons false (.gl (z "PAIR") (.int (2))) .nil))) .nil)))) (.cons (.ret (.tup (.cons false (.lit .non) (.cons false (.op .add (.cons false (.var 5) (.cons false (.gl (z "PAIR") (.int (2))) .nil))) .nil)))) .nil) .nil) (.cons (.exp (.mut .append 4 (.cons false (.var 7) .nil))) .nil)))) (.cons (.iff (.op .eq (.cons false (.var 4) (.cons false (.lst .nil) .nil))) (.cons (.ret (.tup (.cons false (.lit .non) (.cons false (.op .add (.cons false (.op .len (.cons false (.var 3) .nil)) (.cons false (.lit (.int (1))) .nil))) .nil)))) .nil) .nil) (.cons (.asg (.v 1) (.call (z "reached") (.cons false (.var 4) (.cons false (.lit (.int (0))) (.cons false (.lit .non) .nil))))) (.cons (.asg (.v 2) (.comp (.var 5) (.v 5) (.range (.cons false (.op .len (.cons false (.var 4) .nil)) .nil)) (.cons false (.op .notin (.cons false (.var 5) (.cons false (.var 1) .nil))) .nil) [5])) (.cons (.ret (.ite (.op .ne (.cons false (.var 2) (.cons false (.lst .nil) .nil))) (.tup (.cons false (.lit .non) (.cons false (.op .add (.cons false (.op .idx (.cons false (.var 2) (.cons false (.lit (.int (0))) .nil))) (.cons false (.gl (z "PAIR") (.int (2))) .nil))) .nil))) (.tup (.cons false (.var 4) (.cons false (.lit .non) .nil))))) .nil)))))))⟩
/- reached -/
abbrev sf_reached : PySem.Stmt := top 19
def nf_reached : List PySem.Str := [(z "junctions"), (z "first"), (z "barred"), (z "found"), (z "todo"), (z "here"), (z "at"), (z "names"), (z "name")]
def f_reached : Fn := ⟨3, 9, (.cons (.par [3, 4] (.cons false (.lst (.cons false (.var 1) .nil)) (.cons false (.lst (.cons false (.var 1) .nil)) .nil))) (.cons (.whl (.op .ne (.cons false (.var 4) (.cons false (.lst .nil) .nil))) (.cons (.asg (.v 5) (.mut .pop 4 .nil)) (.cons (.forr (.t (.cons (.v 6) (.cons (.v 7) .nil))) (.enum (.var 0)) (.cons (.iff (.an (.cons false (.op .notin (.cons false (.var 6) (.cons false (.var 3) .nil))) (.cons false (.op .any (.cons false (.comp (.an (.cons false (.op .isin (.cons false (.var 8) (.cons false (.var 7) .nil))) (.cons false (.op .ne (.cons false (.var 8) (.cons false (.var 2) .nil))) .nil))) (.v 8) (.val (.op .idx (.cons false (.var 0) (.cons false (.var 5) .nil)))) .nil [8]) .nil)) .nil))) (.cons (.exp (.mut .append 3 (.cons false (.var 6) .nil))) (.cons (.exp (.mut .append 4 (.cons false (.var 6) .nil))) .nil)) .nil) .nil)) .nil))) (.cons (.ret (.var 3)) .nil)))⟩
/- Web.__init__ -/
abbrev sf_Web___init__ : PySem.Stmt := L2.inClass (top 20) 1
def nf_Web___init__ : List PySem.Str := [(z "self"), (z "text"), (z "found"), (z "number")]
def f_Web___init__ : Fn := ⟨2, 4, (.cons (.iff (.nt (.op (.isi ["str"]) (.cons false (.var 1) .nil))) (.cons .rais .nil) .nil) (.cons (.asg (.t (.cons (.v 2) (.cons (.v 3) .nil))) (.call (z "junctions_in") (.cons false (.var 1) .nil))) (.cons (.iff (.op .isN (.cons false (.var 2) .nil)) (.cons .rais .nil) .nil) (.cons (.setat 0 (z "Web") (z "own_text") (.var 1)) (.cons (.setat 0 (z "Web") (z "own_junctions") (.op .tuple (.cons false (.var 2) .nil))) (.cons (.setat 0 (z "Web") (z "own_counts") (.call (z "counted") (.cons false (.var 2) .nil))) .nil))))))⟩
/- Web.text -/
abbrev sf_Web_text : PySem.Stmt := L2.inClass (top 20) 2
def nf_Web_text : List PySem.Str := [(z "self")]
def f_Web_text : Fn := ⟨1, 1, (.cons (.ret (.attr (.var 0) (z "own_text"))) .nil)⟩
/- Web.roads -/
abbrev sf_Web_roads : PySem.Stmt := L2.inClass (top 20) 3
def nf_Web_roads : List PySem.Str := [(z "self")]
def f_Web_roads : Fn := ⟨1, 1, (.cons (.ret (.op .tuple (.cons false (.op .sorted (.cons false (.attr (.var 0) (z "own_counts")) .nil)) .nil))) .nil)⟩
/- Web.inner -/
abbrev sf_Web_inner : PySem.Stmt := L2.inClass (top 20) 4
def nf_Web_inner : List PySem.Str := [(z "self"), (z "name")]
def f_Web_inner : Fn := ⟨1, 2, (.cons (.ret (.op .tuple (.cons false (.op .sorted (.cons false (.comp (.var 1) (.v 1) (.val (.attr (.var 0) (z "own_counts"))) (.cons false (.op .eq (.cons false (.op .idx (.cons false (.attr (.var 0) (z "own_counts")) (.cons false (.var 1) .nil))) (.cons false (.gl (z "PAIR") (.int (2))) .nil))) .nil) [1]) .nil)) .nil))) .nil)⟩
/- Web.ends -/
abbrev sf_Web_ends : PySem.Stmt := L2.inClass (top 20) 5
def nf_Web_ends : List PySem.Str := [(z "self"), (z "name")]
def f_Web_ends : Fn := ⟨1, 2, (.cons (.ret (.op .tuple (.cons false (.op .sorted (.cons false (.comp (.var 1) (.v 1) (.val (.attr (.var 0) (z "own_counts"))) (.cons false (.op .eq (.cons false (.op .idx (.cons false (.attr (.var 0) (z "own_counts")) (.cons false (.var 1) .nil))) (.cons false (.lit (.int (1))) .nil))) .nil) [1]) .nil)) .nil))) .nil)⟩
/- Web.junctions -/
abbrev sf_Web_junctions : PySem.Stmt := L2.inClass (top 20) 6
def nf_Web_junctions : List PySem.Str := [(z "self")]
def f_Web_junctions : Fn := ⟨1, 1, (.cons (.ret (.attr (.var 0) (z "own_junctions"))) .nil)⟩
/- Web.rounds -/
abbrev sf_Web_rounds : PySem.Stmt := L2.inClass (top 20) 7
def nf_Web_rounds : List PySem.Str := [(z "self")]
def f_Web_rounds : Fn := ⟨1, 1, (.cons (.ret (.op .add (.cons false (.op .sub (.cons false (.op .len (.cons false (.prop (z "Web") (z "Web.inner") (z "inner") (.var 0)) .nil)) (.cons false (.op .len (.cons false (.attr (.var 0) (z "own_junctions")) .nil)) .nil))) (.cons false (.lit (.int (1))) .nil)))) .nil)⟩
/- Web.__len__ -/
abbrev sf_Web___len__ : PySem.Stmt := L2.inClass (top 20) 8
def nf_Web___len__ : List PySem.Str := [(z "self")]
def f_Web___len__ : Fn := ⟨1, 1, (.cons (.ret (.op .len (.cons false (.attr (.var 0) (z "own_junctions")) .nil))) .nil)⟩
/- places_of -/
abbrev sf_places_of : PySem.Stmt := top 21
def nf_places_of : List PySem.Str := [(z "web"), (z "name"), (z "found"), (z "at"), (z "names"), (z "other")]
def f_places_of : Fn := ⟨2, 6, (.cons (.asg (.v 2) (.lst .nil)) (.cons (.forr (.t (.cons (.v 3) (.cons (.v 4) .nil))) (.enum (.attr (.var 0) (z "own_junctions"))) (.cons (.exp (.mut .extend 2 (.cons false (.comp (.var 3) (.v 5) (.val (.var 4)) (.cons false (.op .eq (.cons false (.var 5) (.cons false (.var 1) .nil))) .nil) [5]) .nil))) .nil)) (.cons (.ret (.var 2)) .nil)))⟩
/- is_bridge -/
abbrev sf_is_bridge : PySem.Stmt := top 22
def nf_is_bridge : List PySem.Str := [(z "web"), (z "name"), (z "one"), (z "other")]
def f_is_bridge : Fn := ⟨2, 4, (.cons (.asg (.t (.cons (.v 2) (.cons (.v 3) .nil))) (.call (z "places_of") (.cons false (.var 0) (.cons false (.var 1) .nil)))) (.cons (.ret (.an (.cons false (.op .ne (.cons false (.var 2) (.cons false (.var 3) .nil))) (.cons false (.op .notin (.cons false (.var 3) (.cons false (.call (z "reached") (.cons false (.attr (.var 0) (z "own_junctions")) (.cons false (.var 2) (.cons false (.var 1) .nil)))) .nil))) .nil)))) .nil))⟩
/- bridges -/
abbrev sf_bridges : PySem.Stmt := top 23
def nf_bridges : List PySem.Str := [(z "web"), (z "name")]
def f_bridges : Fn := ⟨1, 2, (.cons (.ret (.op .tuple (.cons false (.comp (.var 1) (.v 1) (.val (.prop (z "Web") (z "Web.inner") (z "inner") (.var 0))) (.cons false (.call (z "is_bridge") (.cons false (.var 0) (.cons false (.var 1) .nil))) .nil) [1]) .nil))) .nil)⟩
/- _law_pot -/
abbrev sf__law_pot : PySem.Stmt := top 25
def nf__law_pot : List PySem.Str := [(z "script"), (z "place"), (z "cell"), (z "own"), (z "small")]
def f__law_pot : Fn := ⟨2, 5, (.cons (.asg (.v 2) (.ite (.op .lt (.cons false (.var 1) (.cons false (.op .len (.cons false (.var 0) .nil)) .nil))) (.op .idx (.cons false (.var 0) (.cons false (.var 1) .nil))) (.op .add (.cons false (.op .add (.cons false (.op .mod (.cons false (.op .sum (.cons false (.slc (.var 0) false true (.cons false (.lit (.int (1))) .nil)) .nil)) (.cons false (.lit (.int (1000003))) .nil))) (.cons false (.op .mul (.cons false (.lit (.int (1270))) (.cons false (.var 1) .nil))) .nil))) (.cons false (.lit (.int (586))) .nil))))) (.cons (.asg (.v 3) (.op .mul (.cons false (.op .mod (.cons false (.op .int (.cons false (.op .abs (.cons false (.var 2) .nil)) .nil)) (.cons false (.op .pow (.cons false (.op .pow (.cons false (.lit (.int (10))) (.cons false (.lit (.int (60))) .nil))) (.cons false (.lit (.int (5))) .nil))) .nil))) (.cons false (.op .int (.cons false (.op .ge (.cons false (.op .abs (.cons false (.var 2) .nil)) (.cons false (.op .pow (.cons false (.lit (.int (10))) (.cons false (.lit (.int (18))) .nil))) .nil))) .nil)) .nil)))) (.cons (.asg (.v 4) (.op .mod (.cons false (.op .int (.cons false (.var 2) .nil)) (.cons false (.lit (.int (2305843009213693951))) .nil)))) (.cons (.ret (.lst (.cons false (.var 3) (.cons false (.op .mod (.cons false (.op .int (.cons false (.op .add (.cons false (.op .add (.cons false (.op .mul (.cons false (.var 4) (.cons false (.lit (.int (72356))) .nil))) (.cons false (.op .mul (.cons false (.op .mul (.cons false (.lit (.int (7808))) (.cons false (.var 1) .nil))) (.cons false (.var 1) .nil))) .nil))) (.cons false (.lit (.int (512))) .nil))) .nil)) (.cons false (.lit (.int (2305843009213693921))) .nil))) (.cons false (.lit (.int (0))) .nil))))) .nil))))⟩
/- _law_take -/
abbrev sf__law_take : PySem.Stmt := top 26
def nf__law_take : List PySem.Str := [(z "pot"), (z "upto"), (z "prime"), (z "blend"), (z "digit")]
def f__law_take : Fn := ⟨2, 5, (.cons (.iff (.op .gt (.cons false (.op .idx (.cons false (.var 0) (.cons false (.lit (.int (0))) .nil))) (.cons false (.lit (.int (0))) .nil))) (.cons (.asg (.v 4) (.op .mod (.cons false (.op .int (.cons false (.op .idx (.cons false (.var 0) (.cons false (.lit (.int (0))) .nil))) .nil)) (.cons false (.var 1) .nil)))) (.cons (.setix 0 (.lit (.int (0))) (.op .fdiv (.cons false (.op .idx (.cons false (.var 0) (.cons false (.lit (.int (0))) .nil))) (.cons false (.var 1) .nil)))) (.cons (.ret (.var 4)) .nil))) .nil) (.cons (.setix 0 (.lit (.int (2))) (.op .add (.cons false (.op .idx (.cons false (.var 0) (.cons false (.lit (.int (2))) .nil))) (.cons false (.lit (.int (1))) .nil)))) (.cons (.asg (.v 2) (.op .idx (.cons false (.lst (.cons false (.lit (.int (2147483647))) (.cons false (.lit (.int (2147483629))) (.cons false (.lit (.int (2147483587))) (.cons false (.lit (.int (2147483579))) (.cons false (.lit (.int (2147483563))) .nil)))))) (.cons false (.op .mod (.cons false (.op .int (.cons false (.op .idx (.cons false (.var 0) (.cons false (.lit (.int (2))) .nil))) .nil)) (.cons false (.lit (.int (5))) .nil))) .nil)))) (.cons (.asg (.v 3) (.op .mod (.cons false (.op .int (.cons false (.op .pow (.cons false (.op .int (.cons false (.op .add (.cons false (.op .add (.cons false (.op .idx (.cons false (.var 0) (.cons false (.lit (.int (1))) .nil))) (.cons false (.op .mul (.cons false (.op .mul (.cons false (.lit (.int (98762))) (.cons false (.op .idx (.cons false (.var 0) (.cons false (.lit (.int (2))) .nil))) .nil))) (.cons false (.op .idx (.cons false (.var 0) (.cons false (.lit (.int (2))) .nil))) .nil))) .nil))) (.cons false (.lit (.int (770))) .nil))) .nil)) (.cons false (.lit (.int (3))) .nil))) .nil)) (.cons false (.var 2) .nil)))) (.cons (.asg (.v 3) (.op .mod (.cons false (.op .int (.cons false (.op .mul (.cons false (.var 3) (.cons false (.op .add (.cons false (.op .mod (.cons false (.op .int (.cons false (.var 3) .nil)) (.cons false (.lit (.int (10442))) .nil))) (.cons false (.op .mul (.cons false (.lit (.int (214))) (.cons false (.op .idx (.cons false (.var 0) (.cons false (.lit (.int (2))) .nil))) .nil))) .nil))) .nil))) .nil)) (.cons false (.lit (.int (2305843009213693907))) .nil)))) (.cons (.ret (.op .mod (.cons false (.op .int (.cons false (.op .fdiv (.cons false (.var 3) (.cons false (.lit (.int (167))) .nil))) .nil)) (.cons false (.var 1) .nil)))) .nil))))))⟩
/- _law_some -/
abbrev sf__law_some : PySem.Stmt := top 27
def nf__law_some : List PySem.Str := [(z "pot"), (z "pool"), (z "many"), (z "lap"), (z "rests"), (z "found")]
def f__law_some : Fn := ⟨3, 6, (.cons (.par [4, 5] (.cons false (.op .list (.cons false (.var 1) .nil)) (.cons false (.lst .nil) .nil))) (.cons (.forr (.v 3) (.range (.cons false (.var 2) .nil)) (.cons (.exp (.mut .append 5 (.cons false (.mut .popAt 4 (.cons false (.call (z "_law_take") (.cons false (.var 0) (.cons false (.op .len (.cons false (.var 4) .nil)) .nil))) .nil)) .nil))) .nil)) (.cons (.ret (.var 5)) .nil)))⟩
/- _law_cells -/
abbrev sf__law_cells : PySem.Stmt := top 28
def nf__law_cells : List PySem.Str := [(z "script"), (z "most")]
def f__law_cells : Fn := ⟨2, 2, (.cons (.ret (.op .listrange (.cons false (.op .max2 (.cons false (.lit (.int (1))) (.cons false (.op .min2 (.cons false (.var 1) (.cons false (.op .len (.cons false (.var 0) .nil)) .nil))) .nil))) .nil))) .nil)⟩
/- _law_web_text -/
abbrev sf__law_web_text : PySem.Stmt := top 29
def nf__law_web_text : List PySem.Str := [(z "own"), (z "row")]
def f__law_web_text : Fn := ⟨1, 2, (.cons (.ret (.opm .join (.lit (.str (z "\n"))) (.cons false (.op .add (.cons false (.lst (.cons false (.lit (.str (z "web"))) .nil)) (.cons false (.comp (.op .add (.cons false (.lit (.str (z "meet "))) (.cons false (.opm .join (.lit (.str (z " "))) (.cons false (.op .list (.cons false (.var 1) .nil)) .nil)) .nil))) (.v 1) (.val (.var 0)) .nil [1]) .nil))) .nil))) .nil)⟩
/- _law_web_turned -/
abbrev sf__law_web_turned : PySem.Stmt := top 30
def nf__law_web_turned : List PySem.Str := [(z "pot"), (z "own"), (z "row")]
def f__law_web_turned : Fn := ⟨2, 3, (.cons (.ret (.call (z "_law_some") (.cons false (.var 0) (.cons false (.comp (.op .tuple (.cons false (.call (z "_law_some") (.cons false (.var 0) (.cons false (.op .list (.cons false (.var 2) .nil)) (.cons false (.lit (.int (3))) .nil)))) .nil)) (.v 2) (.val (.var 1)) .nil [2]) (.cons false (.op .len (.cons false (.var 1) .nil)) .nil))))) .nil)⟩
/- _law_is -/
abbrev sf__law_is : PySem.Stmt := top 31
def nf__law_is : List PySem.Str := [(z "told"), (z "due"), (z "is_fit"), (z "one"), (z "other")]
def f__law_is : Fn := ⟨2, 5, (.cons (.iff (.op (.isi ["tuple"]) (.cons false (.var 1) .nil)) (.cons (.asg (.v 2) (.an (.cons false (.op (.isi ["tuple"]) (.cons false (.var 0) .nil)) (.cons false (.op .eq (.cons false (.op .len (.cons false (.var 0) .nil)) (.cons false (.op .len (.cons false (.var 1) .nil)) .nil))) .nil)))) (.cons (.ret (.an (.cons false (.var 2) (.cons false (.op .all (.cons false (.comp (.call (z "_law_is") (.cons false (.var 3) (.cons false (.var 4) .nil))) (.t (.cons (.v 3) (.cons (.v 4) .nil))) (.zip (.var 0) (.var 1)) .nil [3, 4]) .nil)) .nil)))) .nil)) .nil) (.cons (.iff (.op (.isi ["bool"]) (.cons false (.var 1) .nil)) (.cons (.ret (.an (.cons false (.op (.isi ["bool"]) (.cons false (.var 0) .nil)) (.cons false (.op .eq (.cons false (.var 0) (.cons false (.var 1) .nil))) .nil)))) .nil) .nil) (.cons (.iff (.op (.isi ["int"]) (.cons false (.var 1) .nil)) (.cons (.ret (.an (.cons false (.op (.isi ["int"]) (.cons false (.var 0) .nil)) (.cons false (.nt (.op (.isi ["bool"]) (.cons false (.var 0) .nil))) (.cons false (.op .eq (.cons false (.var 0) (.cons false (.var 1) .nil))) .nil))))) .nil) .nil) (.cons (.ret (.ite (.op .isN (.cons false (.var 1) .nil)) (.op .isN (.cons false (.var 0) .nil)) (.an (.cons false (.op (.isi ["str"]) (.cons false (.var 0) .nil)) (.cons false (.op .eq (.cons false (.var 0) (.cons false (.var 1) .nil))) .nil))))) .nil))))⟩
/- _law_word -/
abbrev sf__law_word : PySem.Stmt := top 32
def nf__law_word : List PySem.Str := [(z "letter"), (z "number")]
def f__law_word : Fn := ⟨2, 2, (.cons (.ret (.op .add (.cons false (.var 0) (.cons false (.op .idx (.cons false (.lit (.str (z "abcdefghijklmnopqrstuvwxyz"))) (.cons false (.var 1) .nil))) .nil)))) .nil)⟩
/- _law_comb -/
abbrev sf__law_comb : PySem.Stmt := top 33
def nf__law_comb : List PySem.Str := [(z "ends"), (z "rows"), (z "at")]
def f__law_comb : Fn := ⟨1, 3, (.cons (.iff (.op .eq (.cons false (.var 0) (.cons false (.lit (.int (3))) .nil))) (.cons (.ret (.lst (.cons false (.tup (.cons false (.call (z "_law_word") (.cons false (.lit (.str (z "e"))) (.cons false (.lit (.int (0))) .nil))) (.cons false (.call (z "_law_word") (.cons false (.lit (.str (z "e"))) (.cons false (.lit (.int (1))) .nil))) (.cons false (.call (z "_law_word") (.cons false (.lit (.str (z "e"))) (.cons false (.lit (.int (2))) .nil))) .nil)))) .nil))) .nil) .nil) (.cons (.asg (.v 1) (.lst (.cons false (.tup (.cons false (.call (z "_law_word") (.cons false (.lit (.str (z "e"))) (.cons false (.lit (.int (0))) .nil))) (.cons false (.call (z "_law_word") (.cons false (.lit (.str (z "e"))) (.cons false (.lit (.int (1))) .nil))) (.cons false (.call (z "_law_word") (.cons false (.lit (.str (z "i"))) (.cons false (.lit (.int (0))) .nil))) .nil)))) .nil))) (.cons (.forr (.v 2) (.range (.cons false (.op .sub (.cons false (.var 0) (.cons false (.lit (.int (4))) .nil))) .nil)) (.cons (.exp (.mut .append 1 (.cons false (.tup (.cons false (.call (z "_law_word") (.cons false (.lit (.str (z "i"))) (.cons false (.var 2) .nil))) (.cons false (.call (z "_law_word") (.cons false (.lit (.str (z "e"))) (.cons false (.op .add (.cons false (.var 2) (.cons false (.lit (.int (2))) .nil))) .nil))) (.cons false (.call (z "_law_word") (.cons false (.lit (.str (z "i"))) (.cons false (.op .add (.cons false (.var 2) (.cons false (.lit (.int (1))) .nil))) .nil))) .nil)))) .nil))) .nil)) (.cons (.ret (.op .add (.cons false (.var 1) (.cons false (.lst (.cons false (.tup (.cons false (.call (z "_law_word") (.cons false (.lit (.str (z "i"))) (.cons false (.op .sub (.cons false (.var 0) (.cons false (.lit (.int (4))) .nil))) .nil))) (.cons false (.call (z "_law_word") (.cons false (.lit (.str (z "e"))) (.cons false (.op .sub (.cons false (.var 0) (.cons false (.lit (.int (2))) .nil))) .nil))) (.cons false (.call (z "_law_word") (.cons false (.lit (.str (z "e"))) (.cons false (.op .sub (.cons false (.var 0) (.cons false (.lit (.int (1))) .nil))) .nil))) .nil)))) .nil)) .nil)))) .nil))))⟩
/- _law_ring -/
abbrev sf__law_ring : PySem.Stmt := top 34
def nf__law_ring : List PySem.Str := [(z "many"), (z "at")]
def f__law_ring : Fn := ⟨1, 2, (.cons (.ret (.comp (.tup (.cons false (.call (z "_law_word") (.cons false (.lit (.str (z "r"))) (.cons false (.var 1) .nil))) (.cons false (.call (z "_law_word") (.cons false (.lit (.str (z "e"))) (.cons false (.var 1) .nil))) (.cons false (.call (z "_law_word") (.cons false (.lit (.str (z "r"))) (.cons false (.op .mod (.cons false (.op .int (.cons false (.op .add (.cons false (.var 1) (.cons false (.lit (.int (1))) .nil))) .nil)) (.cons false (.var 0) .nil))) .nil))) .nil)))) (.v 1) (.range (.cons false (.var 0) .nil)) .nil [1])) .nil)⟩
/- _law_drummed -/
abbrev sf__law_drummed : PySem.Stmt := top 35
def nf__law_drummed : List PySem.Str := [(z "own"), (z "ends"), (z "end")]
def f__law_drummed : Fn := ⟨2, 3, (.cons (.ret (.op .add (.cons false (.var 0) (.cons false (.comp (.tup (.cons false (.var 2) (.cons false (.op .add (.cons false (.lit (.str (z "d"))) (.cons false (.var 2) .nil))) (.cons false (.op .add (.cons false (.lit (.str (z "d"))) (.cons false (.var 2) .nil))) .nil)))) (.v 2) (.val (.var 1)) .nil [2]) .nil)))) .nil)⟩
/- _law_is_so -/
abbrev sf__law_is_so : PySem.Stmt := top 36
def nf__law_is_so : List PySem.Str := [(z "pot"), (z "own"), (z "ends"), (z "rounds"), (z "spans"), (z "web")]
def f__law_is_so : Fn := ⟨5, 6, (.cons (.asg (.v 5) (.make (z "Web") (z "Web.__init__") (.cons false (.call (z "_law_web_text") (.cons false (.call (z "_law_web_turned") (.cons false (.var 0) (.cons false (.var 1) .nil))) .nil)) .nil))) (.cons (.iff (.nt (.call (z "_law_is") (.cons false (.tup (.cons false (.op .len (.cons false (.prop (z "Web") (z "Web.ends") (z "ends") (.var 5)) .nil)) (.cons false (.prop (z "Web") (z "Web.rounds") (z "rounds") (.var 5)) (.cons false (.lenI (z "Web") (z "Web.__len__") (.var 5)) .nil)))) (.cons false (.tup (.cons false (.var 2) (.cons false (.var 3) (.cons false (.op .len (.cons false (.var 1) .nil)) .nil)))) .nil)))) (.cons (.ret (.lit (.bl false))) .nil) .nil) (.cons (.iff (.nt (.call (z "_law_is") (.cons false (.tup (.cons false (.op .len (.cons false (.prop (z "Web") (z "Web.roads") (z "roads") (.var 5)) .nil)) (.cons false (.op .len (.cons false (.prop (z "Web") (z "Web.inner") (z "inner") (.var 5)) .nil)) .nil))) (.cons false (.tup (.cons false (.op .sub (.cons false (.op .add (.cons false (.op .mul (.cons false (.lit (.int (2))) (.cons false (.var 2) .nil))) (.cons false (.op .mul (.cons false (.lit (.int (3))) (.cons false (.var 3) .nil))) .nil))) (.cons false (.lit (.int (3))) .nil))) (.cons false (.op .sub (.cons false (.op .add (.cons false (.var 2) (.cons false (.op .mul (.cons false (.lit (.int (3))) (.cons false (.var 3) .nil))) .nil))) (.cons false (.lit (.int (3))) .nil))) .nil))) .nil)))) (.cons (.ret (.lit (.bl false))) .nil) .nil) (.cons (.ret (.call (z "_law_is") (.cons false (.call (z "bridges") (.cons false (.var 5) .nil)) (.cons false (.op .tuple (.cons false (.op .sorted (.cons false (.var 4) .nil)) .nil)) .nil)))) .nil))))⟩
/- _law_right -/
abbrev sf__law_right : PySem.Stmt := top 37
def nf__law_right : List PySem.Str := [(z "pot"), (z "comb"), (z "inner"), (z "few"), (z "some"), (z "ends"), (z "many"), (z "drums"), (z "spans"), (z "at")]
def f__law_right : Fn := ⟨1, 10, (.cons (.par [5, 6] (.cons false (.op .add (.cons false (.lit (.int (3))) (.cons false (.call (z "_law_take") (.cons false (.var 0) (.cons false (.lit (.int (12))) .nil))) .nil))) (.cons false (.op .add (.cons false (.lit (.int (1))) (.cons false (.call (z "_law_take") (.cons false (.var 0) (.cons false (.lit (.int (12))) .nil))) .nil))) .nil))) (.cons (.asg (.v 1) (.call (z "_law_comb") (.cons false (.var 5) .nil))) (.cons (.asg (.v 2) (.comp (.call (z "_law_word") (.cons false (.lit (.str (z "i"))) (.cons false (.var 9) .nil))) (.v 9) (.range (.cons false (.op .sub (.cons false (.var 5) (.cons false (.lit (.int (3))) .nil))) .nil)) .nil [9])) (.cons (.iff (.orr (.cons false (.nt (.call (z "_law_is_so") (.cons false (.var 0) (.cons false (.var 1) (.cons false (.var 5) (.cons false (.lit (.int (0))) (.cons false (.var 2) .nil))))))) (.cons false (.nt (.call (z "_law_is_so") (.cons false (.var 0) (.cons false (.call (z "_law_ring") (.cons false (.var 6) .nil)) (.cons false (.var 6) (.cons false (.lit (.int (1))) (.cons false (.lst .nil) .nil))))))) .nil))) (.cons (.ret (.lit (.bl false))) .nil) .nil) (.cons (.asg (.v 3) (.op .add (.cons false (.lit (.int (3))) (.cons false (.call (z "_law_take") (.cons false (.var 0) (.cons false (.lit (.int (4))) .nil))) .nil)))) (.cons (.asg (.v 4) (.call (z "_law_some") (.cons false (.var 0) (.cons false (.comp (.call (z "_law_word") (.cons false (.lit (.str (z "e"))) (.cons false (.var 9) .nil))) (.v 9) (.range (.cons false (.var 3) .nil)) .nil [9]) (.cons false (.op .add (.cons false (.lit (.int (1))) (.cons false (.call (z "_law_take") (.cons false (.var 0) (.cons false (.var 3) .nil))) .nil))) .nil))))) (.cons (.par [7, 8] (.cons false (.call (z "_law_drummed") (.cons false (.call (z "_law_comb") (.cons false (.var 3) .nil)) (.cons false (.var 4) .nil))) (.cons false (.op .add (.cons false (.comp (.call (z "_law_word") (.cons false (.lit (.str (z "i"))) (.cons false (.var 9) .nil))) (.v 9) (.range (.cons false (.op .sub (.cons false (.var 3) (.cons false (.lit (.int (3))) .nil))) .nil)) .nil [9]) (.cons false (.var 4) .nil))) .nil))) (.cons (.iff (.nt (.call (z "_law_is_so") (.cons false (.var 0) (.cons false (.var 7) (.cons false (.op .sub (.cons false (.var 3) (.cons false (.op .len (.cons false (.var 4) .nil)) .nil))) (.cons false (.op .len (.cons false (.var 4) .nil)) (.cons false (.var 8) .nil))))))) (.cons (.ret (.lit (.bl false))) .nil) .nil) (.cons (.ret (.call (z "_law_is_so") (.cons false (.var 0) (.cons false (.lst (.cons false (.tup (.cons false (.lit (.str (z "a"))) (.cons false (.lit (.str (z "b"))) (.cons false (.lit (.str (z "c"))) .nil)))) (.cons false (.tup (.cons false (.lit (.str (z "b"))) (.cons false (.lit (.str (z "c"))) (.cons false (.lit (.str (z "a"))) .nil)))) .nil))) (.cons false (.lit (.int (0))) (.cons false (.lit (.int (2))) (.cons false (.lst .nil) .nil))))))) .nil)))))))))⟩
/- law -/
abbrev sf_law : PySem.Stmt := top 38
def nf_law : List PySem.Str := [(z "script"), (z "place")]
def f_law : Fn := ⟨1, 2, (.cons (.ret (.op .all (.cons false (.comp (.call (z "_law_right") (.cons false (.call (z "_law_pot") (.cons false (.var 0) (.cons false (.var 1) .nil))) .nil)) (.v 1) (.val (.call (z "_law_cells") (.cons false (.var 0) (.cons false (.lit (.int (1))) .nil)))) .nil [1]) .nil))) .nil)⟩
def pr : Pr := [((z "is_name"), f_is_name), ((z "lines_of"), f_lines_of), ((z "meet_in"), f_meet_in), ((z "counted"), f_counted), ((z "junctions_in"), f_junctions_in), ((z "reached"), f_reached), ((z "Web.__init__"), f_Web___init__), ((z "Web.text"), f_Web_text), ((z "Web.roads"), f_Web_roads), ((z "Web.inner"), f_Web_inner), ((z "Web.ends"), f_Web_ends), ((z "Web.junctions"), f_Web_junctions), ((z "Web.rounds"), f_Web_rounds), ((z "Web.__len__"), f_Web___len__), ((z "places_of"), f_places_of), ((z "is_bridge"), f_is_bridge), ((z "bridges"), f_bridges), ((z "_law_pot"), f__law_pot), ((z "_law_take"), f__law_take), ((z "_law_some"), f__law_some), ((z "_law_cells"), f__law_cells), ((z "_law_web_text"), f__law_web_text), ((z "_law_web_turned"), f__law_web_turned), ((z "_law_is"), f__law_is), ((z "_law_word"), f__law_word), ((z "_law_comb"), f__law_comb), ((z "_law_ring"), f__law_ring), ((z "_law_drummed"), f__law_drummed), ((z "_law_is_so"), f__law_is_so), ((z "_law_right"), f__law_right), ((z "law"), f_law)]
theorem cf_is_name : chkSs { cf with N := nf_is_name } f_is_name.body (L2.defScope sf_is_name) (L2.defBody sf_is_name) = true := by decide +kernel
theorem cf_lines_of : chkSs { cf with N := nf_lines_of } f_lines_of.body (L2.defScope sf_lines_of) (L2.defBody sf_lines_of) = true := by decide +kernel
theorem cf_meet_in : chkSs { cf with N := nf_meet_in } f_meet_in.body (L2.defScope sf_meet_in) (L2.defBody sf_meet_in) = true := by decide +kernel
theorem cf_counted : chkSs { cf with N := nf_counted } f_counted.body (L2.defScope sf_counted) (L2.defBody sf_counted) = true := by decide +kernel
theorem cf_junctions_in : chkSs { cf with N := nf_junctions_in } f_junctions_in.body (L2.defScope sf_junctions_in) (L2.defBody sf_junctions_in) = true := by decide +kernel
theorem cf_reached : chkSs { cf with N := nf_reached } f_reached.body (L2.defScope sf_reached) (L2.defBody sf_reached) = true := by decide +kernel
theorem cf_Web___init__ : chkSs { cf with N := nf_Web___init__ } f_Web___init__.body (L2.defScope sf_Web___init__) (L2.defBody sf_Web___init__) = true := by decide +kernel
theorem cf_Web_text : chkSs { cf with N := nf_Web_text } f_Web_text.body (L2.defScope sf_Web_text) (L2.defBody sf_Web_text) = true := by decide +kernel
theorem cf_Web_roads : chkSs { cf with N := nf_Web_roads } f_Web_roads.body (L2.defScope sf_Web_roads) (L2.defBody sf_Web_roads) = true := by decide +kernel
theorem cf_Web_inner : chkSs { cf with N := nf_Web_inner } f_Web_inner.body (L2.defScope sf_Web_inner) (L2.defBody sf_Web_inner) = true := by decide +kernel
theorem cf_Web_ends : chkSs { cf with N := nf_Web_ends } f_Web_ends.body (L2.defScope sf_Web_ends) (L2.defBody sf_Web_ends) = true := by decide +kernel
theorem cf_Web_junctions : chkSs { cf with N := nf_Web_junctions } f_Web_junctions.body (L2.defScope sf_Web_junctions) (L2.defBody sf_Web_junctions) = true := by decide +kernel
theorem cf_Web_rounds : chkSs { cf with N := nf_Web_rounds } f_Web_rounds.body (L2.defScope sf_Web_rounds) (L2.defBody sf_Web_rounds) = true := by decide +kernel
theorem cf_Web___len__ : chkSs { cf with N := nf_Web___len__ } f_Web___len__.body (L2.defScope sf_Web___len__) (L2.defBody sf_Web___len__) = true := by decide +kernel
theorem cf_places_of : chkSs { cf with N := nf_places_of } f_places_of.body (L2.defScope sf_places_of) (L2.defBody sf_places_of) = true := by decide +kernel
theorem cf_is_bridge : chkSs { cf with N := nf_is_bridge } f_is_bridge.body (L2.defScope sf_is_bridge) (L2.defBody sf_is_bridge) = true := by decide +kernel
theorem cf_bridges : chkSs { cf with N := nf_bridges } f_bridges.body (L2.defScope sf_bridges) (L2.defBody sf_bridges) = true := by decide +kernel
theorem cf__law_pot : chkSs { cf with N := nf__law_pot } f__law_pot.body (L2.defScope sf__law_pot) (L2.defBody sf__law_pot) = true := by decide +kernel
theorem cf__law_take : chkSs { cf with N := nf__law_take } f__law_take.body (L2.defScope sf__law_take) (L2.defBody sf__law_take) = true := by decide +kernel
theorem cf__law_some : chkSs { cf with N := nf__law_some } f__law_some.body (L2.defScope sf__law_some) (L2.defBody sf__law_some) = true := by decide +kernel
theorem cf__law_cells : chkSs { cf with N := nf__law_cells } f__law_cells.body (L2.defScope sf__law_cells) (L2.defBody sf__law_cells) = true := by decide +kernel
theorem cf__law_web_text : chkSs { cf with N := nf__law_web_text } f__law_web_text.body (L2.defScope sf__law_web_text) (L2.defBody sf__law_web_text) = true := by decide +kernel
theorem cf__law_web_turned : chkSs { cf with N := nf__law_web_turned } f__law_web_turned.body (L2.defScope sf__law_web_turned) (L2.defBody sf__law_web_turned) = true := by decide +kernel
theorem cf__law_is : chkSs { cf with N := nf__law_is } f__law_is.body (L2.defScope sf__law_is) (L2.defBody sf__law_is) = true := by decide +kernel
theorem cf__law_word : chkSs { cf with N := nf__law_word } f__law_word.body (L2.defScope sf__law_word) (L2.defBody sf__law_word) = true := by decide +kernel
theorem cf__law_comb : chkSs { cf with N := nf__law_comb } f__law_comb.body (L2.defScope sf__law_comb) (L2.defBody sf__law_comb) = true := by decide +kernel
theorem cf__law_ring : chkSs { cf with N := nf__law_ring } f__law_ring.body (L2.defScope sf__law_ring) (L2.defBody sf__law_ring) = true := by decide +kernel
theorem cf__law_drummed : chkSs { cf with N := nf__law_drummed } f__law_drummed.body (L2.defScope sf__law_drummed) (L2.defBody sf__law_drummed) = true := by decide +kernel
theorem cf__law_is_so : chkSs { cf with N := nf__law_is_so } f__law_is_so.body (L2.defScope sf__law_is_so) (L2.defBody sf__law_is_so) = true := by decide +kernel
theorem cf__law_right : chkSs { cf with N := nf__law_right } f__law_right.body (L2.defScope sf__law_right) (L2.defBody sf__law_right) = true := by decide +kernel
theorem cf_law : chkSs { cf with N := nf_law } f_law.body (L2.defScope sf_law) (L2.defBody sf_law) = true := by decide +kernel
def adr (l : List (PySem.Str × PySem.Addr)) (x : PySem.Str) : PySem.Addr := (l.lookup x).getD 0
set_option maxHeartbeats 8000000 in
theorem all_mk {K : PySem.W.Frag} {h : PySem.Heap} {mg : PySem.Str → Option PySem.Value} {fa : PySem.Addr} (X : K.In h) (G : h.Ns PySem.mainGlobals mg) (hfa : mg "law" = some (.ref fa))
    {C0 p0_0 p0_1 p0_2 q0_0 q0_1 q0_2 q0_3 q0_4 q0_5 a0 a1 a2 a3 a4 a5 a6 a7 a8 a9 a10 a11 a12 a13 a14 a15 a16 a17 a18 a19 a20 a21 a22 a23 a24 a25 a26 a27 a28 a29 a30 : PySem.Addr} {oc0 kV0 dc0 pm0 cd0 ct0 oc1 kV1 dc1 pm1 cd1 ct1 oc2 kV2 dc2 pm2 cd2 ct2 oc3 kV3 dc3 pm3 cd3 ct3 oc4 kV4 dc4 pm4 cd4 ct4 oc5 kV5 dc5 pm5 cd5 ct5 oc6 kV6 dc6 pm6 cd6 ct6 oc7 kV7 dc7 pm7 cd7 ct7 oc8 kV8 dc8 pm8 cd8 ct8 oc9 kV9 dc9 pm9 cd9 ct9 oc10 kV10 dc10 pm10 cd10 ct10 oc11 kV11 dc11 pm11 cd11 ct11 oc12 kV12 dc12 pm12 cd12 ct12 oc13 kV13 dc13 pm13 cd13 ct13 oc14 kV14 dc14 pm14 cd14 ct14 oc15 kV15 dc15 pm15 cd15 ct15 oc16 kV16 dc16 pm16 cd16 ct16 oc17 kV17 dc17 pm17 cd17 ct17 oc18 kV18 dc18 pm18 cd18 ct18 oc19 kV19 dc19 pm19 cd19 ct19 oc20 kV20 dc20 pm20 cd20 ct20 oc21 kV21 dc21 pm21 cd21 ct21 oc22 kV22 dc22 pm22 cd22 ct22 oc23 kV23 dc23 pm23 cd23 ct23 oc24 kV24 dc24 pm24 cd24 ct24 oc25 kV25 dc25 pm25 cd25 ct25 oc26 kV26 dc26 pm26 cd26 ct26 oc27 kV27 dc27 pm27 cd27 ct27 oc28 kV28 dc28 pm28 cd28 ct28 oc29 kV29 dc29 pm29 cd29 ct29 oc30 kV30 dc30 pm30 cd30 ct30 : PySem.Value} {od0 an0 od1 an1 od2 an2 od3 an3 od4 an4 od5 an5 od6 an6 od7 an7 od8 an8 od9 an9 od10 an10 od11 an11 od12 an12 od13 an13 od14 an14 od15 an15 od16 an16 od17 an17 od18 an18 od19 an19 od20 an20 od21 an21 od22 an22 od23 an23 od24 an24 od25 an25 od26 an26 od27 an27 od28 an28 od29 an29 od30 an30 : Option PySem.Addr} {sl0 sl1 sl2 sl3 sl4 sl5 sl6 sl7 sl8 sl9 sl10 sl11 sl12 sl13 sl14 sl15 sl16 sl17 sl18 sl19 sl20 sl21 sl22 sl23 sl24 sl25 sl26 sl27 sl28 sl29 sl30 : Array (Option PySem.Value)}
    {rq0_0 rq0_1 rq0_2 rq0_3 rq0_4 rq0_5 : List PySem.Value}
    {t0 t1 t2 t3 t4 t5 t6 t7 t8 : PySem.Tok}
    (nC0 : PySem.W.nsIn K PySem.mainGlobals "Web" = some (some (.ref C0)))
    (pgC0 : PySem.W.plainGet K C0 PySem.Str.empty = true)
    (icC0 : PySem.W.isClsIn K C0 = true)
    (poC0 : PySem.W.plainOver K C0 = true)
    (saC0 : PySem.W.findIn K (.ref C0) "__setattr__" = some (some (.builtin "object.__setattr__")))
    (mkC0 : PySem.W.makesIn K C0 = true)
    (kcC0 : PySem.W.keepIn K (.ref C0) = true)
    (atp0_0 : PySem.W.findIn K (.ref C0) "own_counts" = some (some (.ref p0_0)))
    (gep0_0 : PySem.W.specialIn K (.ref p0_0) "__get__" = some (some (.builtin "member_descriptor.__get__")))
    (tkp0_0 : PySem.W.takesIn K (.ref p0_0) = some true)
    (typ0_0 : PySem.W.typeIn K (.ref p0_0) = some (.type "member_descriptor"))
    (ixp0_0 : PySem.W.slotIn K p0_0 C0 = some 0)
    (atp0_1 : PySem.W.findIn K (.ref C0) "own_junctions" = some (some (.ref p0_1)))
    (gep0_1 : PySem.W.specialIn K (.ref p0_1) "__get__" = some (some (.builtin "member_descriptor.__get__")))
    (tkp0_1 : PySem.W.takesIn K (.ref p0_1) = some true)
    (typ0_1 : PySem.W.typeIn K (.ref p0_1) = some (.type "member_descriptor"))
    (ixp0_1 : PySem.W.slotIn K p0_1 C0 = some 1)
    (atp0_2 : PySem.W.findIn K (.ref C0) "own_text" = some (some (.ref p0_2)))
    (gep0_2 : PySem.W.specialIn K (.ref p0_2) "__get__" = some (some (.builtin "member_descriptor.__get__")))
    (tkp0_2 : PySem.W.takesIn K (.ref p0_2) = some true)
    (typ0_2 : PySem.W.typeIn K (.ref p0_2) = some (.type "member_descriptor"))
    (ixp0_2 : PySem.W.slotIn K p0_2 C0 = some 2)
    (atq0_0 : PySem.W.findIn K (.ref C0) "text" = some (some (.ref q0_0)))
    (geq0_0 : PySem.W.specialIn K (.ref q0_0) "__get__" = some (some (.builtin "property.__get__")))
    (tkq0_0 : PySem.W.takesIn K (.ref q0_0) = some true)
    (rcq0_0 : PySem.W.recIn K q0_0 "property" = some (.ref a7 :: rq0_0))
    (atq0_1 : PySem.W.findIn K (.ref C0) "roads" = some (some (.ref q0_1)))
    (geq0_1 : PySem.W.specialIn K (.ref q0_1) "__get__" = some (some (.builtin "property.__get__")))
    (tkq0_1 : PySem.W.takesIn K (.ref q0_1) = some true)
    (rcq0_1 : PySem.W.recIn K q0_1 "property" = some (.ref a8 :: rq0_1))
    (atq0_2 : PySem.W.findIn K (.ref C0) "inner" = some (some (.ref q0_2)))
    (geq0_2 : PySem.W.specialIn K (.ref q0_2) "__get__" = some (some (.builtin "property.__get__")))
    (tkq0_2 : PySem.W.takesIn K (.ref q0_2) = some true)
    (rcq0_2 : PySem.W.recIn K q0_2 "property" = some (.ref a9 :: rq0_2))
    (atq0_3 : PySem.W.findIn K (.ref C0) "ends" = some (some (.ref q0_3)))
    (geq0_3 : PySem.W.specialIn K (.ref q0_3) "__get__" = some (some (.builtin "property.__get__")))
    (tkq0_3 : PySem.W.takesIn K (.ref q0_3) = some true)
    (rcq0_3 : PySem.W.recIn K q0_3 "property" = some (.ref a10 :: rq0_3))
    (atq0_4 : PySem.W.findIn K (.ref C0) "junctions" = some (some (.ref q0_4)))
    (geq0_4 : PySem.W.specialIn K (.ref q0_4) "__get__" = some (some (.builtin "property.__get__")))
    (tkq0_4 : PySem.W.takesIn K (.ref q0_4) = some true)
    (rcq0_4 : PySem.W.recIn K q0_4 "property" = some (.ref a11 :: rq0_4))
    (atq0_5 : PySem.W.findIn K (.ref C0) "rounds" = some (some (.ref q0_5)))
    (geq0_5 : PySem.W.specialIn K (.ref q0_5) "__get__" = some (some (.builtin "property.__get__")))
    (tkq0_5 : PySem.W.takesIn K (.ref q0_5) = some true)
    (rcq0_5 : PySem.W.recIn K q0_5 "property" = some (.ref a12 :: rq0_5))
    (n0 : PySem.W.nsIn K PySem.mainGlobals "is_name" = some (some (.ref a0)))
    (l0 : K.lookup a0 = some ⟨oc0, od0, .func (PySem.W.fnOf "is_name" "is_name" (L2.defArgs sf_is_name) (L2.defBody sf_is_name) (L2.defScope sf_is_name) .none kV0 dc0 pm0 an0 cd0 ct0), sl0⟩)
    (c0 : PySem.W.codeIn K cd0 "is_name" = true)
    (k0 : PySem.W.keepIn K (.ref a0) = true)
    (n1 : PySem.W.nsIn K PySem.mainGlobals "lines_of" = some (some (.ref a1)))
    (l1 : K.lookup a1 = some ⟨oc1, od1, .func (PySem.W.fnOf "lines_of" "lines_of" (L2.defArgs sf_lines_of) (L2.defBody sf_lines_of) (L2.defScope sf_lines_of) .none kV1 dc1 pm1 an1 cd1 ct1), sl1⟩)
    (c1 : PySem.W.codeIn K cd1 "lines_of" = true)
    (k1 : PySem.W.keepIn K (.ref a1) = true)
    (n2 : PySem.W.nsIn K PySem.mainGlobals "meet_in" = some (some (.ref a2)))
    (l2 : K.lookup a2 = some ⟨oc2, od2, .func (PySem.W.fnOf "meet_in" "meet_in" (L2.defArgs sf_meet_in) (L2.defBody sf_meet_in) (L2.defScope sf_meet_in) .none kV2 dc2 pm2 an2 cd2 ct2), sl2⟩)
    (c2 : PySem.W.codeIn K cd2 "meet_in" = true)
    (k2 : PySem.W.keepIn K (.ref a2) = true)
    (n3 : PySem.W.nsIn K PySem.mainGlobals "counted" = some (some (.ref a3)))
    (l3 : K.lookup a3 = some ⟨oc3, od3, .func (PySem.W.fnOf "counted" "counted" (L2.defArgs sf_counted) (L2.defBody sf_counted) (L2.defScope sf_counted) .none kV3 dc3 pm3 an3 cd3 ct3), sl3⟩)
    (c3 : PySem.W.codeIn K cd3 "counted" = true)
    (k3 : PySem.W.keepIn K (.ref a3) = true)
    (n4 : PySem.W.nsIn K PySem.mainGlobals "junctions_in" = some (some (.ref a4)))
    (l4 : K.lookup a4 = some ⟨oc4, od4, .func (PySem.W.fnOf "junctions_in" "junctions_in" (L2.defArgs sf_junctions_in) (L2.defBody sf_junctions_in) (L2.defScope sf_junctions_in) .none kV4 dc4 pm4 an4 cd4 ct4), sl4⟩)
    (c4 : PySem.W.codeIn K cd4 "junctions_in" = true)
    (k4 : PySem.W.keepIn K (.ref a4) = true)
    (n5 : PySem.W.nsIn K PySem.mainGlobals "reached" = some (some (.ref a5)))
    (l5 : K.lookup a5 = some ⟨oc5, od5, .func (PySem.W.fnOf "reached" "reached" (L2.defArgs sf_reached) (L2.defBody sf_reached) (L2.defScope sf_reached) .none kV5 dc5 pm5 an5 cd5 ct5), sl5⟩)
    (c5 : PySem.W.codeIn K cd5 "reached" = true)
    (k5 : PySem.W.keepIn K (.ref a5) = true)
    (n6 : PySem.W.findIn K (.ref C0) "__init__" = some (some (.ref a6)))
    (f6 : PySem.W.isFn K (.ref a6) = true)
    (l6 : K.lookup a6 = some ⟨oc6, od6, .func (PySem.W.fnOf "__init__" "Web.__init__" (L2.defArgs sf_Web___init__) (L2.defBody sf_Web___init__) (L2.defScope sf_Web___init__) .none kV6 dc6 pm6 an6 cd6 ct6), sl6⟩)
    (c6 : PySem.W.codeIn K cd6 "Web.__init__" = true)
    (k6 : PySem.W.keepIn K (.ref a6) = true)
    (l7 : K.lookup a7 = some ⟨oc7, od7, .func (PySem.W.fnOf "text" "Web.text" (L2.defArgs sf_Web_text) (L2.defBody sf_Web_text) (L2.defScope sf_Web_text) .none kV7 dc7 pm7 an7 cd7 ct7), sl7⟩)
    (c7 : PySem.W.codeIn K cd7 "Web.text" = true)
    (k7 : PySem.W.keepIn K (.ref a7) = true)
    (l8 : K.lookup a8 = some ⟨oc8, od8, .func (PySem.W.fnOf "roads" "Web.roads" (L2.defArgs sf_Web_roads) (L2.defBody sf_Web_roads) (L2.defScope sf_Web_roads) .none kV8 dc8 pm8 an8 cd8 ct8), sl8⟩)
    (c8 : PySem.W.codeIn K cd8 "Web.roads" = true)
    (k8 : PySem.W.keepIn K (.ref a8) = true)
    (l9 : K.lookup a9 = some ⟨oc9, od9, .func (PySem.W.fnOf "inner" "Web.inner" (L2.defArgs sf_Web_inner) (L2.defBody sf_Web_inner) (L2.defScope sf_Web_inner) .none kV9 dc9 pm9 an9 cd9 ct9), sl9⟩)
    (c9 : PySem.W.codeIn K cd9 "Web.inner" = true)
    (k9 : PySem.W.keepIn K (.ref a9) = true)
    (l10 : K.lookup a10 = some ⟨oc10, od10, .func (PySem.W.fnOf "ends" "Web.ends" (L2.defArgs sf_Web_ends) (L2.defBody sf_Web_ends) (L2.defScope sf_Web_ends) .none kV10 dc10 pm10 an10 cd10 ct10), sl10⟩)
    (c10 : PySem.W.codeIn K cd10 "Web.ends" = true)
    (k10 : PySem.W.keepIn K (.ref a10) = true)
    (l11 : K.lookup a11 = some ⟨oc11, od11, .func (PySem.W.fnOf "junctions" "Web.junctions" (L2.defArgs sf_Web_junctions) (L2.defBody sf_Web_junctions) (L2.defScope sf_Web_junctions) .none kV11 dc11 pm11 an11 cd11 ct11), sl11⟩)
    (c11 : PySem.W.codeIn K cd11 "Web.junctions" = true)
    (k11 : PySem.W.keepIn K (.ref a11) = true)
    (l12 : K.lookup a12 = some ⟨oc12, od12, .func (PySem.W.fnOf "rounds" "Web.rounds" (L2.defArgs sf_Web_rounds) (L2.defBody sf_Web_rounds) (L2.defScope sf_Web_rounds) .none kV12 dc12 pm12 an12 cd12 ct12), sl12⟩)
    (c12 : PySem.W.codeIn K cd12 "Web.rounds" = true)
    (k12 : PySem.W.keepIn K (.ref a12) = true)
    (n13 : PySem.W.findIn K (.ref C0) "__len__" = some (some (.ref a13)))
    (f13 : PySem.W.typeIn K (.ref a13) = some (.type "function"))
    (l13 : K.lookup a13 = some ⟨oc13, od13, .func (PySem.W.fnOf "__len__" "Web.__len__" (L2.defArgs sf_Web___len__) (L2.defBody sf_Web___len__) (L2.defScope sf_Web___len__) .none kV13 dc13 pm13 an13 cd13 ct13), sl13⟩)
    (c13 : PySem.W.codeIn K cd13 "Web.__len__" = true)
    (k13 : PySem.W.keepIn K (.ref a13) = true)
    (n14 : PySem.W.nsIn K PySem.mainGlobals "places_of" = some (some (.ref a14)))
    (l14 : K.lookup a14 = some ⟨oc14, od14, .func (PySem.W.fnOf "places_of" "places_of" (L2.defArgs sf_places_of) (L2.defBody sf_places_of) (L2.defScope sf_places_of) .none kV14 dc14 pm14 an14 cd14 ct14), sl14⟩)
    (c14 : PySem.W.codeIn K cd14 "places_of" = true)
    (k14 : PySem.W.keepIn K (.ref a14) = true)
    (n15 : PySem.W.nsIn K PySem.mainGlobals "is_bridge" = some (some (.ref a15)))
    (l15 : K.lookup a15 = some ⟨oc15, od15, .func (PySem.W.fnOf "is_bridge" "is_bridge" (L2.defArgs sf_is_bridge) (L2.defBody sf_is_bridge) (L2.defScope sf_is_bridge) .none kV15 dc15 pm15 an15 cd15 ct15), sl15⟩)
    (c15 : PySem.W.codeIn K cd15 "is_bridge" = true)
    (k15 : PySem.W.keepIn K (.ref a15) = true)
    (n16 : PySem.W.nsIn K PySem.mainGlobals "bridges" = some (some (.ref a16)))
    (l16 : K.lookup a16 = some ⟨oc16, od16, .func (PySem.W.fnOf "bridges" "bridges" (L2.defArgs sf_bridges) (L2.defBody sf_bridges) (L2.defScope sf_bridges) .none kV16 dc16 pm16 an16 cd16 ct16), sl16⟩)
    (c16 : PySem.W.codeIn K cd16 "bridges" = true)
    (k16 : PySem.W.keepIn K (.ref a16) = true)
    (n17 : PySem.W.nsIn K PySem.mainGlobals "_law_pot" = some (some (.ref a17)))
    (l17 : K.lookup a17 = some ⟨oc17, od17, .func (PySem.W.fnOf "_law_pot" "_law_pot" (L2.defArgs sf__law_pot) (L2.defBody sf__law_pot) (L2.defScope sf__law_pot) .none kV17 dc17 pm17 an17 cd17 ct17), sl17⟩)
    (c17 : PySem.W.codeIn K cd17 "_law_pot" = true)
    (k17 : PySem.W.keepIn K (.ref a17) = true)
    (n18 : PySem.W.nsIn K PySem.mainGlobals "_law_take" = some (some (.ref a18)))
    (l18 : K.lookup a18 = some ⟨oc18, od18, .func (PySem.W.fnOf "_law_take" "_law_take" (L2.defArgs sf__law_take) (L2.defBody sf__law_take) (L2.defScope sf__law_take) .none kV18 dc18 pm18 an18 cd18 ct18), sl18⟩)
    (c18 : PySem.W.codeIn K cd18 "_law_take" = true)
    (k18 : PySem.W.keepIn K (.ref a18) = true)
    (n19 : PySem.W.nsIn K PySem.mainGlobals "_law_some" = some (some (.ref a19)))
    (l19 : K.lookup a19 = some ⟨oc19, od19, .func (PySem.W.fnOf "_law_some" "_law_some" (L2.defArgs sf__law_some) (L2.defBody sf__law_some) (L2.defScope sf__law_some) .none kV19 dc19 pm19 an19 cd19 ct19), sl19⟩)
    (c19 : PySem.W.codeIn K cd19 "_law_some" = true)
    (k19 : PySem.W.keepIn K (.ref a19) = true)
    (n20 : PySem.W.nsIn K PySem.mainGlobals "_law_cells" = some (some (.ref a20)))
    (l20 : K.lookup a20 = some ⟨oc20, od20, .func (PySem.W.fnOf "_law_cells" "_law_cells" (L2.defArgs sf__law_cells) (L2.defBody sf__law_cells) (L2.defScope sf__law_cells) .none kV20 dc20 pm20 an20 cd20 ct20), sl20⟩)
    (c20 : PySem.W.codeIn K cd20 "_law_cells" = true)
    (k20 : PySem.W.keepIn K (.ref a20) = true)
    (n21 : PySem.W.nsIn K PySem.mainGlobals "_law_web_text" = some (some (.ref a21)))
    (l21 : K.lookup a21 = some ⟨oc21, od21, .func (PySem.W.fnOf "_law_web_text" "_law_web_text" (L2.defArgs sf__law_web_text) (L2.defBody sf__law_web_text) (L2.defScope sf__law_web_text) .none kV21 dc21 pm21 an21 cd21 ct21), sl21⟩)
    (c21 : PySem.W.codeIn K cd21 "_law_web_text" = true)
    (k21 : PySem.W.keepIn K (.ref a21) = true)
    (n22 : PySem.W.nsIn K PySem.mainGlobals "_law_web_turned" = some (some (.ref a22)))
    (l22 : K.lookup a22 = some ⟨oc22, od22, .func (PySem.W.fnOf "_law_web_turned" "_law_web_turned" (L2.defArgs sf__law_web_turned) (L2.defBody sf__law_web_turned) (L2.defScope sf__law_web_turned) .none kV22 dc22 pm22 an22 cd22 ct22), sl22⟩)
    (c22 : PySem.W.codeIn K cd22 "_law_web_turned" = true)
    (k22 : PySem.W.keepIn K (.ref a22) = true)
    (n23 : PySem.W.nsIn K PySem.mainGlobals "_law_is" = some (some (.ref a23)))
    (l23 : K.lookup a23 = some ⟨oc23, od23, .func (PySem.W.fnOf "_law_is" "_law_is" (L2.defArgs sf__law_is) (L2.defBody sf__law_is) (L2.defScope sf__law_is) .none kV23 dc23 pm23 an23 cd23 ct23), sl23⟩)
    (c23 : PySem.W.codeIn K cd23 "_law_is" = true)
    (k23 : PySem.W.keepIn K (.ref a23) = true)
    (n24 : PySem.W.nsIn K PySem.mainGlobals "_law_word" = some (some (.ref a24)))
    (l24 : K.lookup a24 = some ⟨oc24, od24, .func (PySem.W.fnOf "_law_word" "_law_word" (L2.defArgs sf__law_word) (L2.defBody sf__law_word) (L2.defScope sf__law_word) .none kV24 dc24 pm24 an24 cd24 ct24), sl24⟩)
    (c24 : PySem.W.codeIn K cd24 "_law_word" = true)
    (k24 : PySem.W.keepIn K (.ref a24) = true)
    (n25 : PySem.W.nsIn K PySem.mainGlobals "_law_comb" = some (some (.ref a25)))
    (l25 : K.lookup a25 = some ⟨oc25, od25, .func (PySem.W.fnOf "_law_comb" "_law_comb" (L2.defArgs sf__law_comb) (L2.defBody sf__law_comb) (L2.defScope sf__law_comb) .none kV25 dc25 pm25 an25 cd25 ct25), sl25⟩)
    (c25 : PySem.W.codeIn K cd25 "_law_comb" = true)
    (k25 : PySem.W.keepIn K (.ref a25) = true)
    (n26 : PySem.W.nsIn K PySem.mainGlobals "_law_ring" = some (some (.ref a26)))
    (l26 : K.lookup a26 = some ⟨oc26, od26, .func (PySem.W.fnOf "_law_ring" "_law_ring" (L2.defArgs sf__law_ring) (L2.defBody sf__law_ring) (L2.defScope sf__law_ring) .none kV26 dc26 pm26 an26 cd26 ct26), sl26⟩)
    (c26 : PySem.W.codeIn K cd26 "_law_ring" = true)
    (k26 : PySem.W.keepIn K (.ref a26) = true)
    (n27 : PySem.W.nsIn K PySem.mainGlobals "_law_drummed" = some (some (.ref a27)))
    (l27 : K.lookup a27 = some ⟨oc27, od27, .func (PySem.W.fnOf "_law_drummed" "_law_drummed" (L2.defArgs sf__law_drummed) (L2.defBody sf__law_drummed) (L2.defScope sf__law_drummed) .none kV27 dc27 pm27 an27 cd27 ct27), sl27⟩)
    (c27 : PySem.W.codeIn K cd27 "_law_drummed" = true)
    (k27 : PySem.W.keepIn K (.ref a27) = true)
    (n28 : PySem.W.nsIn K PySem.mainGlobals "_law_is_so" = some (some (.ref a28)))
    (l28 : K.lookup a28 = some ⟨oc28, od28, .func (PySem.W.fnOf "_law_is_so" "_law_is_so" (L2.defArgs sf__law_is_so) (L2.defBody sf__law_is_so) (L2.defScope sf__law_is_so) .none kV28 dc28 pm28 an28 cd28 ct28), sl28⟩)
    (c28 : PySem.W.codeIn K cd28 "_law_is_so" = true)
    (k28 : PySem.W.keepIn K (.ref a28) = true)
    (n29 : PySem.W.nsIn K PySem.mainGlobals "_law_right" = some (some (.ref a29)))
    (l29 : K.lookup a29 = some ⟨oc29, od29, .func (PySem.W.fnOf "_law_right" "_law_right" (L2.defArgs sf__law_right) (L2.defBody sf__law_right) (L2.defScope sf__law_right) .none kV29 dc29 pm29 an29 cd29 ct29), sl29⟩)
    (c29 : PySem.W.codeIn K cd29 "_law_right" = true)
    (k29 : PySem.W.keepIn K (.ref a29) = true)
    (n30 : PySem.W.nsIn K PySem.mainGlobals "law" = some (some (.ref a30)))
    (l30 : K.lookup a30 = some ⟨oc30, od30, .func (PySem.W.fnOf "law" "law" (L2.defArgs sf_law) (L2.defBody sf_law) (L2.defScope sf_law) .none kV30 dc30 pm30 an30 cd30 ct30), sl30⟩)
    (c30 : PySem.W.codeIn K cd30 "law" = true)
    (k30 : PySem.W.keepIn K (.ref a30) = true)
    (g0 : PySem.W.nsIn K PySem.mainGlobals "FEED" = some (some (.str (z "\n") t0)))
    (g1 : PySem.W.nsIn K PySem.mainGlobals "BLANK" = some (some (.str (z " ") t1)))
    (g2 : PySem.W.nsIn K PySem.mainGlobals "LETTERS" = some (some (.str (z "abcdefghijklmnopqrstuvwxyz") t2)))
    (g3 : PySem.W.nsIn K PySem.mainGlobals "MOST_LETTERS" = some (some (.int (6) t3)))
    (g4 : PySem.W.nsIn K PySem.mainGlobals "WEB" = some (some (.str (z "web") t4)))
    (g5 : PySem.W.nsIn K PySem.mainGlobals "MEET" = some (some (.str (z "meet") t5)))
    (g6 : PySem.W.nsIn K PySem.mainGlobals "FOUR" = some (some (.int (4) t6)))
    (g7 : PySem.W.nsIn K PySem.mainGlobals "MOST_JUNCTIONS" = some (some (.int (12) t7)))
    (g8 : PySem.W.nsIn K PySem.mainGlobals "PAIR" = some (some (.int (2) t8)))
    (b0 : PySem.W.nsIn K PySem.mainGlobals "abs" = some none)
    (b1 : PySem.W.nsIn K PySem.mainGlobals "all" = some none)
    (b2 : PySem.W.nsIn K PySem.mainGlobals "any" = some none)
    (b3 : PySem.W.nsIn K PySem.mainGlobals "enumerate" = some none)
    (b4 : PySem.W.nsIn K PySem.mainGlobals "int" = some none)
    (b5 : PySem.W.nsIn K PySem.mainGlobals "isinstance" = some none)
    (b6 : PySem.W.nsIn K PySem.mainGlobals "len" = some none)
    (b7 : PySem.W.nsIn K PySem.mainGlobals "list" = some none)
    (b8 : PySem.W.nsIn K PySem.mainGlobals "max" = some none)
    (b9 : PySem.W.nsIn K PySem.mainGlobals "min" = some none)
    (b10 : PySem.W.nsIn K PySem.mainGlobals "range" = some none)
    (b11 : PySem.W.nsIn K PySem.mainGlobals "sorted" = some none)
    (b12 : PySem.W.nsIn K PySem.mainGlobals "str" = some none)
    (b13 : PySem.W.nsIn K PySem.mainGlobals "sum" = some none)
    (b14 : PySem.W.nsIn K PySem.mainGlobals "tuple" = some none)
    (b15 : PySem.W.nsIn K PySem.mainGlobals "zip" = some none)
    (b16 : PySem.W.nsIn K PySem.mainGlobals "bool" = some none)
    : ∃ c T A, Vi.ModF c T pr A K mg ∧ A "law" = fa := by
  have e := hfa.symm.trans (PySem.W.mg_of X G n30)
  cases e
  refine ⟨cf, ⟨K, [((z "Web"), ⟨C0, [((z "own_counts"), 0), ((z "own_junctions"), 1), ((z "own_text"), 2)]⟩)]⟩, adr [((z "is_name"), a0), ((z "lines_of"), a1), ((z "meet_in"), a2), ((z "counted"), a3), ((z "junctions_in"), a4), ((z "reached"), a5), ((z "Web.__init__"), a6), ((z "Web.text"), a7), ((z "Web.roads"), a8), ((z "Web.inner"), a9), ((z "Web.ends"), a10), ((z "Web.junctions"), a11), ((z "Web.rounds"), a12), ((z "Web.__len__"), a13), ((z "places_of"), a14), ((z "is_bridge"), a15), ((z "bridges"), a16), ((z "_law_pot"), a17), ((z "_law_take"), a18), ((z "_law_some"), a19), ((z "_law_cells"), a20), ((z "_law_web_text"), a21), ((z "_law_web_turned"), a22), ((z "_law_is"), a23), ((z "_law_word"), a24), ((z "_law_comb"), a25), ((z "_law_ring"), a26), ((z "_law_drummed"), a27), ((z "_law_is_so"), a28), ((z "_law_right"), a29), ((z "law"), fa)], Vi.modF_mk rfl ?_ ?_ ?_ ?_ ?_ ?_ ?_ ?_ ?_, rfl⟩
  · exact ⟨PySem.W.mg_none_of X G b0, PySem.W.mg_none_of X G b1, PySem.W.mg_none_of X G b2, PySem.W.mg_none_of X G b3, PySem.W.mg_none_of X G b4, PySem.W.mg_none_of X G b5, PySem.W.mg_none_of X G b6, PySem.W.mg_none_of X G b7, PySem.W.mg_none_of X G b8, PySem.W.mg_none_of X G b9, PySem.W.mg_none_of X G b10, PySem.W.mg_none_of X G b11, PySem.W.mg_none_of X G b12, PySem.W.mg_none_of X G b13, PySem.W.mg_none_of X G b14, PySem.W.mg_none_of X G b15, PySem.W.mg_none_of X G b16, trivial⟩
  · exact ⟨⟨_, .str (z "\n"), PySem.W.mg_of X G g0, ⟨_, rfl⟩, .str _⟩, ⟨_, .str (z " "), PySem.W.mg_of X G g1, ⟨_, rfl⟩, .str _⟩, ⟨_, .str (z "abcdefghijklmnopqrstuvwxyz"), PySem.W.mg_of X G g2, ⟨_, rfl⟩, .str _⟩, ⟨_, .int (6), PySem.W.mg_of X G g3, ⟨_, rfl⟩, .int _⟩, ⟨_, .str (z "web"), PySem.W.mg_of X G g4, ⟨_, rfl⟩, .str _⟩, ⟨_, .str (z "meet"), PySem.W.mg_of X G g5, ⟨_, rfl⟩, .str _⟩, ⟨_, .int (4), PySem.W.mg_of X G g6, ⟨_, rfl⟩, .int _⟩, ⟨_, .int (12), PySem.W.mg_of X G g7, ⟨_, rfl⟩, .int _⟩, ⟨_, .int (2), PySem.W.mg_of X G g8, ⟨_, rfl⟩, .int _⟩, trivial⟩
  · exact ⟨⟨PySem.W.mg_of X G n0, rfl⟩, ⟨PySem.W.mg_of X G n1, rfl⟩, ⟨PySem.W.mg_of X G n2, rfl⟩, ⟨PySem.W.mg_of X G n3, rfl⟩, ⟨PySem.W.mg_of X G n4, rfl⟩, ⟨PySem.W.mg_of X G n5, rfl⟩, ⟨PySem.W.mg_of X G n14, rfl⟩, ⟨PySem.W.mg_of X G n15, rfl⟩, ⟨PySem.W.mg_of X G n16, rfl⟩, ⟨PySem.W.mg_of X G n17, rfl⟩, ⟨PySem.W.mg_of X G n18, rfl⟩, ⟨PySem.W.mg_of X G n19, rfl⟩, ⟨PySem.W.mg_of X G n20, rfl⟩, ⟨PySem.W.mg_of X G n21, rfl⟩, ⟨PySem.W.mg_of X G n22, rfl⟩, ⟨PySem.W.mg_of X G n23, rfl⟩, ⟨PySem.W.mg_of X G n24, rfl⟩, ⟨PySem.W.mg_of X G n25, rfl⟩, ⟨PySem.W.mg_of X G n26, rfl⟩, ⟨PySem.W.mg_of X G n27, rfl⟩, ⟨PySem.W.mg_of X G n28, rfl⟩, ⟨PySem.W.mg_of X G n29, rfl⟩, ⟨PySem.W.mg_of X G n30, rfl⟩, trivial⟩
  · exact ⟨⟨⟨pgC0, icC0, poC0, saC0⟩, fun f i hi => Vi.AllE.look (P := fun f i => ∃ p, SlX.Slot1 K C0 f p i) (l := [((z "own_counts"), 0), ((z "own_junctions"), 1), ((z "own_text"), 2)]) ⟨⟨p0_0, atp0_0, gep0_0, tkp0_0, typ0_0, ixp0_0, by decide⟩, ⟨p0_1, atp0_1, gep0_1, tkp0_1, typ0_1, ixp0_1, by decide⟩, ⟨p0_2, atp0_2, gep0_2, tkp0_2, typ0_2, ixp0_2, by decide⟩, trivial⟩ hi, fun f g i h1 h2 => Vi.slots_inj (by show ([0, 1, 2] : List Nat).Nodup; decide) h1 h2⟩, trivial⟩
  · exact ⟨⟨_, rfl, PySem.W.mg_of X G nC0, ⟨mkC0, n6, f6, kcC0⟩, rfl⟩, trivial⟩
  · exact ⟨⟨_, _, rfl, ⟨atq0_0, geq0_0, tkq0_0, _, rcq0_0⟩, rfl⟩, ⟨_, _, rfl, ⟨atq0_1, geq0_1, tkq0_1, _, rcq0_1⟩, rfl⟩, ⟨_, _, rfl, ⟨atq0_2, geq0_2, tkq0_2, _, rcq0_2⟩, rfl⟩, ⟨_, _, rfl, ⟨atq0_3, geq0_3, tkq0_3, _, rcq0_3⟩, rfl⟩, ⟨_, _, rfl, ⟨atq0_4, geq0_4, tkq0_4, _, rcq0_4⟩, rfl⟩, ⟨_, _, rfl, ⟨atq0_5, geq0_5, tkq0_5, _, rcq0_5⟩, rfl⟩, trivial⟩
  · exact ⟨⟨_, _, rfl, rfl⟩, ⟨_, _, rfl, rfl⟩, ⟨_, _, rfl, rfl⟩, trivial⟩
  · exact ⟨⟨_, rfl, ⟨n13, f13⟩, rfl⟩, trivial⟩
  · exact ⟨Vi.df_mk (ps := [(z "value")]) l0 c0 k0 (fun _ _ _ _ _ _ us hl => match us, hl with | [_], _ => rfl) ⟨rfl, rfl, rfl, by decide +kernel, rfl, by decide +kernel, by decide +kernel⟩ cf_is_name rfl rfl, Vi.df_mk (ps := [(z "text")]) l1 c1 k1 (fun _ _ _ _ _ _ us hl => match us, hl with | [_], _ => rfl) ⟨rfl, rfl, rfl, by decide +kernel, rfl, by decide +kernel, by decide +kernel⟩ cf_lines_of rfl rfl, Vi.df_mk (ps := [(z "words")]) l2 c2 k2 (fun _ _ _ _ _ _ us hl => match us, hl with | [_], _ => rfl) ⟨rfl, rfl, rfl, by decide +kernel, rfl, by decide +kernel, by decide +kernel⟩ cf_meet_in rfl rfl, Vi.df_mk (ps := [(z "junctions")]) l3 c3 k3 (fun _ _ _ _ _ _ us hl => match us, hl with | [_], _ => rfl) ⟨rfl, rfl, rfl, by decide +kernel, rfl, by decide +kernel, by decide +kernel⟩ cf_counted rfl rfl, Vi.df_mk (ps := [(z "text")]) l4 c4 k4 (fun _ _ _ _ _ _ us hl => match us, hl with | [_], _ => rfl) ⟨rfl, rfl, rfl, by decide +kernel, rfl, by decide +kernel, by decide +kernel⟩ cf_junctions_in rfl rfl, Vi.df_mk (ps := [(z "junctions"), (z "first"), (z "barred")]) l5 c5 k5 (fun _ _ _ _ _ _ us hl => match us, hl with | [_, _, _], _ => rfl) ⟨rfl, rfl, rfl, by decide +kernel, rfl, by decide +kernel, by decide +kernel⟩ cf_reached rfl rfl, Vi.df_mk (ps := [(z "self"), (z "text")]) l6 c6 k6 (fun _ _ _ _ _ _ us hl => match us, hl with | [_, _], _ => rfl) ⟨rfl, rfl, rfl, by decide +kernel, rfl, by decide +kernel, by decide +kernel⟩ cf_Web___init__ rfl rfl, Vi.df_mk (ps := [(z "self")]) l7 c7 k7 (fun _ _ _ _ _ _ us hl => match us, hl with | [_], _ => rfl) ⟨rfl, rfl, rfl, by decide +kernel, rfl, by decide +kernel, by decide +kernel⟩ cf_Web_text rfl rfl, Vi.df_mk (ps := [(z "self")]) l8 c8 k8 (fun _ _ _ _ _ _ us hl => match us, hl with | [_], _ => rfl) ⟨rfl, rfl, rfl, by decide +kernel, rfl, by decide +kernel, by decide +kernel⟩ cf_Web_roads rfl rfl, Vi.df_mk (ps := [(z "self")]) l9 c9 k9 (fun _ _ _ _ _ _ us hl => match us, hl with | [_], _ => rfl) ⟨rfl, rfl, rfl, by decide +kernel, rfl, by decide +kernel, by decide +kernel⟩ cf_Web_inner rfl rfl, Vi.df_mk (ps := [(z "self")]) l10 c10 k10 (fun _ _ _ _ _ _ us hl => match us, hl with | [_], _ => rfl) ⟨rfl, rfl, rfl, by decide +kernel, rfl, by decide +kernel, by decide +kernel⟩ cf_Web_ends rfl rfl, Vi.df_mk (ps := [(z "self")]) l11 c11 k11 (fun _ _ _ _ _ _ us hl => match us, hl with | [_], _ => rfl) ⟨rfl, rfl, rfl, by decide +kernel, rfl, by decide +kernel, by decide +kernel⟩ cf_Web_junctions rfl rfl, Vi.df_mk (ps := [(z "self")]) l12 c12 k12 (fun _ _ _ _ _ _ us hl => match us, hl with | [_], _ => rfl) ⟨rfl, rfl, rfl, by decide +kernel, rfl, by decide +kernel, by decide +kernel⟩ cf_Web_rounds rfl rfl, Vi.df_mk (ps := [(z "self")]) l13 c13 k13 (fun _ _ _ _ _ _ us hl => match us, hl with | [_], _ => rfl) ⟨rfl, rfl, rfl, by decide +kernel, rfl, by decide +kernel, by decide +kernel⟩ cf_Web___len__ rfl rfl, Vi.df_mk (ps := [(z "web"), (z "name")]) l14 c14 k14 (fun _ _ _ _ _ _ us hl => match us, hl with | [_, _], _ => rfl) ⟨rfl, rfl, rfl, by decide +kernel, rfl, by decide +kernel, by decide +kernel⟩ cf_places_of rfl rfl, Vi.df_mk (ps := [(z "web"), (z "name")]) l15 c15 k15 (fun _ _ _ _ _ _ us hl => match us, hl with | [_, _], _ => rfl) ⟨rfl, rfl, rfl, by decide +kernel, rfl, by decide +kernel, by decide +kernel⟩ cf_is_bridge rfl rfl, Vi.df_mk (ps := [(z "web")]) l16 c16 k16 (fun _ _ _ _ _ _ us hl => match us, hl with | [_], _ => rfl) ⟨rfl, rfl, rfl, by decide +kernel, rfl, by decide +kernel, by decide +kernel⟩ cf_bridges rfl rfl, Vi.df_mk (ps := [(z "script"), (z "place")]) l17 c17 k17 (fun _ _ _ _ _ _ us hl => match us, hl with | [_, _], _ => rfl) ⟨rfl, rfl, rfl, by decide +kernel, rfl, by decide +kernel, by decide +kernel⟩ cf__law_pot rfl rfl, Vi.df_mk (ps := [(z "pot"), (z "upto")]) l18 c18 k18 (fun _ _ _ _ _ _ us hl => match us, hl with | [_, _], _ => rfl) ⟨rfl, rfl, rfl, by decide +kernel, rfl, by decide +kernel, by decide +kernel⟩ cf__law_take rfl rfl, Vi.df_mk (ps := [(z "pot"), (z "pool"), (z "many")]) l19 c19 k19 (fun _ _ _ _ _ _ us hl => match us, hl with | [_, _, _], _ => rfl) ⟨rfl, rfl, rfl, by decide +kernel, rfl, by decide +kernel, by decide +kernel⟩ cf__law_some rfl rfl, Vi.df_mk (ps := [(z "script"), (z "most")]) l20 c20 k20 (fun _ _ _ _ _ _ us hl => match us, hl with | [_, _], _ => rfl) ⟨rfl, rfl, rfl, by decide +kernel, rfl, by decide +kernel, by decide +kernel⟩ cf__law_cells rfl rfl, Vi.df_mk (ps := [(z "own")]) l21 c21 k21 (fun _ _ _ _ _ _ us hl => match us, hl with | [_], _ => rfl) ⟨rfl, rfl, rfl, by decide +kernel, rfl, by decide +kernel, by decide +kernel⟩ cf__law_web_text rfl rfl, Vi.df_mk (ps := [(z "pot"), (z "own")]) l22 c22 k22 (fun _ _ _ _ _ _ us hl => match us, hl with | [_, _], _ => rfl) ⟨rfl, rfl, rfl, by decide +kernel, rfl, by decide +kernel, by decide +kernel⟩ cf__law_web_turned rfl rfl, Vi.df_mk (ps := [(z "told"), (z "due")]) l23 c23 k23 (fun _ _ _ _ _ _ us hl => match us, hl with | [_, _], _ => rfl) ⟨rfl, rfl, rfl, by decide +kernel, rfl, by decide +kernel, by decide +kernel⟩ cf__law_is rfl rfl, Vi.df_mk (ps := [(z "letter"), (z "number")]) l24 c24 k24 (fun _ _ _ _ _ _ us hl => match us, hl with | [_, _], _ => rfl) ⟨rfl, rfl, rfl, by decide +kernel, rfl, by decide +kernel, by decide +kernel⟩ cf__law_word rfl rfl, Vi.df_mk (ps := [(z "ends")]) l25 c25 k25 (fun _ _ _ _ _ _ us hl => match us, hl with | [_], _ => rfl) ⟨rfl, rfl, rfl, by decide +kernel, rfl, by decide +kernel, by decide +kernel⟩ cf__law_comb rfl rfl, Vi.df_mk (ps := [(z "many")]) l26 c26 k26 (fun _ _ _ _ _ _ us hl => match us, hl with | [_], _ => rfl) ⟨rfl, rfl, rfl, by decide +kernel, rfl, by decide +kernel, by decide +kernel⟩ cf__law_ring rfl rfl, Vi.df_mk (ps := [(z "own"), (z "ends")]) l27 c27 k27 (fun _ _ _ _ _ _ us hl => match us, hl with | [_, _], _ => rfl) ⟨rfl, rfl, rfl, by decide +kernel, rfl, by decide +kernel, by decide +kernel⟩ cf__law_drummed rfl rfl, Vi.df_mk (ps := [(z "pot"), (z "own"), (z "ends"), (z "rounds"), (z "spans")]) l28 c28 k28 (fun _ _ _ _ _ _ us hl => match us, hl with | [_, _, _, _, _], _ => rfl) ⟨rfl, rfl, rfl, by decide +kernel, rfl, by decide +kernel, by decide +kernel⟩ cf__law_is_so rfl rfl, Vi.df_mk (ps := [(z "pot")]) l29 c29 k29 (fun _ _ _ _ _ _ us hl => match us, hl with | [_], _ => rfl) ⟨rfl, rfl, rfl, by decide +kernel, rfl, by decide +kernel, by decide +kernel⟩ cf__law_right rfl rfl, Vi.df_mk (ps := [(z "script")]) l30 c30 k30 (fun _ _ _ _ _ _ us hl => match us, hl with | [_], _ => rfl) ⟨rfl, rfl, rfl, by decide +kernel, rfl, by decide +kernel, by decide +kernel⟩ cf_law rfl rfl, trivial⟩
end Vi.P
end
section
set_option maxRecDepth 100000
/-! K01a: the shared texts, in this law's module. -/
namespace Vi.P
open Vi L2 Vi.B
variable {k : Nat}
abbrev ph := phiK 60 pr
theorem st {k : Nat} {f : PySem.Str} {fn : Fn} {ds : List D} (h : pr.lookup f = some fn) : ph (k + 1) f ds = callDK 60 (ph k) fn ds := by
  show phiK 60 pr (k + 1) f ds = _
  simp [phiK, h]
theorem k_take (hk : 1 ≤ k) : TakeOk (ph k) := by
  obtain ⟨k, rfl⟩ : ∃ j, k = j + 1 := ⟨k - 1, by omega⟩
  intro M d upto hp hM hu hv
  obtain ⟨r, d', h1, h2, h3, h4⟩ := take_ok (u := 60) (φ := ph k) (t1 := 98762) (t2 := 770) (t3 := 10442) (t4 := 214) (by decide) (by decide) (by decide) (by decide) hp hM hu hv
  exact ⟨r, d', h1, h2, h3, by rw [st (fn := f__law_take) (by rfl)]; exact h4⟩
theorem k_pot (ns : List Int) {p : Int} (h0 : 0 ≤ p) (h1 : p < 64) (hk : 1 ≤ k) : ∃ d, PotD 0 d ∧ ph k (z "_law_pot") [.scr ns, .int p] = some (d, [some (.scr ns), some (.int p)]) := by
  obtain ⟨k, rfl⟩ : ∃ j, k = j + 1 := ⟨k - 1, by omega⟩
  rw [st (fn := f__law_pot) (by rfl)]
  exact pot_ok (p1 := 1270) (p2 := 586) (p3 := 72356) (p4 := 7808) (p5 := 512) ns h0 h1 (by decide) (by decide) (by decide)
theorem k_cells (ns : List Int) {m : Int} (h0 : 1 ≤ m) (h1 : m < 1000) (hk : 1 ≤ k) :
    ∃ c : Nat, 1 ≤ c ∧ (c : Int) ≤ m ∧ ph k (z "_law_cells") [.scr ns, .int m] = some (.lst true ((List.range c).map fun i => .int (i : Nat)), [some (.scr ns), some (.int m)]) := by
  obtain ⟨k, rfl⟩ : ∃ j, k = j + 1 := ⟨k - 1, by omega⟩
  rw [st (fn := f__law_cells) (by rfl)]
  exact cells_ok ns h0 h1
theorem k_some (hk : 2 ≤ k) : SomeOk (ph k) := by
  obtain ⟨k, rfl⟩ : ∃ j, k = j + 1 := ⟨k - 1, by omega⟩
  intro M d o xs n hp hM hn hx hz
  rw [st (fn := f__law_some) (by rfl)]
  exact some_ok (k_take (by omega)) hp hM hn hx hz
theorem k_counted (hk : 1 ≤ k) : CountedOk (ph k) := by
  obtain ⟨k, rfl⟩ : ∃ j, k = j + 1 := ⟨k - 1, by omega⟩
  intro o own hl
  rw [st (fn := f_counted) (by rfl)]
  exact times_ok o own hl
theorem k_wtext (hk : 1 ≤ k) (o : Bool) (own : List (List Sg)) (hl : own.length ≤ 100) (h3 : ∀ r ∈ own, r.length = 3) (hn : ∀ r ∈ own, ∀ s ∈ r, NameOk s) : ph k (z "_law_web_text") [ownD o own] = some (.str (textOf own), [some (ownD o own)]) := by
  obtain ⟨k, rfl⟩ : ∃ j, k = j + 1 := ⟨k - 1, by omega⟩
  rw [st (fn := f__law_web_text) (by rfl)]
  exact wtext_ok o own hl h3 hn
theorem k_lines (hk : 1 ≤ k) : LinesOk (ph k) := by
  obtain ⟨k, rfl⟩ : ∃ j, k = j + 1 := ⟨k - 1, by omega⟩
  intro own hl h3 hn
  rw [st (fn := f_lines_of) (by rfl)]
  exact lines_ok _ _ own hl h3 hn
theorem k_name (hk : 1 ≤ k) : NamesOk (ph k) := by
  obtain ⟨k, rfl⟩ : ∃ j, k = j + 1 := ⟨k - 1, by omega⟩
  intro s h
  rw [st (fn := f_is_name) (by rfl)]
  exact name_ok _ _ s h
theorem k_meet (hk : 2 ≤ k) : MeetOk (ph k) := by
  obtain ⟨k, rfl⟩ : ∃ j, k = j + 1 := ⟨k - 1, by omega⟩
  intro r h3 hn
  rw [st (fn := f_meet_in) (by rfl)]
  exact meet_ok (k_name (by omega)) _ _ r h3 hn
theorem k_reached (hk : 1 ≤ k) : ReachedOk (ph k) := by
  obtain ⟨k, rfl⟩ : ∃ j, k = j + 1 := ⟨k - 1, by omega⟩
  intro kk own first b hl hr hf
  obtain ⟨F, R, e⟩ := reached_ok (u := 60) (φ := ph k) kk own first b hl hr hf (by decide)
  exact ⟨F, R, by rw [st (fn := f_reached) (by rfl)]; exact e⟩
theorem k_init (hk : 4 ≤ k) (own : List (List Sg)) (W : WebT own) (hne : own ≠ []) (hl : own.length ≤ 12) (hn : ∀ r ∈ own, ∀ s ∈ r, NameOk s) : ph k (z "Web.__init__") [.ins true (z "Web") [], .str (textOf own)] = some (.non, [some (webD true own), some (.str (textOf own))]) := by
  obtain ⟨k, rfl⟩ : ∃ j, k = j + 1 := ⟨k - 1, by omega⟩
  rw [st (fn := f_Web___init__) (by rfl)]
  refine init_ok (k_counted (by omega)) own W (by omega) ?_
  obtain ⟨k, rfl⟩ : ∃ j, k = j + 1 := ⟨k - 1, by omega⟩
  rw [st (fn := f_junctions_in) (by rfl)]
  exact junc_ok _ _ _ (k_lines (by omega)) (k_meet (by omega)) (k_counted (by omega)) (k_reached (by omega)) own W hne hl hn
theorem k_wroads (hk : 1 ≤ k) (own : List (List Sg)) (hl : own.flatten.length < 64) : ph k (z "Web.roads") [webD false own] = some (.tup ((roadsOf own).map .str), [some (webD false own)]) := by
  obtain ⟨k, rfl⟩ : ∃ j, k = j + 1 := ⟨k - 1, by omega⟩
  rw [st (fn := f_Web_roads) (by rfl)]
  exact wroads_ok own hl
theorem k_inner (hk : 1 ≤ k) : InnerOk (ph k) := by
  obtain ⟨k, rfl⟩ : ∃ j, k = j + 1 := ⟨k - 1, by omega⟩
  intro own hl
  rw [st (fn := f_Web_inner) (by rfl)]
  exact win_ok _ 2 (fun _ => by rw [denK]) (fun _ _ => rfl) own hl
theorem k_wends (hk : 1 ≤ k) (own : List (List Sg)) (hl : own.flatten.length < 64) : ph k (z "Web.ends") [webD false own] = some (.tup ((endsOf own).map .str), [some (webD false own)]) := by
  obtain ⟨k, rfl⟩ : ∃ j, k = j + 1 := ⟨k - 1, by omega⟩
  rw [st (fn := f_Web_ends) (by rfl)]
  exact win_ok _ 1 (fun _ => by rw [denK]) (fun _ _ => rfl) own hl
theorem k_wrounds (hk : 2 ≤ k) (own : List (List Sg)) (hl : own.flatten.length < 64) : ph k (z "Web.rounds") [webD false own] = some (.int ((innerOf own).length - own.length + 1), [some (webD false own)]) := by
  obtain ⟨k, rfl⟩ : ∃ j, k = j + 1 := ⟨k - 1, by omega⟩
  rw [st (fn := f_Web_rounds) (by rfl)]
  exact wrounds_ok (k_inner (by omega)) own hl
theorem k_wlen (hk : 1 ≤ k) (own : List (List Sg)) : ph k (z "Web.__len__") [webD false own] = some (.int own.length, [some (webD false own)]) := by
  obtain ⟨k, rfl⟩ : ∃ j, k = j + 1 := ⟨k - 1, by omega⟩
  rw [st (fn := f_Web___len__) (by rfl)]
  exact wlen_ok own
theorem k_places (hk : 1 ≤ k) : PlacesOk (ph k) := by
  obtain ⟨k, rfl⟩ : ∃ j, k = j + 1 := ⟨k - 1, by omega⟩
  intro own s h3 hl
  rw [st (fn := f_places_of) (by rfl)]
  exact places_ok own s h3 hl
theorem k_bridge (hk : 2 ≤ k) : BridgeOk (ph k) := by
  obtain ⟨k, rfl⟩ : ∃ j, k = j + 1 := ⟨k - 1, by omega⟩
  intro own s W hl h0 h2
  rw [st (fn := f_is_bridge) (by rfl)]
  exact bridge_ok (k_places (by omega)) (k_reached (by omega)) own s W hl h0 h2
theorem k_bridges (hk : 3 ≤ k) (own : List (List Sg)) (W : WebT own) (hl : own.length ≤ 20) (h0 : 0 < own.length) : ph k (z "bridges") [webD false own] = some (.tup ((brOf own).map .str), [some (webD false own)]) := by
  obtain ⟨k, rfl⟩ : ∃ j, k = j + 1 := ⟨k - 1, by omega⟩
  rw [st (fn := f_bridges) (by rfl)]
  exact bridges_ok (k_inner (by omega)) (k_bridge (by omega)) own W hl h0
theorem k_is_int (hk : 1 ≤ k) (i : Int) : ph k (z "_law_is") [.int i, .int i] = some (.bl true, [some (.int i), some (.int i)]) := by
  obtain ⟨k, rfl⟩ : ∃ j, k = j + 1 := ⟨k - 1, by omega⟩
  rw [st (fn := f__law_is) (by rfl)]
  exact is_int i
theorem k_is_str (hk : 1 ≤ k) (s : Sg) : ph k (z "_law_is") [.str s, .str s] = some (.bl true, [some (.str s), some (.str s)]) := by
  obtain ⟨k, rfl⟩ : ∃ j, k = j + 1 := ⟨k - 1, by omega⟩
  rw [st (fn := f__law_is) (by rfl)]
  exact is_str s
theorem k_is_tup (hk : 2 ≤ k) (xs : List D) (hl : xs.length ≤ 1000) (ho : ∀ x ∈ xs, x.own = false ∧ x.frz = x) (h : ∀ j, k = j + 1 → ∀ x ∈ xs, ph j (z "_law_is") [x, x] = some (.bl true, [some x, some x])) : ph k (z "_law_is") [.tup xs, .tup xs] = some (.bl true, [some (.tup xs), some (.tup xs)]) := by
  obtain ⟨k, rfl⟩ : ∃ j, k = j + 1 := ⟨k - 1, by omega⟩
  rw [st (fn := f__law_is) (by rfl)]
  exact is_tup xs hl ho (h k rfl)
theorem k_is_strs (hk : 2 ≤ k) (ss : List Sg) (hl : ss.length ≤ 1000) : ph k (z "_law_is") [.tup (ss.map .str), .tup (ss.map .str)] = some (.bl true, [some (.tup (ss.map .str)), some (.tup (ss.map .str))]) := by
  refine k_is_tup hk _ (by rw [List.length_map]; exact hl) (fun x hx => by obtain ⟨s, _, rfl⟩ := List.mem_map.1 hx; exact ⟨rfl, rfl⟩) (fun j hj x hx => ?_)
  obtain ⟨s, _, rfl⟩ := List.mem_map.1 hx
  exact k_is_str (by omega) s
theorem k_is_ints (hk : 2 ≤ k) (a b : Int) : ph k (z "_law_is") [.tup [.int a, .int b], .tup [.int a, .int b]] = some (.bl true, [some (.tup [.int a, .int b]), some (.tup [.int a, .int b])]) := by
  refine k_is_tup hk _ (by simp) (fun x hx => by simp only [List.mem_cons, List.not_mem_nil, or_false] at hx; rcases hx with rfl | rfl <;> exact ⟨rfl, rfl⟩) (fun j hj x hx => ?_)
  simp only [List.mem_cons, List.not_mem_nil, or_false] at hx
  rcases hx with rfl | rfl <;> exact k_is_int (by omega) _
end Vi.P
end
section
set_option maxRecDepth 100000
/-! K03b: combs, rings, drums. -/
namespace Vi.P
open Vi L2 Vi.B
variable {k : Nat}
def wS (l : String) (n : Nat) : Sg := z l ++ ⟨#[97 + n]⟩
def combS (e : Nat) : List (List Sg) := if e = 3 then [[wS "e" 0, wS "e" 1, wS "e" 2]] else
  [wS "e" 0, wS "e" 1, wS "i" 0] :: (List.range (e - 4)).map (fun at_ => [wS "i" at_, wS "e" (at_ + 2), wS "i" (at_ + 1)]) ++ [[wS "i" (e - 4), wS "e" (e - 2), wS "e" (e - 1)]]
def ringS (m : Nat) : List (List Sg) := (List.range m).map fun at_ => [wS "r" at_, wS "e" at_, wS "r" ((at_ + 1) % m)]
def innS (e : Nat) : List Sg := (List.range (e - 3)).map (wS "i")
def drumS (own : List (List Sg)) (ss : List Sg) : List (List Sg) := own ++ ss.map fun s => [s, z "d" ++ s, z "d" ++ s]
def subs : List Sg → List (List Sg)
  | [] => [[]]
  | x :: l => subs l ++ (subs l).map (x :: ·)
theorem comb_hand : ∀ e : _root_.Fin 12, handC (combS (e.val + 3)) (e.val + 3) 0 (innS (e.val + 3)) = true := by decide +kernel
theorem ring_hand : ∀ m : _root_.Fin 12, handC (ringS (m.val + 1)) (m.val + 1) 1 [] = true := by decide +kernel
theorem drum3 : ∀ t ∈ subs [wS "e" 0, wS "e" 1, wS "e" 2], handC (drumS (combS 3) t) (3 - t.length) t.length (innS 3 ++ t) = true := by decide +kernel
theorem drum4 : ∀ t ∈ subs [wS "e" 0, wS "e" 1, wS "e" 2, wS "e" 3], handC (drumS (combS 4) t) (4 - t.length) t.length (innS 4 ++ t) = true := by decide +kernel
theorem drum5a : ∀ t ∈ subs [wS "e" 1, wS "e" 2, wS "e" 3, wS "e" 4], handC (drumS (combS 5) t) (5 - t.length) t.length (innS 5 ++ t) = true := by decide +kernel
theorem drum5b : ∀ t ∈ (subs [wS "e" 1, wS "e" 2, wS "e" 3, wS "e" 4]).map (wS "e" 0 :: ·), handC (drumS (combS 5) t) (5 - t.length) t.length (innS 5 ++ t) = true := by decide +kernel
theorem drum6a : ∀ t ∈ subs [wS "e" 2, wS "e" 3, wS "e" 4, wS "e" 5], handC (drumS (combS 6) t) (6 - t.length) t.length (innS 6 ++ t) = true := by decide +kernel
theorem drum6b : ∀ t ∈ (subs [wS "e" 2, wS "e" 3, wS "e" 4, wS "e" 5]).map (wS "e" 1 :: ·), handC (drumS (combS 6) t) (6 - t.length) t.length (innS 6 ++ t) = true := by decide +kernel
theorem drum6c : ∀ t ∈ (subs [wS "e" 2, wS "e" 3, wS "e" 4, wS "e" 5]).map (wS "e" 0 :: ·), handC (drumS (combS 6) t) (6 - t.length) t.length (innS 6 ++ t) = true := by decide +kernel
theorem drum6d : ∀ t ∈ ((subs [wS "e" 2, wS "e" 3, wS "e" 4, wS "e" 5]).map (wS "e" 1 :: ·)).map (wS "e" 0 :: ·), handC (drumS (combS 6) t) (6 - t.length) t.length (innS 6 ++ t) = true := by decide +kernel
theorem drum_hand (f : _root_.Fin 4) (t : List Sg) (ht : t ∈ subs ((List.range (f.val + 3)).map (wS "e"))) : handC (drumS (combS (f.val + 3)) t) (f.val + 3 - t.length) t.length (innS (f.val + 3) ++ t) = true := by
  match f with
  | ⟨0, _⟩ => exact drum3 t ht
  | ⟨1, _⟩ => exact drum4 t ht
  | ⟨2, _⟩ =>
    have ht2 : t ∈ subs [wS "e" 1, wS "e" 2, wS "e" 3, wS "e" 4] ++ (subs [wS "e" 1, wS "e" 2, wS "e" 3, wS "e" 4]).map (wS "e" 0 :: ·) := ht
    rcases List.mem_append.1 ht2 with h | h
    · exact drum5a t h
    · exact drum5b t h
  | ⟨3, _⟩ =>
    have ht2 : t ∈ (subs [wS "e" 2, wS "e" 3, wS "e" 4, wS "e" 5] ++ (subs [wS "e" 2, wS "e" 3, wS "e" 4, wS "e" 5]).map (wS "e" 1 :: ·)) ++ (subs [wS "e" 2, wS "e" 3, wS "e" 4, wS "e" 5] ++ (subs [wS "e" 2, wS "e" 3, wS "e" 4, wS "e" 5]).map (wS "e" 1 :: ·)).map (wS "e" 0 :: ·) := ht
    rcases List.mem_append.1 ht2 with h | h
    · rcases List.mem_append.1 h with h | h
      · exact drum6a t h
      · exact drum6b t h
    · rw [List.map_append] at h
      rcases List.mem_append.1 h with h | h
      · exact drum6c t h
      · exact drum6d t h
theorem theta_hand : handC [[z "a", z "b", z "c"], [z "b", z "c", z "a"]] 0 2 [] = true := by decide +kernel
set_option maxHeartbeats 4000000 in
theorem k_comb (hk : 3 ≤ k) (e : Nat) (h3 : 3 ≤ e) (h14 : e ≤ 14) : ph k (z "_law_comb") [.int e] = some (ownD true (combS e), [some (.int e)]) := by
  obtain ⟨k, rfl⟩ : ∃ j, k = j + 3 := ⟨k - 3, by omega⟩
  have : e = 3 ∨ e = 4 ∨ e = 5 ∨ e = 6 ∨ e = 7 ∨ e = 8 ∨ e = 9 ∨ e = 10 ∨ e = 11 ∨ e = 12 ∨ e = 13 ∨ e = 14 := by omega
  rcases this with rfl | rfl | rfl | rfl | rfl | rfl | rfl | rfl | rfl | rfl | rfl | rfl <;> kernel_rfl
set_option maxHeartbeats 4000000 in
theorem k_ring (hk : 3 ≤ k) (e : Nat) (h3 : 1 ≤ e) (h14 : e ≤ 12) : ph k (z "_law_ring") [.int e] = some (ownD true (ringS e), [some (.int e)]) := by
  obtain ⟨k, rfl⟩ : ∃ j, k = j + 3 := ⟨k - 3, by omega⟩
  have : e = 1 ∨ e = 2 ∨ e = 3 ∨ e = 4 ∨ e = 5 ∨ e = 6 ∨ e = 7 ∨ e = 8 ∨ e = 9 ∨ e = 10 ∨ e = 11 ∨ e = 12 := by omega
  rcases this with rfl | rfl | rfl | rfl | rfl | rfl | rfl | rfl | rfl | rfl | rfl | rfl <;> kernel_rfl
theorem k_word (hk : 1 ≤ k) (l : String) (hl : (z l).length ≤ 100) (n : Nat) (hn : n < 26) : ph k (z "_law_word") [.str (z l), .int n] = some (.str (wS l n), [some (.str (z l)), some (.int n)]) := by
  obtain ⟨k, rfl⟩ : ∃ j, k = j + 1 := ⟨k - 1, by omega⟩
  rw [st (fn := f__law_word) (by rfl)]
  have key : ∀ m : _root_.Fin 26, (z "abcdefghijklmnopqrstuvwxyz").cps.toList[m.val]? = some (97 + m.val) := by decide +kernel
  have hk := key ⟨n, hn⟩
  have len : (z "abcdefghijklmnopqrstuvwxyz").cps.toList.length = 26 := by decide +kernel
  have e1 : idxOp (.str (z "abcdefghijklmnopqrstuvwxyz")) (.int n) = some (.str ⟨#[97 + n]⟩) := by
    simp only [idxOp]
    rw [if_pos (by rw [ln_eq]; decide)]
    simp only [atI, ixN, len]
    rw [if_pos (by omega), if_pos (by omega)]
    simp only [Option.bind_some, Int.toNat_natCast, hk, Option.map_some]
  have e2 : (z l).length + (⟨#[97 + n]⟩ : Sg).length ≤ 1000000 := by
    have : (⟨#[97 + n]⟩ : Sg).length = 1 := rfl
    omega
  simp [callDK, execsK, execK, denK, denAK, getV, f__law_word, e1, e2, wS]
def cW (l : String) (i : E) : E := .comp (.call (z "_law_word") (.cons false (.lit (.str (z l))) (.cons false (.var 9) .nil))) (.v 9) (.range (.cons false i .nil)) .nil [9]
theorem cW_ok (hk : 1 ≤ k) (l : String) (hl : (z l).length ≤ 100) (i : E) (n : Nat) (hn : n ≤ 26) (e0 e1 e2 e3 e4 e5 e6 e7 e8 e9 : Option D) (hi : pk i [e0, e1, e2, e3, e4, e5, e6, e7, e8, e9] (denK (ph k) i [e0, e1, e2, e3, e4, e5, e6, e7, e8, e9]) = some (.v (.int n), [e0, e1, e2, e3, e4, e5, e6, e7, e8, e9]) ∨ (∃ j, pk i [e0, e1, e2, e3, e4, e5, e6, e7, e8, e9] (denK (ph k) i [e0, e1, e2, e3, e4, e5, e6, e7, e8, e9]) = some (.r j, [e0, e1, e2, e3, e4, e5, e6, e7, e8, e9]) ∧ getV [e0, e1, e2, e3, e4, e5, e6, e7, e8, e9] j = some (.int n))) :
    denK (ph k) (cW l i) [e0, e1, e2, e3, e4, e5, e6, e7, e8, e9] = some (.lst true (((List.range n).map (wS l)).map .str), [e0, e1, e2, e3, e4, e5, e6, e7, e8, none]) := by
  have sm := small_nat (n := n) (by omega)
  have e : rangeD 0 (n : Int) = (List.range n).map (fun k : Nat => D.int (0 + (k : Nat))) := by
    simp only [rangeD]; congr 1
  have hI : denIK (ph k) (.range (.cons false i .nil)) [e0, e1, e2, e3, e4, e5, e6, e7, e8, e9] = some ((List.range n).map (fun k : Nat => D.int (0 + (k : Nat))), none, [e0, e1, e2, e3, e4, e5, e6, e7, e8, e9]) := by
    rcases hi with hi | ⟨j, hi, hj⟩
    · simp [denIK, denAK, hi, sm, e]
    · simp [denIK, denAK, hi, hj, sm, e]
  have hb := compL_mapA (body := fun x e => (bindT [] (.v 9) x e).bind fun e1 => (denAlK (ph k) .nil e1).bind fun b => if b.1 then (denK (ph k) (.call (z "_law_word") (.cons false (.lit (.str (z l))) (.cons false (.var 9) .nil))) b.2).map fun y => (some y.1.frz, wipeE y.2 [9]) else some (none, wipeE b.2 [9])) (fun k : Nat => D.int (0 + (k : Nat))) (fun m => D.str (wS l m))
    (env := [e0, e1, e2, e3, e4, e5, e6, e7, e8, none]) (List.range n) [] (by
      intro m hm
      have hw := k_word hk l hl m (by have := List.mem_range.1 hm; omega)
      simp [denAlK, denK, denAK, getV, hw]) (by rw [ln_eq]; simp; omega)
  unfold cW
  rw [denK, hI]
  simp only [Option.bind_some, wipeE_cons, wipeE_nil, List.set_cons_succ, List.set_cons_zero]
  simp only [wipeE_cons, wipeE_nil] at hb
  rw [hb]; simp
def cDr : E := .comp (.tup (.cons false (.var 2) (.cons false (.op .add (.cons false (.lit (.str (z "d"))) (.cons false (.var 2) .nil))) (.cons false (.op .add (.cons false (.lit (.str (z "d"))) (.cons false (.var 2) .nil))) .nil)))) (.v 2) (.val (.var 1)) .nil [2]
theorem k_drummed (hk : 1 ≤ k) (own : List (List Sg)) (ss : List Sg) (o2 : Bool) (hs : ∀ s ∈ ss, s.length ≤ 100) (hl : own.length ≤ 100) (hl2 : ss.length ≤ 100) : ph k (z "_law_drummed") [ownD true own, .lst o2 (ss.map .str)] = some (ownD true (drumS own ss), [some (ownD true own), some (.lst o2 (ss.map .str))]) := by
  obtain ⟨k, rfl⟩ : ∃ j, k = j + 1 := ⟨k - 1, by omega⟩
  rw [st (fn := f__law_drummed) (by rfl)]
  have key : ∀ O : Option D, compL (fun x e => (bindT [] (.v 2) x e).bind fun e1 => (denAlK (ph k) .nil e1).bind fun b => if b.1 then (denK (ph k) (.tup (.cons false (.var 2) (.cons false (.op .add (.cons false (.lit (.str (z "d"))) (.cons false (.var 2) .nil))) (.cons false (.op .add (.cons false (.lit (.str (z "d"))) (.cons false (.var 2) .nil))) .nil)))) b.2).map fun y => (some y.1.frz, wipeE y.2 [2]) else some (none, wipeE b.2 [2])) (ss.map D.str) [] [some (ownD true own), O, none] =
      some (ss.map (fun s => rowD [s, z "d" ++ s, z "d" ++ s]), [some (ownD true own), O, none]) := by
    intro O
    have h := compL_mapA (body := fun x e => (bindT [] (.v 2) x e).bind fun e1 => (denAlK (ph k) .nil e1).bind fun b => if b.1 then (denK (ph k) (.tup (.cons false (.var 2) (.cons false (.op .add (.cons false (.lit (.str (z "d"))) (.cons false (.var 2) .nil))) (.cons false (.op .add (.cons false (.lit (.str (z "d"))) (.cons false (.var 2) .nil))) .nil)))) b.2).map fun y => (some y.1.frz, wipeE y.2 [2]) else some (none, wipeE b.2 [2])) (D.str : Sg → D) (fun s => rowD [s, z "d" ++ s, z "d" ++ s])
      (env := [some (ownD true own), O, none]) ss [] (by
        intro s h
        have h1 := hs s h
        have e1 : (z "d").length + s.length ≤ 1000000 := by have : (z "d").length = 1 := by decide
                                                            omega
        simp [denAlK, denK, denAK, denFK, getV, e1]) (by rw [ln_eq]; simp; omega)
    simpa using h
  have hI : denIK (ph k) (.val (.var 1)) [some (ownD true own), some (.lst o2 (ss.map .str)), none] = some (ss.map .str, (if o2 then some (1, .lst o2 (ss.map .str)) else none), [some (ownD true own), (if o2 then none else some (.lst o2 (ss.map .str))), none]) := by
    cases o2 <;> simp [denIK, denK, getV]
  have hC : denK (ph k) cDr [some (ownD true own), some (.lst o2 (ss.map .str)), none] = some (.lst true (ss.map (fun s => rowD [s, z "d" ++ s, z "d" ++ s])), [some (ownD true own), some (.lst o2 (ss.map .str)), none]) := by
    unfold cDr
    rw [denK, hI]
    have h := key (if o2 then none else some (.lst o2 (ss.map .str)))
    simp only [Option.bind_some, wipeE_cons, wipeE_nil, List.set_cons_succ, List.set_cons_zero]
    simp only [wipeE_cons, wipeE_nil] at h
    rw [h]
    cases o2 <;> rfl
  have hpk : ∀ env r, pk cDr env r = r.map fun q => (.v q.1, q.2) := fun _ _ => rfl
  have hf : f__law_drummed = ⟨2, 3, .cons (.ret (.op .add (.cons false (.var 0) (.cons false cDr .nil)))) .nil⟩ := rfl
  rw [hf]
  cases o2 <;> simp [callDK, execsK, execK, denK, denAK, getV, hpk, hC, drumS, show own.length + ss.length ≤ 1000000 by omega] <;> rfl
end Vi.P
end
section
set_option maxRecDepth 100000
/-! K03c: the law. -/
namespace Vi.P
open Vi L2 Vi.B
variable {k : Nat}
theorem k_turned (hk : 3 ≤ k) {M : Int} {d : D} (o : Bool) {own : List (List Sg)} {ends rounds : Nat} {spans : List Sg} (H : Hand own ends rounds spans) (hp : PotD M d) (hM : M + 1000 < 1000000) :
    ∃ (d' : D) (c : List (List Sg)), PotD (M + 500) d' ∧ Hand c ends rounds spans ∧ c.length = own.length ∧ ph k (z "_law_web_turned") [d, ownD o own] = some (ownD true c, [some d', some (ownD o own)]) := by
  obtain ⟨k, rfl⟩ : ∃ j, k = j + 1 := ⟨k - 1, by omega⟩
  rw [st (fn := f__law_web_turned) (by rfl)]
  have hle := H.le
  obtain ⟨d1, rows, hp1, R, hC⟩ := cTurned_ok (k_some (k := k) (by omega)) o own hp (by omega) hM H.web.len3
  have hrl := R.len
  obtain ⟨d2, ys, rs, hp2, pm, hy, e⟩ := k_some (k := k) (by omega) _ d1 true (rows.map rowD) own.length hp1 (by omega) (by rw [List.length_map]; omega) (by rw [List.length_map]; omega) (by
    intro q hq; obtain ⟨s, _, rfl⟩ := List.mem_map.1 hq; rfl)
  obtain ⟨us, vs, rfl, pm2⟩ := perm_inv rowD rowOf rowOf_rowD pm
  have hv : vs = [] := by
    have := pm2.length_eq
    simp only [List.length_append, List.length_map] at this hy
    exact List.eq_nil_of_length_eq_zero (by omega)
  subst hv
  simp only [List.append_nil] at pm2
  have o0 := hp.own; have o1 := hp1.own
  have hpk : ∀ env r, pk cTurned env r = r.map fun q => (.v q.1, q.2) := fun _ _ => rfl
  refine ⟨d2, us, hp2.mono (by omega), H.turn R pm2.symm, by rw [pm2.length_eq, hrl], ?_⟩
  have hf : f__law_web_turned = fTurnedC := rfl
  rw [hf]
  cases o <;> simp [callDK, execsK, execK, denK, denAK, getV, fTurnedC, hpk, hC, e, o0, o1]
theorem k_is_ints3 (hk : 2 ≤ k) (a b c : Int) : ph k (z "_law_is") [.tup [.int a, .int b, .int c], .tup [.int a, .int b, .int c]] = some (.bl true, [some (.tup [.int a, .int b, .int c]), some (.tup [.int a, .int b, .int c])]) := by
  refine k_is_tup hk _ (by simp) (fun x hx => by simp only [List.mem_cons, List.not_mem_nil, or_false] at hx; rcases hx with rfl | rfl | rfl <;> exact ⟨rfl, rfl⟩) (fun j hj x hx => ?_)
  simp only [List.mem_cons, List.not_mem_nil, or_false] at hx
  rcases hx with rfl | rfl | rfl <;> exact k_is_int (by omega) _
set_option maxHeartbeats 4000000 in
theorem k_is_so (hk : 6 ≤ k) {M : Int} {d : D} (o o2 : Bool) {own : List (List Sg)} {ends rounds : Nat} {spans : List Sg} (H : Hand own ends rounds spans) (hp : PotD M d) (hM : M + 1000 < 1000000) :
    ∃ d' : D, PotD (M + 500) d' ∧ ph k (z "_law_is_so") [d, ownD o own, .int ends, .int rounds, .lst o2 (spans.map .str)] = some (.bl true, [some d', some (ownD o own), some (.int ends), some (.int rounds), some (.lst o2 (spans.map .str))]) := by
  obtain ⟨k, rfl⟩ : ∃ j, k = j + 1 := ⟨k - 1, by omega⟩
  rw [st (fn := f__law_is_so) (by rfl)]
  obtain ⟨d', c, hp', C, lc, e0⟩ := k_turned (k := k) (by omega) o H hp hM
  have hle := C.le; have hpos := C.pos
  have hnm : ∀ r ∈ c, ∀ s ∈ r, NameOk s := fun r hr s hs => C.names s (List.mem_flatten.2 ⟨r, hr, hs⟩)
  have hfl := flat3 C.web.len3
  have h64 : c.flatten.length < 64 := by omega
  have e1 := k_wtext (k := k) (by omega) true c (by omega) C.web.len3 hnm
  have e2 := k_init (k := k) (by omega) c C.web (by intro e; rw [e] at hpos; simp at hpos) hle hnm
  have e5 := k_wroads (k := k) (by omega) c h64
  have e6 := k_inner (k := k) (by omega) c h64
  have e7 := k_wends (k := k) (by omega) c h64
  have e10 := k_wrounds (k := k) (by omega) c h64
  have e11 := k_wlen (k := k) (by omega) c
  have e12 := k_bridges (k := k) (by omega) c C.web (by omega) hpos
  have hbr : brOf c = srtS spans := C.brOf fun s hs => by
    obtain ⟨F, R, _⟩ := k_reached (k := 1) (by omega) none c 0 (some s) (by omega) (fun r hr => by have := C.web.len3 r hr; omega) hpos
    exact ⟨F, R⟩
  have nn := C.web.nums
  have en := C.en; have len := C.len
  have el : (endsOf c).length = eOf c := (srtS_perm _).length_eq
  have il : (innerOf c).length = iOf c := (srtS_perm _).length_eq
  have rl : (roadsOf c).length = nOf c := by unfold roadsOf nOf; rw [(srtS_perm _).length_eq]; exact List.length_map ..
  have hil := inner_len (own := c)
  have bl : (brOf c).length ≤ (innerOf c).length := List.length_filter_le _ _
  rw [hbr] at e12 bl
  have sl : spans.length ≤ 63 := by rw [(srtS_perm spans).length_eq] at bl; omega
  have so := sort_strs o2 spans (by omega)
  have i1 := k_is_ints3 (k := k) (by omega) ends rounds own.length
  have i2 := k_is_ints (k := k) (by omega) (2 * (ends : Int) + 3 * rounds - 3) ((ends : Int) + 3 * rounds - 3)
  have i3 := k_is_strs (k := k) (by omega) (srtS spans) (by rw [(srtS_perm spans).length_eq]; omega)
  have m1 : mulOp (.int 2) (.int (ends : Int)) = some (.int (2 * (ends : Int))) := mul_ok (by decide) (by omega)
  have m2 : mulOp (.int 3) (.int (rounds : Int)) = some (.int (3 * (rounds : Int))) := mul_ok (by decide) (by omega)
  have a0 : ((endsOf c).length : Int) = ends := by omega
  have a1 : ((innerOf c).length : Int) - c.length + 1 = rounds := by omega
  have a2 : ((roadsOf c).length : Int) = 2 * (ends : Int) + 3 * rounds - 3 := by omega
  have a3 : ((innerOf c).length : Int) = (ends : Int) + 3 * rounds - 3 := by omega
  have a4 : (c.length : Int) = own.length := by omega
  have lo := lenOk_nat (n := c.length) (by omega)
  rw [a1] at e10
  rw [a4] at lo e11
  have o0 := hp.own; have o1 := hp'.own
  refine ⟨d', hp', ?_⟩
  cases o <;> cases o2 <;> simp [callDK, execsK, execK, denK, denAK, denAnK, denFK, denTK, getV, f__law_is_so, isIns, o0, o1, e0, e1, e2, e5, e6, e7, e10, e11, e12, i1, i2, i3, m1, m2, a0, a2, a3, lo, so]
theorem subs_filter (p : Sg → Bool) : ∀ l : List Sg, l.filter p ∈ subs l
  | [] => by simp [subs]
  | x :: l => by
    have ih := subs_filter p l
    simp only [subs, List.mem_append, List.mem_map]
    cases h : p x with
    | true => right; exact ⟨l.filter p, ih, by simp [h]⟩
    | false => left; simpa [h] using ih
theorem hand_drum (few : Nat) (h3 : 3 ≤ few) (h6 : few ≤ 6) (ss : List Sg) (hn : ss.Nodup) (hs : ∀ s ∈ ss, s ∈ (List.range few).map (wS "e")) : Hand (drumS (combS few) ss) (few - ss.length) ss.length (innS few ++ ss) := by
  have key := drum_hand ⟨few - 3, by omega⟩ (((List.range few).map (wS "e")).filter fun s => decide (s ∈ ss)) (by
    have e : few - 3 + 3 = few := by omega
    simp only [e]
    exact subs_filter _ _)
  have e : few - 3 + 3 = few := by omega
  simp only [e] at key
  have nd : ((List.range few).map (wS "e")).Nodup := by
    have g : few = 3 ∨ few = 4 ∨ few = 5 ∨ few = 6 := by omega
    rcases g with rfl | rfl | rfl | rfl <;> decide +kernel
  have pm : (((List.range few).map (wS "e")).filter fun s => decide (s ∈ ss)).Perm ss := by
    refine (List.perm_ext_iff_of_nodup (nd.filter _) hn).2 fun s => ?_
    simp only [List.mem_filter, decide_eq_true_eq]
    exact ⟨fun h => h.2, fun h => ⟨hs s h, h⟩⟩
  have H := hand_of key
  rw [pm.length_eq] at H
  have H2 := H.turn (RowsP.refl _) (c := drumS (combS few) ss) (by
    unfold drumS
    exact List.Perm.append_left _ (pm.map _))
  exact H2.spans _ (List.Perm.append_left _ pm.symm)
set_option maxHeartbeats 8000000 in
theorem k_right (hk : 9 ≤ k) {d : D} (hp : PotD 0 d) : ∃ fin, ph k (z "_law_right") [d] = some (.bl true, fin) := by
  obtain ⟨k, rfl⟩ : ∃ j, k = j + 1 := ⟨k - 1, by omega⟩
  rw [st (fn := f__law_right) (by rfl)]
  obtain ⟨r1, d1, a0, a1, hp1, e1⟩ := k_take (k := k) (by omega) _ d 12 hp (by omega) (by decide) (by decide)
  obtain ⟨r2, d2, b0, b1, hp2, e2⟩ := k_take (k := k) (by omega) _ d1 12 hp1 (by omega) (by decide) (by decide)
  obtain ⟨ends, he⟩ : ∃ n : Nat, 3 + r1 = (n : Int) := ⟨(3 + r1).toNat, by omega⟩
  obtain ⟨many, hm⟩ : ∃ n : Nat, 1 + r2 = (n : Int) := ⟨(1 + r2).toNat, by omega⟩
  have e3 := k_comb (k := k) (by omega) ends (by omega) (by omega)
  have Hc : Hand (combS ends) ends 0 (innS ends) := by
    have := comb_hand ⟨ends - 3, by omega⟩
    simp only [show ends - 3 + 3 = ends by omega] at this
    exact hand_of this
  have Hr : Hand (ringS many) many 1 [] := by
    have := ring_hand ⟨many - 1, by omega⟩
    simp only [show many - 1 + 1 = many by omega] at this
    exact hand_of this
  obtain ⟨d3, hp3, e4⟩ := k_is_so (k := k) (by omega) true true Hc hp2 (by omega)
  have e5 := k_ring (k := k) (by omega) many (by omega) (by omega)
  obtain ⟨d4, hp4, e6⟩ := k_is_so (k := k) (by omega) true true Hr hp3 (by omega)
  obtain ⟨r3, d5, c0, c1, hp5, e7⟩ := k_take (k := k) (by omega) _ d4 4 hp4 (by omega) (by decide) (by decide)
  obtain ⟨few, hf⟩ : ∃ n : Nat, 3 + r3 = (n : Int) := ⟨(3 + r3).toNat, by omega⟩
  obtain ⟨r4, d6, g0, g1, hp6, e8⟩ := k_take (k := k) (by omega) _ d5 few hp5 (by omega) (by omega) (by omega)
  obtain ⟨cnt, hc⟩ : ∃ n : Nat, 1 + r4 = (n : Int) := ⟨(1 + r4).toNat, by omega⟩
  obtain ⟨d7, ys, rs, hp7, pm, hy, e9⟩ := k_some (k := k) (by omega) _ d6 true (((List.range few).map (wS "e")).map .str) cnt hp6 (by omega) (by simp; omega) (by simp; omega) (by
    intro q hq; obtain ⟨s, _, rfl⟩ := List.mem_map.1 hq; rfl)
  obtain ⟨us, vs, rfl, pm2⟩ := perm_inv D.str strOf (fun _ => rfl) pm
  have nd : ((List.range few).map (wS "e")).Nodup := by
    have g : few = 3 ∨ few = 4 ∨ few = 5 ∨ few = 6 := by omega
    rcases g with rfl | rfl | rfl | rfl <;> decide +kernel
  have und : us.Nodup := (List.nodup_append.1 (pm2.nodup_iff.2 nd)).1
  have usub : ∀ s ∈ us, s ∈ (List.range few).map (wS "e") := fun s hs => pm2.subset (List.mem_append_left _ hs)
  have ulen : us.length = cnt := by simpa using hy
  have unm : ∀ s ∈ us, s.length ≤ 100 := fun s hs => by
    obtain ⟨n, _, rfl⟩ := List.mem_map.1 (usub s hs)
    have e0 : (wS "e" n).length = 2 := by
      unfold wS; rw [PySem.strLen_append]; rfl
    omega
  have Hd := hand_drum few (by omega) (by omega) us und usub
  have e10 := k_comb (k := k) (by omega) few (by omega) (by omega)
  have cl : (combS few).length ≤ 12 := by
    have g : few = 3 ∨ few = 4 ∨ few = 5 ∨ few = 6 := by omega
    rcases g with rfl | rfl | rfl | rfl <;> decide
  have e11 := k_drummed (k := k) (by omega) (combS few) us true unm (by omega) (by omega)
  obtain ⟨d8, hp8, e12⟩ := k_is_so (k := k) (by omega) true true Hd hp7 (by omega)
  obtain ⟨d9, hp9, e13⟩ := k_is_so (k := k) (by omega) true true (hand_of theta_hand) hp8 (by omega)
  have hcw : cnt ≤ few := by omega
  have a3 : ((few - us.length : Nat) : Int) = (few : Int) - us.length := by omega
  rw [a3] at e12
  have a4 : ((ends - 3 : Nat) : Int) = (ends : Int) - 3 := by omega
  have a5 : ((few - 3 : Nat) : Int) = (few : Int) - 3 := by omega
  have cw1 := fun e0 e1 e2 e3 e4 e6 e7 e8 e9 => cW_ok (k := k) (by omega) "i" (by decide) (.op .sub (.cons false (.var 5) (.cons false (.lit (.int (3))) .nil))) (ends - 3) (by omega) e0 e1 e2 e3 e4 (some (.int (ends : Int))) e6 e7 e8 e9 (.inl (by simp [denK, denAK, getV, a4]))
  have cw2 := fun e0 e1 e2 e4 e5 e6 e7 e8 e9 => cW_ok (k := k) (by omega) "e" (by decide) (.var 3) few (by omega) e0 e1 e2 (some (.int (few : Int))) e4 e5 e6 e7 e8 e9 (.inr ⟨3, by simp [getV], by simp [getV]⟩)
  have cw3 := fun e0 e1 e2 e4 e5 e6 e7 e8 e9 => cW_ok (k := k) (by omega) "i" (by decide) (.op .sub (.cons false (.var 3) (.cons false (.lit (.int (3))) .nil))) (few - 3) (by omega) e0 e1 e2 (some (.int (few : Int))) e4 e5 e6 e7 e8 e9 (.inl (by simp [denK, denAK, getV, a5]))
  have hpk : ∀ l i env r, pk (cW l i) env r = r.map fun q => (.v q.1, q.2) := fun _ _ _ _ => rfl
  have o0 := hp.own; have o1 := hp1.own; have o2 := hp2.own; have o3 := hp3.own; have o4 := hp4.own; have o5 := hp5.own; have o6 := hp6.own; have o7 := hp7.own; have o8 := hp8.own
  have hff : f__law_right = ⟨1, 10, .cons (.par [5, 6] (.cons false (.op .add (.cons false (.lit (.int (3))) (.cons false (.call (z "_law_take") (.cons false (.var 0) (.cons false (.lit (.int (12))) .nil))) .nil))) (.cons false (.op .add (.cons false (.lit (.int (1))) (.cons false (.call (z "_law_take") (.cons false (.var 0) (.cons false (.lit (.int (12))) .nil))) .nil))) .nil))) (.cons (.asg (.v 1) (.call (z "_law_comb") (.cons false (.var 5) .nil))) (.cons (.asg (.v 2) (cW "i" (.op .sub (.cons false (.var 5) (.cons false (.lit (.int (3))) .nil))))) (.cons (.iff (.orr (.cons false (.nt (.call (z "_law_is_so") (.cons false (.var 0) (.cons false (.var 1) (.cons false (.var 5) (.cons false (.lit (.int (0))) (.cons false (.var 2) .nil))))))) (.cons false (.nt (.call (z "_law_is_so") (.cons false (.var 0) (.cons false (.call (z "_law_ring") (.cons false (.var 6) .nil)) (.cons false (.var 6) (.cons false (.lit (.int (1))) (.cons false (.lst .nil) .nil))))))) .nil))) (.cons (.ret (.lit (.bl false))) .nil) .nil) (.cons (.asg (.v 3) (.op .add (.cons false (.lit (.int (3))) (.cons false (.call (z "_law_take") (.cons false (.var 0) (.cons false (.lit (.int (4))) .nil))) .nil)))) (.cons (.asg (.v 4) (.call (z "_law_some") (.cons false (.var 0) (.cons false (cW "e" (.var 3)) (.cons false (.op .add (.cons false (.lit (.int (1))) (.cons false (.call (z "_law_take") (.cons false (.var 0) (.cons false (.var 3) .nil))) .nil))) .nil))))) (.cons (.par [7, 8] (.cons false (.call (z "_law_drummed") (.cons false (.call (z "_law_comb") (.cons false (.var 3) .nil)) (.cons false (.var 4) .nil))) (.cons false (.op .add (.cons false (cW "i" (.op .sub (.cons false (.var 3) (.cons false (.lit (.int (3))) .nil)))) (.cons false (.var 4) .nil))) .nil))) (.cons (.iff (.nt (.call (z "_law_is_so") (.cons false (.var 0) (.cons false (.var 7) (.cons false (.op .sub (.cons false (.var 3) (.cons false (.op .len (.cons false (.var 4) .nil)) .nil))) (.cons false (.op .len (.cons false (.var 4) .nil)) (.cons false (.var 8) .nil))))))) (.cons (.ret (.lit (.bl false))) .nil) .nil) (.cons (.ret (.call (z "_law_is_so") (.cons false (.var 0) (.cons false (.lst (.cons false (.tup (.cons false (.lit (.str (z "a"))) (.cons false (.lit (.str (z "b"))) (.cons false (.lit (.str (z "c"))) .nil)))) (.cons false (.tup (.cons false (.lit (.str (z "b"))) (.cons false (.lit (.str (z "c"))) (.cons false (.lit (.str (z "a"))) .nil)))) .nil))) (.cons false (.lit (.int (0))) (.cons false (.lit (.int (2))) (.cons false (.lst .nil) .nil))))))) .nil))))))))⟩ := rfl
  rw [hff]
  have z0 : ((0 : Nat) : Int) = 0 := rfl
  have z1 : ((1 : Nat) : Int) = 1 := rfl
  have z2 : ((2 : Nat) : Int) = 2 := rfl
  rw [z0] at e4 e13
  rw [z1] at e6
  rw [z2] at e13
  have il : ((List.range (few - 3)).map (wS "i")).length = few - 3 := by simp
  simp only [List.map_nil, List.map_append] at e6 e12 e13
  simp only [innS] at e4 e12
  generalize (List.range (ends - 3)).map (wS "i") = I1 at cw1 e4
  generalize (List.range few).map (wS "e") = E2 at cw2 e9
  generalize (List.range (few - 3)).map (wS "i") = I3 at cw3 e12 il
  have il2 : I3.length + us.length ≤ 1000000 := by omega
  simp only [ownD, rowD, List.map_cons, List.map_nil] at e13
  refine ⟨[some d9], ?_⟩
  simp [callDK, execsK, execK, denK, denAK, denFK, denOK, denOrK, denTK, getV, hpk, o0, o1, o2, o3, o4, o5, o6, o7, o8, e1, e2, he, hm, e3, cw1, e4, e5, e6, e7, hf, cw2, e8, hc, e9, e10, e11, cw3, e12, e13, il2]
theorem sp_law (ns : List Int) : ∃ fin, phi 60 pr 40 (z "law") [.scr ns] = some (.bl true, fin) := by
  rw [← phiK_eq]
  obtain ⟨fin, h⟩ := law_all (u := 60) (φ := ph 39) (m := 1) ns (by decide) (by decide) (fun p h0 h1 => k_pot (k := 39) ns h0 h1 (by decide)) (k_cells (k := 39) ns (by decide) (by decide) (by decide)) (fun d hd => k_right (k := 39) (by decide) hd)
  refine ⟨fin, ?_⟩
  show ph (39 + 1) _ _ = _
  rw [st (fn := f_law) (by rfl)]
  exact h
theorem sp_law_n : ∀ ns : List Int, ns.length ≤ 63 → ∃ fin, phi 60 pr 40 (PySem.Str.ofString "law") [.scr ns] = some (.bl true, fin) := fun ns _ => sp_law ns
end Vi.P
end
section
set_option maxRecDepth 100000
set_option maxHeartbeats 0
open_top hd for PySem.Challenge.rw_threeroadcars_k03_whole_combs_rings_and
end
section
open PySem PySem.W PyProof.Rows
set_option maxRecDepth 100000 in
set_option maxHeartbeats 0 in
theorem PySem.Challenge.cw_threeroadcars_k03_whole_combs_rings_and_holds : PySem.Challenge.rw_threeroadcars_k03_whole_combs_rings_and.Holds := by
  refine hd ?_
  k_fill
  refine Vi.walkG (l := PySem.Challenge.rw_threeroadcars_k03_whole_combs_rings_and) (n := 63) (u := 60) (k := 40) (p := Vi.P.pr) (fn := Vi.P.f_law) rfl (by decide) rfl ?hk (fun w h Y => PySem.W.kIn_of Y) rfl ?F ?law
  case hk => exact ⟨rfl, by decide, by decide⟩
  case law => exact Vi.P.sp_law_n
  case F =>
    intro w mg fa h KX G hmg
    refine' Vi.P.all_mk KX G hmg ?nC0 ?pgC0 ?icC0 ?poC0 ?saC0 ?mkC0 ?kcC0 ?atp0_0 ?gep0_0 ?tkp0_0 ?typ0_0 ?ixp0_0 ?atp0_1 ?gep0_1 ?tkp0_1 ?typ0_1 ?ixp0_1 ?atp0_2 ?gep0_2 ?tkp0_2 ?typ0_2 ?ixp0_2 ?atq0_0 ?geq0_0 ?tkq0_0 ?rcq0_0 ?atq0_1 ?geq0_1 ?tkq0_1 ?rcq0_1 ?atq0_2 ?geq0_2 ?tkq0_2 ?rcq0_2 ?atq0_3 ?geq0_3 ?tkq0_3 ?rcq0_3 ?atq0_4 ?geq0_4 ?tkq0_4 ?rcq0_4 ?atq0_5 ?geq0_5 ?tkq0_5 ?rcq0_5 ?n0 ?l0 ?c0 ?k0 ?n1 ?l1 ?c1 ?k1 ?n2 ?l2 ?c2 ?k2 ?n3 ?l3 ?c3 ?k3 ?n4 ?l4 ?c4 ?k4 ?n5 ?l5 ?c5 ?k5 ?n6 ?f6 ?l6 ?c6 ?k6 ?l7 ?c7 ?k7 ?l8 ?c8 ?k8 ?l9 ?c9 ?k9 ?l10 ?c10 ?k10 ?l11 ?c11 ?k11 ?l12 ?c12 ?k12 ?n13 ?f13 ?l13 ?c13 ?k13 ?n14 ?l14 ?c14 ?k14 ?n15 ?l15 ?c15 ?k15 ?n16 ?l16 ?c16 ?k16 ?n17 ?l17 ?c17 ?k17 ?n18 ?l18 ?c18 ?k18 ?n19 ?l19 ?c19 ?k19 ?n20 ?l20 ?c20 ?k20 ?n21 ?l21 ?c21 ?k21 ?n22 ?l22 ?c22 ?k22 ?n23 ?l23 ?c23 ?k23 ?n24 ?l24 ?c24 ?k24 ?n25 ?l25 ?c25 ?k25 ?n26 ?l26 ?c26 ?k26 ?n27 ?l27 ?c27 ?k27 ?n28 ?l28 ?c28 ?k28 ?n29 ?l29 ?c29 ?k29 ?n30 ?l30 ?c30 ?k30 ?g0 ?g1 ?g2 ?g3 ?g4 ?g5 ?g6 ?g7 ?g8 ?b0 ?b1 ?b2 ?b3 ?b4 ?b5 ?b6 ?b7 ?b8 ?b9 ?b10 ?b11 ?b12 ?b13 ?b14 ?b15 ?b16
    (case nC0 => k_is)
    (case pgC0 => k_is)
    (case icC0 => k_is)
    (case poC0 => k_is)
    (case saC0 => k_is)
    (case mkC0 => k_is)
    (case kcC0 => k_is)
    (case atp0_0 => k_is)
    (case gep0_0 => k_is)
    (case tkp0_0 => k_is)
    (case typ0_0 => k_is)
    (case ixp0_0 => k_is)
    (case atp0_1 => k_is)
    (case gep0_1 => k_is)
    (case tkp0_1 => k_is)
    (case typ0_1 => k_is)
    (case ixp0_1 => k_is)
    (case atp0_2 => k_is)
    (case gep0_2 => k_is)
    (case tkp0_2 => k_is)
    (case typ0_2 => k_is)
    (case ixp0_2 => k_is)
    (case atq0_0 => k_is)
    (case geq0_0 => k_is)
    (case tkq0_0 => k_is)
    (case rcq0_0 => k_is)
    (case atq0_1 => k_is)
    (case geq0_1 => k_is)
    (case tkq0_1 => k_is)
    (case rcq0_1 => k_is)
    (case atq0_2 => k_is)
    (case geq0_2 => k_is)
    (case tkq0_2 => k_is)
    (case rcq0_2 => k_is)
    (case atq0_3 => k_is)
    (case geq0_3 => k_is)
    (case tkq0_3 => k_is)
    (case rcq0_3 => k_is)
    (case atq0_4 => k_is)
    (case geq0_4 => k_is)
    (case tkq0_4 => k_is)
    (case rcq0_4 => k_is)
    (case atq0_5 => k_is)
    (case geq0_5 => k_is)
    (case tkq0_5 => k_is)
    (case rcq0_5 => k_is)
    (case n0 => k_is)
    (case l0 => k_is)
    (case c0 => k_is)
    (case k0 => k_is)
    (case n1 => k_is)
    (case l1 => k_is)
    (case c1 => k_is)
    (case k1 => k_is)
    (case n2 => k_is)
    (case l2 => k_is)
    (case c2 => k_is)
    (case k2 => k_is)
    (case n3 => k_is)
    (case l3 => k_is)
    (case c3 => k_is)
    (case k3 => k_is)
    (case n4 => k_is)
    (case l4 => k_is)
    (case c4 => k_is)
    (case k4 => k_is)
    (case n5 => k_is)
    (case l5 => k_is)
    (case c5 => k_is)
    (case k5 => k_is)
    (case n6 => k_is)
    (case f6 => k_is)
    (case l6 => k_is)
    (case c6 => k_is)
    (case k6 => k_is)
    (case l7 => k_is)
    (case c7 => k_is)
    (case k7 => k_is)
    (case l8 => k_is)
    (case c8 => k_is)
    (case k8 => k_is)
    (case l9 => k_is)
    (case c9 => k_is)
    (case k9 => k_is)
    (case l10 => k_is)
    (case c10 => k_is)
    (case k10 => k_is)
    (case l11 => k_is)
    (case c11 => k_is)
    (case k11 => k_is)
    (case l12 => k_is)
    (case c12 => k_is)
    (case k12 => k_is)
    (case n13 => k_is)
    (case f13 => k_is)
    (case l13 => k_is)
    (case c13 => k_is)
    (case k13 => k_is)
    (case n14 => k_is)
    (case l14 => k_is)
    (case c14 => k_is)
    (case k14 => k_is)
    (case n15 => k_is)
    (case l15 => k_is)
    (case c15 => k_is)
    (case k15 => k_is)
    (case n16 => k_is)
    (case l16 => k_is)
    (case c16 => k_is)
    (case k16 => k_is)
    (case n17 => k_is)
    (case l17 => k_is)
    (case c17 => k_is)
    (case k17 => k_is)
    (case n18 => k_is)
    (case l18 => k_is)
    (case c18 => k_is)
    (case k18 => k_is)
    (case n19 => k_is)
    (case l19 => k_is)
    (case c19 => k_is)
    (case k19 => k_is)
    (case n20 => k_is)
    (case l20 => k_is)
    (case c20 => k_is)
    (case k20 => k_is)
    (case n21 => k_is)
    (case l21 => k_is)
    (case c21 => k_is)
    (case k21 => k_is)
    (case n22 => k_is)
    (case l22 => k_is)
    (case c22 => k_is)
    (case k22 => k_is)
    (case n23 => k_is)
    (case l23 => k_is)
    (case c23 => k_is)
    (case k23 => k_is)
    (case n24 => k_is)
    (case l24 => k_is)
    (case c24 => k_is)
    (case k24 => k_is)
    (case n25 => k_is)
    (case l25 => k_is)
    (case c25 => k_is)
    (case k25 => k_is)
    (case n26 => k_is)
    (case l26 => k_is)
    (case c26 => k_is)
    (case k26 => k_is)
    (case n27 => k_is)
    (case l27 => k_is)
    (case c27 => k_is)
    (case k27 => k_is)
    (case n28 => k_is)
    (case l28 => k_is)
    (case c28 => k_is)
    (case k28 => k_is)
    (case n29 => k_is)
    (case l29 => k_is)
    (case c29 => k_is)
    (case k29 => k_is)
    (case n30 => k_is)
    (case l30 => k_is)
    (case c30 => k_is)
    (case k30 => k_is)
    (case g0 => k_is)
    (case g1 => k_is)
    (case g2 => k_is)
    (case g3 => k_is)
    (case g4 => k_is)
    (case g5 => k_is)
    (case g6 => k_is)
    (case g7 => k_is)
    (case g8 => k_is)
    (case b0 => k_is)
    (case b1 => k_is)
    (case b2 => k_is)
    (case b3 => k_is)
    (case b4 => k_is)
    (case b5 => k_is)
    (case b6 => k_is)
    (case b7 => k_is)
    (case b8 => k_is)
    (case b9 => k_is)
    (case b10 => k_is)
    (case b11 => k_is)
    (case b12 => k_is)
    (case b13 => k_is)
    (case b14 => k_is)
    (case b15 => k_is)
    (case b16 => k_is)
end
