import PyProof.Rows.All
import Wide.All
import OpenK.AllK
import Wide.FinOn
import HandS.ForMost
import HandS.Deep
import HandS.Wide
import HandS.TupAny
import HandS.TupMul
import HandS.TupLe
import HandS.Style
import HandS.IsInst
import HandS.SetFor
import HandS.Walk
import HandS.Zip
import PyProof.EnumMake
import PyProof.EnumIter
import HandS.Zip0
import HandS.NoneIn
import HandS.NamedTupSort
import HandS.SortRule
import HandS.SortInts
import HandS.Sort
import HandS.Conv
import HandS.More
import HandS.List
import HandS.Flow
import HandS.TupSets
import KE.KDictDisplayH
import KE.KDictPairs
import KE.KDictKeyed
import HandS.Defaults
import PySem.Challenge.RW_allelse_k21_whole_ways_put_together
set_option Elab.async false
set_option linter.all false
set_option maxRecDepth 100000
set_option maxHeartbeats 4000000
/-! PD0: a small pure language over plain data, with owned places. -/
namespace PD
open PySem

abbrev D := PyData
/-- how a slot holds its thing: shared for good, its own (a new list or dict that nobody else knows), or the caller's own -/
inductive O where
  | sh | own | mu
  deriving DecidableEq
structure Sl where
  o : O
  d : D
abbrev En := List (Option Sl)
inductive Ans where
  | val (f : Bool) (d : D)
  | pl (i : Nat)
inductive Rs (α : Type) where
  | no
  | ok (a : α) (e : En)
  | ex (c : Str) (d : D) (e : En)
def Rs.bind {α β : Type} : Rs α → (α → En → Rs β) → Rs β
  | .no, _ => .no
  | .ok a e, f => f a e
  | .ex c d e, _ => .ex c d e
inductive FR where
  | no
  | ok (f : Bool) (d : D) (ms : List D)
  | ex (c : Str) (d : D) (ms : List D)
/-- a def as its callers see it: which parameters it changes, what it does -/
structure Fn where
  modes : List Bool
  sem : List D → FR

/-- operations that change nothing -/
inductive Pr where
  | add | sub | mul | mod | fdiv | pow | neg
  | eq | ne | lt | le | gt | ge | isin | notin | isN | notN | isB | notB
  | rev | len | abs | min2 | max2 | tuple | list | all | int | sorted | setlen | setsorted | range1 | range2 | str | minL | maxL | sumL | any | dictK | dictT | get1 | get2 | index | count
  deriving DecidableEq
/-- methods that change a list or dict -/
inductive Mt where
  | append | extend | pop0 | reverse | clear | insert | remove | popA
  deriving DecidableEq
/-- built-in kinds, for isinstance -/
inductive Kd where
  | int | bool | str | list | tuple | dict
  deriving DecidableEq
/-- targets of a loop -/
inductive Pt where
  | nm (i : Nat)
  | tp (is : List Nat)
mutual
inductive IE where
  | var (i : Nat)
  | lit (d : D)
  | gl (x : Str) (d : D)
  | un (p : Pr) (a : IE)
  | bi (p : Pr) (a b : IE)
  | cm (p : Pr) (a b : IE)
  | chn (p q : Pr) (a b c : IE)
  | and (es : List IE)
  | or (es : List IE)
  | not (a : IE)
  | ite (c : IT) (a b : IE)
  | tup (es : List IE)
  | lst (es : List IE)
  | dic (ks : List D) (vs : List IE)
  | dnew (t : Bool)
  | ix (a b : IE)
  | sl (a : IE) (lo hi : Option IE)
  | fn (p : Pr) (es : List IE)
  | isI (k : Kd) (a : IE)
  | call (k : Nat) (es : List IE) (dv : List D)
  | callT (k : Nat) (es : List IE) (dv : List D)
  | orT (a b : IE)
  | rgl (t : Bool) (a : IE)
  | sls (a : IE) (lo : Option IE) (st : IE)
  | sset (a : IE)
  | mt (m : Mt) (i : Nat) (es : List IE)
  | join (x : Str) (a : IE)
  | comp (el : IE) (pt : Pt) (src : Sr) (cs : List IT) (own : List Nat)
  | compk (el : IE) (pt : Pt) (en : Bool) (i : Nat) (cs : List IT) (own : List Nat)
  | bad
  | mr (p : Pr) (i : Nat) (es : List IE)
  | dic1 (t : Bool) (k v : IE)
  | lset (a : IE)
inductive IT where
  | v (a : IE)
  | cm (p : Pr) (a b : IE)
  | chn (p q : Pr) (a b c : IE)
  | not (t : IT)
  | and (ts : List IT)
  | or (ts : List IT)
inductive Sr where
  | seq (a : IE)
  | rng (a : IE)
  | rng2 (a b : IE)
  | enum (a : IE)
  | zip (a b : IE)
end
inductive IS where
  | set (i : Nat) (a : IE)
  | unp (is : List Nat) (a : IE)
  | par (i j : Nat) (a b : IE)
  | par3 (i j l : Nat) (a b c : IE)
  | exp (a : IE)
  | ret (a : IE)
  | retN
  | iff (c : IT) (a b : List IS)
  | forr (pt : Pt) (src : Sr) (body : List IS)
  | forrk (pt : Pt) (en : Bool) (i : Nat) (body : List IS)
  | whl (n : Nat) (c : IT) (body : List IS)
  | ixset (i : Nat) (k v : IE)
  | aug (i : Nat) (p : Pr) (a : IE)
  | augi (i : Nat) (p : Pr) (k a : IE)
  | mov (i j : Nat)
  | pass | brk | cont | doc | bad
/-- how a block ends -/
inductive Ou where
  | no
  | nx (e : En)
  | rt (f : Bool) (d : D) (e : En)
  | bk (e : En)
  | ct (e : En)
  | ex (c : Str) (d : D) (e : En)
end PD

/-! PD1: what the pure language does. -/
namespace PD
open PySem

def rdA : Ans → En → Option D
  | .val _ d, _ => some d
  | .pl i, e => match e[i]? with
    | some (some s) => some s.d
    | _ => none
def rdAs : List Ans → En → Option (List D)
  | [], _ => some []
  | a :: as, e => match rdA a e, rdAs as e with
    | some d, some ds => some (d :: ds)
    | _, _ => none
/-- a thing is handed on for good: its own place is shared from now on -/
def fzA : Ans → En → Option (D × En)
  | .val _ d, e => some (d, e)
  | .pl i, e => match e[i]? with
    | some (some ⟨.own, d⟩) => some (d, e.set i (some ⟨.sh, d⟩))
    | some (some ⟨.sh, d⟩) => some (d, e)
    | _ => none
def fzAs : List Ans → En → Option (List D × En)
  | [], e => some ([], e)
  | a :: as, e => match fzA a e with
    | some (d, e1) => match fzAs as e1 with
      | some (ds, e2) => some (d :: ds, e2)
      | none => none
    | none => none

def isSc : D → Bool
  | .none | .bool _ | .int _ | .str _ => true
  | _ => false
def truthD : D → Option Bool
  | .none => some false
  | .bool b => some b
  | .int i => some (i != 0)
  | .str x => if x.length ≤ sizeLine then some (x.length != 0) else none
  | .list xs => some (!xs.isEmpty)
  | .tuple xs => some (!xs.isEmpty)
  | .dict _ => none
def okMul (i j : Int) : Bool := (decide (-(2 ^ 64) < i) && decide (i < 2 ^ 64)) || (decide (-(2 ^ 64) < j) && decide (j < 2 ^ 64))
def keyAt : D → Bool
  | .int _ | .str _ => true
  | _ => false
def isT : List (D × D) → Bool
  | (.none, _) :: _ => true
  | _ => false
/-- a thing that may be a key of that dict -/
def keyOf (kvs : List (D × D)) (k : D) : Bool := if isT kvs = true then match k with
    | .tuple xs => xs.all keyAt
    | _ => false
  else keyAt k
/-- two keys that are whole numbers, texts, or tuples of such -/
def keyEqs : List D → List D → Bool
  | [], [] => true
  | .int i :: xs, .int j :: ys => decide (i = j) && keyEqs xs ys
  | .str x :: xs, .str y :: ys => decide (x = y) && keyEqs xs ys
  | _, _ => false
def keyEq : D → D → Bool
  | .int i, .int j => decide (i = j)
  | .str x, .str y => decide (x = y)
  | .tuple xs, .tuple ys => keyEqs xs ys
  | _, _ => false
def dGet : List (D × D) → D → Option D
  | [], _ => none
  | kv :: r, k => if keyEq kv.1 k = true then some kv.2 else dGet r k
def dSet (kvs : List (D × D)) (k v : D) : List (D × D) :=
  if (kvs.any fun kv => keyEq kv.1 k) = true then kvs.map (fun kv => if keyEq kv.1 k = true then (kv.1, v) else kv) else kvs ++ [(k, v)]
/-- a place in a list, from either end -/
def atD (xs : List D) (i : Int) : Option D :=
  if 0 ≤ i then xs[i.toNat]? else if -(xs.length : Int) ≤ i then xs[((xs.length : Int) + i).toNat]? else none
def cutD (xs : List D) (lo hi : Option Int) : List D :=
  (xs.drop (HT.sIx xs.length 0 lo)).take (HT.sIx xs.length xs.length hi - HT.sIx xs.length 0 lo)
def isBools : List D → Option (List Bool)
  | [] => some []
  | .bool b :: r => match isBools r with
    | some bs => some (b :: bs)
    | none => none
  | _ => none
def intsOf : List D → Option (List Int)
  | [] => some []
  | .int i :: r => match intsOf r with
    | some is => some (i :: is)
    | none => none
  | _ => none

/-- the keys of a dict -/
def keysD : List (D × D) → List D
  | (.none, _) :: r => r.map (·.1)
  | r => r.map (·.1)
def insS {α : Type} (lt : α → α → Bool) (x : α) : List α → List α
  | [] => [x]
  | y :: r => if lt x y = true then x :: y :: r else y :: insS lt x r
/-- sorted -/
def srtS {α : Type} (lt : α → α → Bool) : List α → List α
  | [] => []
  | x :: r => insS lt x (srtS lt r)
/-- tuples of whole numbers, none of them empty -/
def tupsOf : List D → Option (List (List Int))
  | [] => some []
  | .tuple xs :: r => match intsOf xs, tupsOf r with
    | some (n :: ns), some ms => some ((n :: ns) :: ms)
    | _, _ => none
  | _ => none
def sortD (ds : List D) : Option (List D) := match intsOf ds with
  | some ns => some ((srtS (fun i j => decide (i < j)) ns).map .int)
  | none => match tupsOf ds with
    | some ms => some ((srtS HT.lexLt ms).map fun ns => .tuple (ns.map .int))
    | none => none
def strsOf : List D → Option (List Str)
  | [] => some []
  | .str x :: r => match strsOf r with
    | some xs => some (x :: xs)
    | none => none
  | _ => none
def joinD (x : Str) (ds : List D) : Option D := match strsOf ds with
  | some ys => if (ys.map (·.length)).sum + ys.length * x.length ≤ 16777216 then some (.str (Txt.join x ys)) else none
  | none => none
def bo (b : Bool) : Option (Bool × D) := some (false, .bool b)
def io (i : Int) : Option (Bool × D) := some (false, .int i)
def pAdd : D → D → Option (Bool × D)
  | .int i, .int j => io (i + j)
  | .str x, .str y => if x.length + y.length ≤ sizeLine then some (false, .str (x ++ y)) else none
  | .list xs, .list ys => if xs.length + ys.length ≤ sizeLine then some (true, .list (xs ++ ys)) else none
  | .tuple xs, .tuple ys => if xs.length + ys.length ≤ sizeLine then some (false, .tuple (xs ++ ys)) else none
  | _, _ => none
def pMul : D → D → Option (Bool × D)
  | .int i, .int j => if okMul i j = true then io (i * j) else none
  | .list xs, .int k => if -(2 ^ 62) < k ∧ k < 2 ^ 62 ∧ xs.length * k.toNat ≤ sizeLine then some (true, .list (List.replicate k.toNat xs).flatten) else none
  | .tuple xs, .int k => if -(2 ^ 62) < k ∧ k < 2 ^ 62 ∧ xs.length * k.toNat ≤ sizeLine then some (false, .tuple (List.replicate k.toNat xs).flatten) else none
  | _, _ => none
def pOrd (p : Int → Int → Bool) : D → D → Option (Bool × D)
  | .int i, .int j => bo (p i j)
  | _, _ => none
def pLt : D → D → Option (Bool × D)
  | .int i, .int j => bo (decide (i < j))
  | .tuple xs, .tuple ys => match intsOf xs, intsOf ys with
    | some ns, some ms => bo (HT.lexLt ns ms)
    | _, _ => none
  | _, _ => none
def pLe : D → D → Option (Bool × D)
  | .int i, .int j => bo (decide (i ≤ j))
  | .tuple xs, .tuple ys => match intsOf xs, intsOf ys with
    | some ns, some ms => bo (!HT.lexLt ms ns)
    | _, _ => none
  | _, _ => none
def pIn : D → D → Option Bool
  | x, .list ys => if SeqAt.shaped x && SeqAt.shaped (.list ys) then some (ys.any fun z => PyData.eqv z x) else none
  | x, .dict kvs => if keyOf kvs x = true then some (dGet kvs x).isSome else none
  | .int i, .tuple ys => if (intsOf ys).isSome = true then some (ys.any fun z => PyData.eqv z (.int i)) else none
  | _, _ => none
def pLen : D → Option (Bool × D)
  | .list xs => io xs.length
  | .tuple xs => io xs.length
  | .str z => if z.length ≤ sizeLine then io z.length else none
  | _ => none
def pIx : D → D → Option D
  | .list xs, .int i => atD xs i
  | .tuple xs, .int i => atD xs i
  | .dict kvs, k => if keyOf kvs k = true then dGet kvs k else none
  | _, _ => none
def kindOf (k : Kd) : D → Bool
  | .none => false
  | .bool _ => k == .int || k == .bool
  | .int _ => k == .int
  | .str _ => k == .str
  | .list _ => k == .list
  | .tuple _ => k == .tuple
  | .dict _ => k == .dict
def keyOk (t : Bool) (k : D) : Bool := if t = true then match k with
    | .tuple xs => xs.all keyAt
    | _ => false
  else keyAt k
/-- pairs of a key and a value -/
def pairsD (t : Bool) : List D → Option (List (D × D))
  | [] => some []
  | .tuple [k, v] :: r => if keyOk t k = true then match pairsD t r with
      | some ps => some ((k, v) :: ps)
      | none => none
    else none
  | _ => none
def mkDic (t : Bool) (ps : List (D × D)) : D := .dict ((if t = true then [(.none, .none)] else []) ++ ps.foldl (fun acc p => dSet acc p.1 p.2) [])
def pDic (t : Bool) (ds : List D) : Option (Bool × D) := if ds.length ≤ sizeLine then match pairsD t ds with
  | some ps => some (true, mkDic t ps)
  | none => none
  else none
def prim : Pr → List D → Option (Bool × D)
  | .add, [x, y] => pAdd x y
  | .sub, [.int i, .int j] => io (i - j)
  | .mul, [x, y] => pMul x y
  | .mod, [.int i, .int j] => if 0 < j then io (i % j) else none
  | .fdiv, [.int i, .int j] => if 0 < j ∧ j < 1073741824 then io (i / j) else none
  | .pow, [.int i, .int j] => if 0 ≤ j ∧ j ≤ 1000000 ∧ i.natAbs < 2 ^ 64 then io (i ^ j.toNat) else none
  | .neg, [.int i] => io (-i)
  | .eq, [x, y] => if SeqAt.shaped x && SeqAt.shaped y then bo (PyData.eqv x y) else none
  | .ne, [x, y] => if SeqAt.shaped x && SeqAt.shaped y then bo (!PyData.eqv x y) else none
  | .lt, [x, y] => pLt x y
  | .le, [x, y] => pLe x y
  | .gt, [x, y] => pOrd (fun i j => decide (j < i)) x y
  | .ge, [x, y] => pOrd (fun i j => decide (j ≤ i)) x y
  | .isin, [x, y] => (pIn x y).map fun b => (false, .bool b)
  | .notin, [x, y] => (pIn x y).map fun b => (false, .bool (!b))
  | .isN, [x, .none] => match x with
    | .none => bo true
    | _ => bo false
  | .notN, [x, .none] => match x with
    | .none => bo false
    | _ => bo true
  | .isB, [.bool a, .bool b] => bo (decide (a = b))
  | .notB, [.bool a, .bool b] => bo (!decide (a = b))
  | .rev, [.list xs] => some (true, .list xs.reverse)
  | .rev, [.tuple xs] => some (false, .tuple xs.reverse)
  | .len, [x] => pLen x
  | .abs, [.int i] => io (if i < 0 then -i else i)
  | .min2, [.int i, .int j] => io (if j < i then j else i)
  | .max2, [.int i, .int j] => io (if j > i then j else i)
  | .tuple, [.list xs] => some (false, .tuple xs)
  | .tuple, [.tuple xs] => some (false, .tuple xs)
  | .list, [.list xs] => some (true, .list xs)
  | .list, [.tuple xs] => some (true, .list xs)
  | .list, [.dict kvs] => some (true, .list (keysD kvs))
  | .sorted, [.list xs] => (sortD xs).map fun ys => (true, .list ys)
  | .str, [.int i] => if i.natAbs.log2 < 1920 then some (false, .str (toString i)) else none
  | .all, [.list xs] => match isBools xs with
    | some bs => bo (bs.all id)
    | none => none
  | .int, [.int i] => io i
  | .int, [.bool b] => io (if b then 1 else 0)
  | .minL, [.list xs] => match intsOf xs with
    | some (n :: ns) => io (ns.foldl (fun a b => if b < a then b else a) n)
    | _ => none
  | .maxL, [.list xs] => match intsOf xs with
    | some (n :: ns) => io (ns.foldl (fun a b => if b > a then b else a) n)
    | _ => none
  | .sumL, [.list xs] => match intsOf xs with
    | some ns => io ns.sum
    | none => none
  | .any, [.list xs] => match isBools xs with
    | some bs => bo (bs.any id)
    | none => none
  | .dictK, [.list xs] => pDic false xs
  | .dictT, [.list xs] => pDic true xs
  | .get1, [.dict kvs, k] => if keyOf kvs k = true then some (false, (dGet kvs k).getD .none) else none
  | .get2, [.dict kvs, k, v] => if keyOf kvs k = true then some (false, (dGet kvs k).getD v) else none
  | .index, [.list xs, y] => if SeqAt.shaped (.list xs) && SeqAt.shaped y then match xs.findIdx? (fun z => PyData.eqv z y) with
      | some j => io j
      | none => none
    else none
  | .count, [.list xs, .int k] => match intsOf xs with
    | some ns => io (ns.count k)
    | none => none
  | _, _ => none
/-- a method that changes its thing: the thing behind it, and what it hands back -/
def mtd : Mt → D → List D → Option (D × D)
  | .append, .list xs, [y] => if xs.length < sizeLine then some (.list (xs ++ [y]), .none) else none
  | .extend, .list xs, [.list ys] => if xs.length + ys.length ≤ sizeLine then some (.list (xs ++ ys), .none) else none
  | .pop0, .list xs, [] => match xs[xs.length - 1]? with
    | some y => some (.list xs.dropLast, y)
    | none => none
  | .popA, .list xs, [.int i] => if 0 ≤ i ∧ i < 2 ^ 63 then match xs[i.toNat]? with
      | some y => some (.list (xs.eraseIdx i.toNat), y)
      | none => none
    else none
  | .reverse, .list xs, [] => some (.list xs.reverse, .none)
  | .clear, .list _, [] => some (.list [], .none)
  | .remove, .list xs, [.int k] => match intsOf xs with
    | some ns => match ns.findIdx? (fun z => decide (z = k)) with
      | some j => some (.list (xs.eraseIdx j), .none)
      | none => none
    | none => none
  | .insert, .list xs, [.int i, y] => if xs.length < sizeLine ∧ 0 ≤ i ∧ i < 2 ^ 63 then some (.list (xs.take i.toNat ++ [y] ++ xs.drop i.toNat), .none) else none
  | _, _, _ => none
def ixSet : D → D → D → Option D
  | .list xs, .int i, v => if 0 ≤ i ∧ i < xs.length then some (.list (xs.set i.toNat v)) else none
  | .dict kvs, k, v => if keyOf kvs k = true ∧ kvs.length < sizeLine then some (.dict (dSet kvs k v)) else none
  | _, _, _ => none

def prA (p : Pr) (as : List Ans) (e : En) : Rs Ans := match rdAs as e with
  | some ds => match prim p ds with
    | some (f, d) => .ok (.val f d) e
    | none => .no
  | none => .no
/-- a whole number in a list of one's own -/
def gtI (e : En) (i : Nat) (j : Int) : Option Int := match e[i]? with
  | some (some ⟨.sh, _⟩) => none
  | some (some ⟨_, .list xs⟩) => if 0 ≤ j then match xs[j.toNat]? with
    | some (.int x) => some x
    | _ => none
    else none
  | _ => none
def ptI (e : En) (i : Nat) (j r : Int) : Option En := match e[i]? with
  | some (some ⟨.sh, _⟩) => none
  | some (some ⟨o, .list xs⟩) => if 0 ≤ j ∧ j < xs.length then some (e.set i (some ⟨o, .list (xs.set j.toNat (.int r))⟩)) else none
  | _ => none
/-- what may be asked by that method -/
def rcvB : Pr → D → Bool
  | .get1, .dict _ => true
  | .get2, .dict _ => true
  | .index, .list _ => true
  | .count, .list _ => true
  | _, _ => false
def slA (i : Nat) : Sl → Ans
  | ⟨.sh, d⟩ => .val false d
  | _ => .pl i
/-- a name is stored -/
def stN (i : Nat) (s : Sl) (e : En) : Option En := match e[i]? with
  | some (some ⟨.mu, _⟩) => none
  | some _ => some (e.set i (some s))
  | none => none
def stNs : List Nat → List D → En → Option En
  | [], [], e => some e
  | i :: is, d :: ds, e => match stN i ⟨.sh, d⟩ e with
    | some e1 => stNs is ds e1
    | none => none
  | _, _, _ => none
def stPt : Pt → D → En → Option En
  | .nm i, d, e => stN i ⟨.sh, d⟩ e
  | .tp is, .tuple ds, e => stNs is ds e
  | .tp is, .list ds, e => stNs is ds e
  | .tp _, _, _ => none
def wipeE (e : En) : List Nat → En
  | [] => e
  | i :: is => (wipeE e is).set i none
/-- the block's own names hold nothing that is their own -/
def ownSh (e : En) : List Nat → Bool
  | [] => true
  | i :: is => (match e[i]? with
    | some none => true
    | some (some ⟨.sh, _⟩) => true
    | _ => false) && ownSh e is
def backE (e0 e : En) : List Nat → En
  | [] => e
  | i :: is => (backE e0 e is).set i (match e0[i]? with
    | some x => x
    | none => none)
/-- arguments by the callee's ways: what it reads, which places are its to change (with the parameter's number), which are lent -/
def argA : Nat → List Bool → List Ans → En → Option (List D × List (Nat × Nat) × List Nat)
  | _, [], [], _ => some ([], [], [])
  | j, m :: ms, a :: as, e => match argA (j + 1) ms as e with
    | some (ds, al, le) => match m, a with
      | false, .val _ d => some (d :: ds, al, le)
      | false, .pl i => match e[i]? with
        | some (some s) => some (s.d :: ds, al, i :: le)
        | _ => none
      | true, .pl i => match e[i]? with
        | some (some ⟨.sh, _⟩) => none
        | some (some ⟨_, d⟩) => if al.any (fun p => p.1 == i) = true then none else some (d :: ds, (i, j) :: al, le)
        | _ => none
      | true, .val _ _ => none
    | none => none
  | _, _, _, _ => none
def noMix (al : List (Nat × Nat)) (le : List Nat) : Bool := le.all fun i => !(al.any fun p => p.1 == i)
def putMs : List (Nat × Nat) → List D → En → Option En
  | [], [], e => some e
  | p :: ps, d :: ds, e => match e[p.1]? with
    | some (some s) => putMs ps ds (e.set p.1 (some ⟨s.o, d⟩))
    | _ => none
  | _, _, _ => none
/-- lent places that may be known elsewhere now -/
def shareAll : List Nat → En → Option En
  | [], e => some e
  | i :: is, e => match e[i]? with
    | some (some ⟨.mu, _⟩) => none
    | some (some ⟨_, d⟩) => shareAll is (e.set i (some ⟨.sh, d⟩))
    | _ => none
def callA (f : Fn) (as : List Ans) (e : En) : Rs Ans := match argA 0 f.modes as e with
  | some (ds, al, le) => if noMix al le = true then match f.sem ds with
    | .ok fr d ms => match putMs al ms e with
      | some e1 => if isSc d && al.isEmpty then .ok (.val false d) e1 else match shareAll le e1 with
        | some e2 => .ok (.val fr d) e2
        | none => .no
      | none => .no
    | .ex c d ms => match putMs al ms e with
      | some e1 => match shareAll le e1 with
        | some e2 => .ex c d e2
        | none => .no
      | none => .no
    | .no => .no
    else .no
  | none => .no
def Rs.dl : Rs Ans → Rs Ans
  | .ok (.val f d) e => .ok (.val f d) e.dropLast
  | .ok (.pl _) _ => .no
  | .ex c d e => .ex c d e.dropLast
  | .no => .no
/-- each once -/
def dedL : List (List Int) → List (List Int)
  | [] => []
  | x :: r => if r.contains x = true then dedL r else x :: dedL r
/-- few tuples of one length, of numbers from 0 to 63 -/
def okTs (ms : List (List Int)) : Bool := decide (ms.length < 64) && ms.all fun m => decide (m.length = (ms.headD []).length) && m.all fun i => decide (0 ≤ i) && decide (i < 64)
/-- a call that a new thing is lent to as the first argument, for the callee to change -/
def callT (f : Fn) (as : List Ans) (dv : List D) (e : En) : Rs Ans := match as with
  | .val true d :: r => (callA f (.pl e.length :: (r ++ dv.map (Ans.val false))) (e ++ [some ⟨.own, d⟩])).dl
  | _ => .no
/-- every s-th thing from a place on -/
def stepD (xs : List D) (lo : Option Int) (s : Int) : List D :=
  (sliceRange (sliceBounds lo none (some s) xs.length).1 (sliceBounds lo none (some s) xs.length).2.1 (sliceBounds lo none (some s) xs.length).2.2).filterMap (xs[·]?)
def seqD : D → Option (List D)
  | .list xs => some xs
  | .tuple xs => some xs
  | _ => none
def rngD (lo hi : Int) : Option (List D) :=
  if -(2 ^ 62) ≤ lo ∧ lo < 2 ^ 62 ∧ -(2 ^ 62) ≤ hi ∧ hi < 2 ^ 62 then some ((List.range (hi - lo).toNat).map fun (k : Nat) => .int (lo + (k : Int))) else none
def enumD (xs : List D) : List D := (List.range xs.length).zipWith (fun (k : Nat) d => .tuple [.int (k : Int), d]) xs
def zipD (xs ys : List D) : List D := xs.zipWith (fun a b => .tuple [a, b]) ys
/-- over things, with what they give -/
def compL (step : D → En → Rs (Option D)) : List D → En → Rs (List D)
  | [], e => .ok [] e
  | x :: xs, e => (step x e).bind fun r e1 => (compL step xs e1).bind fun ds e2 => match r with
    | some d => .ok (d :: ds) e2
    | none => .ok ds e2
def forL (step : D → En → Ou) : List D → En → Ou
  | [], e => .nx e
  | x :: xs, e => match step x e with
    | .nx e1 => forL step xs e1
    | .ct e1 => forL step xs e1
    | .bk e1 => .nx e1
    | r => r
def whlL (c : En → Rs Bool) (b : En → Ou) : Nat → En → Ou
  | 0, _ => .no
  | n + 1, e => match c e with
    | .ok true e1 => match b e1 with
      | .nx e2 => whlL c b n e2
      | .ct e2 => whlL c b n e2
      | .bk e2 => .nx e2
      | r => r
    | .ok false e1 => .nx e1
    | .no => .no
    | .ex k d e1 => .ex k d e1
/-- a place that holds a list -/
def isL (e : En) (i : Nat) : Bool := match e[i]? with
  | some (some ⟨.own, .list _⟩) => true
  | some (some ⟨.mu, .list _⟩) => true
  | _ => false
def isOwn (e : En) (i : Nat) : Bool := match e[i]? with
  | some (some ⟨.own, _⟩) => true
  | some (some ⟨.mu, _⟩) => true
  | _ => false
/-- the list that stands in a place of one's own, and how it is held -/
def lkG (e : En) (i : Nat) : Option (O × List D) := match e[i]? with
  | some (some ⟨.own, .list xs⟩) => some (.own, xs)
  | some (some ⟨.mu, .list xs⟩) => some (.mu, xs)
  | _ => none
/-- the list in a place that is being walked -/
def lkN (e : En) (i : Nat) : Option (List D) := match e[i]? with
  | some (some ⟨.mu, .list xs⟩) => some xs
  | _ => none
def unlk (o : O) (i : Nat) (e : En) : Option En := match e[i]? with
  | some (some ⟨.mu, d⟩) => some (e.set i (some ⟨o, d⟩))
  | _ => none
def Ou.unl (o : O) (i : Nat) : Ou → Ou
  | .nx e => match unlk o i e with
    | some e1 => .nx e1
    | none => .no
  | .ct e => match unlk o i e with
    | some e1 => .ct e1
    | none => .no
  | .bk e => match unlk o i e with
    | some e1 => .bk e1
    | none => .no
  | .rt f d e => match unlk o i e with
    | some e1 => .rt f d e1
    | none => .no
  | _ => .no
def kItm (en : Bool) (k : Nat) (d : D) : D := if en = true then .tuple [.int (k : Int), d] else d
/-- a walk over the list in a place of one's own, looked up at each turn -/
def forK (i : Nat) (en : Bool) (step : D → En → Ou) : Nat → Nat → En → Ou
  | 0, _, _ => .no
  | n + 1, k, e => match lkN e i with
    | none => .no
    | some xs => match xs[k]? with
      | none => .nx e
      | some d => match step (kItm en k d) e with
        | .nx e1 => forK i en step n (k + 1) e1
        | .ct e1 => forK i en step n (k + 1) e1
        | .bk e1 => .nx e1
        | r => r
def compK (i : Nat) (en : Bool) (step : D → En → Rs (Option D)) : Nat → Nat → En → Rs (List D)
  | 0, _, _ => .no
  | n + 1, k, e => match lkN e i with
    | none => .no
    | some xs => match xs[k]? with
      | none => .ok [] e
      | some d => (step (kItm en k d) e).bind fun r e1 => (compK i en step n (k + 1) e1).bind fun ds e2 => match r with
        | some d => .ok (d :: ds) e2
        | none => .ok ds e2
def zipDic : List D → List D → List (D × D) → List (D × D)
  | k :: ks, v :: vs, acc => zipDic ks vs (dSet acc k v)
  | _, _, acc => acc

mutual
def evE (F : List Fn) : IE → En → Rs Ans
  | .var i, e => match e[i]? with
    | some (some ⟨.sh, d⟩) => .ok (.val false d) e
    | some (some _) => .ok (.pl i) e
    | _ => .no
  | .lit d, e => .ok (.val false d) e
  | .gl _ d, e => .ok (.val false d) e
  | .un p a, e => (evE F a e).bind fun x e1 => prA p [x] e1
  | .bi p a b, e => (evE F a e).bind fun x e1 => (evE F b e1).bind fun y e2 => prA p [x, y] e2
  | .cm p a b, e => (evE F a e).bind fun x e1 => (evE F b e1).bind fun y e2 => prA p [x, y] e2
  | .chn p q a b c, e => (evE F a e).bind fun x e1 => (evE F b e1).bind fun y e2 => (prA p [x, y] e2).bind fun r e3 => match r with
    | .val _ (.bool true) => (evE F c e3).bind fun z e4 => prA q [y, z] e4
    | .val _ (.bool false) => .ok (.val false (.bool false)) e3
    | _ => .no
  | .and es, e => evAnd F es e
  | .or es, e => evOr F es e
  | .not a, e => (evE F a e).bind fun x e1 => match rdA x e1 with
    | some (.bool b) => .ok (.val false (.bool (!b))) e1
    | _ => .no
  | .ite c a b, e => (evT F c e).bind fun r e1 => if r = true then evE F a e1 else evE F b e1
  | .tup es, e => (evEs F es e).bind fun as e1 => match fzAs as e1 with
    | some (ds, e2) => if ds.length ≤ sizeLine then .ok (.val false (.tuple ds)) e2 else .no
    | none => .no
  | .lst es, e => (evEs F es e).bind fun as e1 => match fzAs as e1 with
    | some (ds, e2) => if ds.length ≤ sizeLine then .ok (.val true (.list ds)) e2 else .no
    | none => .no
  | .dic ks vs, e => (evEs F vs e).bind fun as e1 => match fzAs as e1 with
    | some (ds, e2) => .ok (.val true (.dict (zipDic ks ds []))) e2
    | none => .no
  | .dnew t, e => .ok (.val true (.dict (if t = true then [(.none, .none)] else []))) e
  | .ix a b, e => (evE F a e).bind fun x e1 => (evE F b e1).bind fun y e2 => match rdA x e2, rdA y e2 with
    | some dx, some dy => match pIx dx dy with
      | some d => .ok (.val false d) e2
      | none => .no
    | _, _ => .no
  | .sl a lo hi, e => (evE F a e).bind fun x e1 => (evO F lo e1).bind fun l e2 => (evO F hi e2).bind fun h e3 => match rdA x e3 with
    | some (.list xs) => .ok (.val true (.list (cutD xs l h))) e3
    | some (.tuple xs) => .ok (.val false (.tuple (cutD xs l h))) e3
    | _ => .no
  | .fn p es, e => (evEs F es e).bind fun as e1 => prA p as e1
  | .isI k a, e => (evE F a e).bind fun x e1 => match rdA x e1 with
    | some d => .ok (.val false (.bool (kindOf k d))) e1
    | none => .no
  | .call k es dv, e => (evEs F es e).bind fun as e1 => match F[k]? with
    | some f => callA f (as ++ dv.map (Ans.val false)) e1
    | none => .no
  | .callT k es dv, e => (evEs F es e).bind fun as e1 => match F[k]? with
    | some f => callT f as dv e1
    | none => .no
  | .orT a b, e => (evE F a e).bind fun x e1 => match rdA x e1 with
    | some d => match truthD d with
      | some true => .ok x e1
      | some false => evE F b e1
      | none => .no
    | none => .no
  | .rgl t a, e => (evE F a e).bind fun x e1 => match rdA x e1 with
    | some (.int j) => if j ≤ 16777216 then match rngD 0 j with
        | some xs => .ok (.val t (if t = true then .list xs else .tuple xs)) e1
        | none => .no
      else .no
    | _ => .no
  | .sls a lo st, e => (evE F a e).bind fun x e1 => (evO F lo e1).bind fun l e2 => (evE F st e2).bind fun z e3 => match rdA x e3, rdA z e3 with
    | some (.list xs), some (.int s) => if 0 < s then .ok (.val true (.list (stepD xs l s))) e3 else .no
    | _, _ => .no
  | .sset a, e => (evE F a e).bind fun x e1 => match rdA x e1 with
    | some (.list ds) => match tupsOf ds with
      | some ms => if okTs ms = true then .ok (.val true (.list ((srtS HT.lexLt (dedL ms)).map fun ns => .tuple (ns.map .int)))) e1 else .no
      | none => .no
    | _ => .no
  | .mt m i es, e => if isL e i = true then (evEs F es e).bind fun as e1 => match fzAs as e1 with
    | some (ds, e2) => match e2[i]? with
      | some (some ⟨.sh, _⟩) => .no
      | some (some ⟨o, d⟩) => match mtd m d ds with
        | some (d', r) => .ok (.val false r) (e2.set i (some ⟨o, d'⟩))
        | none => .no
      | _ => .no
    | none => .no
    else .no
  | .comp el pt src cs own, e => (evI F src e).bind fun xs e1 => if ownSh e1 own && decide (xs.length ≤ sizeLine) then
      (compL (fun d e2 => match stPt pt d (wipeE e2 own) with
        | some e3 => (evC F cs e3).bind fun b e4 => if b = true then (evE F el e4).bind fun x e5 => match fzA x e5 with
            | some (d, e6) => .ok (some d) e6
            | none => .no
          else .ok none e4
        | none => .no) xs e1).bind fun ds e7 => .ok (.val true (.list ds)) (backE e1 e7 own)
    else .no
  | .join x a, e => (evE F a e).bind fun v e1 => match rdA v e1 with
    | some (.list ys) => match joinD x ys with
      | some d => .ok (.val false d) e1
      | none => .no
    | some (.tuple ys) => match joinD x ys with
      | some d => .ok (.val false d) e1
      | none => .no
    | _ => .no
  | .compk el pt en i cs own, e => match lkG e i with
    | some (o, ys) => if ownSh (e.set i (some ⟨.mu, .list ys⟩)) own = true then
        (compK i en (fun d e2 => match stPt pt d (wipeE e2 own) with
          | some e3 => (evC F cs e3).bind fun b e4 => if b = true then (evE F el e4).bind fun x e5 => match fzA x e5 with
              | some (d, e6) => .ok (some d) e6
              | none => .no
            else .ok none e4
          | none => .no) (sizeLine + 1) 0 (e.set i (some ⟨.mu, .list ys⟩))).bind fun ds e7 => match unlk o i (backE (e.set i (some ⟨.mu, .list ys⟩)) e7 own) with
            | some e8 => .ok (.val true (.list ds)) e8
            | none => .no
      else .no
    | none => .no
  | .bad, _ => .no
  | .mr p i es, e => match e[i]? with
    | some (some s) => if rcvB p s.d = true then (evEs F es e).bind fun as e1 => match fzAs as e1 with
        | some (ds, e2) => prA p (slA i s :: ds.map (Ans.val false)) e2
        | none => .no
      else .no
    | _ => .no
  | .dic1 t k v, e => (evE F k e).bind fun x e1 => (evE F v e1).bind fun y e2 => match fzA x e2 with
    | some (dk, e3) => match fzA y e3 with
      | some (dv, e4) => match pairsD t [.tuple [dk, dv]] with
        | some ps => .ok (.val true (mkDic t ps)) e4
        | none => .no
      | none => .no
    | none => .no
  | .lset a, e => (evE F a e).bind fun x e1 => match rdA x e1 with
    | some (.list ds) => match intsOf ds with
      | some ns => if ns.Nodup ∧ ns.length ≤ 4000 then .ok (.val false (.int ns.length)) e1 else .no
      | none => .no
    | _ => .no
def evEs (F : List Fn) : List IE → En → Rs (List Ans)
  | [], e => .ok [] e
  | a :: as, e => (evE F a e).bind fun x e1 => (evEs F as e1).bind fun xs e2 => .ok (x :: xs) e2
def evAnd (F : List Fn) : List IE → En → Rs Ans
  | [], _ => .no
  | a :: as, e => match as with
    | [] => evE F a e
    | _ :: _ => (evE F a e).bind fun x e1 => match rdA x e1 with
      | some (.bool true) => evAnd F as e1
      | some (.bool false) => .ok (.val false (.bool false)) e1
      | _ => .no
def evOr (F : List Fn) : List IE → En → Rs Ans
  | [], _ => .no
  | a :: as, e => match as with
    | [] => evE F a e
    | _ :: _ => (evE F a e).bind fun x e1 => match rdA x e1 with
      | some (.bool true) => .ok (.val false (.bool true)) e1
      | some (.bool false) => evOr F as e1
      | _ => .no
def evO (F : List Fn) : Option IE → En → Rs (Option Int)
  | none, e => .ok none e
  | some a, e => (evE F a e).bind fun x e1 => match rdA x e1 with
    | some (.int i) => .ok (some i) e1
    | _ => .no
def evT (F : List Fn) : IT → En → Rs Bool
  | .v a, e => (evE F a e).bind fun x e1 => match rdA x e1 with
    | some d => match truthD d with
      | some b => .ok b e1
      | none => .no
    | none => .no
  | .cm p a b, e => (evE F a e).bind fun x e1 => (evE F b e1).bind fun y e2 => (prA p [x, y] e2).bind fun r e3 => match r with
    | .val _ (.bool b) => .ok b e3
    | _ => .no
  | .chn p q a b c, e => (evE F a e).bind fun x e1 => (evE F b e1).bind fun y e2 => (prA p [x, y] e2).bind fun r e3 => match r with
    | .val _ (.bool true) => (evE F c e3).bind fun z e4 => (prA q [y, z] e4).bind fun r e5 => match r with
      | .val _ (.bool b) => .ok b e5
      | _ => .no
    | .val _ (.bool false) => .ok false e3
    | _ => .no
  | .not t, e => (evT F t e).bind fun b e1 => .ok (!b) e1
  | .and ts, e => evTA F ts e
  | .or ts, e => evTO F ts e
def evTA (F : List Fn) : List IT → En → Rs Bool
  | [], e => .ok true e
  | t :: ts, e => (evT F t e).bind fun b e1 => if b = true then evTA F ts e1 else .ok false e1
def evTO (F : List Fn) : List IT → En → Rs Bool
  | [], e => .ok false e
  | t :: ts, e => (evT F t e).bind fun b e1 => if b = true then .ok true e1 else evTO F ts e1
def evC (F : List Fn) : List IT → En → Rs Bool
  | [], e => .ok true e
  | t :: ts, e => (evT F t e).bind fun b e1 => if b = true then evC F ts e1 else .ok false e1
def evI (F : List Fn) : Sr → En → Rs (List D)
  | .seq a, e => (evE F a e).bind fun x e1 => match fzA x e1 with
    | some (d, e2) => match seqD d with
      | some xs => .ok xs e2
      | none => .no
    | none => .no
  | .rng a, e => (evE F a e).bind fun x e1 => match rdA x e1 with
    | some (.int j) => match rngD 0 j with
      | some xs => .ok xs e1
      | none => .no
    | _ => .no
  | .rng2 a b, e => (evE F a e).bind fun x e1 => (evE F b e1).bind fun y e2 => match rdA x e2, rdA y e2 with
    | some (.int i), some (.int j) => match rngD i j with
      | some xs => .ok xs e2
      | none => .no
    | _, _ => .no
  | .enum a, e => (evE F a e).bind fun x e1 => match fzA x e1 with
    | some (d, e2) => match d with
      | .list xs => .ok (enumD xs) e2
      | .tuple xs => .ok (enumD xs) e2
      | _ => .no
    | none => .no
  | .zip a b, e => (evE F a e).bind fun x e1 => (evE F b e1).bind fun y e2 => match fzA x e2 with
    | some (d, e3) => match fzA y e3 with
      | some (d', e4) => match d, d' with
        | .list xs, .list ys => .ok (zipD xs ys) e4
        | .tuple xs, .tuple ys => .ok (zipD xs ys) e4
        | .list xs, .tuple ys => .ok (zipD xs ys) e4
        | _, _ => .no
      | none => .no
    | none => .no
end
mutual
def evS (F : List Fn) : IS → En → Ou
  | .set i a, e => match evE F a e with
    | .ok (.val f d) e1 => match stN i ⟨if f = true then .own else .sh, d⟩ e1 with
      | some e2 => .nx e2
      | none => .no
    | .ok (.pl j) e1 => match fzA (.pl j) e1 with
      | some (d, e2) => match stN i ⟨.sh, d⟩ e2 with
        | some e3 => .nx e3
        | none => .no
      | none => .no
    | .ex c d e1 => .ex c d e1
    | .no => .no
  | .unp is a, e => match evE F a e with
    | .ok x e1 => match fzA x e1 with
      | some (d, e2) => match stPt (.tp is) d e2 with
        | some e3 => .nx e3
        | none => .no
      | none => .no
    | .ex c d e1 => .ex c d e1
    | .no => .no
  | .par i j a b, e => match evEs F [a, b] e with
    | .ok xs e1 => match fzAs xs e1 with
      | some ([d1, d2], e2) => match stNs [i, j] [d1, d2] e2 with
        | some e3 => .nx e3
        | none => .no
      | _ => .no
    | .ex c d e1 => .ex c d e1
    | .no => .no
  | .par3 i j l a b c, e => match evEs F [a, b, c] e with
    | .ok xs e1 => match fzAs xs e1 with
      | some ([d1, d2, d3], e2) => match stNs [i, j, l] [d1, d2, d3] e2 with
        | some e3 => .nx e3
        | none => .no
      | _ => .no
    | .ex c d e1 => .ex c d e1
    | .no => .no
  | .exp a, e => match evE F a e with
    | .ok _ e1 => .nx e1
    | .ex c d e1 => .ex c d e1
    | .no => .no
  | .ret a, e => match evE F a e with
    | .ok (.val f d) e1 => .rt f d e1
    | .ok (.pl j) e1 => match e1[j]? with
      | some (some ⟨.own, d⟩) => .rt true d (e1.set j none)
      | _ => .no
    | .ex c d e1 => .ex c d e1
    | .no => .no
  | .retN, e => .rt false .none e
  | .iff c a b, e => match evT F c e with
    | .ok true e1 => evSs F a e1
    | .ok false e1 => evSs F b e1
    | .ex k d e1 => .ex k d e1
    | .no => .no
  | .forr pt src body, e => match evI F src e with
    | .ok xs e1 => forL (fun d e2 => match stPt pt d e2 with
      | some e3 => evSs F body e3
      | none => .no) xs e1
    | .ex c d e1 => .ex c d e1
    | .no => .no
  | .forrk pt en i body, e => match lkG e i with
    | some (o, ys) => Ou.unl o i (forK i en (fun d e2 => match stPt pt d e2 with
      | some e3 => evSs F body e3
      | none => .no) (sizeLine + 1) 0 (e.set i (some ⟨.mu, .list ys⟩)))
    | none => .no
  | .whl n c body, e => whlL (evT F c) (evSs F body) n e
  | .ixset i k v, e => match evE F v e with
    | .ok x e1 => if isOwn e1 i = true then match evE F k e1 with
      | .ok y e2 => match fzA x e2 with
        | some (dv, e3) => match fzA y e3 with
          | some (dk, e4) => match e4[i]? with
            | some (some ⟨.sh, _⟩) => .no
            | some (some ⟨o, d⟩) => match ixSet d dk dv with
              | some d' => .nx (e4.set i (some ⟨o, d'⟩))
              | none => .no
            | _ => .no
          | none => .no
        | none => .no
      | .ex c d e2 => .ex c d e2
      | .no => .no
      else .no
    | .ex c d e1 => .ex c d e1
    | .no => .no
  | .aug i p a, e => match e[i]? with
    | some (some ⟨.sh, x⟩) => match evE F a e with
      | .ok y e1 => match rdA y e1 with
        | some dy => match prim p [x, dy] with
          | some (false, .int r) => match stN i ⟨.sh, .int r⟩ e1 with
            | some e2 => .nx e2
            | none => .no
          | _ => .no
        | none => .no
      | .ex c d e1 => .ex c d e1
      | .no => .no
    | _ => .no
  | .augi i p k a, e => if isOwn e i = true then match evE F k e with
      | .ok (.val false (.int j)) e1 => match gtI e1 i j with
        | some x => match evE F a e1 with
          | .ok z e2 => match rdA z e2 with
            | some (.int c) => match prim p [.int x, .int c] with
              | some (false, .int r) => match ptI e2 i j r with
                | some e3 => .nx e3
                | none => .no
              | _ => .no
            | _ => .no
          | .ex c d e2 => .ex c d e2
          | .no => .no
        | none => .no
      | .ok _ _ => .no
      | .ex c d e2 => .ex c d e2
      | .no => .no
    else .no
  | .bad, _ => .no
  | .mov i j, e => match e[j]? with
    | some (some ⟨.own, d⟩) => match stN i ⟨.own, d⟩ (e.set j none) with
      | some e2 => .nx e2
      | none => .no
    | _ => .no
  | .pass, e => .nx e
  | .doc, e => .nx e
  | .brk, e => .bk e
  | .cont, e => .ct e
def evSs (F : List Fn) : List IS → En → Ou
  | [], e => .nx e
  | s :: ss, e => match evS F s e with
    | .nx e1 => evSs F ss e1
    | r => r
end
/-- the slots at a call: the parameters, then names without a value -/
def startE (modes : List Bool) (ds : List D) (n : Nat) : En :=
  (List.zipWith (fun m d => some (Sl.mk (if m = true then .mu else .sh) d)) modes ds) ++ List.replicate (n - ds.length) none
/-- what stands at the end in the parameters that are changed -/
def lastMs : List Bool → Nat → En → Option (List D)
  | [], _, _ => some []
  | false :: ms, i, e => lastMs ms (i + 1) e
  | true :: ms, i, e => match e[i]?, lastMs ms (i + 1) e with
    | some (some ⟨.mu, d⟩), some ds => some (d :: ds)
    | _, _ => none
def runF (F : List Fn) (modes : List Bool) (n : Nat) (body : List IS) (ds : List D) : FR :=
  if ds.length = modes.length ∧ modes.length ≤ n then match evSs F body (startE modes ds n) with
    | .nx e => match lastMs modes 0 e with
      | some ms => .ok false .none ms
      | none => .no
    | .rt f d e => match lastMs modes 0 e with
      | some ms => .ok f d ms
      | none => .no
    | .ex c d e => match lastMs modes 0 e with
      | some ms => .ex c d ms
      | none => .no
    | _ => .no
  else .no
end PD

/-! PD2: how plain data lies in the abstract heap, and who owns what. -/
namespace PD
open PySem PySem.Spec PyProof.Rows L2

inductive Lab where
  | slot (i : Nat)
  | tmp (n : Nat)
  | out (l : Lab)
  deriving DecidableEq
abbrev Wh := Addr → Option Lab
/-- a list of the written part -/
def KL (K : PySem.W.Frag) (a : Addr) (xs : List V) : Prop :=
  ∃ (o : Obj) (its : Array Value) (n : Nat), K.lookup a = some o ∧ o.cls = .type "list" ∧ o.dict = none ∧ o.data = .seq its n ∧ its.size ≤ sizeLine ∧ Vals xs its.toList
def NdL (K : PySem.W.Frag) (H : Hp) (w : Wh) (a : Addr) (xs : List V) : Prop := (Rd H a (.lst xs) ∧ w a = none) ∨ KL K a xs
def NdT (K : PySem.W.Frag) (H : Hp) (w : Wh) (a : Addr) (xs : List V) : Prop := H a = some (.tup xs) ∧ w a = none
def keyD : Key → D
  | .inl i => .int i
  | .inr x => .str x
mutual
inductive Rp (K : PySem.W.Frag) (H : Hp) (w : Wh) : V → D → Prop
  | non : Rp K H w .non .none
  | bl (b : Bool) : Rp K H w (.bl b) (.bool b)
  | int (i : Int) : Rp K H w (.int i) (.int i)
  | str (x : Str) : Rp K H w (.str x) (.str x)
  | lst {a : Addr} {xs : List V} {ds : List D} : NdL K H w a xs → RpAll K H w xs ds → Rp K H w (.ref a) (.list ds)
  | tup {a : Addr} {xs : List V} {ds : List D} : NdT K H w a xs → RpAll K H w xs ds → Rp K H w (.ref a) (.tuple ds)
  | dk {a : Addr} {kvs : List (Key × V)} {ds : List (D × D)} : H a = some (.dK kvs) → w a = none → RpKs K H w kvs ds → Rp K H w (.ref a) (.dict ds)
  | dt {a : Addr} {kvs : List (List Key × V)} {ds : List (D × D)} : H a = some (.dT kvs) → w a = none → RpTs K H w kvs ds → Rp K H w (.ref a) (.dict ((.none, .none) :: ds))
inductive RpAll (K : PySem.W.Frag) (H : Hp) (w : Wh) : List V → List D → Prop
  | nil : RpAll K H w [] []
  | cons {v : V} {vs : List V} {d : D} {ds : List D} : Rp K H w v d → RpAll K H w vs ds → RpAll K H w (v :: vs) (d :: ds)
inductive RpKs (K : PySem.W.Frag) (H : Hp) (w : Wh) : List (Key × V) → List (D × D) → Prop
  | nil : RpKs K H w [] []
  | cons {k : Key} {v : V} {vs : List (Key × V)} {d : D} {ds : List (D × D)} : Rp K H w v d → RpKs K H w vs ds → RpKs K H w ((k, v) :: vs) ((keyD k, d) :: ds)
inductive RpTs (K : PySem.W.Frag) (H : Hp) (w : Wh) : List (List Key × V) → List (D × D) → Prop
  | nil : RpTs K H w [] []
  | cons {k : List Key} {v : V} {vs : List (List Key × V)} {d : D} {ds : List (D × D)} : Rp K H w v d → RpTs K H w vs ds → RpTs K H w ((k, v) :: vs) ((.tuple (k.map keyD), d) :: ds)
end
/-- shared things stay -/
def Sty (H : Hp) (w : Wh) (H' : Hp) (w' : Wh) : Prop := ∀ a o, H a = some o → w a = none → H' a = some o ∧ w' a = none
section
variable {K : PySem.W.Frag} {H H' : Hp} {w w' : Wh}
theorem NdL.mono (s : Sty H w H' w') {a : Addr} {xs : List V} (h : NdL K H w a xs) : NdL K H' w' a xs := by
  obtain ⟨h | ⟨o, h⟩, e⟩ | h := h
  · exact .inl ⟨.inl (s a _ h e).1, (s a _ h e).2⟩
  · exact .inl ⟨.inr ⟨o, (s a _ h e).1⟩, (s a _ h e).2⟩
  · exact .inr h
theorem NdT.mono (s : Sty H w H' w') {a : Addr} {xs : List V} (h : NdT K H w a xs) : NdT K H' w' a xs := s a _ h.1 h.2
theorem NdL.sq {a : Addr} {xs : List V} (h : NdL K H w a xs) : SqL K H a xs := h.imp (fun h => h.1) fun h => h
theorem NdT.sq {a : Addr} {xs : List V} (h : NdT K H w a xs) : SqT K H a xs := .inl (.inl h.1)
mutual
theorem Rp.mono (s : Sty H w H' w') : ∀ {v : V} {d : D}, Rp K H w v d → Rp K H' w' v d
  | _, _, .non => .non
  | _, _, .bl b => .bl b
  | _, _, .int i => .int i
  | _, _, .str x => .str x
  | _, _, .lst h r => .lst (h.mono s) (RpAll.mono s r)
  | _, _, .tup h r => .tup (h.mono s) (RpAll.mono s r)
  | _, _, .dk h e r => .dk (s _ _ h e).1 (s _ _ h e).2 (RpKs.mono s r)
  | _, _, .dt h e r => .dt (s _ _ h e).1 (s _ _ h e).2 (RpTs.mono s r)
theorem RpAll.mono (s : Sty H w H' w') : ∀ {v : List V} {d : List D}, RpAll K H w v d → RpAll K H' w' v d
  | _, _, .nil => .nil
  | _, _, .cons a b => .cons (Rp.mono s a) (RpAll.mono s b)
theorem RpKs.mono (s : Sty H w H' w') : ∀ {v : List (Key × V)} {d : List (D × D)}, RpKs K H w v d → RpKs K H' w' v d
  | _, _, .nil => .nil
  | _, _, .cons a b => .cons (Rp.mono s a) (RpKs.mono s b)
theorem RpTs.mono (s : Sty H w H' w') : ∀ {v : List (List Key × V)} {d : List (D × D)}, RpTs K H w v d → RpTs K H' w' v d
  | _, _, .nil => .nil
  | _, _, .cons a b => .cons (Rp.mono s a) (RpTs.mono s b)
end
theorem RpAll.length : ∀ {vs : List V} {ds : List D}, RpAll K H w vs ds → vs.length = ds.length
  | _, _, .nil => rfl
  | _, _, .cons _ b => congrArg (· + 1) (RpAll.length b)
theorem RpAll.append : ∀ {vs us : List V} {ds es : List D}, RpAll K H w vs ds → RpAll K H w us es → RpAll K H w (vs ++ us) (ds ++ es)
  | _, _, _, _, .nil, b => b
  | _, _, _, _, .cons a r, b => .cons a (RpAll.append r b)
theorem RpAll.get : ∀ {vs : List V} {ds : List D} {i : Nat} {d : D}, RpAll K H w vs ds → ds[i]? = some d → ∃ v, vs[i]? = some v ∧ Rp K H w v d
  | _, _, i, _, .nil, e => by simp at e
  | _, _, 0, _, .cons a _, e => by simp at e; subst e; exact ⟨_, rfl, a⟩
  | _, _, i + 1, _, .cons _ b, e => by
    obtain ⟨v, h1, h2⟩ := RpAll.get (i := i) b (by simpa using e)
    exact ⟨v, by simpa using h1, h2⟩
theorem RpAll.getV : ∀ {vs : List V} {ds : List D} {i : Nat} {v : V}, RpAll K H w vs ds → vs[i]? = some v → ∃ d, ds[i]? = some d ∧ Rp K H w v d
  | _, _, i, _, .nil, e => by simp at e
  | _, _, 0, _, .cons a _, e => by simp at e; subst e; exact ⟨_, rfl, a⟩
  | _, _, i + 1, _, .cons _ b, e => by
    obtain ⟨v, h1, h2⟩ := RpAll.getV (i := i) b (by simpa using e)
    exact ⟨v, by simpa using h1, h2⟩
theorem RpAll.take : ∀ {vs : List V} {ds : List D} (n : Nat), RpAll K H w vs ds → RpAll K H w (vs.take n) (ds.take n)
  | _, _, 0, _ => .nil
  | _, _, _ + 1, .nil => .nil
  | _, _, n + 1, .cons a b => .cons a (RpAll.take n b)
theorem RpAll.drop : ∀ {vs : List V} {ds : List D} (n : Nat), RpAll K H w vs ds → RpAll K H w (vs.drop n) (ds.drop n)
  | _, _, 0, r => r
  | _, _, _ + 1, .nil => .nil
  | _, _, n + 1, .cons _ b => RpAll.drop n b
theorem RpAll.reverse : ∀ {vs : List V} {ds : List D}, RpAll K H w vs ds → RpAll K H w vs.reverse ds.reverse
  | _, _, .nil => .nil
  | _, _, .cons a b => by
    rw [List.reverse_cons, List.reverse_cons]
    exact (RpAll.reverse b).append (.cons a .nil)
theorem RpAll.dropLast {vs : List V} {ds : List D} (r : RpAll K H w vs ds) : RpAll K H w vs.dropLast ds.dropLast := by
  rw [List.dropLast_eq_take, List.dropLast_eq_take, ← r.length]
  exact r.take _
theorem RpAll.set : ∀ {vs : List V} {ds : List D} {v : V} {d : D} (i : Nat), RpAll K H w vs ds → Rp K H w v d → RpAll K H w (vs.set i v) (ds.set i d)
  | _, _, _, _, _, .nil, _ => .nil
  | _, _, _, _, 0, .cons _ b, r => .cons r b
  | _, _, _, _, i + 1, .cons a b, r => .cons a (RpAll.set i b r)
theorem RpAll.rep {vs : List V} {ds : List D} (r : RpAll K H w vs ds) : ∀ n : Nat, RpAll K H w (List.replicate n vs).flatten (List.replicate n ds).flatten
  | 0 => .nil
  | n + 1 => by
    rw [List.replicate_succ, List.replicate_succ, List.flatten_cons, List.flatten_cons]
    exact r.append (r.rep n)
theorem RpKs.length : ∀ {vs : List (Key × V)} {ds : List (D × D)}, RpKs K H w vs ds → vs.length = ds.length
  | _, _, .nil => rfl
  | _, _, .cons _ b => congrArg (· + 1) (RpKs.length b)
theorem RpTs.length : ∀ {vs : List (List Key × V)} {ds : List (D × D)}, RpTs K H w vs ds → vs.length = ds.length
  | _, _, .nil => rfl
  | _, _, .cons _ b => congrArg (· + 1) (RpTs.length b)
/-- what lies at an address that is owned, or read -/
inductive Cn (K : PySem.W.Frag) (H : Hp) (w : Wh) (a : Addr) : D → Prop
  | lst {xs : List V} {ds : List D} : H a = some (.lst xs) → RpAll K H w xs ds → Cn K H w a (.list ds)
  | dk {kvs : List (Key × V)} {ds : List (D × D)} : H a = some (.dK kvs) → RpKs K H w kvs ds → Cn K H w a (.dict ds)
  | dt {kvs : List (List Key × V)} {ds : List (D × D)} : H a = some (.dT kvs) → RpTs K H w kvs ds → Cn K H w a (.dict ((.none, .none) :: ds))
theorem Cn.mono (s : Sty H w H' w') {a : Addr} {d : D} (e : H' a = H a) : Cn K H w a d → Cn K H' w' a d
  | .lst h r => .lst (e.trans h) (r.mono s)
  | .dk h r => .dk (e.trans h) (r.mono s)
  | .dt h r => .dt (e.trans h) (r.mono s)
/-- once nobody owns it, it is shared -/
theorem Cn.rp {a : Addr} {d : D} (e : w a = none) : Cn K H w a d → Rp K H w (.ref a) d
  | .lst h r => .lst (.inl ⟨.inl h, e⟩) r
  | .dk h r => .dk h e r
  | .dt h r => .dt h e r
def Ow (K : PySem.W.Frag) (H : Hp) (w : Wh) (l : Lab) (v : V) (d : D) : Prop := ∃ a, v = .ref a ∧ w a = some l ∧ Cn K H w a d
/-- what may be read: shared, or somebody's own at its root -/
def Rr (K : PySem.W.Frag) (H : Hp) (w : Wh) (v : V) (d : D) : Prop := Rp K H w v d ∨ ∃ a, v = .ref a ∧ Cn K H w a d
def RpO (K : PySem.W.Frag) (H : Hp) (w : Wh) (l : Lab) : O → V → D → Prop
  | .sh, v, d => Rp K H w v d
  | .own, v, d => Ow K H w l v d
  | .mu, v, d => Ow K H w l v d
theorem RpO.rr {l : Lab} {o : O} {v : V} {d : D} (h : RpO K H w l o v d) : Rr K H w v d := by
  cases o with
  | sh => exact .inl h
  | own => obtain ⟨a, e, _, c⟩ := h; exact .inr ⟨a, e, c⟩
  | mu => obtain ⟨a, e, _, c⟩ := h; exact .inr ⟨a, e, c⟩
theorem RpO.mono (s : Sty H w H' w') {l : Lab} (hw : ∀ a, w a = some l → w' a = some l ∧ H' a = H a) {o : O} {v : V} {d : D} (h : RpO K H w l o v d) : RpO K H' w' l o v d := by
  cases o with
  | sh => exact Rp.mono s h
  | own => obtain ⟨a, e, f, c⟩ := h; exact ⟨a, e, (hw a f).1, c.mono s (hw a f).2⟩
  | mu => obtain ⟨a, e, f, c⟩ := h; exact ⟨a, e, (hw a f).1, c.mono s (hw a f).2⟩

/-- a step: what is shared stays, what others own stays as it is -/
structure Stp (keep : Lab → Prop) (H : Hp) (w : Wh) (H' : Hp) (w' : Wh) : Prop where
  sh : Sty H w H' w'
  kp : ∀ a l, keep l → (w' a = some l ↔ w a = some l)
  kh : ∀ a l, keep l → w a = some l → H' a = H a
theorem Stp.refl {keep : Lab → Prop} : Stp keep H w H w := ⟨fun _ _ h e => ⟨h, e⟩, fun _ _ _ => Iff.rfl, fun _ _ _ _ => rfl⟩
theorem Stp.trans {keep : Lab → Prop} {H1 : Hp} {w1 : Wh} (a : Stp keep H w H1 w1) (b : Stp keep H1 w1 H' w') : Stp keep H w H' w' :=
  ⟨fun c o h e => let ⟨h1, e1⟩ := a.sh c o h e; b.sh c o h1 e1, fun c l k => (b.kp c l k).trans (a.kp c l k),
    fun c l k e => (b.kh c l k ((a.kp c l k).mpr e)).trans (a.kh c l k e)⟩
theorem Stp.weak {keep keep' : Lab → Prop} (h : ∀ l, keep' l → keep l) (a : Stp keep H w H' w') : Stp keep' H w H' w' :=
  ⟨a.sh, fun c l k => a.kp c l (h l k), fun c l k => a.kh c l (h l k)⟩
/-- what is owned is tracked -/
structure Wf (H : Hp) (w : Wh) : Prop where
  nn : ∀ a, H a = none → w a = none
  nt : ∀ a xs, H a = some (.tup xs) → w a = none
instance : CoeFun (Wf H w) (fun _ => ∀ a, H a = none → w a = none) := ⟨Wf.nn⟩
theorem Wf.map {v : Wh} (wf : Wf H w) (h : ∀ a, w a = none → v a = none) : Wf H v := ⟨fun a e => h a (wf.nn a e), fun a xs e => h a (wf.nt a xs e)⟩
def notTup : HO → Prop
  | .tup _ => False
  | _ => True
theorem Wf.put {a : Addr} {o : HO} (wf : Wf H w) (ho : notTup o) : Wf (upd H a o) w := by
  refine ⟨fun b e => ?_, fun b xs e => ?_⟩
  · by_cases z : b = a
    · rw [z, upd_same] at e; cases e
    · rw [upd_ne z] at e; exact wf.nn b e
  · by_cases z : b = a
    · rw [z, upd_same] at e
      cases e
      exact ho.elim
    · rw [upd_ne z] at e; exact wf.nt b xs e
def keepE (n : Nat) : Lab → Prop
  | .out _ => True
  | .tmp m => m < n
  | .slot _ => False
theorem keepE.le {n m : Nat} (h : n ≤ m) : ∀ l, keepE n l → keepE m l
  | .out _, _ => trivial
  | .tmp k, q => Nat.lt_of_lt_of_le (show k < n from q) h
  | .slot _, q => q.elim
/-- all but the n-th temporary -/
def keepP (n : Nat) (l : Lab) : Prop := l ≠ .tmp n
theorem keepP.e {n : Nat} : ∀ l, keepE n l → keepP n l
  | .out _, _ => by intro z; cases z
  | .tmp k, q => by intro z; cases z; exact absurd q (Nat.lt_irrefl _)
  | .slot _, q => q.elim

structure EnvR (K : PySem.W.Frag) (H : Hp) (w : Wh) (μ : Nat → Option V) (σ : L2.St) (e : En) : Prop where
  len : σ.length = e.length
  at_ : ∀ i o d, e[i]? = some (some ⟨o, d⟩) → ∃ v, σ[i]? = some (some v) ∧ RpO K H w (.slot i) o v d ∧ (o = .mu → μ i = some v)
theorem EnvR.mono {μ : Nat → Option V} {σ : L2.St} {e : En} (r : EnvR K H w μ σ e) {keep : Lab → Prop} (s : Stp keep H w H' w') (k : ∀ i, keep (.slot i)) : EnvR K H' w' μ σ e :=
  ⟨r.len, fun i o d h => let ⟨v, h1, h2, h3⟩ := r.at_ i o d h
    ⟨v, h1, h2.mono s.sh fun a q => ⟨(s.kp a _ (k i)).mpr q, s.kh a _ (k i) q⟩, h3⟩⟩
def AnsR (K : PySem.W.Frag) (n : Nat) (H : Hp) (w : Wh) (σ : L2.St) (v : V) : Ans → Prop
  | .val false d => Rp K H w v d
  | .val true d => Ow K H w (.tmp n) v d
  | .pl i => σ[i]? = some (some v)
theorem AnsR.mono {n : Nat} {σ : L2.St} {v : V} {a : Ans} {keep : Lab → Prop} (s : Stp keep H w H' w') (k : keep (.tmp n)) (h : AnsR K n H w σ v a) : AnsR K n H' w' σ v a := by
  cases a with
  | val f d =>
    cases f with
    | false => exact Rp.mono s.sh h
    | true => obtain ⟨a, e, f, c⟩ := h; exact ⟨a, e, (s.kp a _ k).mpr f, c.mono s.sh (s.kh a _ k f)⟩
  | pl i => exact h

/-! ### temporaries are dropped, places are shared -/
def drp (n : Nat) (w : Wh) : Wh := fun a => match w a with
  | some (.tmp m) => if m < n then some (.tmp m) else none
  | x => x
theorem cn_nt {a : Addr} {o : HO} {d : D} (c : Cn K (upd H a o) w a d) : notTup o := by
  cases c with
  | lst h r => rw [upd_same] at h; cases h; trivial
  | dk h r => rw [upd_same] at h; cases h; trivial
  | dt h r => rw [upd_same] at h; cases h; trivial
theorem drp_none {n : Nat} {a : Addr} (e : w a = none) : drp n w a = none := by unfold drp; rw [e]
theorem drp_slot {n : Nat} {a : Addr} {i : Nat} : drp n w a = some (.slot i) ↔ w a = some (.slot i) := by
  unfold drp
  cases h : w a with
  | none => simp
  | some l => cases l <;> simp
theorem drp_keep {n : Nat} {a : Addr} {l : Lab} (k : keepE n l) : drp n w a = some l ↔ w a = some l := by
  unfold drp
  cases h : w a with
  | none => simp
  | some l' =>
    cases l' with
    | slot i => simp
    | out l' => simp
    | tmp m =>
      by_cases hm : m < n
      · simp [hm]
      · simp only [hm, if_false]
        constructor
        · intro z; cases z
        · intro z
          have e : Lab.tmp m = l := Option.some.inj z
          subst e
          exact absurd k hm
theorem drp_stp {n : Nat} : Stp (keepE n) H w H (drp n w) :=
  ⟨fun _ _ h e => ⟨h, drp_none e⟩, fun _ _ k => drp_keep k, fun _ _ _ _ => rfl⟩
theorem drp_slots {n : Nat} : Stp (fun l => ∃ i, l = .slot i) H w H (drp n w) :=
  ⟨fun _ _ h e => ⟨h, drp_none e⟩, fun _ _ ⟨i, k⟩ => by subst k; exact drp_slot, fun _ _ _ _ => rfl⟩
theorem drp_wf {n : Nat} (h : Wf H w) : Wf H (drp n w) := h.map fun a e => drp_none e
theorem drp_env {n : Nat} {μ : Nat → Option V} {σ : L2.St} {e : En} (r : EnvR K H w μ σ e) : EnvR K H (drp n w) μ σ e := r.mono drp_slots fun i => ⟨i, rfl⟩
/-- a temporary that is dropped is shared -/
theorem drp_ans {n m : Nat} (h : n ≤ m) {σ : L2.St} {v : V} {f : Bool} {d : D} (r : AnsR K m H w σ v (.val f d)) : Rp K H (drp n w) v d := by
  cases f with
  | false => exact Rp.mono drp_stp.sh r
  | true =>
    obtain ⟨a, e, f, c⟩ := r
    subst e
    have q : drp n w a = none := by
      unfold drp
      rw [f]
      show (if m < n then some (Lab.tmp m) else none) = none
      rw [if_neg (by omega)]
    exact (c.mono drp_stp.sh rfl).rp q
/-- the i-th place is shared from now on -/
def shr (i : Nat) (w : Wh) : Wh := fun a => if w a = some (.slot i) then none else w a
theorem shr_stp {i : Nat} : Stp (fun l => l ≠ .slot i) H w H (shr i w) := by
  refine ⟨fun a o h e => ⟨h, ?_⟩, fun a l k => ?_, fun _ _ _ _ => rfl⟩
  · unfold shr; rw [e]; rfl
  · unfold shr
    by_cases h : w a = some (.slot i)
    · rw [if_pos h, h]
      constructor
      · intro z; cases z
      · intro z; exact absurd (Option.some.inj z).symm k
    · rw [if_neg h]
theorem shr_wf {i : Nat} (h : Wf H w) : Wf H (shr i w) := h.map fun a e => by unfold shr; rw [e]; rfl
theorem keepE.slot {n i : Nat} : ∀ l, keepE n l → l ≠ .slot i
  | .out _, _ => by intro z; cases z
  | .tmp k, q => by intro z; cases z
  | .slot _, q => q.elim
theorem shr_rp {i : Nat} {v : V} {d : D} (h : Ow K H w (.slot i) v d) : Rp K H (shr i w) v d := by
  obtain ⟨a, e, f, c⟩ := h
  subst e
  exact (c.mono shr_stp.sh rfl).rp (by unfold shr; rw [if_pos f])
theorem shr_env {i : Nat} {d : D} {μ : Nat → Option V} {σ : L2.St} {e : En} (r : EnvR K H w μ σ e) (hi : e[i]? = some (some ⟨.own, d⟩)) : EnvR K H (shr i w) μ σ (e.set i (some ⟨.sh, d⟩)) := by
  refine ⟨by rw [List.length_set]; exact r.len, fun j o d' h => ?_⟩
  by_cases hj : j = i
  · subst hj
    have hl : j < e.length := (List.getElem?_eq_some_iff.mp hi).1
    rw [List.getElem?_set_self hl] at h
    cases h
    obtain ⟨v, h1, h2, _⟩ := r.at_ j _ _ hi
    exact ⟨v, h1, shr_rp h2, fun z => by cases z⟩
  · rw [List.getElem?_set_ne (Ne.symm hj)] at h
    obtain ⟨v, h1, h2, h3⟩ := r.at_ j o d' h
    exact ⟨v, h1, h2.mono shr_stp.sh fun a q => ⟨(shr_stp (H := H) (w := w) (i := i)).kp a _ (by intro z; cases z; exact hj rfl) |>.mpr q, rfl⟩, h3⟩
end
end PD

/-! PD3: reading data off, new objects, the operations. -/
namespace PD
open PySem PySem.Spec PyProof.Rows L2
abbrev V := L2.V
section
variable {K : PySem.W.Frag} {H H' : Hp} {w w' : Wh}
theorem Rr.non {v : V} (h : Rr K H w v .none) : v = .non := by
  rcases h with h | ⟨a, e, c⟩
  · cases h; rfl
  · cases c
theorem Rr.bl {v : V} {b : Bool} (h : Rr K H w v (.bool b)) : v = .bl b := by
  rcases h with h | ⟨a, e, c⟩
  · cases h; rfl
  · cases c
theorem Rr.int {v : V} {i : Int} (h : Rr K H w v (.int i)) : v = .int i := by
  rcases h with h | ⟨a, e, c⟩
  · cases h; rfl
  · cases c
theorem Rr.str {v : V} {x : Str} (h : Rr K H w v (.str x)) : v = .str x := by
  rcases h with h | ⟨a, e, c⟩
  · cases h; rfl
  · cases c
theorem Rr.list {v : V} {ds : List D} (h : Rr K H w v (.list ds)) : ∃ a xs, v = .ref a ∧ SqL K H a xs ∧ RpAll K H w xs ds := by
  rcases h with h | ⟨a, e, c⟩
  · cases h with
    | lst n r => exact ⟨_, _, rfl, n.sq, r⟩
  · cases c with
    | lst n r => exact ⟨a, _, e, SqL.of n, r⟩
theorem Rr.tupT {v : V} {ds : List D} (h : Rr K H w v (.tuple ds)) : ∃ a xs, v = .ref a ∧ H a = some (.tup xs) ∧ RpAll K H w xs ds := by
  rcases h with h | ⟨a, e, c⟩
  · cases h with
    | tup n r => exact ⟨_, _, rfl, n.1, r⟩
  · cases c
theorem Rr.tup {v : V} {ds : List D} (h : Rr K H w v (.tuple ds)) : ∃ a xs, v = .ref a ∧ SqT K H a xs ∧ RpAll K H w xs ds ∧ Rp K H w v (.tuple ds) := by
  rcases h with h | ⟨a, e, c⟩
  · have h' := h
    cases h with
    | tup n r => exact ⟨_, _, rfl, n.sq, r, h'⟩
  · cases c
/-- a dict, by its two kinds of keys -/
inductive DcAt (K : PySem.W.Frag) (H : Hp) (w : Wh) (a : Addr) (ds : List (D × D)) : Prop
  | k (kvs : List (Key × V)) : H a = some (.dK kvs) → RpKs K H w kvs ds → DcAt K H w a ds
  | t (kvs : List (List Key × V)) (es : List (D × D)) : ds = (.none, .none) :: es → H a = some (.dT kvs) → RpTs K H w kvs es → DcAt K H w a ds
theorem Rr.dic {v : V} {ds : List (D × D)} (h : Rr K H w v (.dict ds)) : ∃ a, v = .ref a ∧ DcAt K H w a ds := by
  rcases h with h | ⟨a, e, c⟩
  · cases h with
    | dk n e r => exact ⟨_, rfl, .k _ n r⟩
    | dt n e r => exact ⟨_, rfl, .t _ _ rfl n r⟩
  · cases c with
    | dk n r => exact ⟨a, e, .k _ n r⟩
    | dt n r => exact ⟨a, e, .t _ _ rfl n r⟩
mutual
theorem Rp.dp : ∀ {v : V} {d : D}, Rp K H w v d → d.canLay0 = true → Dp K H v d
  | _, _, .non, _ => .non
  | _, _, .bl b, _ => .bl b
  | _, _, .int i, _ => .int i
  | _, _, .str x, _ => .str x
  | _, _, .lst h r, c => .lst h.sq (RpAll.dp r (by simpa only [PyData.canLay0] using c))
  | _, _, .tup h r, c => .tup h.sq (RpAll.dp r (by simpa only [PyData.canLay0] using c))
  | _, _, .dk _ _ _, c => by simp [PyData.canLay0] at c
  | _, _, .dt _ _ _, c => by simp [PyData.canLay0] at c
theorem RpAll.dp : ∀ {v : List V} {d : List D}, RpAll K H w v d → PyData.canLayAll0 d = true → DpAll K H v d
  | _, _, .nil, _ => .nil
  | _, _, .cons a b, c => by
    rw [PyData.canLayAll0, Bool.and_eq_true] at c
    exact .cons (Rp.dp a c.1) (RpAll.dp b c.2)
end
theorem Rr.dp {v : V} {d : D} (h : Rr K H w v d) (c : d.canLay0 = true) : Dp K H v d := by
  rcases h with h | ⟨a, e, cn⟩
  · exact h.dp c
  · subst e
    cases cn with
    | lst n r => exact .lst (SqL.of n) (r.dp (by simpa only [PyData.canLay0] using c))
    | dk _ _ => simp [PyData.canLay0] at c
    | dt _ _ => simp [PyData.canLay0] at c

/-! ### new objects -/
def own1 (w : Wh) (p : Addr) (l : Lab) : Wh := fun a => if a = p then some l else w a
theorem sty_upd {p : Addr} {o : HO} (hp : H p = none) : Sty H w (upd H p o) w := fun a u h e => ⟨by rw [upd_ne (ne_of_none h hp)]; exact h, e⟩
theorem new_tup {p : Addr} {n : Nat} {xs : List V} {ds : List D} (wf : Wf H w) (hp : H p = none) (r : RpAll K H w xs ds) :
    Stp (keepP n) H w (upd H p (.tup xs)) w ∧ Wf (upd H p (.tup xs)) w ∧ Rp K (upd H p (.tup xs)) w (.ref p) (.tuple ds) := by
  have wp := wf p hp
  refine ⟨⟨sty_upd hp, fun _ _ _ => Iff.rfl, fun a l _ e => ?_⟩, ⟨fun a e => ?_, fun a ys e => ?_⟩, .tup ⟨upd_same, wp⟩ (r.mono (sty_upd hp))⟩
  · have : a ≠ p := fun z => by rw [z, wp] at e; cases e
    exact upd_ne this
  · by_cases h : a = p
    · rw [h]; exact wp
    · rw [upd_ne h] at e; exact wf a e
  · by_cases h : a = p
    · rw [h]; exact wp
    · rw [upd_ne h] at e; exact wf.nt a ys e
theorem own1_stp {p : Addr} {n : Nat} {o : HO} (wf : Wf H w) (hp : H p = none) : Stp (keepP n) H w (upd H p o) (own1 w p (.tmp n)) := by
  have wp := wf p hp
  refine ⟨fun a u h e => ⟨by rw [upd_ne (ne_of_none h hp)]; exact h, ?_⟩, fun a l k => ?_, fun a l _ e => ?_⟩
  · unfold own1; rw [if_neg (ne_of_none h hp)]; exact e
  · unfold own1
    by_cases h : a = p
    · rw [if_pos h, h, wp]
      constructor
      · intro z; exact absurd (Option.some.inj z).symm k
      · intro z; cases z
    · rw [if_neg h]
  · have : a ≠ p := fun z => by rw [z, wp] at e; cases e
    exact upd_ne this
theorem own1_wf {p : Addr} {l : Lab} {o : HO} (wf : Wf H w) (ho : notTup o := by trivial) : Wf (upd H p o) (own1 w p l) := by
  refine ⟨fun a e => ?_, fun a xs e => ?_⟩
  · by_cases h : a = p
    · rw [h, upd_same] at e; cases e
    · rw [upd_ne h] at e; unfold own1; rw [if_neg h]; exact wf a e
  · by_cases h : a = p
    · rw [h, upd_same] at e
      cases e
      exact ho.elim
    · rw [upd_ne h] at e; unfold own1; rw [if_neg h]; exact wf.nt a xs e
theorem own1_at {p : Addr} {l : Lab} : own1 w p l p = some l := by unfold own1; rw [if_pos rfl]
theorem new_lst {p : Addr} {n : Nat} {xs : List V} {ds : List D} (wf : Wf H w) (hp : H p = none) (r : RpAll K H w xs ds) :
    Stp (keepP n) H w (upd H p (.lst xs)) (own1 w p (.tmp n)) ∧ Wf (upd H p (.lst xs)) (own1 w p (.tmp n)) ∧ Ow K (upd H p (.lst xs)) (own1 w p (.tmp n)) (.tmp n) (.ref p) (.list ds) :=
  ⟨own1_stp wf hp, own1_wf wf, p, rfl, own1_at, .lst upd_same (r.mono (own1_stp (n := n) wf hp).sh)⟩

/-! ### operations by values -/
/-- what an operation's answer is -/
def PGo (K : PySem.W.Frag) (n : Nat) (H : Hp) (w : Wh) (f : Bool) (d : D) (Q : VK) : Prop :=
  ∀ v H' w', Stp (keepP n) H w H' w' → Wf H' w' → AnsR K n H' w' [] v (.val f d) → Q v H'
theorem PGo.same {n : Nat} {d : D} {Q : VK} {v : V} (wf : Wf H w) (g : PGo K n H w false d Q) (r : Rp K H w v d) : Q v H := g v H w Stp.refl wf r
theorem PGo.tup {n : Nat} {ds : List D} {Q : VK} {xs : List V} (wf : Wf H w) (g : PGo K n H w false (.tuple ds) Q) (r : RpAll K H w xs ds) : ∀ p, H p = none → Q (.ref p) (upd H p (.tup xs)) := fun p hp =>
  let ⟨a, b, c⟩ := new_tup (n := n) wf hp r
  g _ _ _ a b c
theorem PGo.lst {n : Nat} {ds : List D} {Q : VK} {xs : List V} (wf : Wf H w) (g : PGo K n H w true (.list ds) Q) (r : RpAll K H w xs ds) : ∀ p, H p = none → Q (.ref p) (upd H p (.lst xs)) := fun p hp =>
  let ⟨a, b, c⟩ := new_lst (n := n) wf hp r
  g _ _ _ a b c
end
/-- the rule r of two things does what prim p does -/
def Pok2 (K : PySem.W.Frag) (p : Pr) (r : R2) : Prop := ∀ (n : Nat) (H : Hp) (w : Wh) (v u : V) (x y d : D) (f : Bool) (Q : VK), Wf H w → Rr K H w v x → Rr K H w u y → prim p [x, y] = some (f, d) → PGo K n H w f d Q → r v u H Q
/-- the rule r of a list of things does what prim p does -/
def PokL (K : PySem.W.Frag) (p : Pr) (k : Nat) (r : List V → Hp → VK → Prop) : Prop := ∀ (n : Nat) (H : Hp) (w : Wh) (vs : List V) (ds : List D) (d : D) (f : Bool) (Q : VK), Wf H w → vs.length = ds.length → ds.length = k →
  (∀ (i : Nat) (v : V) (d : D), vs[i]? = some v → ds[i]? = some d → Rr K H w v d) → prim p ds = some (f, d) → PGo K n H w f d Q → r vs H Q
theorem OpR.or {X : Cx} {f : Value → Value → Sem Value} {r r' : R2} (h : OpR X f r) (h' : OpR X f r') : OpR X f (fun x y H Q => r x y H Q ∨ r' x y H Q) := by
  intro pins s σ H x y v u Q I rx ry q
  rcases q with q | q
  · exact h pins s σ H x y v u Q I rx ry q
  · exact h' pins s σ H x y v u Q I rx ry q
section
variable {X : Cx}
def rCatS (K : PySem.W.Frag) : R2 := fun x y H Q => ∃ l b xs zs, x = .ref l ∧ y = .ref b ∧ SqL K H l xs ∧ SqL K H b zs ∧ xs.length + zs.length ≤ sizeLine ∧ ∀ p, H p = none → Q (.ref p) (upd H p (.lst (xs ++ zs)))
theorem op_catS : OpR X (binaryOp .Add) (rCatS X.K) := by
  intro pins s σ H x y v u Q I rx ry h
  obtain ⟨l, b, xs, zs, rfl, rfl, hH, hB, hz, q⟩ := h
  cases rx
  cases ry
  obtain ⟨its, r, ⟨⟨cls, dd, data, sl⟩, n, e, ec, ed, edt⟩, hl⟩ := I.list hH
  obtain ⟨its2, r2, ⟨⟨cls2, dd2, data2, sl2⟩, n2, e2, ec2, ed2, edt2⟩, hl2⟩ := I.list hB
  simp only at ec ed edt ec2 ed2 edt2
  subst ec ed edt ec2 ed2 edt2
  have h1 := r.length
  have h2 := r2.length
  have ea : its.toArray ++ its2.toArray = (its ++ its2).toArray := by simp
  refine concat_meets ⟨_, e, rfl⟩ ⟨_, e2, rfl⟩ noFill_list_add seq_list_add F.slot_list_add F.entry_list_add (F.args_list_add_2 _ _) (PyProof.Rows.list_addW l b its.toArray its2.toArray n n2 none none sl sl2 (by rw [List.size_toArray, List.size_toArray]; omega)) ⟨e, e2, ?_⟩
  rw [ea]
  exact ⟨.ref _, _, I.lnew (t' := s.toks) (r.append r2) (by rw [List.length_append]; omega), rfl, q _ I.fresh⟩
def rAdd (K : PySem.W.Frag) : R2 := fun x y H Q => rI0 (fun i j => .int (i + j)) x y H Q ∨ (∃ i j, x = .str i ∧ y = .str j ∧ i.length + j.length ≤ sizeLine ∧ Q (.str (i ++ j)) H) ∨ rCatS K x y H Q ∨ rCatA K x y H Q
theorem op_addU : OpR X (binaryOp .Add) (rAdd X.K) := OpR.or op_add (OpR.or op_add_str (OpR.or op_catS op_catA))
theorem pok_add {K : PySem.W.Frag} : Pok2 K .add (rAdd K) := by
  intro n H w v u x y d f Q wf hx hy hp g
  simp only [prim] at hp
  unfold pAdd at hp
  split at hp
  · obtain rfl := hx.int
    obtain rfl := hy.int
    cases hp
    exact .inl ⟨_, _, rfl, rfl, g.same wf (.int _)⟩
  · obtain rfl := hx.str
    obtain rfl := hy.str
    split at hp
    · cases hp
      exact .inr (.inl ⟨_, _, rfl, rfl, by assumption, g.same wf (.str _)⟩)
    · cases hp
  · obtain ⟨a, xs, rfl, sx, rx⟩ := hx.list
    obtain ⟨b, ys, rfl, sy, ry⟩ := hy.list
    split at hp
    · rename_i hl
      cases hp
      exact .inr (.inr (.inl ⟨a, b, xs, ys, rfl, rfl, sx, sy, by rw [rx.length, ry.length]; exact hl, g.lst wf (rx.append ry)⟩))
    · cases hp
  · obtain ⟨a, xs, rfl, sx, rx, px⟩ := hx.tup
    obtain ⟨b, ys, rfl, sy, ry, py⟩ := hy.tup
    split at hp
    · rename_i hl
      cases hp
      refine .inr (.inr (.inr ⟨a, b, xs, ys, rfl, rfl, sx, sy, by rw [rx.length, ry.length]; exact hl, fun e => ?_, fun _ e => ?_, fun _ _ => g.tup wf (rx.append ry)⟩))
      · subst e
        cases rx
        exact g.same wf py
      · subst e
        cases ry
        rw [List.append_nil] at g
        exact g.same wf px
    · cases hp
  · cases hp
theorem pok_sub {K : PySem.W.Frag} : Pok2 K .sub (rI0 fun i j => .int (i - j)) := by
  intro n H w v u x y d f Q wf hx hy hp g
  unfold prim at hp
  split at hp <;> simp_all
  rename_i e
  obtain ⟨rfl, rfl⟩ := e
  obtain rfl := hx.int
  obtain rfl := hy.int
  cases hp
  exact ⟨_, _, rfl, rfl, g.same wf (.int _)⟩
end
end PD

/-! PD3b: more operations. -/
namespace PD
open PySem PySem.Spec PyProof.Rows L2
section
variable {X : Cx} {K : PySem.W.Frag}
theorem pok_mulI : ∀ (n : Nat) (H : Hp) (w : Wh) (i j : Int) (d : D) (f : Bool) (Q : VK), Wf H w → (if okMul i j = true then io (i * j) else none) = some (f, d) → PGo K n H w f d Q → rI CMul (fun i j => .int (i * j)) (.int i) (.int j) H Q := by
  intro n H w i j d f Q wf hp g
  split at hp
  · rename_i h
    cases hp
    refine ⟨_, _, rfl, rfl, ?_, g.same wf (.int _)⟩
    unfold okMul at h
    unfold CMul
    simpa only [Bool.or_eq_true, Bool.and_eq_true, decide_eq_true_eq] using h
  · cases hp
theorem pok_mod : Pok2 K .mod (rI (fun _ j => 0 < j) fun i j => .int (i % j)) := by
  intro n H w v u x y d f Q wf hx hy hp g
  cases x <;> cases y <;> simp only [prim] at hp <;> first | cases hp | skip
  obtain rfl := hx.int
  obtain rfl := hy.int
  split at hp
  · cases hp
    exact ⟨_, _, rfl, rfl, by assumption, g.same wf (.int _)⟩
  · cases hp
theorem pok_fdiv : Pok2 K .fdiv (rI CDiv fun i j => .int (i / j)) := by
  intro n H w v u x y d f Q wf hx hy hp g
  cases x <;> cases y <;> simp only [prim] at hp <;> first | cases hp | skip
  obtain rfl := hx.int
  obtain rfl := hy.int
  split at hp
  · cases hp
    exact ⟨_, _, rfl, rfl, by assumption, g.same wf (.int _)⟩
  · cases hp
theorem pok_pow : Pok2 K .pow (rI CPow fun i j => .int (i ^ j.toNat)) := by
  intro n H w v u x y d f Q wf hx hy hp g
  cases x <;> cases y <;> simp only [prim] at hp <;> first | cases hp | skip
  obtain rfl := hx.int
  obtain rfl := hy.int
  split at hp
  · cases hp
    exact ⟨_, _, rfl, rfl, by assumption, g.same wf (.int _)⟩
  · cases hp
theorem pok_cmpI {p : Pr} {q : Int → Int → Bool} (he : ∀ x y, prim p [x, y] = pOrd q x y) : Pok2 K p (rI0 fun i j => .bl (q i j)) := by
  intro n H w v u x y d f Q wf hx hy hp g
  rw [he] at hp
  unfold pOrd at hp
  split at hp
  · obtain rfl := hx.int
    obtain rfl := hy.int
    cases hp
    exact ⟨_, _, rfl, rfl, g.same wf (.bl _)⟩
  · cases hp
theorem ints_of {H : Hp} {w : Wh} : ∀ {xs : List V} {ds : List D} {ns : List Int}, RpAll K H w xs ds → intsOf ds = some ns → xs = ns.map V.int
  | _, [], _, .nil, h => by cases h; rfl
  | _ :: _, d :: ds, ns, .cons a b, h => by
    cases d with
    | int c =>
      unfold intsOf at h
      split at h
      · rename_i bs' e
        cases h
        cases a
        rw [ints_of b e]
        rfl
      · cases h
    | _ => simp [intsOf] at h
def rLtU (K : PySem.W.Frag) : R2 := fun x y H Q => rI0 (fun i j => .bl (decide (i < j))) x y H Q ∨ rLtT K x y H Q
theorem op_ltU (hu : X.A.units < cLine) : OpR X (compareOp .Lt) (rLtU X.K) := OpR.or op_lt (op_ltT hu)
theorem pok_lt : Pok2 K .lt (rLtU K) := by
  intro n H w v u x y d f Q wf hx hy hp g
  simp only [prim] at hp
  unfold pLt at hp
  split at hp
  · obtain rfl := hx.int
    obtain rfl := hy.int
    cases hp
    exact .inl ⟨_, _, rfl, rfl, g.same wf (.bl _)⟩
  · obtain ⟨a, xs, rfl, sx, rx, _⟩ := hx.tup
    obtain ⟨b, ys, rfl, sy, ry, _⟩ := hy.tup
    split at hp
    · rename_i ns ms h1 h2
      cases hp
      rw [ints_of rx h1] at sx
      rw [ints_of ry h2] at sy
      exact .inr ⟨a, b, ns, ms, rfl, rfl, sx, sy, g.same wf (.bl _)⟩
    · cases hp
  · cases hp
theorem lexAt_le (e r : Nat → Bool) (z : Bool) : ∀ (a b : List Int) (i : Nat), (∀ j, j < a.length → j < b.length → e (i + j) = decide (a.getD j 0 = b.getD j 0)) → (∀ j, j < a.length → j < b.length → r (i + j) = decide (a.getD j 0 ≤ b.getD j 0)) → z = decide (a.length ≤ b.length) →
    Ob.lexAt e r z i (min a.length b.length) = !HT.lexLt b a
  | [], b, i, _, _, hz => by
    rw [List.length_nil, Nat.zero_min, Ob.lexAt_zero, hz]
    cases b with
    | nil => rw [HT.lexLt_nil_nil]; rfl
    | cons y b => rw [HT.lexLt_cons_nil]; simp
  | x :: a, [], i, _, _, hz => by
    rw [List.length_nil, Nat.min_zero, Ob.lexAt_zero, hz, HT.lexLt_nil_cons]
    simp
  | x :: a, y :: b, i, he, hr, hz => by
    have h0 := he 0 (by simp) (by simp)
    have h1 := hr 0 (by simp) (by simp)
    simp only [Nat.add_zero, List.getD_cons_zero] at h0 h1
    rw [List.length_cons, List.length_cons, Nat.succ_min_succ, Ob.lexAt_succ, h0, h1, HT.lexLt_cons]
    by_cases q : x = y
    · subst q
      rw [decide_eq_true rfl, if_pos rfl, if_pos rfl]
      refine lexAt_le e r z a b (i + 1) (fun j h2 h3 => ?_) (fun j h2 h3 => ?_) (by rw [hz]; simp)
      · have := he (j + 1) (by simpa using h2) (by simpa using h3)
        simp only [List.getD_cons_succ] at this
        rw [← this]
        congr 1
        omega
      · have := hr (j + 1) (by simpa using h2) (by simpa using h3)
        simp only [List.getD_cons_succ] at this
        rw [← this]
        congr 1
        omega
    · rw [decide_eq_false q, if_neg Bool.false_ne_true, if_neg (Ne.symm q)]
      by_cases h2 : x ≤ y
      · rw [decide_eq_true h2, decide_eq_false (by omega)]
        rfl
      · rw [decide_eq_false h2, decide_eq_true (by omega)]
        rfl
def rLeU (K : PySem.W.Frag) : R2 := fun x y H Q => rI0 (fun i j => .bl (decide (i ≤ j))) x y H Q ∨ rLeT K x y H Q
theorem op_leU (hu : X.A.units < cLine) : OpR X (compareOp .LtE) (rLeU X.K) := OpR.or op_le (op_leT hu)
theorem pok_le : Pok2 K .le (rLeU K) := by
  intro n H w v u x y d f Q wf hx hy hp g
  simp only [prim] at hp
  unfold pLe at hp
  split at hp
  · obtain rfl := hx.int
    obtain rfl := hy.int
    cases hp
    exact .inl ⟨_, _, rfl, rfl, g.same wf (.bl _)⟩
  · obtain ⟨a, xs, rfl, sx, rx, _⟩ := hx.tup
    obtain ⟨b, ys, rfl, sy, ry, _⟩ := hy.tup
    split at hp
    · rename_i ns ms h1 h2
      cases hp
      rw [ints_of rx h1] at sx
      rw [ints_of ry h2] at sy
      refine .inr ⟨a, b, ns, ms, rfl, rfl, sx, sy, ?_⟩
      rw [lexAt_le _ _ _ ns ms 0 (fun j _ _ => by rw [Nat.zero_add]) (fun j _ _ => by rw [Nat.zero_add]) rfl]
      exact g.same wf (.bl _)
    · cases hp
  · cases hp
theorem pok_gt : Pok2 K .gt (rI0 fun i j => .bl (decide (j < i))) := pok_cmpI fun _ _ => rfl
theorem pok_ge : Pok2 K .ge (rI0 fun i j => .bl (decide (j ≤ i))) := pok_cmpI fun _ _ => rfl
theorem pok_eq : Pok2 K .eq (rEqD K) := by
  intro n H w v u x y d f Q wf hx hy hp g
  simp only [prim] at hp
  split at hp
  · rename_i h
    rw [Bool.and_eq_true] at h
    cases hp
    exact ⟨x, y, hx.dp (SeqAt.canLay_of_shaped h.1), hy.dp (SeqAt.canLay_of_shaped h.2), h.1, h.2, g.same wf (.bl _)⟩
  · cases hp
theorem pok_ne : Pok2 K .ne (rNeD K) := by
  intro n H w v u x y d f Q wf hx hy hp g
  simp only [prim] at hp
  split at hp
  · rename_i h
    rw [Bool.and_eq_true] at h
    cases hp
    exact ⟨x, y, hx.dp (SeqAt.canLay_of_shaped h.1), hy.dp (SeqAt.canLay_of_shaped h.2), h.1, h.2, g.same wf (.bl _)⟩
  · cases hp
/-! dicts -/
theorem keyEqs_keys : ∀ (xs ys : List Key), keyEqs (xs.map keyD) (ys.map keyD) = decide (xs = ys)
  | [], [] => by simp [keyEqs]
  | [], y :: ys => by cases y <;> simp [keyEqs, keyD]
  | x :: xs, [] => by cases x <;> simp [keyEqs, keyD]
  | x :: xs, y :: ys => by
    have ih := keyEqs_keys xs ys
    cases x <;> cases y <;> simp [keyEqs, keyD, ih]
theorem keyEq_key (x y : Key) : keyEq (keyD x) (keyD y) = decide (x = y) := by
  cases x <;> cases y <;> simp [keyEq, keyD]
theorem keyEq_tup (x y : List Key) : keyEq (.tuple (x.map keyD)) (.tuple (y.map keyD)) = decide (x = y) := by
  simp only [keyEq]
  exact keyEqs_keys x y
theorem keyEq_kt (x : Key) (y : List Key) : keyEq (keyD x) (.tuple (y.map keyD)) = false := by
  cases x <;> rfl
theorem keyEq_tk (x : Key) (y : List Key) : keyEq (.tuple (y.map keyD)) (keyD x) = false := by
  cases x <;> rfl
theorem keys_of : ∀ (xs : List D), xs.all keyAt = true → ∃ ks : List Key, xs = ks.map keyD
  | [], _ => ⟨[], rfl⟩
  | x :: xs, h => by
    rw [List.all_cons, Bool.and_eq_true] at h
    obtain ⟨ks, e⟩ := keys_of xs h.2
    cases x with
    | int i => exact ⟨.inl i :: ks, by rw [e]; rfl⟩
    | str z => exact ⟨.inr z :: ks, by rw [e]; rfl⟩
    | _ => exact absurd h.1 (by simp [keyAt])
theorem key_ofK {kvs : List (D × D)} {d : D} (t : isT kvs = false) (h : keyOf kvs d = true) : ∃ k, d = keyD k := by
  unfold keyOf at h
  rw [t] at h
  cases d with
  | int i => exact ⟨.inl i, rfl⟩
  | str z => exact ⟨.inr z, rfl⟩
  | _ => simp [keyAt] at h
theorem key_ofT {kvs : List (D × D)} {d : D} (t : isT kvs = true) (h : keyOf kvs d = true) : ∃ ks : List Key, d = .tuple (ks.map keyD) := by
  unfold keyOf at h
  rw [t] at h
  cases d with
  | tuple xs =>
    obtain ⟨ks, e⟩ := keys_of xs h
    exact ⟨ks, by rw [e]⟩
  | _ => simp at h
theorem isT_ks {H : Hp} {w : Wh} : ∀ {kvs : List (Key × V)} {ds : List (D × D)}, RpKs K H w kvs ds → isT ds = false
  | _, _, .nil => rfl
  | (k, _) :: _, _, .cons _ _ => by cases k <;> rfl
theorem rr_key {H : Hp} {w : Wh} {v : V} {k : Key} (h : Rr K H w v (keyD k)) : v = kV k := by
  cases k with
  | inl i => exact Rr.int h
  | inr z => exact Rr.str h
theorem rpall_keys {H : Hp} {w : Wh} : ∀ {vs : List V} {ks : List Key}, RpAll K H w vs (ks.map keyD) → vs = ks.map kV
  | [], [], _ => rfl
  | _ :: _, k :: ks, .cons a b => by
    rw [rr_key (.inl a), rpall_keys b]
    rfl
/-- tuples that are keys: tracked ones -/
theorem rr_tkey {H : Hp} {w : Wh} {v : V} {ks : List Key} (h : Rr K H w v (.tuple (ks.map keyD))) : ∃ b, v = .ref b ∧ H b = some (.tup (ks.map kV)) := by
  obtain ⟨a, xs, e, s, r⟩ := h.tupT
  rw [rpall_keys r] at s
  exact ⟨a, e, s⟩
theorem dget_ks {H : Hp} {w : Wh} {k : Key} : ∀ {kvs : List (Key × V)} {ds : List (D × D)}, RpKs K H w kvs ds → (dGet ds (keyD k) = none ∧ valV kvs k = none) ∨ ∃ d v, dGet ds (keyD k) = some d ∧ valV kvs k = some v ∧ Rp K H w v d
  | _, _, .nil => .inl ⟨rfl, rfl⟩
  | (k', v) :: kvs, (_, d) :: ds, .cons a b => by
    have ih := dget_ks (k := k) b
    unfold dGet
    show (( if keyEq (keyD k') (keyD k) = true then some d else dGet ds (keyD k)) = none ∧ _) ∨ _
    rw [keyEq_key]
    unfold valV at ih ⊢
    by_cases e : k' = k
    · subst e
      right
      exact ⟨d, v, by simp, by simp, a⟩
    · simp only [decide_eq_true_eq, e, if_false, List.find?_cons, decide_false]
      exact ih
theorem dget_ts {H : Hp} {w : Wh} {k : List Key} : ∀ {kvs : List (List Key × V)} {ds : List (D × D)}, RpTs K H w kvs ds → (dGet ds (.tuple (k.map keyD)) = none ∧ valV kvs k = none) ∨ ∃ d v, dGet ds (.tuple (k.map keyD)) = some d ∧ valV kvs k = some v ∧ Rp K H w v d
  | _, _, .nil => .inl ⟨rfl, rfl⟩
  | (k', v) :: kvs, (_, d) :: ds, .cons a b => by
    have ih := dget_ts (k := k) b
    unfold dGet
    show (( if keyEq (.tuple (k'.map keyD)) (.tuple (k.map keyD)) = true then some d else dGet ds (.tuple (k.map keyD))) = none ∧ _) ∨ _
    rw [keyEq_tup]
    unfold valV at ih ⊢
    by_cases e : k' = k
    · subst e
      right
      exact ⟨d, v, by simp, by simp, a⟩
    · simp only [decide_eq_true_eq, e, if_false, List.find?_cons, decide_false]
      exact ih
end
end PD

/-! PD3c: in, is, items, the built-in functions. -/
namespace PD
open PySem PySem.Spec PyProof.Rows L2
section
variable {X : Cx} {K : PySem.W.Frag}
/-- x in a dict -/
def rInK (neg : Bool) : R2 := fun x y H Q => ∃ a o, y = .ref a ∧ DGet H a x o ∧ Q (.bl (if neg then !o.isSome else o.isSome)) H
theorem op_inK (hu : X.A.units + 1 < cLine) : OpR X (compareOp .In) (rInK false) := by
  intro pins s σ H x y v u Q I rx ry h
  obtain ⟨a, o, rfl, g, q⟩ := h
  obtain rfl : u = Value.ref a := ry
  exact d_in hu I g rx fun s3 I3 => ⟨.bl o.isSome, H, I3, rfl, q⟩
theorem op_notInK (hu : X.A.units + 1 < cLine) : OpR X (compareOp .NotIn) (rInK true) := by
  intro pins s σ H x y v u Q I rx ry h
  obtain ⟨a, o, rfl, g, q⟩ := h
  obtain rfl : u = Value.ref a := ry
  exact d_notIn hu I g rx fun s3 I3 => ⟨.bl (!o.isSome), H, I3, rfl, q⟩
/-- what a dict says of a key -/
theorem dget_of {H : Hp} {w : Wh} {a : Addr} {ds : List (D × D)} {x : D} {v : V} (dc : DcAt K H w a ds) (hk : keyOf ds x = true) (hx : Rr K H w v x) :
    ∃ o, DGet H a v o ∧ ((dGet ds x = none ∧ o = none) ∨ ∃ d v', dGet ds x = some d ∧ o = some v' ∧ Rp K H w v' d) := by
  cases dc with
  | k kvs e r =>
    obtain ⟨k, rfl⟩ := key_ofK (isT_ks r) hk
    obtain rfl := rr_key hx
    refine ⟨_, DGet.k e, ?_⟩
    rcases dget_ks (k := k) r with ⟨h1, h2⟩ | ⟨d, v, h1, h2, h3⟩
    · exact .inl ⟨h1, h2⟩
    · exact .inr ⟨d, v, h1, h2, h3⟩
  | t kvs es e0 e r =>
    subst e0
    obtain ⟨ks, rfl⟩ := key_ofT rfl hk
    obtain ⟨b, rfl, hb⟩ := rr_tkey hx
    refine ⟨_, DGet.t e hb, ?_⟩
    rcases dget_ts (k := ks) r with ⟨h1, h2⟩ | ⟨d, v, h1, h2, h3⟩
    · exact .inl ⟨h1, h2⟩
    · exact .inr ⟨d, v, h1, h2, h3⟩
def rInU (K : PySem.W.Frag) : R2 := fun x y H Q => rInD K x y H Q ∨ (rInK false x y H Q ∨ rIn K false x y H Q)
def rNotInU (K : PySem.W.Frag) : R2 := fun x y H Q => rNotInD K x y H Q ∨ (rInK true x y H Q ∨ rIn K true x y H Q)
theorem op_inU (hu : X.A.units + 65 < cLine) : OpR X (compareOp .In) (rInU X.K) := OpR.or (op_inD hu) (OpR.or (op_inK (by omega)) op_in_seq)
theorem op_notInU (hu : X.A.units + 65 < cLine) : OpR X (compareOp .NotIn) (rNotInU X.K) := OpR.or (op_notInD hu) (OpR.or (op_notInK (by omega)) op_notIn_seq)
theorem in_ints {H : Hp} {w : Wh} {i : Int} : ∀ {xs : List V} {ys : List D} {ns : List Int}, RpAll K H w xs ys → intsOf ys = some ns → xs.all flatV = true ∧ inV (.int i) xs = ys.any fun z => PyData.eqv z (.int i)
  | _, [], _, .nil, _ => ⟨rfl, rfl⟩
  | _ :: _, y :: ys, ns, .cons a b, h => by
    cases y with
    | int j =>
      cases a
      unfold intsOf at h
      split at h
      · rename_i is h2
        obtain ⟨h3, h4⟩ := in_ints (i := i) b h2
        refine ⟨h3, ?_⟩
        show ((j == i) || inV (.int i) _) = (PyData.eqv (.int j) (.int i) || _)
        rw [h4]
        congr 1
      · cases h
    | _ => simp [intsOf] at h
theorem pok_in : Pok2 K .isin (rInU K) := by
  intro n H w v u x y d f Q wf hx hy hp g
  simp only [prim] at hp
  unfold pIn at hp
  split at hp
  · split at hp
    · rename_i h
      rw [Bool.and_eq_true] at h
      cases hp
      exact .inl ⟨_, _, hx.dp (SeqAt.canLay_of_shaped h.1), hy.dp (SeqAt.canLay_of_shaped h.2), h.1, h.2, g.same wf (.bl _)⟩
    · cases hp
  · split at hp
    · rename_i h
      cases hp
      obtain ⟨a, rfl, dc⟩ := hy.dic
      obtain ⟨o, g1, g2⟩ := dget_of dc h hx
      refine .inr (.inl ⟨a, o, rfl, g1, ?_⟩)
      rcases g2 with ⟨e1, e2⟩ | ⟨d, v', e1, e2, _⟩
      · rw [e1] at g; rw [e2]; exact g.same wf (.bl _)
      · rw [e1] at g; rw [e2]; exact g.same wf (.bl _)
    · cases hp
  · split at hp
    · rename_i h
      cases hp
      obtain ⟨ns, hn⟩ := Option.isSome_iff_exists.mp h
      obtain ⟨p, xs, rfl, s, r, _⟩ := hy.tup
      obtain ⟨f1, f2⟩ := in_ints r hn
      obtain rfl := hx.int
      refine .inr (.inr ⟨p, xs, rfl, .inr s, rfl, f1, ?_⟩)
      rw [f2]
      exact g.same wf (.bl _)
    · cases hp
  · cases hp
theorem pok_notin : Pok2 K .notin (rNotInU K) := by
  intro n H w v u x y d f Q wf hx hy hp g
  simp only [prim] at hp
  unfold pIn at hp
  split at hp
  · split at hp
    · rename_i h
      rw [Bool.and_eq_true] at h
      cases hp
      exact .inl ⟨_, _, hx.dp (SeqAt.canLay_of_shaped h.1), hy.dp (SeqAt.canLay_of_shaped h.2), h.1, h.2, g.same wf (.bl _)⟩
    · cases hp
  · split at hp
    · rename_i h
      cases hp
      obtain ⟨a, rfl, dc⟩ := hy.dic
      obtain ⟨o, g1, g2⟩ := dget_of dc h hx
      refine .inr (.inl ⟨a, o, rfl, g1, ?_⟩)
      rcases g2 with ⟨e1, e2⟩ | ⟨d, v', e1, e2, _⟩
      · rw [e1] at g; rw [e2]; exact g.same wf (.bl _)
      · rw [e1] at g; rw [e2]; exact g.same wf (.bl _)
    · cases hp
  · split at hp
    · rename_i h
      cases hp
      obtain ⟨ns, hn⟩ := Option.isSome_iff_exists.mp h
      obtain ⟨p, xs, rfl, s, r, _⟩ := hy.tup
      obtain ⟨f1, f2⟩ := in_ints r hn
      obtain rfl := hx.int
      refine .inr (.inr ⟨p, xs, rfl, .inr s, rfl, f1, ?_⟩)
      rw [f2]
      exact g.same wf (.bl _)
    · cases hp
  · cases hp
theorem rr_isnon {H : Hp} {w : Wh} {v : V} {x : D} (h : Rr K H w v x) (hx : x ≠ .none) : v ≠ .non := by
  rintro rfl
  rcases h with h | ⟨a, e, c⟩
  · cases h; exact hx rfl
  · cases e
theorem pok_isN : Pok2 K .isN (fun x y H Q => y = .non ∧ Q (.bl (decide (x = .non))) H) := by
  intro n H w v u x y d f Q wf hx hy hp g
  cases y <;> simp only [prim] at hp <;> first | cases hp | skip
  obtain rfl := hy.non
  refine ⟨rfl, ?_⟩
  cases x with
  | none =>
    cases hp
    obtain rfl := hx.non
    exact g.same wf (.bl _)
  | _ =>
    cases hp
    rw [decide_eq_false (rr_isnon hx (by intro z; cases z))]
    exact g.same wf (.bl _)
theorem pok_notN : Pok2 K .notN (fun x y H Q => y = .non ∧ Q (.bl (!decide (x = .non))) H) := by
  intro n H w v u x y d f Q wf hx hy hp g
  cases y <;> simp only [prim] at hp <;> first | cases hp | skip
  obtain rfl := hy.non
  refine ⟨rfl, ?_⟩
  cases x with
  | none =>
    cases hp
    obtain rfl := hx.non
    exact g.same wf (.bl _)
  | _ =>
    cases hp
    rw [decide_eq_false (rr_isnon hx (by intro z; cases z))]
    exact g.same wf (.bl _)
theorem pok_isB : Pok2 K .isB rIsB := by
  intro n H w v u x y d f Q wf hx hy hp g
  cases x <;> cases y <;> simp only [prim] at hp <;> first | cases hp | skip
  obtain rfl := hx.bl
  obtain rfl := hy.bl
  exact ⟨_, _, rfl, rfl, g.same wf (.bl _)⟩
theorem pok_notB : Pok2 K .notB rNotB := by
  intro n H w v u x y d f Q wf hx hy hp g
  cases x <;> cases y <;> simp only [prim] at hp <;> first | cases hp | skip
  obtain rfl := hx.bl
  obtain rfl := hy.bl
  exact ⟨_, _, rfl, rfl, g.same wf (.bl _)⟩
/-! items -/
def rIxK : R2 := fun x y H Q => ∃ a v, x = .ref a ∧ DGet H a y (some v) ∧ Q v H
theorem ix_dict (hu : X.A.units + 1 < cLine) : IxR X rIxK := by
  intro value slice pins s σ H x y v u Q I rx ry h hs
  obtain ⟨a, z, rfl, g, q⟩ := h
  obtain rfl : v = Value.ref a := rx
  have hT := dict_typeIs I g
  unfold subscriptTail
  refine wpAny_bind ?_
  rw [getitemInPython_of_ne hT.not_modules]
  refine wpAny_bind (wpAny_specialOf hT PySem.F.slot_dict_getitem.lookup ?_)
  have fin : wpAny (model X.prog X.w) X.A (subscripted slice false (Value.ref a) u) (fun r s₃ => wpAny (model X.prog X.w) X.A (letTemporaryGo value (Value.ref a) r >>= fun _ => pure r) (EP X pins σ Q) X.xe s₃) X.xe s := by
    rw [hs]
    exact wpAny_operating (d_getItem hu I g ry fun w' s3 I3 rw' => wpAny_bind (wpAny_letTemporaryGo (wpAny_pure ⟨z, H, I3, rw', q⟩)))
  first
    | exact wpAny_pure (wpAny_bind fin)
    | exact wpAny_pure (wpAny_pure (wpAny_bind fin))
    | exact wpAny_bind fin
def rIxU (K : PySem.W.Frag) : R2 := fun x y H Q => rIxL K x y H Q ∨ rIxT K x y H Q ∨ rIxK x y H Q
theorem ix_U (hu : X.A.units + 1 < cLine) : IxR X (rIxU X.K) := ix_list.or (ix_tup.or (ix_dict hu))
theorem atI_of {H : Hp} {w : Wh} {xs : List V} {ds : List D} {i : Int} {d : D} (r : RpAll K H w xs ds) (h : atD ds i = some d) : ∃ v, atI xs i = some v ∧ Rp K H w v d := by
  have hl := r.length
  unfold atD at h
  unfold atI ixN
  by_cases h0 : 0 ≤ i
  · rw [if_pos h0] at h
    obtain ⟨hb, _⟩ := List.getElem?_eq_some_iff.mp h
    obtain ⟨v, e, q⟩ := r.get h
    refine ⟨v, ?_, q⟩
    rw [if_pos h0, if_pos (by omega)]
    exact e
  · rw [if_neg h0] at h
    split at h
    · rename_i h1
      obtain ⟨v, e, q⟩ := r.get h
      refine ⟨v, ?_, q⟩
      rw [if_neg h0, if_pos (by omega)]
      have : (i + (xs.length : Int)).toNat = ((ds.length : Int) + i).toNat := by rw [hl]; congr 1; omega
      rw [← e, ← this]
      rfl
    · cases h
theorem pok_ix {n : Nat} {H : Hp} {w : Wh} {v u : V} {x y d : D} {Q : VK} (wf : Wf H w) (hx : Rr K H w v x) (hy : Rr K H w u y) (hp : pIx x y = some d) (g : PGo K n H w false d Q) : rIxU K v u H Q := by
  unfold pIx at hp
  split at hp
  · obtain ⟨a, xs, rfl, s, r⟩ := hx.list
    obtain rfl := hy.int
    obtain ⟨z, e, q⟩ := atI_of r hp
    exact .inl ⟨a, xs, _, z, rfl, rfl, s, e, g.same wf q⟩
  · obtain ⟨a, xs, rfl, s, r, _⟩ := hx.tup
    obtain rfl := hy.int
    obtain ⟨z, e, q⟩ := atI_of r hp
    exact .inr (.inl ⟨a, xs, _, z, rfl, rfl, s, e, g.same wf q⟩)
  · split at hp
    · rename_i h
      obtain ⟨a, rfl, dc⟩ := hx.dic
      obtain ⟨o, g1, g2⟩ := dget_of dc h hy
      rcases g2 with ⟨e1, e2⟩ | ⟨d', v', e1, e2, r⟩
      · rw [e1] at hp; cases hp
      · rw [e1] at hp
        cases hp
        subst e2
        exact .inr (.inr ⟨a, v', rfl, g1, g.same wf r⟩)
    · cases hp
  · cases hp
end
end PD

/-! PD3d: the built-in functions, methods that change their thing. -/
namespace PD
open PySem PySem.Spec PyProof.Rows L2
section
variable {X : Cx} {K : PySem.W.Frag}
/-- a built-in function's rule for prim p -/
def Pok (K : PySem.W.Frag) (p : Pr) (r : List V → Hp → VK → Prop) : Prop := ∀ (n : Nat) (H : Hp) (w : Wh) (vs : List V) (ds : List D) (d : D) (f : Bool) (Q : VK), Wf H w → Paired (Rr K H w) vs ds → prim p ds = some (f, d) → PGo K n H w f d Q → r vs H Q
theorem pok1 {p : Pr} {r : List V → Hp → VK → Prop} (h1 : ∀ ds f d, prim p ds = some (f, d) → ∃ x, ds = [x])
    (h : ∀ (n : Nat) (H : Hp) (w : Wh) (v : V) (x d : D) (f : Bool) (Q : VK), Wf H w → Rr K H w v x → prim p [x] = some (f, d) → PGo K n H w f d Q → r [v] H Q) : Pok K p r := by
  intro n H w vs ds d f Q wf hv hp g
  obtain ⟨x, rfl⟩ := h1 _ _ _ hp
  cases hv with
  | cons a b =>
    cases b
    exact h n H w _ x d f Q wf a hp g
theorem pok2 {p : Pr} {r : List V → Hp → VK → Prop} (h1 : ∀ ds f d, prim p ds = some (f, d) → ∃ x y, ds = [x, y])
    (h : ∀ (n : Nat) (H : Hp) (w : Wh) (v u : V) (x y d : D) (f : Bool) (Q : VK), Wf H w → Rr K H w v x → Rr K H w u y → prim p [x, y] = some (f, d) → PGo K n H w f d Q → r [v, u] H Q) : Pok K p r := by
  intro n H w vs ds d f Q wf hv hp g
  obtain ⟨x, y, rfl⟩ := h1 _ _ _ hp
  cases hv with
  | cons a b =>
    cases b with
    | cons b c =>
      cases c
      exact h n H w _ _ x y d f Q wf a b hp g
def rLenU (K : PySem.W.Frag) : List V → Hp → VK → Prop := fun xs H Q => (∃ p ys, xs = [.ref p] ∧ (SqL K H p ys ∨ SqT K H p ys) ∧ Q (.int ys.length) H) ∨ ∃ z, xs = [.str z] ∧ z.length ≤ sizeLine ∧ Q (.int z.length) H
theorem call_lenU : CallR X (.builtin "len") (rLenU X.K) := CallR.or call_len_seq call_len_str
theorem pok_len : Pok K .len (rLenU K) := by
  refine pok1 (fun ds f d h => ?_) fun n H w v x d f Q wf hx hp g => ?_
  · unfold prim at h; split at h <;> simp_all
  simp only [prim] at hp
  unfold pLen at hp
  split at hp
  · obtain ⟨a, xs, rfl, s, r⟩ := hx.list
    cases hp
    refine .inl ⟨a, xs, rfl, .inl s, ?_⟩
    rw [r.length]
    exact g.same wf (.int _)
  · obtain ⟨a, xs, rfl, s, r, _⟩ := hx.tup
    cases hp
    refine .inl ⟨a, xs, rfl, .inr s, ?_⟩
    rw [r.length]
    exact g.same wf (.int _)
  · obtain rfl := hx.str
    split at hp
    · cases hp
      exact .inr ⟨_, rfl, by assumption, g.same wf (.int _)⟩
    · cases hp
  · cases hp
theorem pok_abs : Pok K .abs (fun xs H Q => ∃ i, xs = [.int i] ∧ Q (.int (if i < 0 then -i else i)) H) := by
  refine pok1 (fun ds f d h => ?_) fun n H w v x d f Q wf hx hp g => ?_
  · unfold prim at h; split at h <;> simp_all
  cases x <;> simp only [prim] at hp <;> first | cases hp | skip
  obtain rfl := hx.int
  exact ⟨_, rfl, g.same wf (.int _)⟩
theorem pok_min2 : Pok K .min2 (fun xs H Q => ∃ i j, xs = [.int i, .int j] ∧ Q (.int (if j < i then j else i)) H) := by
  refine pok2 (fun ds f d h => ?_) fun n H w v u x y d f Q wf hx hy hp g => ?_
  · unfold prim at h; split at h <;> simp_all
  cases x <;> cases y <;> simp only [prim] at hp <;> first | cases hp | skip
  obtain rfl := hx.int
  obtain rfl := hy.int
  exact ⟨_, _, rfl, g.same wf (.int _)⟩
theorem pok_max2 : Pok K .max2 (fun xs H Q => ∃ i j, xs = [.int i, .int j] ∧ Q (.int (if j > i then j else i)) H) := by
  refine pok2 (fun ds f d h => ?_) fun n H w v u x y d f Q wf hx hy hp g => ?_
  · unfold prim at h; split at h <;> simp_all
  cases x <;> cases y <;> simp only [prim] at hp <;> first | cases hp | skip
  obtain rfl := hx.int
  obtain rfl := hy.int
  exact ⟨_, _, rfl, g.same wf (.int _)⟩
theorem pok_tuple : Pok K .tuple (fun xs H Q => ∃ p ys, xs = [.ref p] ∧ ((SqL K H p ys ∧ ∀ l, H l = none → Q (.ref l) (upd H l (.tup ys))) ∨ (SqT K H p ys ∧ Q (.ref p) H))) := by
  refine pok1 (fun ds f d h => ?_) fun n H w v x d f Q wf hx hp g => ?_
  · unfold prim at h; split at h <;> simp_all
  cases x <;> simp only [prim] at hp <;> first | cases hp | skip
  · obtain ⟨a, xs, rfl, s, r⟩ := hx.list
    exact ⟨a, xs, rfl, .inl ⟨s, g.tup wf r⟩⟩
  · obtain ⟨a, xs, rfl, s, r, p⟩ := hx.tup
    exact ⟨a, xs, rfl, .inr ⟨s, g.same wf p⟩⟩
theorem bools_of {H : Hp} {w : Wh} : ∀ {xs : List V} {ds : List D} {bs : List Bool}, RpAll K H w xs ds → isBools ds = some bs → xs = bs.map V.bl
  | _, [], _, .nil, h => by cases h; rfl
  | _ :: _, d :: ds, bs, .cons a b, h => by
    cases d with
    | bool c =>
      unfold isBools at h
      split at h
      · rename_i bs' e
        cases h
        cases a
        rw [bools_of b e]
        rfl
      · cases h
    | _ => simp [isBools] at h
theorem pok_all : Pok K .all (rAll K) := by
  refine pok1 (fun ds f d h => ?_) fun n H w v x d f Q wf hx hp g => ?_
  · unfold prim at h; split at h <;> simp_all
  cases x <;> simp only [prim] at hp <;> first | cases hp | skip
  obtain ⟨a, xs, rfl, s, r⟩ := hx.list
  split at hp
  · rename_i bs e
    cases hp
    rw [bools_of r e] at s
    exact ⟨a, bs, rfl, s, g.same wf (.bl _)⟩
  · cases hp
theorem pok_int : Pok K .int (fun xs H Q => (∃ i, xs = [.int i] ∧ Q (.int i) H) ∨ ∃ k, xs = [.bl k] ∧ Q (.int (if k then 1 else 0)) H) := by
  refine pok1 (fun ds f d h => ?_) fun n H w v x d f Q wf hx hp g => ?_
  · unfold prim at h; split at h <;> simp_all
  cases x <;> simp only [prim] at hp <;> first | cases hp | skip
  · obtain rfl := hx.bl
    exact .inr ⟨_, rfl, g.same wf (.int _)⟩
  · obtain rfl := hx.int
    exact .inl ⟨_, rfl, g.same wf (.int _)⟩
/-! kinds -/
def kdTy : Kd → String
  | .int => "int" | .bool => "bool" | .str => "str" | .list => "list" | .tuple => "tuple" | .dict => "dict"
def tyOf : D → String
  | .none => "NoneType" | .bool _ => "bool" | .int _ => "int" | .str _ => "str" | .list _ => "list" | .tuple _ => "tuple" | .dict _ => "dict"
theorem kit_kd (k : Kd) (d : D) : kitB (tyOf d) (kdTy k) = some (kindOf k d) := by
  cases k <;> cases d <;> simp only [tyOf, kdTy, kindOf] <;> decide +kernel
theorem ty_of {H : Hp} {w : Wh} {v : V} {d : D} (h : Rr K H w v d) : TyX K H v (.type (tyOf d)) := by
  rcases h with h | ⟨a, rfl, c⟩
  · cases h with
    | non => exact .base .non
    | bl b => exact .base (.bl b)
    | int i => exact .base (.int i)
    | str x => exact .base (.str x)
    | lst n r =>
      obtain ⟨n | ⟨o, n⟩, _⟩ | ⟨o, its, m, h1, h2, _⟩ := n
      · exact .base (.lst n)
      · exact .base (.frz n)
      · exact .kList h1 h2
    | tup n r => exact .base (.tup n.1)
    | dk n e r => exact .base (.dK n)
    | dt n e r => exact .base (.dT n)
  · cases c with
    | lst n r => exact .base (.lst n)
    | dk n r => exact .base (.dK n)
    | dt n r => exact .base (.dT n)
/-! ### methods that change their thing -/
/-- the rule r at a thing of one's own does what mtd m does -/
def Mok (K : PySem.W.Frag) (m : Mt) (r : V → List V → Hp → VK → Prop) : Prop := ∀ (H : Hp) (w : Wh) (l : Lab) (a : Addr) (vs : List V) (d d' z : D) (ds : List D) (Q : VK), w a = some l → Cn K H w a d → RpAll K H w vs ds → mtd m d ds = some (d', z) →
  (∀ v o, (∀ b, b ≠ a → upd H a o b = H b) → Cn K (upd H a o) w a d' → Rp K (upd H a o) w v z → Q v (upd H a o)) → r (.ref a) vs H Q
theorem sty_own {H : Hp} {w : Wh} {a : Addr} {l : Lab} {o : HO} (e : w a = some l) : Sty H w (upd H a o) w := fun b u h z => ⟨by
  have : b ≠ a := fun q => by rw [q, e] at z; cases z
  rw [upd_ne this]; exact h, z⟩
theorem mok_append : Mok K .append rAppend := by
  intro H w l a vs d d' z ds Q e c r hm g
  unfold mtd at hm
  split at hm <;> first | cases hm | skip
  case _ =>
    rename_i xs' y' _ _
    cases c with
    | lst n rr =>
      cases r with
      | cons r1 r2 =>
        cases r2
        split at hm
        · rename_i hl
          cases hm
          refine ⟨a, _, _, rfl, rfl, n, by rw [rr.length]; exact hl, g _ _ (fun b hb => upd_ne hb) (.lst upd_same ((rr.mono (sty_own e)).append (.cons (Rp.mono (sty_own e) r1) .nil))) .non⟩
        · cases hm
  all_goals simp_all
end
end PD

/-! PD4: what an expression's reading is by the pure language; the rules. -/
namespace PD
open PySem PySem.Spec PyProof.Rows L2
theorem Rs.bind_ok {α β : Type} {x : Rs α} {f : α → En → Rs β} {b : β} {e : En} (h : x.bind f = .ok b e) : ∃ a e1, x = .ok a e1 ∧ f a e1 = .ok b e := by
  cases x with
  | no => cases h
  | ok a e1 => exact ⟨a, e1, rfl, h⟩
  | ex c d e1 => cases h
theorem _root_.L2.PE.imp {X : Cx} {e : Expr} {t t' : TE} (h : PE X e t) (i : ∀ σ H Q, t' σ H Q → t σ H Q) : PE X e t' := ⟨fun pins s σ H Q I q => h.run pins s σ H Q I (i σ H Q q)⟩
theorem _root_.L2.PT.imp {X : Cx} {e : Expr} {t t' : TT} (h : PT X e t) (i : ∀ σ H Q, t' σ H Q → t σ H Q) : PT X e t' := ⟨fun pins s σ H Q I q => h.run pins s σ H Q I (i σ H Q q)⟩
theorem _root_.L2.PW.imp {X : Cx} {e : Expr} {t t' : TT} (h : PW X e t) (i : ∀ σ H Q, t' σ H Q → t σ H Q) : PW X e t' := ⟨fun wh pins s σ H Q I q => h.run wh pins s σ H Q I (i σ H Q q)⟩
theorem _root_.L2.PA.imp {X : Cx} {es : List Expr} {t t' : TA} (h : PA X es t) (i : ∀ σ H Q, t' σ H Q → t σ H Q) : PA X es t' := ⟨fun pos pins s σ H Q I q => h.run pos pins s σ H Q I (i σ H Q q)⟩
theorem _root_.L2.PS.imp {X : Cx} {st : Stmt} {t t' : TS} (h : PS X st t) (i : ∀ D σ H, t' D σ H → t D σ H) : PS X st t' := ⟨fun pins s σ H D I q => h.run pins s σ H D I (i D σ H q)⟩
theorem _root_.L2.PSs.imp {X : Cx} {st : List Stmt} {t t' : TS} (h : PSs X st t) (i : ∀ D σ H, t' D σ H → t D σ H) : PSs X st t' := ⟨fun pins s σ H D I q => h.run pins s σ H D I (i D σ H q)⟩
theorem _root_.L2.PI.imp {X : Cx} {tg e : Expr} {t t' : TI} (h : PI X tg e t) (i : ∀ σ H R, t' σ H R → t σ H R) : PI X tg e t' := ⟨fun pins s σ H R I q => h.run pins s σ H R I (i σ H R q)⟩

section
variable (K : PySem.W.Frag) (F : List Fn)
/-- what is ahead: nothing of others' is changed, the slots hold the new things -/
structure Aft (n : Nat) (μ : Nat → Option V) (σ : L2.St) (e' : En) (H : Hp) (w : Wh) (H' : Hp) (w' : Wh) : Prop where
  stp : Stp (keepE n) H w H' w'
  wf : Wf H' w'
  env : EnvR K H' w' μ σ e'
def teE (ie : IE) : TE := fun σ H Q => ∃ n w μ e a e', Wf H w ∧ EnvR K H w μ σ e ∧ evE F ie e = .ok a e' ∧ ∀ v H' w', Aft K n μ σ e' H w H' w' → AnsR K n H' w' σ v a → Q v H'
def teT (it : IT) : TT := fun σ H Q => ∃ n w μ e b e', Wf H w ∧ EnvR K H w μ σ e ∧ evT F it e = .ok b e' ∧ ∀ H' w', Aft K n μ σ e' H w H' w' → Q b H'
inductive AnsRs (K : PySem.W.Frag) (H : Hp) (w : Wh) (σ : L2.St) : Nat → List V → List Ans → Prop
  | nil (n : Nat) : AnsRs K H w σ n [] []
  | cons {n : Nat} {v : V} {vs : List V} {a : Ans} {as : List Ans} : AnsR K n H w σ v a → AnsRs K H w σ (n + 1) vs as → AnsRs K H w σ n (v :: vs) (a :: as)
def teA (es : List IE) : TA := fun σ H Q => ∃ n w μ e as e', Wf H w ∧ EnvR K H w μ σ e ∧ evEs F es e = .ok as e' ∧ ∀ vs H' w', Aft K n μ σ e' H w H' w' → AnsRs K H' w' σ n vs as → Q vs H'
end
section
variable {K : PySem.W.Frag} {F : List Fn} {H H' : Hp} {w w' : Wh} {μ : Nat → Option V} {σ : L2.St} {e e' : En} {n m : Nat} {v : V} {d : D}
theorem Aft.refl (wf : Wf H w) (er : EnvR K H w μ σ e) : Aft K n μ σ e H w H w := ⟨Stp.refl, wf, er⟩
theorem Aft.trans {H1 : Hp} {w1 : Wh} {e1 : En} (a : Aft K n μ σ e1 H w H1 w1) (b : Aft K m μ σ e' H1 w1 H' w') (h : n ≤ m) : Aft K n μ σ e' H w H' w' :=
  ⟨a.stp.trans (b.stp.weak (keepE.le h)), b.wf, b.env⟩
theorem Aft.drp (a : Aft K n μ σ e' H w H' w') : Aft K n μ σ e' H w H' (drp n w') := ⟨a.stp.trans drp_stp, drp_wf a.wf, drp_env a.env⟩
/-- a step at which the slots' own things stay -/
theorem Aft.keep {H1 : Hp} {w1 : Wh} (a : Aft K n μ σ e' H w H1 w1) (s : Stp (keepP n) H1 w1 H' w') (wf : Wf H' w') : Aft K n μ σ e' H w H' w' :=
  ⟨a.stp.trans (s.weak keepP.e), wf, a.env.mono s fun i z => by cases z⟩
theorem rd_rr (h : n ≤ m) {x : Ans} (an : AnsR K m H w σ v x) (er : EnvR K H w μ σ e) (hr : rdA x e = some d) : Rr K H (PD.drp n w) v d := by
  cases x with
  | val f d' =>
    cases hr
    exact .inl (drp_ans h an)
  | pl i =>
    simp only [rdA] at hr
    cases hs : e[i]? with
    | none => rw [hs] at hr; cases hr
    | some so =>
      cases so with
      | none => rw [hs] at hr; cases hr
      | some s =>
        rw [hs] at hr
        cases hr
        obtain ⟨o, d⟩ := s
        obtain ⟨v', h1, h2, _⟩ := (drp_env (n := n) er).at_ i o d hs
        have : v' = v := by
          have q : σ[i]? = some (some v) := an
          rw [h1] at q
          exact Option.some.inj (Option.some.inj q)
        subst this
        exact h2.rr
theorem AnsR.any {σ' : L2.St} {f : Bool} (h : AnsR K n H w σ v (.val f d)) : AnsR K n H w σ' v (.val f d) := by
  cases f <;> exact h
theorem AnsRs.mono {keep : Lab → Prop} (s : Stp keep H w H' w') : ∀ {n : Nat} {vs : List V} {as : List Ans}, (∀ m, n ≤ m → m < n + as.length → keep (.tmp m)) → AnsRs K H w σ n vs as → AnsRs K H' w' σ n vs as
  | _, _, _, _, .nil n => .nil n
  | n, _, _, k, .cons a b => .cons (a.mono s (k n (Nat.le_refl _) (by simp))) (AnsRs.mono s (fun m h1 h2 => k m (by omega) (by simp only [List.length_cons]; omega)) b)
theorem rds_rr : ∀ {m : Nat} {xs : List Ans} {vs : List V} {ds : List D}, n ≤ m → AnsRs K H w σ m vs xs → EnvR K H w μ σ e → rdAs xs e = some ds → Paired (Rr K H (PD.drp n w)) vs ds
  | _, [], _, ds, _, .nil _, er, hr => by
    cases hr
    exact .nil
  | m, x :: xs, _, ds, h, .cons a b, er, hr => by
    simp only [rdAs] at hr
    cases h1 : rdA x e with
    | none => rw [h1] at hr; cases hr
    | some d =>
      cases h2 : rdAs xs e with
      | none => rw [h1, h2] at hr; cases hr
      | some ds' =>
        rw [h1, h2] at hr
        cases hr
        exact .cons (rd_rr h a er h1) (rds_rr (Nat.le_trans h (Nat.le_succ m)) b er h2)
theorem prA_ok {p : Pr} {as : List Ans} {a : Ans} (h : prA p as e = .ok a e') : ∃ ds f d, rdAs as e = some ds ∧ prim p ds = some (f, d) ∧ a = .val f d ∧ e' = e := by
  unfold prA at h
  split at h
  · rename_i ds h1
    split at h
    · rename_i f d h2
      cases h
      exact ⟨ds, f, d, h1, h2, rfl, rfl⟩
    · cases h
  · cases h
/-- an operation's end -/
theorem pgo_fin {f : Bool} {Q : VK} {H1 : Hp} {w1 : Wh} (a : Aft K n μ σ e' H w H1 w1) (k : ∀ v H' w', Aft K n μ σ e' H w H' w' → AnsR K n H' w' σ v (.val f d) → Q v H') : PGo K n H1 (PD.drp n w1) f d Q := fun v H' w' s wf an =>
  k v H' w' (a.drp.keep s wf) an.any
theorem rd2 {a b : Ans} {ds : List D} (h : rdAs [a, b] e = some ds) : ∃ x y, rdA a e = some x ∧ rdA b e = some y ∧ ds = [x, y] := by
  simp only [rdAs] at h
  cases h1 : rdA a e <;> cases h2 : rdA b e <;> simp_all
theorem rd1 {a : Ans} {ds : List D} (h : rdAs [a] e = some ds) : ∃ x, rdA a e = some x ∧ ds = [x] := by
  simp only [rdAs] at h
  cases h1 : rdA a e <;> simp_all
end

theorem ans_bl {K : PySem.W.Frag} {n : Nat} {H : Hp} {w : Wh} {σ : L2.St} {v : V} {f b : Bool} (h : AnsR K n H w σ v (.val f (.bool b))) : v = .bl b := by
  cases f with
  | false => exact Rr.bl (.inl h)
  | true => obtain ⟨a, _, _, c⟩ := h; cases c
/-! ### the rules -/
section
variable {X : Cx} {F : List Fn} {a b c : Expr} {ia ib ic : IE} {pos : Pos}
theorem se_var {i : Nat} {x : Str} (h : PE X (.Name x pos) (tVar i)) : PE X (.Name x pos) (teE X.K F (.var i)) := by
  refine h.imp fun σ H Q q => ?_
  obtain ⟨n, w, μ, e, a, e', wf, er, ev, k⟩ := q
  unfold evE at ev
  split at ev
  · rename_i d hs
    cases ev
    obtain ⟨v, h1, h2, _⟩ := er.at_ i _ _ hs
    exact ⟨v, h1, k v H w (.refl wf er) h2⟩
  · rename_i s _ hs
    cases ev
    obtain ⟨o, d⟩ := s
    obtain ⟨v, h1, h2, _⟩ := er.at_ i _ _ hs
    exact ⟨v, h1, k v H w (.refl wf er) h1⟩
  · cases ev
/-- constants -/
def litV : D → Option V
  | .none => some .non
  | .bool b => some (.bl b)
  | .int i => some (.int i)
  | .str x => some (.str x)
  | _ => none
theorem litV_rp {K : PySem.W.Frag} {H : Hp} {w : Wh} {d : D} {v : V} (h : litV d = some v) : Rp K H w v d := by
  cases d <;> simp only [litV] at h <;> cases h <;> constructor
theorem se_lit {d : D} {v : V} (hv : litV d = some v) (h : PE X a (tC v)) : PE X a (teE X.K F (.lit d)) := by
  refine h.imp fun σ H Q q => ?_
  obtain ⟨n, w, μ, e, a, e', wf, er, ev, k⟩ := q
  cases ev
  exact k v H w (.refl wf er) (litV_rp hv)
theorem se_gl {d : D} {v : V} {x : Str} (hv : litV d = some v) (h : PE X a (tC v)) : PE X a (teE X.K F (.gl x d)) := by
  refine h.imp fun σ H Q q => ?_
  obtain ⟨n, w, μ, e, a, e', wf, er, ev, k⟩ := q
  cases ev
  exact k v H w (.refl wf er) (litV_rp hv)
/-- two in a row, then an operation -/
theorem two_in {K : PySem.W.Frag} {σ : L2.St} {H : Hp} {R : V → V → Hp → Prop} {n : Nat} {w : Wh} {μ : Nat → Option V} {e e1 e2 : En} {x y : Ans} (wf : Wf H w) (er : EnvR K H w μ σ e) (e1h : evE F ia e = .ok x e1) (e2h : evE F ib e1 = .ok y e2)
    (k : ∀ v u H2 w2, Aft K n μ σ e2 H w H2 w2 → AnsR K n H2 w2 σ v x → AnsR K (n + 1) H2 w2 σ u y → R v u H2) :
    teE K F ia σ H fun v H1 => teE K F ib σ H1 fun u H2 => R v u H2 :=
  ⟨n, w, μ, e, x, e1, wf, er, e1h, fun v H1 w1 a1 an1 => ⟨n + 1, w1, μ, e1, y, e2, a1.wf, a1.env, e2h, fun u H2 w2 a2 an2 =>
    k v u H2 w2 (a1.trans a2 (Nat.le_succ n)) (an1.mono a2.stp (Nat.lt_succ_self n)) an2⟩⟩
theorem two_op {K : PySem.W.Frag} {σ : L2.St} {H : Hp} {Q : VK} {p : Pr} {r : R2} (hp : Pok2 K p r) {n : Nat} {w : Wh} {μ : Nat → Option V} {e e1 e2 e3 : En} {x y z : Ans} (wf : Wf H w) (er : EnvR K H w μ σ e) (e1h : evE F ia e = .ok x e1) (e2h : evE F ib e1 = .ok y e2) (e3h : prA p [x, y] e2 = .ok z e3)
    (k : ∀ v H' w', Aft K n μ σ e3 H w H' w' → AnsR K n H' w' σ v z → Q v H') : tOp r (teE K F ia) (teE K F ib) σ H Q := by
  obtain ⟨ds, f, d, h1, h2, rfl, rfl⟩ := prA_ok e3h
  obtain ⟨dx, dy, hx, hy, rfl⟩ := rd2 h1
  refine two_in (n := n) wf er e1h e2h fun v u H2 w2 a an1 an2 => ?_
  exact hp n H2 (drp n w2) v u dx dy d f Q (drp_wf a.wf) (rd_rr (Nat.le_refl n) an1 a.env hx) (rd_rr (Nat.le_succ n) an2 a.env hy) h2 (pgo_fin a k)
theorem se_bi {op : Operator} {p : Pr} {r : R2} (ho : OpR X (binaryOp op) r) (hp : Pok2 X.K p r) (ha : PE X a (teE X.K F ia)) (hb : PE X b (teE X.K F ib)) : PE X (.BinOp a op b pos) (teE X.K F (.bi p ia ib)) := by
  refine (pe_op ho ha hb).imp fun σ H Q q => ?_
  obtain ⟨n, w, μ, e, z, e', wf, er, ev, k⟩ := q
  unfold evE at ev
  obtain ⟨x, e1, h1, ev⟩ := Rs.bind_ok ev
  obtain ⟨y, e2, h2, h3⟩ := Rs.bind_ok ev
  exact two_op hp wf er h1 h2 h3 k
theorem se_cm {op : CmpOp} {p : Pr} {r : R2} (ho : OpR X (compareOp op) r) (hp : Pok2 X.K p r) (ha : PE X a (teE X.K F ia)) (hb : PE X b (teE X.K F ib)) (hm : behindInMarks op b = false) : PE X (.Compare a [op] [b] pos) (teE X.K F (.cm p ia ib)) := by
  refine (pe_cmpR ho ha hb hm).imp fun σ H Q q => ?_
  obtain ⟨n, w, μ, e, z, e', wf, er, ev, k⟩ := q
  unfold evE at ev
  obtain ⟨x, e1, h1, ev⟩ := Rs.bind_ok ev
  obtain ⟨y, e2, h2, h3⟩ := Rs.bind_ok ev
  exact two_op hp wf er h1 h2 h3 k
theorem st_cm {op : CmpOp} {p : Pr} {r : R2} (ho : OpR X (compareOp op) r) (hp : Pok2 X.K p r) (ha : PE X a (teE X.K F ia)) (hb : PE X b (teE X.K F ib)) (hm : behindInMarks op b = false) : PT X (.Compare a [op] [b] pos) (teT X.K F (.cm p ia ib)) := by
  refine (pt_cmpR ho ha hb hm).imp fun σ H Q q => ?_
  obtain ⟨n, w, μ, e, z, e', wf, er, ev, k⟩ := q
  unfold evT at ev
  obtain ⟨x, e1, h1, ev⟩ := Rs.bind_ok ev
  obtain ⟨y, e2, h2, ev⟩ := Rs.bind_ok ev
  obtain ⟨r', e3, h3, ev⟩ := Rs.bind_ok ev
  split at ev
  · cases ev
    refine two_op (n := n) hp wf er h1 h2 h3 fun v H' w' af an => ?_
    exact ⟨_, ans_bl an, k H' w' af⟩
  · cases ev
end
end PD

/-! PD5: more rules for expressions. -/
namespace PD
open PySem PySem.Spec PyProof.Rows L2
/-- an answer whose temporaries are dropped -/
def AnsS (K : PySem.W.Frag) (H : Hp) (w : Wh) (σ : L2.St) (v : V) : Ans → Prop
  | .val _ d => Rp K H w v d
  | .pl i => σ[i]? = some (some v)
section
variable {K : PySem.W.Frag} {F : List Fn} {H H' : Hp} {w w' : Wh} {μ : Nat → Option V} {σ : L2.St} {e e' : En} {n m : Nat} {v : V} {d : D}
theorem AnsR.s {x : Ans} (h : n ≤ m) (an : AnsR K m H w σ v x) : AnsS K H (PD.drp n w) σ v x := by
  cases x with
  | val f d => exact drp_ans h an
  | pl i => exact an
theorem AnsS.mono {x : Ans} (s : Sty H w H' w') (h : AnsS K H w σ v x) : AnsS K H' w' σ v x := by
  cases x with
  | val f d => exact Rp.mono s h
  | pl i => exact h
theorem AnsRs.s : ∀ {m : Nat} {vs : List V} {as : List Ans}, n ≤ m → AnsRs K H w σ m vs as → Paired (AnsS K H (PD.drp n w) σ) vs as
  | _, _, _, _, .nil _ => .nil
  | m, _, _, h, .cons a b => .cons (a.s h) (AnsRs.s (Nat.le_trans h (Nat.le_succ m)) b)
theorem pair_mono {x : List Ans} : ∀ {vs : List V}, Sty H w H' w' → Paired (AnsS K H w σ) vs x → Paired (AnsS K H' w' σ) vs x := by
  intro vs s h
  induction h with
  | nil => exact .nil
  | cons a b ih => exact .cons (a.mono s) ih
theorem fzS {x : Ans} (an : AnsS K H w σ v x) (wf : Wf H w) (er : EnvR K H w μ σ e) (hf : fzA x e = some (d, e')) :
    ∃ w', Stp (keepE n) H w H w' ∧ Wf H w' ∧ EnvR K H w' μ σ e' ∧ Rp K H w' v d := by
  cases x with
  | val f d' =>
    cases hf
    exact ⟨w, Stp.refl, wf, er, an⟩
  | pl i =>
    have q : σ[i]? = some (some v) := an
    simp only [fzA] at hf
    cases hs : e[i]? with
    | none => rw [hs] at hf; cases hf
    | some so =>
      cases so with
      | none => rw [hs] at hf; cases hf
      | some s =>
        obtain ⟨o, d'⟩ := s
        obtain ⟨v', h1, h2, _⟩ := er.at_ i o d' hs
        have ev : v' = v := by
          rw [h1] at q
          exact Option.some.inj (Option.some.inj q)
        subst ev
        rw [hs] at hf
        cases o with
        | sh => cases hf; exact ⟨w, Stp.refl, wf, er, h2⟩
        | own => cases hf; exact ⟨shr i w, shr_stp.weak keepE.slot, shr_wf wf, shr_env er hs, shr_rp h2⟩
        | mu => cases hf
theorem fzSs : ∀ {xs : List Ans} {vs : List V} {ds : List D} {w : Wh} {e : En}, Paired (AnsS K H w σ) vs xs → Wf H w → EnvR K H w μ σ e → fzAs xs e = some (ds, e') →
    ∃ w', Stp (keepE n) H w H w' ∧ Wf H w' ∧ EnvR K H w' μ σ e' ∧ RpAll K H w' vs ds
  | [], _, _, w, e, .nil, wf, er, hf => by
    cases hf
    exact ⟨w, Stp.refl, wf, er, .nil⟩
  | x :: xs, _, ds, w, e, .cons a b, wf, er, hf => by
    simp only [fzAs] at hf
    cases h1 : fzA x e with
    | none => rw [h1] at hf; cases hf
    | some p =>
      obtain ⟨d, e1⟩ := p
      rw [h1] at hf
      simp only at hf
      cases h2 : fzAs xs e1 with
      | none => rw [h2] at hf; cases hf
      | some p2 =>
        obtain ⟨ds', e2⟩ := p2
        rw [h2] at hf
        cases hf
        obtain ⟨w1, s1, wf1, er1, r1⟩ := fzS (n := n) a wf er h1
        obtain ⟨w2, s2, wf2, er2, r2⟩ := fzSs (pair_mono s1.sh b) wf1 er1 h2
        exact ⟨w2, s1.trans s2, wf2, er2, .cons (Rp.mono s2.sh r1) r2⟩
theorem Aft.fz {H1 : Hp} {w1 : Wh} {e1 : En} {x : Ans} (a : Aft K n μ σ e1 H w H1 w1) (an : AnsR K m H1 w1 σ v x) (h : n ≤ m) (hf : fzA x e1 = some (d, e')) : ∃ w2, Aft K n μ σ e' H w H1 w2 ∧ Rp K H1 w2 v d :=
  let ⟨w2, s2, wf2, er2, r⟩ := fzS (n := n) (an.s h) (drp_wf a.wf) (drp_env a.env) hf
  ⟨w2, ⟨(a.stp.trans drp_stp).trans s2, wf2, er2⟩, r⟩
theorem Aft.fzs {H1 : Hp} {w1 : Wh} {e1 : En} {xs : List Ans} {vs : List V} {ds : List D} (a : Aft K n μ σ e1 H w H1 w1) (an : AnsRs K H1 w1 σ m vs xs) (h : n ≤ m) (hf : fzAs xs e1 = some (ds, e')) : ∃ w2, Aft K n μ σ e' H w H1 w2 ∧ RpAll K H1 w2 vs ds :=
  let ⟨w2, s2, wf2, er2, r⟩ := fzSs (n := n) (an.s h) (drp_wf a.wf) (drp_env a.env) hf
  ⟨w2, ⟨(a.stp.trans drp_stp).trans s2, wf2, er2⟩, r⟩
/-- a new thing behind that -/
theorem Aft.tup {H1 : Hp} {w1 : Wh} {vs : List V} {ds : List D} (a : Aft K n μ σ e' H w H1 w1) (r : RpAll K H1 w1 vs ds) {p : Addr} (hp : H1 p = none) :
    Aft K n μ σ e' H w (upd H1 p (.tup vs)) w1 ∧ Rp K (upd H1 p (.tup vs)) w1 (.ref p) (.tuple ds) :=
  let ⟨s, wf, r⟩ := new_tup (n := n) a.wf hp r
  ⟨a.keep s wf, r⟩
theorem Aft.lst {H1 : Hp} {w1 : Wh} {vs : List V} {ds : List D} (a : Aft K n μ σ e' H w H1 w1) (r : RpAll K H1 w1 vs ds) {p : Addr} (hp : H1 p = none) :
    Aft K n μ σ e' H w (upd H1 p (.lst vs)) (own1 w1 p (.tmp n)) ∧ Ow K (upd H1 p (.lst vs)) (own1 w1 p (.tmp n)) (.tmp n) (.ref p) (.list ds) :=
  let ⟨s, wf, r⟩ := new_lst (n := n) a.wf hp r
  ⟨a.keep s wf, r⟩
theorem rpall_pair {vs : List V} {ds : List D} (h : RpAll K H w vs ds) : vs.length = ds.length := h.length
theorem rd_rr0 {x : Ans} (an : AnsR K m H w σ v x) (er : EnvR K H w μ σ e) (hr : rdA x e = some d) : Rr K H w v d := by
  cases x with
  | val f d' =>
    cases hr
    cases f with
    | false => exact .inl an
    | true => obtain ⟨a, h1, _, c⟩ := an; exact .inr ⟨a, h1, c⟩
  | pl i =>
    simp only [rdA] at hr
    cases hs : e[i]? with
    | none => rw [hs] at hr; cases hr
    | some so =>
      cases so with
      | none => rw [hs] at hr; cases hr
      | some s =>
        rw [hs] at hr
        cases hr
        obtain ⟨o, d⟩ := s
        obtain ⟨v', h1, h2, _⟩ := er.at_ i o d hs
        have : v' = v := by
          have q : σ[i]? = some (some v) := an
          rw [h1] at q
          exact Option.some.inj (Option.some.inj q)
        subst this
        exact h2.rr
/-- truth -/
theorem tru_of {b : Bool} (h : Rr K H w v d) (t : truthD d = some b) : TruV K v H b := by
  cases d with
  | none => obtain rfl := h.non; cases t; rfl
  | bool c => obtain rfl := h.bl; cases t; rfl
  | int i => obtain rfl := h.int; cases t; rfl
  | str x =>
    obtain rfl := h.str
    simp only [truthD] at t
    split at t
    · cases t
      refine ⟨by assumption, ?_⟩
      rw [Bool.eq_iff_iff]
      simp
    · cases t
  | list ds =>
    obtain ⟨a, xs, rfl, s, r⟩ := h.list
    cases t
    refine .inl ⟨xs, s, ?_⟩
    cases r <;> rfl
  | tuple ds =>
    obtain ⟨a, xs, rfl, s, r, _⟩ := h.tup
    cases t
    refine .inr (.inl ⟨xs, s, ?_⟩)
    cases r <;> rfl
  | dict _ => cases t
end
section
variable {X : Cx} {F : List Fn} {a b c : Expr} {ia ib ic : IE} {it iu : IT} {pos : Pos} {es : List Expr} {ies : List IE}
theorem sa_nil : PA X [] (teA X.K F []) := by
  refine pa_nil.imp fun σ H Q q => ?_
  obtain ⟨n, w, μ, e, as, e', wf, er, ev, k⟩ := q
  cases ev
  exact k [] H w (.refl wf er) (.nil n)
theorem sa_cons (ha : PE X a (teE X.K F ia)) (hs : PA X es (teA X.K F ies)) (st : starEach (a :: es) X.env = (false, eval a X.env) :: starEach es X.env) : PA X (a :: es) (teA X.K F (ia :: ies)) := by
  refine (pa_cons ha hs st).imp fun σ H Q q => ?_
  obtain ⟨n, w, μ, e, as, e', wf, er, ev, k⟩ := q
  unfold evEs at ev
  obtain ⟨x, e1, h1, ev⟩ := Rs.bind_ok ev
  obtain ⟨xs, e2, h2, ev⟩ := Rs.bind_ok ev
  cases ev
  exact ⟨n, w, μ, e, x, e1, wf, er, h1, fun v H1 w1 a1 an1 => ⟨n + 1, w1, μ, e1, xs, _, a1.wf, a1.env, h2, fun vs H2 w2 a2 an2 =>
    k _ H2 w2 (a1.trans a2 (Nat.le_succ n)) (.cons (an1.mono a2.stp (Nat.lt_succ_self n)) an2)⟩⟩
theorem se_un {op : UnaryOp} {p : Pr} {r : V → Hp → VK → Prop} (ho : UnR X (unaryOp op) r) (hp : ∀ (n : Nat) (H : Hp) (w : Wh) (v : V) (x d : D) (f : Bool) (Q : VK), Wf H w → Rr X.K H w v x → prim p [x] = some (f, d) → PGo X.K n H w f d Q → r v H Q)
    (ha : PE X a (teE X.K F ia)) : PE X (.UnaryOp op a pos) (teE X.K F (.un p ia)) := by
  refine (pe_un ho ha).imp fun σ H Q q => ?_
  obtain ⟨n, w, μ, e, z, e', wf, er, ev, k⟩ := q
  unfold evE at ev
  obtain ⟨x, e1, h1, h3⟩ := Rs.bind_ok ev
  obtain ⟨ds, f, d, h4, h5, rfl, rfl⟩ := prA_ok h3
  obtain ⟨dx, hx, rfl⟩ := rd1 h4
  exact ⟨n, w, μ, e, x, e', wf, er, h1, fun v H1 w1 a1 an1 => hp n H1 (drp n w1) v dx d f Q (drp_wf a1.wf) (rd_rr (Nat.le_refl n) an1 a1.env hx) h5 (pgo_fin a1 k)⟩
theorem pok_neg (n : Nat) (H : Hp) (w : Wh) (v : V) (x d : D) (f : Bool) (Q : VK) (wf : Wf H w) (hx : Rr X.K H w v x) (hp : prim .neg [x] = some (f, d)) (g : PGo X.K n H w f d Q) : rU (fun i => .int (-i)) v H Q := by
  cases x <;> simp only [prim] at hp <;> first | cases hp | skip
  obtain rfl := hx.int
  exact ⟨_, rfl, g.same wf (.int _)⟩
theorem se_chn {op op' : CmpOp} {p q : Pr} {r r' : R2} (ho : OpR X (compareOp op) r) (ho' : OpR X (compareOp op') r') (hp : Pok2 X.K p r) (hq : Pok2 X.K q r') (ha : PE X a (teE X.K F ia)) (hb : PE X b (teE X.K F ib)) (hc : PE X c (teE X.K F ic))
    (hm : lastMarks [op, op'] [b, c] = false) : PE X (.Compare a [op, op'] [b, c] pos) (teE X.K F (.chn p q ia ib ic)) := by
  refine (pe_chain ho ho' ha hb hc hm).imp fun σ H Q q' => ?_
  obtain ⟨n, w, μ, e, z, e', wf, er, ev, k⟩ := q'
  unfold evE at ev
  obtain ⟨x, e1, h1, ev⟩ := Rs.bind_ok ev
  obtain ⟨y, e2, h2, ev⟩ := Rs.bind_ok ev
  obtain ⟨r1, e3, h3, evf⟩ := Rs.bind_ok ev
  obtain ⟨ds, f, d, h4, h5, rfl, rfl⟩ := prA_ok h3
  obtain ⟨dx, dy, hx, hy, rfl⟩ := rd2 h4
  refine two_in (n := n) wf er h1 h2 fun v u H2 w2 a2 an1 an2 => ?_
  refine hp (n + 2) H2 w2 v u dx dy d f _ a2.wf (rd_rr0 an1 a2.env hx) (rd_rr0 an2 a2.env hy) h5 fun v3 H3 w3 s3 wf3 an3 => ?_
  have k1 : keepP (n + 2) (.tmp (n + 1)) := by intro z; injection z; omega
  have a3 : Aft X.K n μ σ _ H w H3 w3 := ⟨a2.stp.trans (s3.weak fun l hl => keepP.e l (keepE.le (by omega) l hl)), wf3, a2.env.mono s3 fun i z => by cases z⟩
  have an2' := an2.mono s3 k1
  split at evf
  · rename_i e0
    cases e0
    obtain ⟨z', e4, h6, h7⟩ := Rs.bind_ok evf
    refine ⟨true, ans_bl an3, ?_⟩
    rw [if_pos rfl]
    obtain ⟨ds', f', d', h8, h9, rfl, rfl⟩ := prA_ok h7
    obtain ⟨dy', dz, hy', hz, rfl⟩ := rd2 h8
    refine ⟨n + 2, w3, μ, _, z', _, wf3, a3.env, h6, fun v4 H4 w4 a4 an4 => ?_⟩
    have an2'' := an2'.mono a4.stp (show n + 1 < n + 2 by omega)
    have a5 := a3.trans a4 (show n ≤ n + 2 by omega)
    exact hq n H4 (drp n w4) u v4 dy' dz d' f' Q (drp_wf a5.wf) (rd_rr (Nat.le_succ n) an2'' a5.env hy') (rd_rr (by omega) an4 a5.env hz) h9 (pgo_fin a5 k)
  · rename_i e0
    cases e0
    cases evf
    refine ⟨false, ans_bl an3, ?_⟩
    rw [if_neg Bool.false_ne_true]
    exact k _ H3 w3 a3 (.bl _)
  · cases evf
theorem st_chn {op op' : CmpOp} {p q : Pr} {r r' : R2} (ho : OpR X (compareOp op) r) (ho' : OpR X (compareOp op') r') (hp : Pok2 X.K p r) (hq : Pok2 X.K q r') (ha : PE X a (teE X.K F ia)) (hb : PE X b (teE X.K F ib)) (hc : PE X c (teE X.K F ic))
    (hm : lastMarks [op, op'] [b, c] = false) : PT X (.Compare a [op, op'] [b, c] pos) (teT X.K F (.chn p q ia ib ic)) := by
  refine (pt_chain ho ho' ha hb hc hm).imp fun σ H Q q' => ?_
  obtain ⟨n, w, μ, e, z, e', wf, er, ev, k⟩ := q'
  unfold evT at ev
  obtain ⟨x, e1, h1, ev⟩ := Rs.bind_ok ev
  obtain ⟨y, e2, h2, ev⟩ := Rs.bind_ok ev
  obtain ⟨r1, e3, h3, evf⟩ := Rs.bind_ok ev
  obtain ⟨ds, f, d, h4, h5, rfl, rfl⟩ := prA_ok h3
  obtain ⟨dx, dy, hx, hy, rfl⟩ := rd2 h4
  refine two_in (n := n) wf er h1 h2 fun v u H2 w2 a2 an1 an2 => ?_
  refine hp (n + 2) H2 w2 v u dx dy d f _ a2.wf (rd_rr0 an1 a2.env hx) (rd_rr0 an2 a2.env hy) h5 fun v3 H3 w3 s3 wf3 an3 => ?_
  have k1 : keepP (n + 2) (.tmp (n + 1)) := by intro z; injection z; omega
  have a3 : Aft X.K n μ σ _ H w H3 w3 := ⟨a2.stp.trans (s3.weak fun l hl => keepP.e l (keepE.le (by omega) l hl)), wf3, a2.env.mono s3 fun i z => by cases z⟩
  have an2' := an2.mono s3 k1
  split at evf
  · rename_i e0
    cases e0
    obtain ⟨z', e4, h6, evg⟩ := Rs.bind_ok evf
    obtain ⟨r2, e5, h7, evh⟩ := Rs.bind_ok evg
    refine ⟨true, ans_bl an3, ?_⟩
    rw [if_pos rfl]
    obtain ⟨ds', f', d', h8, h9, rfl, rfl⟩ := prA_ok h7
    obtain ⟨dy', dz, hy', hz, rfl⟩ := rd2 h8
    refine ⟨n + 2, w3, μ, _, z', _, wf3, a3.env, h6, fun v4 H4 w4 a4 an4 => ?_⟩
    have an2'' := an2'.mono a4.stp (show n + 1 < n + 2 by omega)
    have a5 := a3.trans a4 (show n ≤ n + 2 by omega)
    split at evh
    · rename_i e1
      cases e1
      cases evh
      exact hq n H4 (drp n w4) u v4 dy' dz _ f' _ (drp_wf a5.wf) (rd_rr (Nat.le_succ n) an2'' a5.env hy') (rd_rr (by omega) an4 a5.env hz) h9 (pgo_fin a5 fun v5 H5 w5 a6 an5 => ⟨_, ans_bl an5, k H5 w5 a6⟩)
    · cases evh
  · rename_i e0
    cases e0
    cases evf
    refine ⟨false, ans_bl an3, ?_⟩
    rw [if_neg Bool.false_ne_true]
    exact ⟨_, rfl, k H3 w3 a3⟩
  · cases evf
theorem se_not (ha : PE X a (teE X.K F ia)) : PE X (.UnaryOp .Not a pos) (teE X.K F (.not ia)) := by
  refine (pe_not ha).imp fun σ H Q q => ?_
  obtain ⟨n, w, μ, e, z, e', wf, er, ev, k⟩ := q
  unfold evE at ev
  obtain ⟨x, e1, h1, ev⟩ := Rs.bind_ok ev
  split at ev
  · rename_i b hx
    cases ev
    exact ⟨n, w, μ, e, x, _, wf, er, h1, fun v H1 w1 a1 an1 => ⟨b, (rd_rr (Nat.le_refl n) an1 a1.env hx).bl, k _ H1 w1 a1 (.bl _)⟩⟩
  · cases ev
theorem se_and1 (ha : PE X a (teE X.K F ia)) : PE X (.BoolOp .And [a] pos) (teE X.K F (.and [ia])) := by
  refine (pe_one ha).imp fun σ H Q q => ?_
  obtain ⟨n, w, μ, e, z, e', wf, er, ev, k⟩ := q
  unfold evE evAnd at ev
  exact ⟨n, w, μ, e, z, e', wf, er, ev, k⟩
theorem se_or1 (ha : PE X a (teE X.K F ia)) : PE X (.BoolOp .Or [a] pos) (teE X.K F (.or [ia])) := by
  refine (pe_one ha).imp fun σ H Q q => ?_
  obtain ⟨n, w, μ, e, z, e', wf, er, ev, k⟩ := q
  unfold evE evOr at ev
  exact ⟨n, w, μ, e, z, e', wf, er, ev, k⟩
theorem se_and (ha : PE X a (teE X.K F ia)) (hb : PE X (.BoolOp .And (b :: es) pos) (teE X.K F (.and (ib :: ies)))) : PE X (.BoolOp .And (a :: b :: es) pos) (teE X.K F (.and (ia :: ib :: ies))) := by
  refine (pe_and ha hb).imp fun σ H Q q => ?_
  obtain ⟨n, w, μ, e, z, e', wf, er, ev, k⟩ := q
  unfold evE evAnd at ev
  obtain ⟨x, e1, h1, ev⟩ := Rs.bind_ok ev
  refine ⟨n, w, μ, e, x, e1, wf, er, h1, fun v H1 w1 a1 an1 => ?_⟩
  split at ev
  · rename_i hx
    refine ⟨true, (rd_rr (Nat.le_refl n) an1 a1.env hx).bl, ?_⟩
    rw [if_pos rfl]
    exact ⟨n, w1, μ, e1, z, e', a1.wf, a1.env, (by unfold evE; exact ev), fun v2 H2 w2 a2 an2 => k v2 H2 w2 (a1.trans a2 (Nat.le_refl n)) an2⟩
  · rename_i hx
    cases ev
    refine ⟨false, (rd_rr (Nat.le_refl n) an1 a1.env hx).bl, ?_⟩
    rw [if_neg Bool.false_ne_true]
    exact k _ H1 w1 a1 (.bl _)
  · cases ev
theorem se_or (ha : PE X a (teE X.K F ia)) (hb : PE X (.BoolOp .Or (b :: es) pos) (teE X.K F (.or (ib :: ies)))) : PE X (.BoolOp .Or (a :: b :: es) pos) (teE X.K F (.or (ia :: ib :: ies))) := by
  refine (pe_or ha hb).imp fun σ H Q q => ?_
  obtain ⟨n, w, μ, e, z, e', wf, er, ev, k⟩ := q
  unfold evE evOr at ev
  obtain ⟨x, e1, h1, ev⟩ := Rs.bind_ok ev
  refine ⟨n, w, μ, e, x, e1, wf, er, h1, fun v H1 w1 a1 an1 => ?_⟩
  split at ev
  · rename_i hx
    cases ev
    refine ⟨true, (rd_rr (Nat.le_refl n) an1 a1.env hx).bl, ?_⟩
    rw [if_pos rfl]
    exact k _ H1 w1 a1 (.bl _)
  · rename_i hx
    refine ⟨false, (rd_rr (Nat.le_refl n) an1 a1.env hx).bl, ?_⟩
    rw [if_neg Bool.false_ne_true]
    exact ⟨n, w1, μ, e1, z, e', a1.wf, a1.env, (by unfold evE; exact ev), fun v2 H2 w2 a2 an2 => k v2 H2 w2 (a1.trans a2 (Nat.le_refl n)) an2⟩
  · cases ev
theorem se_ite (hc : PT X c (teT X.K F it)) (ha : PE X a (teE X.K F ia)) (hb : PE X b (teE X.K F ib)) : PE X (.IfExp c a b pos) (teE X.K F (.ite it ia ib)) := by
  refine (pe_ifExp hc ha hb).imp fun σ H Q q => ?_
  obtain ⟨n, w, μ, e, z, e', wf, er, ev, k⟩ := q
  unfold evE at ev
  obtain ⟨x, e1, h1, ev⟩ := Rs.bind_ok ev
  refine ⟨n, w, μ, e, x, e1, wf, er, h1, fun H1 w1 a1 => ?_⟩
  cases x with
  | true =>
    rw [if_pos rfl] at ev ⊢
    exact ⟨n, w1, μ, e1, z, e', a1.wf, a1.env, ev, fun v2 H2 w2 a2 an2 => k v2 H2 w2 (a1.trans a2 (Nat.le_refl n)) an2⟩
  | false =>
    rw [if_neg Bool.false_ne_true] at ev ⊢
    exact ⟨n, w1, μ, e1, z, e', a1.wf, a1.env, ev, fun v2 H2 w2 a2 an2 => k v2 H2 w2 (a1.trans a2 (Nat.le_refl n)) an2⟩
theorem se_tup {x1 : Nat} (h : PA X es (teA X.K F ies)) : PE X (.Tuple es x1 pos) (teE X.K F (.tup ies)) := by
  refine (pe_tup h).imp fun σ H Q q => ?_
  obtain ⟨n, w, μ, e, z, e', wf, er, ev, k⟩ := q
  unfold evE at ev
  obtain ⟨xs, e1, h1, ev⟩ := Rs.bind_ok ev
  split at ev
  · rename_i ds e2 h2
    split at ev
    · rename_i hl
      cases ev
      refine ⟨n, w, μ, e, xs, e1, wf, er, h1, fun vs H1 w1 a1 an => ?_⟩
      obtain ⟨w2, a2, r⟩ := a1.fzs an (Nat.le_refl n) h2
      refine ⟨by rw [r.length]; exact hl, fun p hp => ?_⟩
      obtain ⟨a3, r3⟩ := a2.tup r hp
      exact k _ _ _ a3 r3
    · cases ev
  · cases ev
theorem se_lst (h : PA X es (teA X.K F ies)) : PE X (.List es pos) (teE X.K F (.lst ies)) := by
  refine (pe_lst h).imp fun σ H Q q => ?_
  obtain ⟨n, w, μ, e, z, e', wf, er, ev, k⟩ := q
  unfold evE at ev
  obtain ⟨xs, e1, h1, ev⟩ := Rs.bind_ok ev
  split at ev
  · rename_i ds e2 h2
    split at ev
    · rename_i hl
      cases ev
      refine ⟨n, w, μ, e, xs, e1, wf, er, h1, fun vs H1 w1 a1 an => ?_⟩
      obtain ⟨w2, a2, r⟩ := a1.fzs an (Nat.le_refl n) h2
      refine ⟨by rw [r.length]; exact hl, fun p hp => ?_⟩
      obtain ⟨a3, r3⟩ := a2.lst r hp
      exact k _ _ _ a3 r3
    · cases ev
  · cases ev
theorem se_ix (hu : X.A.units + 1 < cLine) (ha : PE X a (teE X.K F ia)) (hb : PE X b (teE X.K F ib)) (hs : PlainIx b) : PE X (.Subscript a b pos) (teE X.K F (.ix ia ib)) := by
  refine (pe_ix (ix_U hu) ha hb hs).imp fun σ H Q q => ?_
  obtain ⟨n, w, μ, e, z, e', wf, er, ev, k⟩ := q
  unfold evE at ev
  obtain ⟨x, e1, h1, ev⟩ := Rs.bind_ok ev
  obtain ⟨y, e2, h2, ev⟩ := Rs.bind_ok ev
  split at ev
  · rename_i dx dy hx hy
    split at ev
    · rename_i d hd
      cases ev
      refine two_in (n := n) wf er h1 h2 fun v u H2 w2 a2 an1 an2 => ?_
      exact pok_ix (n := n) (drp_wf a2.wf) (rd_rr (Nat.le_refl n) an1 a2.env hx) (rd_rr (Nat.le_succ n) an2 a2.env hy) hd (pgo_fin a2 k)
    · cases ev
  · cases ev
/-! tests -/
theorem st_v (ha : PE X a (teE X.K F ia)) (he : ∀ whole, isTrue a X.env whole = (do let v ← whole; standAt a.pos; holding [v] (truthy v))) : PT X a (teT X.K F (.v ia)) := by
  refine (pt_truth ha he).imp fun σ H Q q => ?_
  obtain ⟨n, w, μ, e, z, e', wf, er, ev, k⟩ := q
  unfold evT at ev
  obtain ⟨x, e1, h1, ev⟩ := Rs.bind_ok ev
  split at ev
  · rename_i d hx
    split at ev
    · rename_i b hb
      cases ev
      exact ⟨n, w, μ, e, x, _, wf, er, h1, fun v H1 w1 a1 an1 => ⟨z, tru_of (rd_rr (Nat.le_refl n) an1 a1.env hx) hb, k H1 w1 a1⟩⟩
    · cases ev
  · cases ev
theorem st_not (ha : PT X a (teT X.K F it)) : PT X (.UnaryOp .Not a pos) (teT X.K F (.not it)) := by
  refine (pt_not ha).imp fun σ H Q q => ?_
  obtain ⟨n, w, μ, e, z, e', wf, er, ev, k⟩ := q
  unfold evT at ev
  obtain ⟨b, e1, h1, ev⟩ := Rs.bind_ok ev
  cases ev
  exact ⟨n, w, μ, e, b, _, wf, er, h1, fun H1 w1 a1 => k H1 w1 a1⟩
theorem sw_and1 (ha : PT X a (teT X.K F it)) : PW X (.BoolOp .And [a] pos) (teT X.K F (.and [it])) := by
  refine (pw_and1 ha).imp fun σ H Q q => ?_
  obtain ⟨n, w, μ, e, z, e', wf, er, ev, k⟩ := q
  unfold evT evTA at ev
  obtain ⟨b, e1, h1, ev⟩ := Rs.bind_ok ev
  refine ⟨n, w, μ, e, b, e1, wf, er, h1, fun H1 w1 a1 => ?_⟩
  cases b with
  | true => rw [if_pos rfl] at ev; cases ev; exact k H1 w1 a1
  | false => rw [if_neg Bool.false_ne_true] at ev; cases ev; exact k H1 w1 a1
theorem sw_or1 (ha : PT X a (teT X.K F it)) : PW X (.BoolOp .Or [a] pos) (teT X.K F (.or [it])) := by
  refine (pw_or1 ha).imp fun σ H Q q => ?_
  obtain ⟨n, w, μ, e, z, e', wf, er, ev, k⟩ := q
  unfold evT evTO at ev
  obtain ⟨b, e1, h1, ev⟩ := Rs.bind_ok ev
  refine ⟨n, w, μ, e, b, e1, wf, er, h1, fun H1 w1 a1 => ?_⟩
  cases b with
  | true => rw [if_pos rfl] at ev; cases ev; exact k H1 w1 a1
  | false => rw [if_neg Bool.false_ne_true] at ev; cases ev; exact k H1 w1 a1
theorem sw_and {its : List IT} (ha : PT X a (teT X.K F it)) (hb : PW X (.BoolOp .And (b :: es) pos) (teT X.K F (.and (iu :: its)))) : PW X (.BoolOp .And (a :: b :: es) pos) (teT X.K F (.and (it :: iu :: its))) := by
  refine (pw_and ha hb).imp fun σ H Q q => ?_
  obtain ⟨n, w, μ, e, z, e', wf, er, ev, k⟩ := q
  unfold evT evTA at ev
  obtain ⟨x, e1, h1, ev⟩ := Rs.bind_ok ev
  refine ⟨n, w, μ, e, x, e1, wf, er, h1, fun H1 w1 a1 => ?_⟩
  cases x with
  | true =>
    rw [if_pos rfl] at ev ⊢
    exact ⟨n, w1, μ, e1, z, e', a1.wf, a1.env, (by unfold evT; exact ev), fun H2 w2 a2 => k H2 w2 (a1.trans a2 (Nat.le_refl n))⟩
  | false =>
    rw [if_neg Bool.false_ne_true] at ev ⊢
    cases ev
    exact k H1 w1 a1
theorem sw_or {its : List IT} (ha : PT X a (teT X.K F it)) (hb : PW X (.BoolOp .Or (b :: es) pos) (teT X.K F (.or (iu :: its)))) : PW X (.BoolOp .Or (a :: b :: es) pos) (teT X.K F (.or (it :: iu :: its))) := by
  refine (pw_or ha hb).imp fun σ H Q q => ?_
  obtain ⟨n, w, μ, e, z, e', wf, er, ev, k⟩ := q
  unfold evT evTO at ev
  obtain ⟨x, e1, h1, ev⟩ := Rs.bind_ok ev
  refine ⟨n, w, μ, e, x, e1, wf, er, h1, fun H1 w1 a1 => ?_⟩
  cases x with
  | false =>
    rw [if_neg Bool.false_ne_true] at ev ⊢
    exact ⟨n, w1, μ, e1, z, e', a1.wf, a1.env, (by unfold evT; exact ev), fun H2 w2 a2 => k H2 w2 (a1.trans a2 (Nat.le_refl n))⟩
  | true =>
    rw [if_pos rfl] at ev ⊢
    cases ev
    exact k H1 w1 a1
end
end PD

/-! PD6: calls of built-ins, slices, dicts made, methods. -/
namespace PD
open PySem PySem.Spec PyProof.Rows L2
section
variable {X : Cx} {F : List Fn} {a b c : Expr} {ia ib ic : IE} {it iu : IT} {pos apos cpos p1 : Pos} {es : List Expr} {ies : List IE}
theorem cb_in {K : PySem.W.Frag} {p : Pr} {r : List V → Hp → VK → Prop} (hp : Pok K p r) (σ : L2.St) (H : Hp) (Q : VK) (q : teE K F (.fn p ies) σ H Q) : tCB r (teA K F ies) σ H Q := by
  obtain ⟨n, w, μ, e, z, e', wf, er, ev, k⟩ := q
  unfold evE at ev
  obtain ⟨xs, e1, h1, h3⟩ := Rs.bind_ok ev
  obtain ⟨ds, f, d, h4, h5, rfl, rfl⟩ := prA_ok h3
  exact ⟨n, w, μ, e, xs, e', wf, er, h1, fun vs H1 w1 a1 an => hp n H1 (drp n w1) vs ds d f Q (drp_wf a1.wf) (rds_rr (Nat.le_refl n) an a1.env h4) h5 (pgo_fin a1 k)⟩
theorem se_fnB {p : Pr} {id : String} {x : Str} {r : List V → Hp → VK → Prop} (hp : Pok X.K p r) (hc : CallR X (.builtin id) r) (hg : Gl X x) (hm : X.mg x = none) (hv : bootBuiltins x = some (.builtin id)) (ha : PA X (a :: es) (teA X.K F ies)) (hn : x ≠ "__name__") (hdb : (x == ("__debug__" : Str)) = false)
    (he : starEach (a :: es) X.env = (false, eval a X.env) :: starEach es X.env) (hpl : (backTo pos (starEach es X.env)).any (·.1) = false) : PE X (.Call (.Name x p1) (a :: es) [] pos) (teE X.K F (.fn p ies)) :=
  (pe_callB hc hg hm hv ha hn hdb he hpl).imp (cb_in hp)
theorem se_fnT {p : Pr} {id : String} {x : Str} {r : List V → Hp → VK → Prop} (hp : Pok X.K p r) (hc : CallR X (.type id) r) (hg : Gl X x) (hm : X.mg x = none) (hv : bootBuiltins x = some (.type id)) (ha : PA X (a :: es) (teA X.K F ies)) (hn : x ≠ "__name__") (hdb : (x == ("__debug__" : Str)) = false)
    (he : starEach (a :: es) X.env = (false, eval a X.env) :: starEach es X.env) (hpl : (backTo pos (starEach es X.env)).any (·.1) = false) : PE X (.Call (.Name x p1) (a :: es) [] pos) (teE X.K F (.fn p ies)) :=
  (pe_callTy hc hg hm hv ha hn hdb he hpl).imp (cb_in hp)
theorem se_isI {k : Kd} {x y : Str} {p2 : Pos} (hg : Gl X x) (hm : X.mg x = none) (hv : bootBuiltins x = some (.builtin "isinstance")) (hg2 : Gl X y) (hm2 : X.mg y = none) (hv2 : bootBuiltins y = some (.type (kdTy k))) (ha : PE X a (teE X.K F ia)) (hn : x ≠ "__name__") (hdb : (x == ("__debug__" : Str)) = false) (hn2 : y ≠ "__name__") (hdb2 : (y == ("__debug__" : Str)) = false)
    (he : starEach [a, .Name y p2] X.env = (false, eval a X.env) :: starEach [.Name y p2] X.env) : PE X (.Call (.Name x p1) [a, .Name y p2] [] pos) (teE X.K F (.isI k ia)) := by
  have h2 : PE X (.Name y p2) (tC (.ty (kdTy k))) := pe_bltn hg2 hm2 hv2 (show RelV (.ty (kdTy k)) (.type (kdTy k)) from rfl) hn2 hdb2
  refine (pe_callB call_isi hg hm hv (pa_cons ha (pa_cons h2 pa_nil (by rfl)) he) hn hdb he (by rfl)).imp fun σ H Q q => ?_
  obtain ⟨n, w, μ, e, z, e', wf, er, ev, kk⟩ := q
  unfold evE at ev
  obtain ⟨xx, e1, h1, ev⟩ := Rs.bind_ok ev
  split at ev
  · rename_i d hd
    cases ev
    exact ⟨n, w, μ, e, xx, _, wf, er, h1, fun v H1 w1 a1 an => ⟨v, _, _, _, kindOf k d, rfl, .ty _, ty_of (rd_rr (Nat.le_refl n) an a1.env hd), kit_ty (kit_kd k d), kk _ H1 w1 a1 (.bl _)⟩⟩
  · cases ev
/-! slices -/
def teO (K : PySem.W.Frag) (F : List Fn) (io : Option IE) : TO := fun σ H Q => ∃ n w μ e o e', Wf H w ∧ EnvR K H w μ σ e ∧ evO F io e = .ok o e' ∧ ∀ H' w', Aft K n μ σ e' H w H' w' → Q o H'
theorem _root_.L2.PO.imp {X : Cx} {e : Option Expr} {t t' : TO} (h : PO X e t) (i : ∀ σ H Q, t' σ H Q → t σ H Q) : PO X e t' := ⟨fun pins s σ H Q I q => h.run pins s σ H Q I (i σ H Q q)⟩
theorem so_none : PO X none (teO X.K F none) := by
  refine po_none.imp fun σ H Q q => ?_
  obtain ⟨n, w, μ, e, o, e', wf, er, ev, k⟩ := q
  cases ev
  exact k H w (.refl wf er)
theorem so_some (ha : PE X a (teE X.K F ia)) : PO X (some a) (teO X.K F (some ia)) := by
  refine (po_some ha).imp fun σ H Q q => ?_
  obtain ⟨n, w, μ, e, o, e', wf, er, ev, k⟩ := q
  unfold evO at ev
  obtain ⟨x, e1, h1, ev⟩ := Rs.bind_ok ev
  split at ev
  · rename_i i hi
    cases ev
    exact ⟨n, w, μ, e, x, _, wf, er, h1, fun v H1 w1 a1 an => ⟨i, (rd_rr (Nat.le_refl n) an a1.env hi).int, k H1 w1 a1⟩⟩
  · cases ev
def rSlU (K : PySem.W.Frag) : V → Option Int → Option Int → Hp → VK → Prop := fun x lo hi H Q => rSlL K x lo hi H Q ∨ rSlA K x lo hi H Q
theorem sl_U : SlR X (rSlU X.K) := sl_list.or sl_tupA
theorem cut_rp {K : PySem.W.Frag} {H : Hp} {w : Wh} {xs : List V} {ds : List D} (r : RpAll K H w xs ds) (lo hi : Option Int) : RpAll K H w (cutV xs lo hi) (cutD ds lo hi) := by
  unfold cutV cutD
  rw [r.length]
  exact (r.drop _).take _
theorem cut_whole {ds : List D} {lo hi : Option Int} (h : HT.sIx ds.length 0 lo = 0 ∧ HT.sIx ds.length ds.length hi = ds.length) : cutD ds lo hi = ds := by
  unfold cutD
  rw [h.1, h.2]
  simp
theorem se_sl {lo hi : Option Expr} {il ih : Option IE} {p2 : Pos} (ha : PE X a (teE X.K F ia)) (hl : PO X lo (teO X.K F il)) (hh : PO X hi (teO X.K F ih)) : PE X (.Subscript a (.Slice lo hi none p2) pos) (teE X.K F (.sl ia il ih)) := by
  refine (pe_slice sl_U ha hl hh).imp fun σ H Q q => ?_
  obtain ⟨n, w, μ, e, z, e', wf, er, ev, k⟩ := q
  unfold evE at ev
  obtain ⟨x, e1, h1, ev1⟩ := Rs.bind_ok ev
  obtain ⟨l, e2, h2, ev2⟩ := Rs.bind_ok ev1
  obtain ⟨h, e3, h3, ev3⟩ := Rs.bind_ok ev2
  refine ⟨n, w, μ, e, x, e1, wf, er, h1, fun v H1 w1 a1 an1 => ⟨n + 1, w1, μ, e1, l, e2, a1.wf, a1.env, h2, fun H2 w2 a2 => ⟨n + 1, w2, μ, e2, h, e3, a2.wf, a2.env, h3, fun H3 w3 a3 => ?_⟩⟩⟩
  have a4 := (a1.trans a2 (Nat.le_succ n)).trans a3 (Nat.le_succ n)
  have an4 := (an1.mono a2.stp (Nat.lt_succ_self n)).mono a3.stp (Nat.lt_succ_self n)
  split at ev3
  · rename_i ds hd
    cases ev3
    obtain ⟨p, xs, rfl, s, r⟩ := (rd_rr (Nat.le_refl n) an4 a4.env hd).list
    exact .inl ⟨p, xs, rfl, s, (pgo_fin a4 k).lst (drp_wf a4.wf) (cut_rp r l h)⟩
  · rename_i ds hd
    cases ev3
    obtain ⟨p, xs, rfl, s, r, rp⟩ := (rd_rr (Nat.le_refl n) an4 a4.env hd).tup
    refine .inr ⟨p, xs, rfl, s, fun hw => ?_, fun _ => (pgo_fin a4 k).tup (drp_wf a4.wf) (cut_rp r l h)⟩
    rw [r.length] at hw
    have k' := pgo_fin a4 k
    rw [cut_whole hw] at k'
    exact k'.same (drp_wf a4.wf) rp
  · cases ev3
/-! dicts made -/
theorem se_dnewK : PE X (.Dict [] [] pos) (teE X.K F (.dnew false)) := by
  refine pe_dnewK.imp fun σ H Q q => ?_
  obtain ⟨n, w, μ, e, z, e', wf, er, ev, k⟩ := q
  cases ev
  intro p hp
  exact k _ _ _ ((Aft.refl wf er).keep (own1_stp (n := n) wf hp) (own1_wf wf)) ⟨p, rfl, own1_at, .dk upd_same .nil⟩
theorem se_dnewT : PE X (.Dict [] [] pos) (teE X.K F (.dnew true)) := by
  refine pe_dnewT.imp fun σ H Q q => ?_
  obtain ⟨n, w, μ, e, z, e', wf, er, ev, k⟩ := q
  cases ev
  intro p hp
  exact k _ _ _ ((Aft.refl wf er).keep (own1_stp (n := n) wf hp) (own1_wf wf)) ⟨p, rfl, own1_at, .dt upd_same .nil⟩
end
/-! the sets of a dict -/
section
variable {K : PySem.W.Frag} {H : Hp} {w : Wh}
theorem putK_cons {κ : Type} [DecidableEq κ] (kv : κ × V) (kvs : List (κ × V)) (k : κ) (v : V) (nd : kv.1 = k → ∀ x ∈ kvs, x.1 ≠ k) :
    putK (kv :: kvs) k v = if kv.1 = k then (kv.1, v) :: kvs else kv :: putK kvs k v := by
  unfold putK
  by_cases e : kv.1 = k
  · rw [if_pos (by simp [e]), if_pos e, List.map_cons, if_pos e]
    congr 1
    have : kvs.map (fun kv => if kv.1 = k then (kv.1, v) else kv) = kvs.map id := List.map_congr_left fun x hx => by rw [if_neg (nd e x hx)]; rfl
    rw [this, List.map_id]
  · rw [if_neg e]
    by_cases h : (kvs.any fun kv => decide (kv.1 = k)) = true
    · rw [if_pos (by simp [h]), if_pos h, List.map_cons, if_neg e]
    · rw [if_neg (by simpa [e] using h), if_neg h]
      rfl
end
end PD

/-! PD6b: methods that change a list; dict and list items stored. -/
namespace PD
open PySem PySem.Spec PyProof.Rows L2
theorem list_extendW (l : Addr) (items : Array Value) (n : Nat) (b : Addr) (items2 : Array Value) (n2 : Nat) (dd2 : Option Addr) (sl2 : Array (Option Value)) (hc0 : ¬(!items.isEmpty && Builtin.List.listTooLong (items.size + items2.size)) = true) (hc1 : items.size ≤ sizeLine) (hs2 : items.size + items2.size ≤ sizeLine + 1) :
    Meets (Builtin.«list.extend» ⟨[.ref l, .ref b], []⟩) (fun _ R s => s.heap.get? l = some { cls := .type "list", dict := none, data := .seq items n, slots := #[] } ∧ s.heap.get? b = some { cls := .type "list", dict := dd2, data := .seq items2 n2, slots := sl2 } ∧ R (.ok (.ret Value.none)) { s with heap := s.heap.update l (Obj.mapSeq fun x => x ++ items2), toks := s.toks }) :=
  .of_wp fun prog w A R s h => by
    obtain ⟨hp, g, d, tk, os⟩ := s; obtain ⟨hl, hb, h⟩ := h; have f1 := AutoSeq1.idx_int; have f2 := AutoSeq1.sub_tuple_tuple; have f3 := AutoSeq1.sub_list_list; have f4 := AutoSeq1.sub_tuple_list; have f5 := AutoSeq1.sub_list_tuple;
    have hz' : (items ++ items2).size ≤ sizeLine + 1 := by rw [Array.size_append]; exact hs2
    wp_walk using (wpAny_updateSeq hl rfl (hz := hc1) (_hz' := hz')), AutoSeq1.wpAny_loadPart' hl, AutoSeq1.wpAny_loadPart' hb; exact ⟨_, rfl, h⟩
def rExtS (K : PySem.W.Frag) : V → List V → Hp → VK → Prop := fun x vs H Q => ∃ l b xs zs, x = .ref l ∧ vs = [.ref b] ∧ H l = some (.lst xs) ∧ SqL K H b zs ∧ xs.length + zs.length ≤ sizeLine ∧ Q .non (upd H l (.lst (xs ++ zs)))
section
variable {X : Cx}
theorem mt_extS : MtM X "list.extend" (rExtS X.K) := by
  intro pins s σ H x vs v us Q I rx rv h
  obtain ⟨l, b, xs, zs, rfl, rfl, hH, hB, hz, q⟩ := h
  cases rx
  obtain ⟨u, rfl, ru⟩ := rv.one
  cases ru
  obtain ⟨z, its, n, r, hl, e⟩ := I.lstM hH
  obtain ⟨its2, r2, ⟨⟨cls2, dd2, data2, sl2⟩, n2, e2, ec2, ed2, edt2⟩, hl2⟩ := I.list hB
  simp only at ec2 ed2 edt2
  subst ec2 ed2 edt2
  have h2 := r2.length
  have hsz : its.toArray.size + its2.toArray.size ≤ sizeLine := by rw [List.size_toArray, List.size_toArray]; omega
  have hlong : ¬ (!its.toArray.isEmpty && Builtin.List.listTooLong (its.toArray.size + its2.toArray.size)) = true := by
    rw [notLongL hsz, Bool.and_false]
    exact Bool.false_ne_true
  refine call_meets F.slot_list_extend ⟨_, e, rfl⟩ F.entry_list_extend (F.args_list_extend_2 _ _)
    (list_extendW l its.toArray n b its2.toArray n2 none sl2 hlong (by rw [List.size_toArray]; omega) (by omega)) ⟨e, e2, ?_⟩
  refine ⟨.non, _, I.lset (its' := its ++ its2) hH e (by simp) (r.append r2) ?_, rfl, q⟩
  rw [List.length_append]
  omega
end
section
variable {K : PySem.W.Frag}
theorem mok_extend : Mok K .extend (rExtS K) := by
  intro H w l a vs d d' z ds Q e c r hm g
  unfold mtd at hm
  split at hm <;> first | cases hm | skip
  all_goals first | (exfalso; simp_all; done) | skip
  cases c with
  | lst n rr =>
    cases r with
    | cons r1 r2 =>
      cases r2
      split at hm
      · rename_i hl
        cases hm
        cases r1 with
        | lst nd ra => exact ⟨a, _, _, _, rfl, rfl, n, nd.sq, by rw [rr.length, ra.length]; exact hl, g _ _ (fun b hb => upd_ne hb) (.lst upd_same ((rr.mono (sty_own e)).append (ra.mono (sty_own e)))) .non⟩
      · cases hm
theorem mok_pop0 : Mok K .pop0 rPop := by
  intro H w l a vs d d' z ds Q e c r hm g
  unfold mtd at hm
  split at hm <;> first | cases hm | skip
  all_goals first | (exfalso; simp_all; done) | skip
  cases c with
  | lst n rr =>
    cases r
    split at hm
    · rename_i y hy
      cases hm
      obtain ⟨v, hv, rv⟩ := rr.get hy
      rw [← rr.length] at hv
      exact ⟨a, _, v, rfl, rfl, n, hv, g _ _ (fun b hb => upd_ne hb) (.lst upd_same ((rr.mono (sty_own e)).dropLast)) (Rp.mono (sty_own e) rv)⟩
    · cases hm
theorem mok_reverse : Mok K .reverse rReverse := by
  intro H w l a vs d d' z ds Q e c r hm g
  unfold mtd at hm
  split at hm <;> first | cases hm | skip
  all_goals first | (exfalso; simp_all; done) | skip
  cases c with
  | lst n rr =>
    cases r
    exact ⟨a, _, rfl, rfl, n, g _ _ (fun b hb => upd_ne hb) (.lst upd_same ((rr.mono (sty_own e)).reverse)) .non⟩
theorem mok_clear : Mok K .clear rClear := by
  intro H w l a vs d d' z ds Q e c r hm g
  unfold mtd at hm
  split at hm <;> first | cases hm | skip
  all_goals first | (exfalso; simp_all; done) | skip
  cases c with
  | lst n rr =>
    cases r
    exact ⟨a, _, rfl, rfl, n, g _ _ (fun b hb => upd_ne hb) (.lst upd_same .nil) .non⟩
end
end PD

/-! PD6c: calls of methods and of defs. -/
namespace PD
open PySem PySem.Spec PyProof.Rows L2
def rIns : V → List V → Hp → VK → Prop := fun x vs H Q => ∃ (l : Addr) (xs : List V) (i : Int) (y : V), x = .ref l ∧ vs = [.int i, y] ∧ H l = some (.lst xs) ∧ xs.length < sizeLine ∧ 0 ≤ i ∧ i < 2 ^ 63 ∧ Q .non (upd H l (.lst (xs.take i.toNat ++ [y] ++ xs.drop i.toNat)))
section
variable {K : PySem.W.Frag} {H H' : Hp} {w w' : Wh} {μ : Nat → Option V} {σ : L2.St} {e e' : En} {n m : Nat} {v : V} {d d' : D}
theorem mok_insert : Mok K .insert rIns := by
  intro H w l a vs d d' z ds Q e c r hm g
  unfold mtd at hm
  split at hm <;> first | cases hm | skip
  all_goals first | (exfalso; simp_all; done) | skip
  cases c with
  | lst n rr =>
    cases r with
    | cons r1 r2 =>
      cases r2 with
      | cons r2 r3 =>
        cases r3
        split at hm
        · rename_i hl
          cases hm
          cases r1
          refine ⟨a, _, _, _, rfl, rfl, n, by rw [rr.length]; exact hl.1, hl.2.1, hl.2.2, g _ _ (fun b hb => upd_ne hb) (.lst upd_same ?_) .non⟩
          have rr' := rr.mono (sty_own (o := .lst []) e)
          exact ((((rr.mono (sty_own e)).take _).append (.cons (Rp.mono (sty_own e) r2) .nil)).append ((rr.mono (sty_own e)).drop _))
        · cases hm
theorem rp_erase {H : Hp} {w : Wh} : ∀ {vs : List V} {ds : List D} (i : Nat), RpAll K H w vs ds → RpAll K H w (vs.eraseIdx i) (ds.eraseIdx i)
  | _, _, _, .nil => .nil
  | _, _, 0, .cons _ b => b
  | _, _, i + 1, .cons a b => .cons a (rp_erase i b)
theorem mok_popA : Mok K .popA rPopAt := by
  intro H w l a vs d d' z ds Q e c r hm g
  unfold mtd at hm
  split at hm <;> first | cases hm | skip
  all_goals first | (exfalso; simp_all; done) | skip
  cases c with
  | lst n rr =>
    cases r with
    | cons r1 r2 =>
      cases r2
      split at hm
      · rename_i hi
        split at hm
        · rename_i y hy
          cases hm
          cases r1
          obtain ⟨v, hv, rv⟩ := rr.get hy
          have h0 := hi.1
          refine ⟨a, _, _, _, v, rfl, rfl, n, Int.le_trans (by decide) h0, hi.2, ?_, hv, g _ _ (fun b hb => upd_ne hb) (.lst upd_same (rp_erase _ (rr.mono (sty_own e)))) (Rp.mono (sty_own e) rv)⟩
          have hlt := (List.getElem?_eq_some_iff.mp hv).1
          unfold seqIndex?
          simp only []
          rw [if_neg (Int.not_lt.mpr h0), if_pos]
          rw [Bool.and_eq_true, decide_eq_true_eq, decide_eq_true_eq]
          omega
        · cases hm
      · cases hm
/-- a slot's own thing is changed -/
theorem env_own {i : Nat} {a : Addr} {o : O} (er : EnvR K H w μ σ e) (hi : e[i]? = some (some ⟨o, d⟩)) (ho : o ≠ .sh) (hσ : σ[i]? = some (some (.ref a))) (hw : w a = some (.slot i)) (hk : ∀ b, b ≠ a → H' b = H b) (c : Cn K H' w a d') (s : Sty H w H' w) :
    EnvR K H' w μ σ (e.set i (some ⟨o, d'⟩)) := by
  refine ⟨by rw [List.length_set]; exact er.len, fun j o2 d2 h => ?_⟩
  by_cases hj : j = i
  · subst hj
    have hl : j < e.length := (List.getElem?_eq_some_iff.mp hi).1
    rw [List.getElem?_set_self hl] at h
    cases h
    obtain ⟨v, h1, h2, h3⟩ := er.at_ j _ _ hi
    have ev : v = .ref a := by
      rw [h1] at hσ
      exact Option.some.inj (Option.some.inj hσ)
    subst ev
    refine ⟨_, h1, ?_, h3⟩
    cases o with
    | sh => exact absurd rfl ho
    | own => exact ⟨a, rfl, hw, c⟩
    | mu => exact ⟨a, rfl, hw, c⟩
  · rw [List.getElem?_set_ne (Ne.symm hj)] at h
    obtain ⟨v, h1, h2, h3⟩ := er.at_ j o2 d2 h
    refine ⟨v, h1, h2.mono s fun b hb => ⟨hb, hk b fun z => ?_⟩, h3⟩
    rw [z, hw] at hb
    injection hb with hb
    injection hb with hb
    exact hj hb.symm
theorem Aft.own {H1 : Hp} {w1 : Wh} {e1 : En} {i : Nat} {a : Addr} {o : O} (A : Aft K n μ σ e1 H w H1 w1) (hi : e1[i]? = some (some ⟨o, d⟩)) (ho : o ≠ .sh) (hσ : σ[i]? = some (some (.ref a))) (hw : w1 a = some (.slot i))
    (u : HO) (c : Cn K (upd H1 a u) w1 a d') : Aft K n μ σ (e1.set i (some ⟨o, d'⟩)) H w (upd H1 a u) w1 := by
  have s := sty_own (H := H1) (o := u) hw
  refine ⟨A.stp.trans ⟨s, fun _ _ _ => Iff.rfl, fun b l k hb => ?_⟩, A.wf.put (cn_nt c), env_own A.env hi ho hσ hw (fun b hb => upd_ne hb) c s⟩
  · refine upd_ne fun z => ?_
    rw [z, hw] at hb
    cases hb
    exact k
theorem isL_at {i : Nat} (h : isL e i = true) : ∃ o ds, e[i]? = some (some ⟨o, .list ds⟩) ∧ o ≠ .sh := by
  unfold isL at h
  split at h
  · rename_i ds hs; exact ⟨_, ds, hs, by intro z; cases z⟩
  · rename_i ds hs; exact ⟨_, ds, hs, by intro z; cases z⟩
  · cases h
/-- what a slot that is not shared holds -/
theorem own_at {i : Nat} {o : O} (er : EnvR K H w μ σ e) (hi : e[i]? = some (some ⟨o, d⟩)) (ho : o ≠ .sh) : ∃ a, σ[i]? = some (some (.ref a)) ∧ w a = some (.slot i) ∧ Cn K H w a d := by
  obtain ⟨v, h1, h2, _⟩ := er.at_ i o d hi
  cases o with
  | sh => exact absurd rfl ho
  | own => obtain ⟨a, e, f, c⟩ := h2; subst e; exact ⟨a, h1, f, c⟩
  | mu => obtain ⟨a, e, f, c⟩ := h2; subst e; exact ⟨a, h1, f, c⟩
end
section
variable {X : Cx} {F : List Fn} {a b c : Expr} {ia ib ic : IE} {it iu : IT} {pos apos cpos p1 : Pos} {es : List Expr} {ies : List IE}
theorem mt_in {m : Mt} {r : V → List V → Hp → VK → Prop} {i : Nat} (mo : Mok X.K m r) (σ : L2.St) (H : Hp) (Q : VK) (q : teE X.K F (.mt m i ies) σ H Q) :
    ∃ v, σ[i]? = some (some v) ∧ tyV X.K "list" v H ∧ teA X.K F ies σ H fun xs H2 => r v xs H2 Q := by
  obtain ⟨n, w, μ, e, z, e', wf, er, ev, k⟩ := q
  unfold evE at ev
  split at ev
  · rename_i hL
    obtain ⟨o0, ds0, hi0, ho0⟩ := isL_at hL
    obtain ⟨a0, hσ, hw0, c0⟩ := own_at er hi0 ho0
    refine ⟨_, hσ, ?_, ?_⟩
    · cases c0 with
      | lst h _ => exact .inl ⟨rfl, _, SqL.of h⟩
    · obtain ⟨xs, e1, h1, ev⟩ := Rs.bind_ok ev
      refine ⟨n, w, μ, e, xs, e1, wf, er, h1, fun vs H1 w1 a1 an => ?_⟩
      split at ev
      · rename_i ds e2 hfz
        obtain ⟨w2, a2, rp⟩ := a1.fzs an (Nat.le_refl n) hfz
        split at ev
        · cases ev
        · rename_i o d hns hi
          split at ev
          · rename_i d' r' hm
            cases ev
            have ho : o ≠ .sh := fun z => hns z
            obtain ⟨a, hσ2, hw, c⟩ := own_at a2.env hi ho
            have ea : a = a0 := by
              rw [hσ] at hσ2
              injection hσ2 with q
              injection q with q
              injection q with q
              exact q.symm
            subst ea
            exact mo H1 w2 (.slot i) a vs d d' r' ds Q hw c rp hm fun v u hu cn rv => k v _ w2 (a2.own hi ho hσ2 hw u cn) rv
          · cases ev
        · cases ev
      · cases ev
  · cases ev
theorem se_mt {m : Mt} {r : V → List V → Hp → VK → Prop} {i : Nat} {x name : Str} {id : String} (mo : Mok X.K m r) (hx : PE X (.Name x p1) (tVar i)) (slot : Slot "list" name id) (hty : typeOf (.builtin id) = pure (.type "method_descriptor")) (hm : MtR X id r) (ha : PA X (a :: es) (teA X.K F ies))
    (hfew : ((backTo cpos (starEach (a :: es) X.env)).all (fun x => !x.1) && (backToKw cpos (keywordEach [] X.env)).all (fun x => x.1.isSome)
      && decide ((a :: es).length + ([] : List Keyword).length + (if ([] : List Keyword).isEmpty then 0 else 1) < 30)) = true)
    (hline : (apos.endLine == cpos.line) = true) (hs : starEach (a :: es) X.env = (false, eval a X.env) :: starEach es X.env) (hplain : (backTo cpos (starEach es X.env)).any (·.1) = false) :
    PE X (.Call (.Attribute (.Name x p1) name apos) (a :: es) [] cpos) (teE X.K F (.mt m i ies)) := by
  refine (pe_bm PySem.F.plainAttrs_list slot hty hm hx ha (by rfl) hfew hline hs hplain).imp fun σ H Q q => ?_
  obtain ⟨v, h1, h2, h3⟩ := mt_in mo σ H Q q
  exact ⟨v, h1, h2, h3⟩
theorem se_mt0 {m : Mt} {r : V → List V → Hp → VK → Prop} {i : Nat} {x name : Str} {id : String} (mo : Mok X.K m r) (hx : PE X (.Name x p1) (tVar i)) (slot : Slot "list" name id) (hty : typeOf (.builtin id) = pure (.type "method_descriptor")) (hm : MtR X id r)
    (hline : (apos.endLine == cpos.line) = true) : PE X (.Call (.Attribute (.Name x p1) name apos) [] [] cpos) (teE X.K F (.mt m i [])) := by
  refine (pe_bm0 PySem.F.plainAttrs_list slot hty hm hx (by rfl) hline).imp fun σ H Q q => ?_
  obtain ⟨v, h1, h2, n, w, μ, e, as, e', wf, er, ev, k⟩ := mt_in mo σ H Q q
  refine ⟨v, h1, h2, ?_⟩
  cases ev
  exact k [] H w (.refl wf er) (.nil n)
end
end PD

/-! PD6d: the call of a def. -/
namespace PD
open PySem PySem.Spec PyProof.Rows L2
inductive ArgR (K : PySem.W.Frag) (H : Hp) (w : Wh) : Nat → List Bool → List V → List D → Prop
  | nil (j : Nat) : ArgR K H w j [] [] []
  | ro {j : Nat} {ms : List Bool} {v : V} {vs : List V} {d : D} {ds : List D} : Rp K H w v d → ArgR K H w (j + 1) ms vs ds → ArgR K H w j (false :: ms) (v :: vs) (d :: ds)
  | mu {j : Nat} {ms : List Bool} {v : V} {vs : List V} {d : D} {ds : List D} : Ow K H w (.slot j) v d → ArgR K H w (j + 1) ms vs ds → ArgR K H w j (true :: ms) (v :: vs) (d :: ds)
inductive MsR (K : PySem.W.Frag) (H : Hp) (w : Wh) : Nat → List Bool → List V → List D → Prop
  | nil (j : Nat) : MsR K H w j [] [] []
  | ro {j : Nat} {ms : List Bool} {v : V} {vs : List V} {ds : List D} : MsR K H w (j + 1) ms vs ds → MsR K H w j (false :: ms) (v :: vs) ds
  | mu {j : Nat} {ms : List Bool} {v : V} {vs : List V} {d : D} {ds : List D} : Ow K H w (.slot j) v d → MsR K H w (j + 1) ms vs ds → MsR K H w j (true :: ms) (v :: vs) (d :: ds)
/-- the promise of a def: what its pure sense says -/
def spF (K : PySem.W.Frag) (f : Fn) : Sp := fun vs H Q E => ∃ w ds, Wf H w ∧ ArgR K H w 0 f.modes vs ds ∧ match f.sem ds with
  | .ok fr d ms => ∀ v H' w', Stp (keepE 0) H w H' w' → Wf H' w' → AnsR K 0 H' w' [] v (.val fr d) → MsR K H' w' 0 f.modes vs ms → Q v H'
  | _ => False
/-! labels there and back -/
def toC (al : List (Nat × Nat)) (le : List Nat) : Lab → Option Lab
  | .slot i => if i ∈ le then none else match al.lookup i with
    | some j => some (.slot j)
    | none => some (.out (.slot i))
  | l => some (.out l)
def fromC (n : Nat) (al : List (Nat × Nat)) : Lab → Option Lab
  | .out l => some l
  | .slot j => (al.find? fun p => p.2 == j).map fun p => .slot p.1
  | .tmp m => if m = 0 then some (.tmp n) else none
/-- no place twice -/
def Nd1 : List (Nat × Nat) → Prop
  | [] => True
  | p :: ps => (ps.any fun q => q.1 == p.1) = false ∧ Nd1 ps
theorem nd1_lookup : ∀ {al : List (Nat × Nat)}, Nd1 al → ∀ p ∈ al, al.lookup p.1 = some p.2
  | [], _, p, h => by cases h
  | q :: qs, nd, p, h => by
    obtain ⟨q1, q2⟩ := q
    rcases List.mem_cons.mp h with h | h
    · subst h
      simp [List.lookup]
    · have ih := nd1_lookup nd.2 p h
      have ne : (p.1 == q1) = false := by
        have h1 := nd.1
        rw [List.any_eq_false] at h1
        have h2 := h1 p h
        simpa using h2
      simp only [List.lookup, ne]
      exact ih
/-- no parameter twice -/
theorem argA_ge : ∀ {j : Nat} {ms : List Bool} {as : List Ans} {e : En} {ds : List D} {al : List (Nat × Nat)} {le : List Nat}, argA j ms as e = some (ds, al, le) → Nd1 al ∧ ∀ p ∈ al, j ≤ p.2
  | j, [], [], e, ds, al, le, h => by
    simp only [argA] at h
    cases h
    exact ⟨trivial, fun p h => by cases h⟩
  | j, m :: ms, a :: as, e, ds, al, le, h => by
    simp only [argA] at h
    cases h1 : argA (j + 1) ms as e with
    | none => rw [h1] at h; cases h
    | some t =>
      obtain ⟨ds1, al1, le1⟩ := t
      obtain ⟨nd, ge⟩ := argA_ge h1
      rw [h1] at h
      cases m with
      | false =>
        cases a with
        | val f d => simp only at h; cases h; exact ⟨nd, fun p hp => Nat.le_of_succ_le (ge p hp)⟩
        | pl i =>
          simp only at h
          split at h
          · cases h; exact ⟨nd, fun p hp => Nat.le_of_succ_le (ge p hp)⟩
          · cases h
      | true =>
        cases a with
        | val f d => simp only at h; cases h
        | pl i =>
          simp only at h
          split at h
          · cases h
          · split at h
            · cases h
            · rename_i hn
              cases h
              refine ⟨⟨Bool.eq_false_iff.mpr hn, nd⟩, fun p hp => ?_⟩
              rcases List.mem_cons.mp hp with rfl | hp
              · exact Nat.le_refl _
              · exact Nat.le_of_succ_le (ge p hp)
          · cases h
  | _, [], _ :: _, _, _, _, _, h => by simp [argA] at h
  | _, _ :: _, [], _, _, _, _, h => by simp [argA] at h
section
variable {K : PySem.W.Frag} {H : Hp} {w : Wh} {μ : Nat → Option V} {σ : L2.St} {e : En}
theorem toC_sty {al : List (Nat × Nat)} {le : List Nat} : Sty H w H (fun a => (w a).bind (toC al le)) := fun a o h e => ⟨h, by show (w a).bind _ = none; rw [e]; rfl⟩
theorem argA_ok {AL : List (Nat × Nat)} {LE : List Nat} (er : EnvR K H w μ σ e) (hl : ∀ p ∈ AL, AL.lookup p.1 = some p.2) (hm : ∀ p ∈ AL, p.1 ∉ LE) :
    ∀ {j : Nat} {ms : List Bool} {as : List Ans} {us : List V} {ds : List D} {al : List (Nat × Nat)} {le : List Nat}, argA j ms as e = some (ds, al, le) → (∀ p ∈ al, p ∈ AL) → (∀ i ∈ le, i ∈ LE) → Paired (AnsS K H w σ) us as →
      ArgR K H (fun a => (w a).bind (toC AL LE)) j ms us ds
  | j, [], [], _, ds, al, le, h, _, _, .nil => by
    simp only [argA] at h
    cases h
    exact .nil j
  | j, m :: ms, a :: as, _, ds, al, le, h, sa, sl, .cons (a := u) (l₁ := us) pa pr => by
    simp only [argA] at h
    cases h1 : argA (j + 1) ms as e with
    | none => rw [h1] at h; cases h
    | some t =>
      obtain ⟨ds1, al1, le1⟩ := t
      rw [h1] at h
      cases m with
      | false =>
        cases a with
        | val f d =>
          simp only at h
          cases h
          exact .ro (Rp.mono toC_sty pa) (argA_ok er hl hm h1 sa sl pr)
        | pl i =>
          simp only at h
          split at h
          · rename_i s hs
            cases h
            obtain ⟨o, d⟩ := s
            refine .ro ?_ (argA_ok er hl hm h1 sa (fun x hx => sl x (List.mem_cons_of_mem _ hx)) pr)
            have hi : i ∈ LE := sl i List.mem_cons_self
            obtain ⟨v, v1, v2, _⟩ := er.at_ i o d hs
            have ev : v = u := by
              have q : σ[i]? = some (some u) := pa
              rw [v1] at q
              exact Option.some.inj (Option.some.inj q)
            subst ev
            have ow : Ow K H w (.slot i) v d → Rp K H (fun a => (w a).bind (toC AL LE)) v d := fun ⟨a, e1, e2, c⟩ => by
              subst e1
              refine (c.mono toC_sty rfl).rp ?_
              show (w a).bind _ = none
              rw [e2]
              show (if i ∈ LE then none else _) = none
              rw [if_pos hi]
            cases o with
            | sh => exact Rp.mono toC_sty v2
            | own => exact ow v2
            | mu => exact ow v2
          · cases h
      | true =>
        cases a with
        | val f d => simp only at h; cases h
        | pl i =>
          simp only at h
          split at h
          · cases h
          · rename_i o d hns hs
            split at h
            · cases h
            · cases h
              refine .mu ?_ (argA_ok er hl hm h1 (fun x hx => sa x (List.mem_cons_of_mem _ hx)) sl pr)
              have hp : (i, j) ∈ AL := sa _ List.mem_cons_self
              obtain ⟨a, a1, a2, c⟩ := own_at er hs (fun z => hns z)
              have ev : u = .ref a := by
                have q : σ[i]? = some (some u) := pa
                rw [a1] at q
                exact (Option.some.inj (Option.some.inj q)).symm
              refine ⟨a, ev, ?_, c.mono toC_sty rfl⟩
              show (w a).bind _ = _
              rw [a2]
              show (if i ∈ LE then none else _) = _
              rw [if_neg (hm _ hp), hl _ hp]
          · cases h
  | _, [], _ :: _, _, _, _, _, h, _, _, _ => by simp [argA] at h
  | _, _ :: _, [], _, _, _, _, h, _, _, _ => by simp [argA] at h

/-- the slots but some -/
structure EnvX (S : Nat → Prop) (K : PySem.W.Frag) (H : Hp) (w : Wh) (μ : Nat → Option V) (σ : L2.St) (e : En) : Prop where
  len : σ.length = e.length
  at_ : ∀ i o d, ¬ S i → e[i]? = some (some ⟨o, d⟩) → ∃ v, σ[i]? = some (some v) ∧ RpO K H w (.slot i) o v d ∧ (o = .mu → μ i = some v)
/-- a changed parameter, at its place -/
def AlR (K : PySem.W.Frag) (H : Hp) (w : Wh) (σ : L2.St) (p : Nat × Nat) (m : D) : Prop := ∃ u, σ[p.1]? = some (some u) ∧ Ow K H w (.slot p.2) u m
theorem msR_al {H' : Hp} {w' : Wh} : ∀ {j : Nat} {ms : List Bool} {as : List Ans} {us : List V} {ds zs : List D} {al : List (Nat × Nat)} {le : List Nat}, argA j ms as e = some (ds, al, le) → Paired (AnsS K H w σ) us as → MsR K H' w' j ms us zs → Paired (AlR K H' w' σ) al zs
  | j, [], [], _, ds, zs, al, le, h, .nil, m => by
    simp only [argA] at h
    cases h
    cases m
    exact .nil
  | j, b :: ms, a :: as, _, ds, zs, al, le, h, .cons (a := u) (l₁ := us) pa pr, m => by
    simp only [argA] at h
    cases h1 : argA (j + 1) ms as e with
    | none => rw [h1] at h; cases h
    | some t =>
      obtain ⟨ds1, al1, le1⟩ := t
      rw [h1] at h
      cases m with
      | ro m =>
        cases a with
        | val f d => simp only at h; cases h; exact msR_al h1 pr m
        | pl i =>
          simp only at h
          split at h
          · cases h; exact msR_al h1 pr m
          · cases h
      | mu ow m =>
        cases a with
        | val f d => simp only at h; cases h
        | pl i =>
          simp only at h
          split at h
          · cases h
          · split at h
            · cases h
            · cases h
              exact .cons ⟨u, pa, ow⟩ (msR_al h1 pr m)
          · cases h
  | _, [], _ :: _, _, _, _, _, _, h, _, _ => by simp [argA] at h
  | _, _ :: _, [], _, _, _, _, _, h, _, _ => by simp [argA] at h
theorem putMs_ok {H' : Hp} {w4 : Wh} {S : Nat → Prop} : ∀ {al : List (Nat × Nat)} {zs : List D} {e e2 : En}, Paired (fun (p : Nat × Nat) (m : D) => ∃ u, σ[p.1]? = some (some u) ∧ Ow K H' w4 (.slot p.1) u m) al zs → EnvX (fun i => (∃ p ∈ al, p.1 = i) ∨ S i) K H' w4 μ σ e → (∀ p ∈ al, ∀ o d, e[p.1]? = some (some ⟨o, d⟩) → o ≠ .sh) →
    (∀ p ∈ al, ∀ o d v, e[p.1]? = some (some ⟨o, d⟩) → σ[p.1]? = some (some v) → o = .mu → μ p.1 = some v) → putMs al zs e = some e2 → EnvX S K H' w4 μ σ e2
  | [], _, e, e2, .nil, ex, _, _, h => by
    cases h
    exact ⟨ex.len, fun i o d hs => ex.at_ i o d (fun z => z.elim (fun ⟨p, hp, _⟩ => by cases hp) hs)⟩
  | p :: al, _, e, e2, .cons (b := m) (l₂ := zs) pa pr, ex, hn, hm, h => by
    simp only [putMs] at h
    split at h
    · rename_i s hs
      obtain ⟨o, d0⟩ := s
      have hl : p.1 < e.length := (List.getElem?_eq_some_iff.mp hs).1
      have ho : o ≠ .sh := hn p List.mem_cons_self o d0 hs
      refine putMs_ok pr ⟨by rw [List.length_set]; exact ex.len, fun i o2 d2 hS h2 => ?_⟩ (fun q hq o2 d2 h2 => ?_) (fun q hq o2 d2 v h2 hv => ?_) h
      · by_cases hi : i = p.1
        · subst hi
          rw [List.getElem?_set_self hl] at h2
          cases h2
          obtain ⟨u, u1, u2⟩ := pa
          refine ⟨u, u1, ?_, hm p List.mem_cons_self o d0 u hs u1⟩
          cases o with
          | sh => exact absurd rfl ho
          | own => exact u2
          | mu => exact u2
        · rw [List.getElem?_set_ne (Ne.symm hi)] at h2
          refine ex.at_ i o2 d2 (fun z => hS ?_) h2
          rcases z with ⟨q, hq, e1⟩ | z
          · rcases List.mem_cons.mp hq with rfl | hq
            · exact absurd e1.symm hi
            · exact .inl ⟨q, hq, e1⟩
          · exact .inr z
      · by_cases hi : q.1 = p.1
        · rw [hi, List.getElem?_set_self hl] at h2
          cases h2
          exact ho
        · rw [List.getElem?_set_ne (Ne.symm hi)] at h2
          exact hn q (List.mem_cons_of_mem _ hq) o2 d2 h2
      · by_cases hi : q.1 = p.1
        · rw [hi, List.getElem?_set_self hl] at h2
          cases h2
          rw [hi] at hv ⊢
          exact hm p List.mem_cons_self o d0 v hs hv
        · rw [List.getElem?_set_ne (Ne.symm hi)] at h2
          exact hm q (List.mem_cons_of_mem _ hq) o2 d2 v h2 hv
    · cases h
theorem shareAll_ok {H' : Hp} {w4 : Wh} : ∀ {le : List Nat} {e e2 : En}, EnvX (fun i => i ∈ le) K H' w4 μ σ e → (∀ i ∈ le, ∀ o d, e[i]? = some (some ⟨o, d⟩) → ∃ v, σ[i]? = some (some v) ∧ Rp K H' w4 v d) → shareAll le e = some e2 → EnvR K H' w4 μ σ e2
  | [], e, e2, ex, _, h => by
    cases h
    exact ⟨ex.len, fun i o d => ex.at_ i o d (by simp)⟩
  | i :: le, e, e2, ex, hn, h => by
    have fin : ∀ o d, e[i]? = some (some ⟨o, d⟩) → shareAll le (e.set i (some ⟨.sh, d⟩)) = some e2 → EnvR K H' w4 μ σ e2 := fun o d hs h => by
      have hl : i < e.length := (List.getElem?_eq_some_iff.mp hs).1
      refine shareAll_ok ⟨by rw [List.length_set]; exact ex.len, fun j o2 d2 hS h2 => ?_⟩ (fun j hj o2 d2 h2 => ?_) h
      · by_cases hi : j = i
        · subst hi
          rw [List.getElem?_set_self hl] at h2
          cases h2
          obtain ⟨v, v1, v2⟩ := hn j List.mem_cons_self o _ hs
          exact ⟨v, v1, v2, fun z => by cases z⟩
        · rw [List.getElem?_set_ne (Ne.symm hi)] at h2
          exact ex.at_ j o2 d2 (fun z => (List.mem_cons.mp z).elim hi hS) h2
      · by_cases hi : j = i
        · subst hi
          rw [List.getElem?_set_self hl] at h2
          cases h2
          exact hn j List.mem_cons_self o _ hs
        · rw [List.getElem?_set_ne (Ne.symm hi)] at h2
          exact hn j (List.mem_cons_of_mem _ hj) o2 d2 h2
    simp only [shareAll] at h
    split at h
    · cases h
    · rename_i o d _ hs
      exact fin o d hs h
    · cases h
end
end PD

/-! PD6e: the call of a def, whole. -/
namespace PD
open PySem PySem.Spec PyProof.Rows L2
theorem Wf.keepd {H H' : Hp} {w : Wh} (wf : Wf H w) (k : ∀ a, w a ≠ none → H' a = H a) : Wf H' w :=
  ⟨fun a h => Classical.byContradiction fun q => q (wf.nn a ((k a q).symm.trans h)), fun a xs h => Classical.byContradiction fun q => q (wf.nt a xs ((k a q).symm.trans h))⟩
theorem isSc_rp {K : PySem.W.Frag} {H H' : Hp} {w w' : Wh} {v : V} {d : D} {f : Bool} {n : Nat} {σ : L2.St} (hs : isSc d = true) (h : AnsR K n H w σ v (.val f d)) : Rp K H' w' v d := by
  have rr : Rr K H w v d := by
    cases f with
    | false => exact .inl h
    | true => obtain ⟨a, e, _, c⟩ := h; exact .inr ⟨a, e, c⟩
  cases d with
  | none => obtain rfl := rr.non; exact .non
  | bool b => obtain rfl := rr.bl; exact .bl b
  | int i => obtain rfl := rr.int; exact .int i
  | str x => obtain rfl := rr.str; exact .str x
  | _ => simp [isSc] at hs
theorem argA_at : ∀ {j : Nat} {ms : List Bool} {as : List Ans} {e : En} {ds : List D} {al : List (Nat × Nat)} {le : List Nat}, argA j ms as e = some (ds, al, le) → ∀ p ∈ al, ∀ o d, e[p.1]? = some (some ⟨o, d⟩) → o ≠ .sh
  | j, [], [], e, ds, al, le, h => by
    simp only [argA] at h
    cases h
    intro p h; cases h
  | j, m :: ms, a :: as, e, ds, al, le, h => by
    simp only [argA] at h
    cases h1 : argA (j + 1) ms as e with
    | none => rw [h1] at h; cases h
    | some t =>
      obtain ⟨ds1, al1, le1⟩ := t
      have ih := argA_at h1
      rw [h1] at h
      cases m with
      | false =>
        cases a with
        | val f d => simp only at h; cases h; exact ih
        | pl i =>
          simp only at h
          split at h
          · cases h; exact ih
          · cases h
      | true =>
        cases a with
        | val f d => simp only at h; cases h
        | pl i =>
          simp only at h
          split at h
          · cases h
          · rename_i o d hns hs
            split at h
            · cases h
            · cases h
              intro p hp o2 d2 h2
              rcases List.mem_cons.mp hp with rfl | hp
              · rw [hs] at h2
                cases h2
                exact fun z => hns z
              · exact ih p hp o2 d2 h2
          · cases h
  | _, [], _ :: _, _, _, _, _, h => by simp [argA] at h
  | _, _ :: _, [], _, _, _, _, h => by simp [argA] at h
theorem fromC_find {n : Nat} {al : List (Nat × Nat)} (nd : ∀ p ∈ al, ∀ q ∈ al, p.2 = q.2 → p = q) (p : Nat × Nat) (hp : p ∈ al) : fromC n al (.slot p.2) = some (.slot p.1) := by
  show ((al.find? fun q => q.2 == p.2).map fun q => Lab.slot q.1) = _
  cases h : al.find? fun q => q.2 == p.2 with
  | none =>
    rw [List.find?_eq_none] at h
    exact absurd (by simp) (h p hp)
  | some q =>
    have h1 := List.find?_some h
    have h2 := List.mem_of_find?_eq_some h
    have : q = p := nd q h2 p hp (by simpa using h1)
    subst this
    rfl
theorem argA_inj : ∀ {j : Nat} {ms : List Bool} {as : List Ans} {e : En} {ds : List D} {al : List (Nat × Nat)} {le : List Nat}, argA j ms as e = some (ds, al, le) → ∀ p ∈ al, ∀ q ∈ al, p.2 = q.2 → p = q
  | j, [], [], e, ds, al, le, h => by
    simp only [argA] at h
    cases h
    intro p h; cases h
  | j, m :: ms, a :: as, e, ds, al, le, h => by
    simp only [argA] at h
    cases h1 : argA (j + 1) ms as e with
    | none => rw [h1] at h; cases h
    | some t =>
      obtain ⟨ds1, al1, le1⟩ := t
      have ih := argA_inj h1
      have ge := (argA_ge h1).2
      rw [h1] at h
      cases m with
      | false =>
        cases a with
        | val f d => simp only at h; cases h; exact ih
        | pl i =>
          simp only at h
          split at h
          · cases h; exact ih
          · cases h
      | true =>
        cases a with
        | val f d => simp only at h; cases h
        | pl i =>
          simp only at h
          split at h
          · cases h
          · split at h
            · cases h
            · cases h
              intro p hp q hq e
              rcases List.mem_cons.mp hp with rfl | hp
              · rcases List.mem_cons.mp hq with rfl | hq
                · rfl
                · have := ge q hq
                  exact absurd e (by show ¬ j = q.2; omega)
              · rcases List.mem_cons.mp hq with rfl | hq
                · have := ge p hp
                  exact absurd e (by show ¬ p.2 = j; omega)
                · exact ih p hp q hq e
          · cases h
  | _, [], _ :: _, _, _, _, _, h => by simp [argA] at h
  | _, _ :: _, [], _, _, _, _, h => by simp [argA] at h
theorem argA_le : ∀ {j : Nat} {ms : List Bool} {as : List Ans} {e : En} {ds : List D} {al : List (Nat × Nat)} {le : List Nat}, argA j ms as e = some (ds, al, le) → ∀ i ∈ le, ∃ s, e[i]? = some (some s)
  | j, [], [], e, ds, al, le, h => by
    simp only [argA] at h
    cases h
    intro p h; cases h
  | j, m :: ms, a :: as, e, ds, al, le, h => by
    simp only [argA] at h
    cases h1 : argA (j + 1) ms as e with
    | none => rw [h1] at h; cases h
    | some t =>
      obtain ⟨ds1, al1, le1⟩ := t
      have ih := argA_le h1
      rw [h1] at h
      cases m with
      | false =>
        cases a with
        | val f d => simp only at h; cases h; exact ih
        | pl i =>
          simp only at h
          split at h
          · rename_i s hs
            cases h
            intro k hk
            rcases List.mem_cons.mp hk with rfl | hk
            · exact ⟨s, hs⟩
            · exact ih k hk
          · cases h
      | true =>
        cases a with
        | val f d => simp only at h; cases h
        | pl i =>
          simp only at h
          split at h
          · cases h
          · split at h
            · cases h
            · cases h; exact ih
          · cases h
  | _, [], _ :: _, _, _, _, _, h => by simp [argA] at h
  | _, _ :: _, [], _, _, _, _, h => by simp [argA] at h
theorem putMs_other {K : PySem.W.Frag} : ∀ {al : List (Nat × Nat)} {zs : List D} {e e2 : En} {i : Nat}, (∀ p ∈ al, p.1 ≠ i) → putMs al zs e = some e2 → e2[i]? = e[i]?
  | [], [], e, e2, i, _, h => by cases h; rfl
  | p :: al, z :: zs, e, e2, i, hn, h => by
    simp only [putMs] at h
    split at h
    · rw [putMs_other (K := K) (fun q hq => hn q (List.mem_cons_of_mem _ hq)) h, List.getElem?_set_ne (hn p List.mem_cons_self)]
    · cases h
  | [], _ :: _, _, _, _, _, h => by cases h
  | _ :: _, [], _, _, _, _, h => by cases h
section
variable {K : PySem.W.Frag} {H H1 : Hp} {w w1 : Wh} {μ : Nat → Option V} {σ : L2.St} {e1 e' : En} {n : Nat}
/-- a call, from the caller's side -/
theorem callA_in {f : Fn} {as : List Ans} {us : List V} {z : Ans} {Q : VK} {E : XK} (wf : Wf H w) (er : EnvR K H w μ σ e1) (an : Paired (AnsS K H w σ) us as) (hc : callA f as e1 = .ok z e')
    (k : ∀ v H' w', Aft K n μ σ e' H w H' w' → AnsR K n H' w' σ v z → Q v H') : spF K f us H Q E := by
  unfold callA at hc
  split at hc
  · rename_i ds al le ha
    obtain ⟨nd, _⟩ := argA_ge ha
    split at hc
    · rename_i hmix
      have hmix' : ∀ p ∈ al, p.1 ∉ le := fun p hp hi => by
        unfold noMix at hmix
        rw [List.all_eq_true] at hmix
        have := hmix _ hi
        simp only [Bool.not_eq_true', List.any_eq_false] at this
        exact this p hp (by simp)
      have AR := argA_ok er (nd1_lookup nd) hmix' ha (fun _ h => h) (fun _ h => h) an
      have wf3 : Wf H (fun a => (w a).bind (toC al le)) := wf.map fun a h => by show (w a).bind _ = none; rw [h]; rfl
      refine ⟨_, ds, wf3, AR, ?_⟩
      have outK : ∀ a l, keepE n l → w a = some l → (w a).bind (toC al le) = some (.out l) := fun a l kl h => by
        rw [h]
        cases l with
        | slot i => exact kl.elim
        | tmp m => rfl
        | out l => rfl
      split at hc
      · rename_i fr d ms hsem
        rw [hsem]
        intro v H' w' st wf' anr msr
        split at hc
        · rename_i e2 hput
          split at hc
          · rename_i hkeep
            rw [Bool.and_eq_true] at hkeep
            have hal : al = [] := by simpa using hkeep.2
            subst hal
            have e12 : e2 = e1 := by
              cases ms with
              | nil => cases hput; rfl
              | cons _ _ => cases hput
            subst e12
            cases hc
            have keepH : ∀ a, w a ≠ none → H' a = H a := fun a h => by
              cases hw : w a with
              | none => exact absurd hw h
              | some l =>
                cases hb : (w a).bind (toC [] le) with
                | none =>
                  cases hH : H a with
                  | none => exact absurd (wf a hH) h
                  | some o => exact (st.sh a o hH hb).1
                | some l2 =>
                  refine st.kh a l2 ?_ hb
                  rw [hw] at hb
                  cases l with
                  | slot i =>
                    have hb' : (if i ∈ le then none else some (Lab.out (.slot i))) = some l2 := hb
                    split at hb'
                    · cases hb'
                    · cases hb'; trivial
                  | tmp m => cases hb; trivial
                  | out l => cases hb; trivial
            have sty : Sty H w H' w := fun a o h0 h1 => ⟨(st.sh a o h0 (by show (w a).bind _ = none; rw [h1]; rfl)).1, h1⟩
            refine k v H' w ⟨⟨sty, fun _ _ _ => Iff.rfl, fun a l _ h => keepH a (by rw [h]; intro z; cases z)⟩, wf.keepd keepH, ?_⟩ (isSc_rp hkeep.1 anr)
            · exact ⟨er.len, fun i o d h => let ⟨v, v1, v2, v3⟩ := er.at_ i o d h
                ⟨v, v1, v2.mono sty fun a ha => ⟨ha, keepH a (by rw [ha]; intro z; cases z)⟩, v3⟩⟩
          · split at hc
            · rename_i e3 hsh
              cases hc
              let w4 : Wh := fun a => (w' a).bind (fromC n al)
              have styR : Sty H' w' H' w4 := fun a o h0 h1 => ⟨h0, by show (w' a).bind _ = none; rw [h1]; rfl⟩
              have sty : Sty H w H' w4 := fun a o h0 h1 => by
                obtain ⟨h2, h3⟩ := st.sh a o h0 (by show (w a).bind _ = none; rw [h1]; rfl)
                exact styR a o h2 h3
              have outB : ∀ a l, w' a = some (.out l) → w4 a = some l := fun a l h => by show (w' a).bind _ = _; rw [h]; rfl
              have al_in : ∀ j i, fromC n al (.slot j) = some (.slot i) → ∃ p ∈ al, p.1 = i := fun j i h => by
                have h' : ((al.find? fun p => p.2 == j).map fun p => Lab.slot p.1) = some (.slot i) := h
                cases hf : al.find? fun p => p.2 == j with
                | none => rw [hf] at h'; cases h'
                | some p =>
                  rw [hf] at h'
                  injection h' with h'
                  injection h' with h'
                  exact ⟨p, List.mem_of_find?_eq_some hf, h'⟩
              have stp : Stp (keepE n) H w H' w4 := by
                refine ⟨sty, fun a l kl => ⟨fun h => ?_, fun h => outB a l ((st.kp a (.out l) trivial).mpr (outK a l kl h))⟩, fun a l kl h => st.kh a (.out l) trivial (outK a l kl h)⟩
                have h' : (w' a).bind (fromC n al) = some l := h
                cases hw : w' a with
                | none => rw [hw] at h'; cases h'
                | some l0 =>
                  rw [hw] at h'
                  cases l0 with
                  | slot j =>
                    have h2 : ((al.find? fun p => p.2 == j).map fun p => Lab.slot p.1) = some l := h'
                    cases hf : al.find? fun p => p.2 == j with
                    | none => rw [hf] at h2; cases h2
                    | some p => rw [hf] at h2; cases h2; exact kl.elim
                  | tmp m =>
                    have h2 : (if m = 0 then some (Lab.tmp n) else none) = some l := h'
                    split at h2
                    · cases h2; exact absurd kl (Nat.lt_irrefl _)
                    · cases h2
                  | out l' =>
                    cases h'
                    have h3 := (st.kp a (.out l) trivial).mp hw
                    have h3' : (w a).bind (toC al le) = some (.out l) := h3
                    cases hw0 : w a with
                    | none => rw [hw0] at h3'; cases h3'
                    | some l1 =>
                      rw [hw0] at h3'
                      cases l1 with
                      | slot i =>
                        have h4 : (if i ∈ le then none else match al.lookup i with
                          | some j => some (Lab.slot j)
                          | none => some (.out (.slot i))) = some (.out l) := h3'
                        split at h4
                        · cases h4
                        · split at h4
                          · cases h4
                          · cases h4; exact kl.elim
                      | tmp m => cases h3'; rfl
                      | out l => cases h3'; rfl
              have wf4 : Wf H' w4 := wf'.map fun a h => by show (w' a).bind _ = none; rw [h]; rfl
              have ex : EnvX (fun i => (∃ p ∈ al, p.1 = i) ∨ i ∈ le) K H' w4 μ σ e1 := by
                refine ⟨er.len, fun i o d hS h => ?_⟩
                obtain ⟨v, v1, v2, v3⟩ := er.at_ i o d h
                refine ⟨v, v1, v2.mono sty fun a ha => ?_, v3⟩
                have hi : i ∉ le := fun z => hS (.inr z)
                have hlk : al.lookup i = none := by
                  cases hl : al.lookup i with
                  | none => rfl
                  | some j =>
                    exfalso
                    obtain ⟨l1, l2, e3, _⟩ := List.lookup_eq_some_iff.mp hl
                    exact hS (.inl ⟨(i, j), by rw [e3]; simp, rfl⟩)
                have h3 : (w a).bind (toC al le) = some (.out (.slot i)) := by
                  rw [ha]
                  show (if i ∈ le then none else match al.lookup i with
                    | some j => some (Lab.slot j)
                    | none => some (.out (.slot i))) = _
                  rw [if_neg hi, hlk]
                exact ⟨outB a _ ((st.kp a (.out (.slot i)) trivial).mpr h3), st.kh a (.out (.slot i)) trivial h3⟩
              have ow4 : ∀ {u : V} {j i : Nat} {m : D}, (i, j) ∈ al → Ow K H' w' (.slot j) u m → Ow K H' w4 (.slot i) u m := fun {u j i m} hp ⟨a, a1, a2, c⟩ => by
                refine ⟨a, a1, ?_, c.mono styR rfl⟩
                show (w' a).bind _ = _
                rw [a2]
                show fromC n al (.slot j) = some (.slot i)
                exact fromC_find (n := n) (argA_inj ha) (i, j) hp
              have alr := msR_al ha an msr
              have prs : Paired (fun (p : Nat × Nat) (m : D) => ∃ u, σ[p.1]? = some (some u) ∧ Ow K H' w4 (.slot p.1) u m) al ms := by
                have gen : ∀ {l : List (Nat × Nat)} {zs : List D}, (∀ p ∈ l, p ∈ al) → Paired (AlR K H' w' σ) l zs → Paired (fun (p : Nat × Nat) (m : D) => ∃ u, σ[p.1]? = some (some u) ∧ Ow K H' w4 (.slot p.1) u m) l zs := by
                  intro l zs hs pr
                  induction pr with
                  | nil => exact .nil
                  | cons r _ ih =>
                    obtain ⟨u, u1, u2⟩ := r
                    exact .cons ⟨u, u1, ow4 (hs _ List.mem_cons_self) u2⟩ (ih fun p hp => hs p (List.mem_cons_of_mem _ hp))
                exact gen (fun _ h => h) alr
              have ex2 : EnvX (fun i => i ∈ le) K H' w4 μ σ e2 := putMs_ok prs ex (argA_at ha) (fun p hp o d v h1 h2 h3 => by
                obtain ⟨v', v1, _, v3⟩ := er.at_ p.1 o d h1
                have : v' = v := by
                  rw [v1] at h2
                  exact Option.some.inj (Option.some.inj h2)
                subst this
                exact v3 h3) hput
              have er3 : EnvR K H' w4 μ σ _ := shareAll_ok ex2 (fun i hi o d h => by
                rw [putMs_other (K := K) (fun p hp => fun z => hmix' p hp (z ▸ hi)) hput] at h
                obtain ⟨v, v1, v2, _⟩ := er.at_ i o d h
                refine ⟨v, v1, ?_⟩
                have low : Ow K H w (.slot i) v d → Rp K H' w4 v d := fun ⟨a, a1, a2, c⟩ => by
                  subst a1
                  have h3 : (w a).bind (toC al le) = none := by
                    rw [a2]
                    show (if i ∈ le then none else _) = none
                    rw [if_pos hi]
                  cases hH : H a with
                  | none => rw [wf a hH] at a2; cases a2
                  | some o =>
                    obtain ⟨h4, h5⟩ := st.sh a o hH h3
                    exact (c.mono sty (h4.trans hH.symm)).rp (by show (w' a).bind _ = none; rw [h5]; rfl)
                cases o with
                | sh => exact Rp.mono sty v2
                | own => exact low v2
                | mu => exact low v2) hsh
              refine k v H' w4 ⟨stp, wf4, er3⟩ ?_
              cases fr with
              | false => exact Rp.mono styR anr
              | true =>
                obtain ⟨a, a1, a2, c⟩ := anr
                exact ⟨a, a1, by show (w' a).bind _ = _; rw [a2]; rfl, c.mono styR rfl⟩
            · cases hc
        · cases hc
      · split at hc
        · split at hc <;> cases hc
        · cases hc
      · cases hc
    · cases hc
  · cases hc
end
end PD

/-! PD7: calls as rules; plain statements. -/
namespace PD
open PySem PySem.Spec PyProof.Rows L2
theorem lits_s {K : PySem.W.Frag} {H : Hp} {w : Wh} {σ : L2.St} : ∀ {dvs : List V} {dv : List D}, Paired (fun v d => litV d = some v) dvs dv → Paired (AnsS K H w σ) dvs (dv.map (Ans.val false))
  | _, _, .nil => .nil
  | _, _, .cons a b => .cons (litV_rp a) (lits_s b)
theorem paired_app {α β : Type} {R : α → β → Prop} : ∀ {xs xs' : List α} {ys ys' : List β}, Paired R xs ys → Paired R xs' ys' → Paired R (xs ++ xs') (ys ++ ys')
  | _, _, _, _, .nil, b => b
  | _, _, _, _, .cons a r, b => .cons a (paired_app r b)
section
variable {X : Cx} {F : List Fn} {a b c : Expr} {ia ib ic : IE} {it iu : IT} {pos apos cpos p1 : Pos} {es : List Expr} {ies : List IE} {E : XK}
theorem call_in {i : Nat} {fn : Fn} {dv : List D} {dvs : List V} (hF : F[i]? = some fn) (hdv : Paired (fun v d => litV d = some v) dvs dv) (σ : L2.St) (H : Hp) (Q : VK) (q : teE X.K F (.call i ies dv) σ H Q) : tCall (spF X.K fn) dvs E (teA X.K F ies) σ H Q := by
  obtain ⟨n, w, μ, e, z, e', wf, er, ev, k⟩ := q
  unfold evE at ev
  obtain ⟨xs, e1, h1, ev⟩ := Rs.bind_ok ev
  rw [hF] at ev
  refine ⟨n, w, μ, e, xs, e1, wf, er, h1, fun vs H1 w1 a1 an => ?_⟩
  exact callA_in (n := n) (drp_wf a1.wf) (drp_env a1.env) (paired_app (an.s (Nat.le_refl n)) (lits_s hdv)) ev fun v H' w' a2 an2 => k v H' w' (a1.drp.trans a2 (Nat.le_refl n)) an2
theorem se_call {i k : Nat} {fn : Fn} {x : Str} {f : Addr} {fd : FuncData} {ps : List Str} {dv : List D} {dvs : List V} {ds : List Value} (G : FnOk X.prog X.w X.K X.mg X.base CX0 k f fd ps (spF X.K fn)) (hF : F[i]? = some fn) (hdv : Paired (fun v d => litV d = some v) dvs dv) (hr : Room k X.A) (hg : Gl X x) (hm : X.mg x = some (.ref f))
    (hk : PySem.W.keepIn X.K (.ref f) = true) (hb : Binds X.K fd ps ds) (hd : Vals dvs ds) (ha : PA X (a :: es) (teA X.K F ies)) (hdb : (x == ("__debug__" : Str)) = false) (he : starEach (a :: es) X.env = (false, eval a X.env) :: starEach es X.env) (hpl : (backTo pos (starEach es X.env)).any (·.1) = false) :
    PE X (.Call (.Name x p1) (a :: es) [] pos) (teE X.K F (.call i ies dv)) :=
  (pe_call G hr hg hm hk hb hd pass0 ha hdb he hpl).imp (call_in hF hdv)
theorem se_call0 {i k : Nat} {fn : Fn} {x : Str} {f : Addr} {fd : FuncData} {ps : List Str} {dv : List D} {dvs : List V} {ds : List Value} (G : FnOk X.prog X.w X.K X.mg X.base CX0 k f fd ps (spF X.K fn)) (hF : F[i]? = some fn) (hdv : Paired (fun v d => litV d = some v) dvs dv) (hr : Room k X.A) (hg : Gl X x) (hm : X.mg x = some (.ref f))
    (hk : PySem.W.keepIn X.K (.ref f) = true) (hb : Binds X.K fd ps ds) (hd : Vals dvs ds) (hdb : (x == ("__debug__" : Str)) = false) :
    PE X (.Call (.Name x p1) [] [] pos) (teE X.K F (.call i [] dv)) := by
  refine (pe_call0 G hr hg hm hk hb hd pass0 hdb).imp fun σ H Q q => ?_
  have h : teA X.K F [] σ H fun vs H1 => spF X.K fn (vs ++ dvs) H1 Q E0 := call_in (E := E0) hF hdv σ H Q q
  obtain ⟨n, w, μ, e, as, e', wf, er, ev, k⟩ := h
  cases ev
  exact k [] H w (.refl wf er) (.nil n)
end
/-! ### statements -/
section
variable (K : PySem.W.Frag) (F : List Fn)
structure AftS (μ : Nat → Option V) (e' : En) (H : Hp) (w : Wh) (σ' : L2.St) (H' : Hp) (w' : Wh) : Prop where
  stp : Stp (keepE 0) H w H' w'
  wf : Wf H' w'
  env : EnvR K H' w' μ σ' e'
/-- what is due behind a block that ends so -/
def OutR (μ : Nat → Option V) (H : Hp) (w : Wh) (D : Ends) : Ou → Prop
  | .nx e => ∀ σ' H' w', AftS K μ e H w σ' H' w' → D.nx σ' H'
  | .ct e => ∀ σ' H' w', AftS K μ e H w σ' H' w' → D.ct σ' H'
  | .bk e => ∀ σ' H' w', AftS K μ e H w σ' H' w' → D.bk σ' H'
  | .rt f d e => ∀ v σ' H' w', AftS K μ e H w σ' H' w' → AnsR K 0 H' w' [] v (.val f d) → D.rt v H'
  | _ => False
def tsS (s : IS) : TS := fun D σ H => ∃ w μ e, Wf H w ∧ EnvR K H w μ σ e ∧ OutR K μ H w D (evS F s e)
def tsSs (ss : List IS) : TS := fun D σ H => ∃ w μ e, Wf H w ∧ EnvR K H w μ σ e ∧ OutR K μ H w D (evSs F ss e)
end
section
variable {K : PySem.W.Frag} {F : List Fn} {H H' : Hp} {w w' : Wh} {μ : Nat → Option V} {σ σ' : L2.St} {e e' : En} {n m : Nat} {v : V} {d : D}
theorem Aft.toS (a : Aft K 0 μ σ e' H w H' w') : AftS K μ e' H w σ H' w' := ⟨a.stp, a.wf, a.env⟩
theorem AftS.refl (wf : Wf H w) (er : EnvR K H w μ σ e) : AftS K μ e H w σ H w := ⟨Stp.refl, wf, er⟩
theorem AftS.trans {H1 : Hp} {w1 : Wh} {e1 : En} {σ1 : L2.St} (a : AftS K μ e1 H w σ1 H1 w1) (b : AftS K μ e' H1 w1 σ' H' w') : AftS K μ e' H w σ' H' w' := ⟨a.stp.trans b.stp, b.wf, b.env⟩
theorem OutR.pre {H1 : Hp} {w1 : Wh} {D : Ends} {r : Ou} (s : Stp (keepE 0) H w H1 w1) (h : OutR K μ H w D r) : OutR K μ H1 w1 D r := by
  cases r with
  | nx e => exact fun σ' H' w' a => h σ' H' w' ⟨s.trans a.stp, a.wf, a.env⟩
  | ct e => exact fun σ' H' w' a => h σ' H' w' ⟨s.trans a.stp, a.wf, a.env⟩
  | bk e => exact fun σ' H' w' a => h σ' H' w' ⟨s.trans a.stp, a.wf, a.env⟩
  | rt f d e => exact fun v σ' H' w' a an => h v σ' H' w' ⟨s.trans a.stp, a.wf, a.env⟩ an
  | no => exact h
  | ex c d e => exact h
theorem OutR.ends {D D' : Ends} {r : Ou} (h : OutR K μ H w D r) (h1 : ∀ σ H, D.nx σ H → D'.nx σ H) (h2 : ∀ σ H, D.ct σ H → D'.ct σ H) (h3 : ∀ σ H, D.bk σ H → D'.bk σ H) (h4 : ∀ v H, D.rt v H → D'.rt v H) : OutR K μ H w D' r := by
  cases r with
  | nx e => exact fun σ' H' w' a => h1 _ _ (h σ' H' w' a)
  | ct e => exact fun σ' H' w' a => h2 _ _ (h σ' H' w' a)
  | bk e => exact fun σ' H' w' a => h3 _ _ (h σ' H' w' a)
  | rt f d e => exact fun v σ' H' w' a an => h4 _ _ (h v σ' H' w' a an)
  | no => exact h
  | ex c d e => exact h
/-- a value comes into a slot -/
def mvW (i : Nat) (w : Wh) : Wh := fun a => if w a = some (.slot i) then none else if w a = some (.tmp 0) then some (.slot i) else w a
theorem mv_stp {i : Nat} : Stp (fun l => l ≠ .slot i ∧ l ≠ .tmp 0) H w H (mvW i w) := by
  refine ⟨fun a o h e => ⟨h, by unfold mvW; rw [e]; rfl⟩, fun a l k => ?_, fun _ _ _ _ => rfl⟩
  unfold mvW
  by_cases h : w a = some (.slot i)
  · rw [if_pos h, h]
    constructor
    · intro z; cases z
    · intro z; exact absurd (Option.some.inj z).symm k.1
  · rw [if_neg h]
    by_cases h2 : w a = some (.tmp 0)
    · rw [if_pos h2, h2]
      constructor
      · intro z; exact absurd (Option.some.inj z).symm k.1
      · intro z; exact absurd (Option.some.inj z).symm k.2
    · rw [if_neg h2]
theorem mv_wf {i : Nat} (h : Wf H w) : Wf H (mvW i w) := h.map fun a e => by unfold mvW; rw [e]; rfl
theorem keepE0 {i : Nat} : ∀ l, keepE 0 l → l ≠ .slot i ∧ l ≠ .tmp 0
  | .out _, _ => ⟨(by intro z; cases z), (by intro z; cases z)⟩
  | .tmp k, q => absurd q (Nat.not_lt_zero k)
  | .slot _, q => q.elim
theorem mv_env {i : Nat} {f : Bool} {x : Option Sl} (er : EnvR K H w μ σ e) (hi : e[i]? = some x) (an : AnsR K 0 H w [] v (.val f d)) : EnvR K H (mvW i w) μ (σ.set i (some v)) (e.set i (some ⟨if f = true then .own else .sh, d⟩)) := by
  have hl : i < e.length := (List.getElem?_eq_some_iff.mp hi).1
  refine ⟨by rw [List.length_set, List.length_set]; exact er.len, fun j o d' h => ?_⟩
  by_cases hj : j = i
  · subst hj
    rw [List.getElem?_set_self hl] at h
    cases h
    refine ⟨v, List.getElem?_set_self (by rw [er.len]; exact hl), ?_, fun z => by cases f <;> cases z⟩
    cases f with
    | false => exact Rp.mono mv_stp.sh an
    | true =>
      obtain ⟨a, a1, a2, c⟩ := an
      refine ⟨a, a1, ?_, c.mono mv_stp.sh rfl⟩
      unfold mvW
      rw [a2, if_neg (by intro z; cases z), if_pos rfl]
  · rw [List.getElem?_set_ne (Ne.symm hj)] at h
    obtain ⟨v', h1, h2, h3⟩ := er.at_ j o d' h
    refine ⟨v', by rw [List.getElem?_set_ne (Ne.symm hj)]; exact h1, h2.mono mv_stp.sh fun a q => ⟨(mv_stp (H := H) (w := w) (i := i)).kp a _ ⟨by intro z; cases z; exact hj rfl, by intro z; cases z⟩ |>.mpr q, rfl⟩, h3⟩
theorem stN_ok {i : Nat} {s : Sl} (h : stN i s e = some e') : (∃ x, e[i]? = some x) ∧ e' = e.set i (some s) := by
  unfold stN at h
  split at h
  · cases h
  · rename_i x hn hs
    cases h
    exact ⟨⟨_, hs⟩, rfl⟩
  · cases h
/-- a value is stored -/
theorem AftS.put {i : Nat} {f : Bool} {e1 : En} {H1 : Hp} {w1 : Wh} (a : AftS K μ e1 H w σ H1 w1) (an : AnsR K 0 H1 w1 [] v (.val f d)) (h : stN i ⟨if f = true then .own else .sh, d⟩ e1 = some e') : AftS K μ e' H w (σ.set i (some v)) H1 (mvW i w1) := by
  obtain ⟨⟨x, hx⟩, rfl⟩ := stN_ok h
  exact ⟨a.stp.trans (mv_stp.weak keepE0), mv_wf a.wf, mv_env a.env hx an⟩
/-- several shared ones -/
def tgNs : List Nat → TGs
  | [] => gNil
  | i :: is => gCons (gName i) (tgNs is)
theorem stNs_ok : ∀ {is : List Nat} {vs : List V} {ds : List D} {e1 : En} {σ : L2.St} {H1 : Hp} {w1 : Wh} {Q : L2.St → Hp → Prop}, AftS K μ e1 H w σ H1 w1 → RpAll K H1 w1 vs ds → stNs is ds e1 = some e' → (∀ σ' w', AftS K μ e' H w σ' H1 w' → Q σ' H1) → tgNs is vs σ H1 Q
  | [], _, _, e1, σ, H1, w1, Q, a, .nil, h, k => by
    cases h
    exact ⟨rfl, k σ w1 a⟩
  | i :: is, _, _, e1, σ, H1, w1, Q, a, .cons r rs, h, k => by
    simp only [stNs] at h
    split at h
    · rename_i e2 h1
      exact ⟨_, _, rfl, stNs_ok (a.put (f := false) r h1) (rs.mono mv_stp.sh) h k⟩
    · cases h
  | [], _, _, _, _, _, _, _, _, .cons _ _, h, _ => by cases h
  | _ :: _, _, _, _, _, _, _, _, _, .nil, h, _ => by cases h
end
section
variable {X : Cx} {F : List Fn} {a b c : Expr} {ia ib ic : IE} {it iu : IT} {pos apos cpos p1 : Pos} {es : List Expr} {ies : List IE} {s : Stmt} {ss : List Stmt} {is : IS} {iss : List IS}
theorem ss_nil : PSs X [] (tsSs X.K F []) := by
  refine pss_nil.imp fun D σ H q => ?_
  obtain ⟨w, μ, e, wf, er, k⟩ := q
  exact k σ H w (.refl wf er)
theorem ss_cons (h1 : PS X s (tsS X.K F is)) (h2 : PSs X ss (tsSs X.K F iss)) : PSs X (s :: ss) (tsSs X.K F (is :: iss)) := by
  refine (pss_cons h1 h2).imp fun D σ H q => ?_
  obtain ⟨w, μ, e, wf, er, k⟩ := q
  refine ⟨w, μ, e, wf, er, ?_⟩
  simp only [evSs] at k
  cases h : evS F is e with
  | nx e1 =>
    rw [h] at k
    exact fun σ' H' w' a => ⟨w', μ, e1, a.wf, a.env, k.pre a.stp⟩
  | no => rw [h] at k; exact k
  | rt f d e1 => rw [h] at k; exact k
  | bk e1 => rw [h] at k; exact k
  | ct e1 => rw [h] at k; exact k
  | ex c d e1 => rw [h] at k; exact k
/-- an expression's end, at a statement -/
theorem ss_set {i : Nat} {x : Str} {p2 : Pos} (hN : X.N.Nodup) (hi : X.N[i]? = some x) (hx : Loc X.env.scope x) (hf : X.fn x = true ∨ X.env.scope.names.lookup x = some .local) (ha : PE X a (teE X.K F ia)) (hs : swapsWith a (some (.Name x p2)) pos.line X.env = pure false) :
    PS X (.Assign [.Name x p2] a pos) (tsS X.K F (.set i ia)) := by
  refine (ps_set hN hi hx ha hs hf).imp fun D σ H q => ?_
  obtain ⟨w, μ, e, wf, er, k⟩ := q
  simp only [evS] at k
  split at k
  · rename_i f d e1 h1
    split at k
    · rename_i e2 h2
      exact ⟨0, w, μ, e, _, e1, wf, er, h1, fun v H1 w1 a1 an => k _ H1 _ (a1.toS.put an.any h2)⟩
    · exact k.elim
  · rename_i j e1 h1
    split at k
    · rename_i d e2 h2
      split at k
      · rename_i e3 h3
        refine ⟨0, w, μ, e, _, e1, wf, er, h1, fun v H1 w1 a1 an => ?_⟩
        obtain ⟨w2, a2, r⟩ := a1.fz an (Nat.le_refl 0) h2
        exact k _ H1 _ (a2.toS.put (f := false) r h3)
      · exact k.elim
    · exact k.elim
  · exact k.elim
  · exact k.elim
theorem ss_exp (ha : PE X a (teE X.K F ia)) (hs : swapsWith a none pos.line X.env = pure false) : PS X (.Expr a pos) (tsS X.K F (.exp ia)) := by
  refine (ps_expr ha hs).imp fun D σ H q => ?_
  obtain ⟨w, μ, e, wf, er, k⟩ := q
  simp only [evS] at k
  split at k
  · rename_i x e1 h1
    exact ⟨0, w, μ, e, _, e1, wf, er, h1, fun v H1 w1 a1 an => k _ H1 _ a1.toS⟩
  · exact k.elim
  · exact k.elim
theorem ret_pl {K : PySem.W.Frag} {H : Hp} {w : Wh} {μ : Nat → Option V} {σ : L2.St} {e : En} {j : Nat} {d : D} {v : V} {H1 : Hp} {w1 : Wh} (a : AftS K μ e H w σ H1 w1) (hv : σ[j]? = some (some v)) (hj : e[j]? = some (some ⟨.own, d⟩)) :
    ∃ w2, AftS K μ (e.set j none) H w σ H1 w2 ∧ AnsR K 0 H1 w2 [] v (.val true d) := by
  obtain ⟨v', v1, v2, _⟩ := a.env.at_ j _ _ hj
  have ev : v' = v := by
    rw [v1] at hv
    exact Option.some.inj (Option.some.inj hv)
  subst ev
  let w2 : Wh := fun a => if w1 a = some (.slot j) then some (.tmp 0) else if w1 a = some (.tmp 0) then none else w1 a
  have st : Stp (fun l => l ≠ .slot j ∧ l ≠ .tmp 0) H1 w1 H1 w2 := by
    refine ⟨fun a o h e => ⟨h, by show (if w1 a = _ then _ else _) = none; rw [e]; rfl⟩, fun a l k => ?_, fun _ _ _ _ => rfl⟩
    show (if w1 a = some (.slot j) then some (Lab.tmp 0) else if w1 a = some (.tmp 0) then none else w1 a) = some l ↔ _
    by_cases h : w1 a = some (.slot j)
    · rw [if_pos h, h]
      constructor
      · intro z; exact absurd (Option.some.inj z).symm k.2
      · intro z; exact absurd (Option.some.inj z).symm k.1
    · rw [if_neg h]
      by_cases h2 : w1 a = some (.tmp 0)
      · rw [if_pos h2, h2]
        constructor
        · intro z; cases z
        · intro z; exact absurd (Option.some.inj z).symm k.2
      · rw [if_neg h2]
  obtain ⟨a0, a1, a2, c⟩ := v2
  refine ⟨w2, ⟨a.stp.trans (st.weak keepE0), a.wf.map fun b hb => ?_, ⟨by rw [List.length_set]; exact a.env.len, fun i o d' h => ?_⟩⟩, a0, a1, ?_, c.mono st.sh rfl⟩
  · show (if w1 b = _ then _ else _) = none
    rw [hb]
    rfl
  · by_cases hij : i = j
    · subst hij
      rw [List.getElem?_set_self (List.getElem?_eq_some_iff.mp hj).1] at h
      cases h
    · rw [List.getElem?_set_ne (Ne.symm hij)] at h
      obtain ⟨v', h1, h2, h3⟩ := a.env.at_ i o d' h
      exact ⟨v', h1, h2.mono st.sh fun b q => ⟨(st.kp b _ ⟨by intro z; cases z; exact hij rfl, by intro z; cases z⟩).mpr q, rfl⟩, h3⟩
  · show (if w1 a0 = _ then _ else _) = _
    rw [if_pos a2]
theorem ss_ret (ha : PE X a (teE X.K F ia)) : PS X (.Return (some a) pos) (tsS X.K F (.ret ia)) := by
  refine (ps_ret ha).imp fun D σ H q => ?_
  obtain ⟨w, μ, e, wf, er, k⟩ := q
  simp only [evS] at k
  split at k
  · rename_i f d e1 h1
    exact ⟨0, w, μ, e, _, e1, wf, er, h1, fun v H1 w1 a1 an => k v σ H1 _ a1.toS an.any⟩
  · rename_i j e1 h1
    split at k
    · rename_i d hj
      refine ⟨0, w, μ, e, _, e1, wf, er, h1, fun v H1 w1 a1 an => ?_⟩
      obtain ⟨w2, a2, an2⟩ := ret_pl a1.toS an hj
      exact k v σ H1 w2 a2 an2
    · exact k.elim
  · exact k.elim
  · exact k.elim
theorem ss_retN : PS X (.Return none pos) (tsS X.K F .retN) := by
  refine ps_retN.imp fun D σ H q => ?_
  obtain ⟨w, μ, e, wf, er, k⟩ := q
  exact k _ σ H w (.refl wf er) .non
theorem ss_if {sa sb : List Stmt} {ia ib : List IS} (hc : PT X c (teT X.K F it)) (ha : PSs X sa (tsSs X.K F ia)) (hb : PSs X sb (tsSs X.K F ib)) : PS X (.If c sa sb pos) (tsS X.K F (.iff it ia ib)) := by
  refine (ps_if hc ha hb).imp fun D σ H q => ?_
  obtain ⟨w, μ, e, wf, er, k⟩ := q
  simp only [evS] at k
  split at k
  · rename_i e1 h1
    refine ⟨0, w, μ, e, true, e1, wf, er, h1, fun H1 w1 a1 => ?_⟩
    exact iteT ⟨w1, μ, e1, a1.wf, a1.env, k.pre a1.stp⟩
  · rename_i e1 h1
    refine ⟨0, w, μ, e, false, e1, wf, er, h1, fun H1 w1 a1 => ?_⟩
    exact iteF ⟨w1, μ, e1, a1.wf, a1.env, k.pre a1.stp⟩
  · exact k.elim
  · exact k.elim
theorem ss_pass : PS X (.Pass pos) (tsS X.K F .pass) := ps_pass.imp fun D σ H ⟨w, μ, e, wf, er, k⟩ => k σ H w (.refl wf er)
theorem ss_brk : PS X (.Break pos) (tsS X.K F .brk) := ps_break.imp fun D σ H ⟨w, μ, e, wf, er, k⟩ => k σ H w (.refl wf er)
theorem ss_cont : PS X (.Continue pos) (tsS X.K F .cont) := ps_continue.imp fun D σ H ⟨w, μ, e, wf, er, k⟩ => k σ H w (.refl wf er)
theorem ss_doc {x : Str} {j : Nat} {p2 : Pos} : PS X (.Expr (.Constant (.str x) j p2) pos) (tsS X.K F .doc) := ps_doc.imp fun D σ H ⟨w, μ, e, wf, er, k⟩ => k σ H w (.refl wf er)
end
end PD

/-! PDE: enumerate of a tuple. -/
namespace PD
open PySem PySem.Spec PyProof.Rows L2 RZ
open PySem.Sem (wp)
open AutoSeq1 (wpAny_loadPart')
theorem meets_enumerate_newT (l : Addr) (items : Array Value) (n : Nat) (dct : Option Addr) (sl : Array (Option Value)) :
    Meets (Builtin.«enumerate.__new__» ⟨[.type "enumerate", .ref l], []⟩) (fun _ R s => s.heap.get? l = some { cls := .type "tuple", dict := dct, data := .seq items n, slots := sl } ∧
      R (.ok (.ret (.ref (s.heap.push { cls := .type "tuple_iterator", data := .fields #[.ref l, .int 0 0] }).objs.size)))
        { s with heap := (s.heap.push { cls := .type "tuple_iterator", data := .fields #[.ref l, .int 0 0] }).push { cls := .type "enumerate", data := .fields #[.none, .bool false, .ref s.heap.objs.size, rawInt 0, .none, .none] } }) :=
  .of_wp fun prog w A R s h => by
    obtain ⟨hp, g, d, tk, os⟩ := s; obtain ⟨hl, h⟩ := h
    have hsub := sub_enumerate
    have hL : Heap.IsTuple (Shared.heap ⟨hp, g, d, tk, os⟩) l items := ⟨_, hl, rfl, n, rfl⟩
    wp_walk using wpAny_loadPart' hl
    refine wpAny_stack_any fun st => wpAny_pure ?_
    split
    · rename_i c _ _ _ _ _
      cases (c == Value.type "enumerate")
      · wp_walk using wpAny_loadPart' hl, wpAny_pyIter_tuple hL
        exact ⟨_, rfl, h⟩
      · wp_walk using wpAny_loadPart' hl, wpAny_pyIter_tuple hL
        exact ⟨_, rfl, h⟩
    · wp_walk using wpAny_loadPart' hl, wpAny_pyIter_tuple hL
      exact ⟨_, rfl, h⟩
section
variable {prog : Program} {w : World} {A : Around} {E : Value → Shared → Prop} {s : Shared}
theorem call_enumerate_tup {l : Addr} {items : Array Value} {Q : Value → Shared → Prop} (hL : s.heap.IsTuple l items)
    (h : ∀ h', IsEnum h' (s.heap.objs.size + 1) s.heap.objs.size 0 .none → h'.IsTupleIter s.heap.objs.size l 0 → h'.objs.size = s.heap.objs.size + 2 →
      (∀ b o, s.heap.get? b = some o → h'.get? b = some o) → Q (.ref (s.heap.objs.size + 1)) { s with heap := h' }) :
    wpAny (model prog w) A (call (.type "enumerate") [.ref l]) Q E s := by
  obtain ⟨⟨c, dct, dt, sl⟩, hl, hc, n, hd⟩ := hL
  replace hc : c = .type "tuple" := hc
  replace hd : dt = .seq items n := hd
  subst hc hd
  refine callType_new F.called_enumerate (by decide) (F.typeCall_enumerate_1 _) (F.newCall_enumerate_1 _) (fun obj => F.args_object_init_2 obj _) F.entry_enumerate_new
    (meets_enumerate_newT l items n dct sl) ⟨hl, ?_⟩
  have hz : (s.heap.push { cls := .type "tuple_iterator", data := .fields #[.ref l, .int 0 0] }).objs.size = s.heap.objs.size + 1 := Heap.size_push ..
  show _ ∧ _
  rw [hz]
  have he : IsEnum ((s.heap.push { cls := .type "tuple_iterator", data := .fields #[.ref l, .int 0 0] }).push
      { cls := .type "enumerate", data := .fields #[.none, .bool false, .ref s.heap.objs.size, rawInt 0, .none, .none] }) (s.heap.objs.size + 1) s.heap.objs.size 0 .none := by
    have := Heap.get?_push_size (s.heap.push { cls := .type "tuple_iterator", data := .fields #[.ref l, .int 0 0] })
      (o := { cls := .type "enumerate", data := .fields #[.none, .bool false, .ref s.heap.objs.size, rawInt 0, .none, .none] }) rfl
    rw [hz] at this; exact this
  refine ⟨⟨_, he, rfl⟩, h _ he ⟨_, Heap.get?_push_of_some _ (Heap.get?_push_size _ rfl), rfl, rfl⟩ (by rw [Heap.size_push, hz]) fun b o x => Heap.get?_push_of_some _ (Heap.get?_push_of_some _ x)⟩
theorem enumT_next_item {e it l : Addr} {i : Nat} {items : Array Value} {x old : Value} {Q : Value → Shared → Prop}
    (he : IsEnum s.heap e it i old) (hit : s.heap.IsTupleIter it l i) (hl : s.heap.IsTuple l items) (hx : items[i]? = some x) (hne : e ≠ it)
    (hQ : ∀ h', IsEnumOut h' e it ((i : Int) + 1) x s.heap.objs.size → h'.IsTupleIter it l (i + 1) →
      h'.get? s.heap.objs.size = some { cls := .type "tuple", data := .seq #[.int i s.toks, x] } → h'.objs.size = s.heap.objs.size + 1 →
      (∀ b o, b ≠ e → b ≠ it → s.heap.get? b = some o → h'.get? b = some o) → Q (.ref s.heap.objs.size) { s with heap := h', toks := s.toks + 1 }) :
    wpAny (model prog w) A (Builtin.«enumerate.__next__» ⟨[.ref e], []⟩) (fun fin s' => ∃ v, fin = .done (.ret v) ∧ Q v s') E s := by
  obtain ⟨hp, g, d, tk, os⟩ := s
  show wpAny _ _ (field (.ref e) 2 >>= _) _ _ _
  refine wpAny_bind (wpAny_field he rfl (x := .ref it) rfl ?_)
  refine wpAny_bind (nextOf_tuple_item hit hl hx fun h₁ hit₁ hs₁ => ?_)
  replace hs₁ : Heap.SameBut it hp h₁ := hs₁
  have he₁ : IsEnum h₁ e it i old := (hs₁.2 e hne).trans he
  show wpAny _ _ (field (.ref e) 3 >>= _) _ _ ⟨h₁, g, d, tk, os⟩
  refine wpAny_bind (wpAny_field he₁ rfl (x := rawInt i) rfl ?_)
  show wpAny _ _ (field (.ref e) 4 >>= _) _ _ ⟨h₁, g, d, tk, os⟩
  refine wpAny_bind (wpAny_field he₁ rfl (x := .none) rfl ?_)
  show wpAny _ _ (mkInt i >>= _) _ _ ⟨h₁, g, d, tk, os⟩
  refine wpAny_bind (wpAny_mkInt ?_)
  show wpAny _ _ (setField (.ref e) 3 (rawInt ((i : Int) + 1)) >>= _) _ _ ⟨h₁, g, d, tk + 1, os⟩
  refine wpAny_bind (wpAny_setField_rec he₁ (by simp) fun h₂ he₂ hs₂ => ?_)
  replace hs₂ : Heap.SameBut e h₁ h₂ := hs₂
  replace he₂ : IsEnum h₂ e it ((i : Int) + 1) old := he₂
  show wpAny _ _ (setField (.ref e) 4 .none >>= _) _ _ ⟨h₂, g, d, tk + 1, os⟩
  refine wpAny_bind (wpAny_setField_rec he₂ (by simp) fun h₃ he₃ hs₃ => ?_)
  replace hs₃ : Heap.SameBut e h₂ h₃ := hs₃
  replace he₃ : IsEnum h₃ e it ((i : Int) + 1) old := he₃
  show wpAny _ _ (newTuple [.int i tk, x] >>= _) _ _ ⟨h₃, g, d, tk + 1, os⟩
  refine wpAny_bind (wpAny_newTuple ?_)
  have he₄ : IsEnum (h₃.push { cls := .type "tuple", data := .seq #[.int i tk, x] }) e it ((i : Int) + 1) old := Heap.get?_push_of_some _ he₃
  generalize hh₄ : h₃.push { cls := .type "tuple", data := .seq #[.int i tk, x] } = h₄ at he₄
  have hsz : h₃.objs.size = hp.objs.size := by rw [hs₃.1, hs₂.1, hs₁.1]
  have hel : e < hp.objs.size := Heap.lt_size he
  have ht₄ : h₄.get? hp.objs.size = some { cls := .type "tuple", data := .seq #[.int i tk, x] } := by rw [← hh₄, ← hsz]; exact Heap.get?_push_size _ rfl
  have hz₄ : h₄.objs.size = hp.objs.size + 1 := by rw [← hh₄, Heap.size_push, hsz]
  have hk₄ : ∀ b o, b ≠ e → b ≠ it → hp.get? b = some o → h₄.get? b = some o := fun b o hbe hbi hb => by
    rw [← hh₄]; exact Heap.get?_push_of_some _ (hs₃.extBut b o hbe (hs₂.extBut b o hbe (hs₁.extBut b o hbi hb)))
  have hit₄ : h₄.IsTupleIter it l (i + 1) := by
    rw [← hh₄]; obtain ⟨o, ho, r⟩ := (hit₁.extBut hs₂.extBut (Ne.symm hne)).extBut hs₃.extBut (Ne.symm hne); exact ⟨o, Heap.get?_push_of_some _ ho, r⟩
  show wpAny _ _ (Builtin.SmallTypes.ownedTupleIsFree (.ref e) >>= _) _ _ ⟨h₄, g, d, tk + 1, os⟩
  rw [hsz]
  clear hh₄ he₃ hs₃ he₂ hs₂ he₁ hs₁ hit₁ hsz h₃ h₂ h₁
  refine wpAny_bind ?_
  · unfold Builtin.SmallTypes.ownedTupleIsFree
    refine wpAny_bind (wpAny_field he₄ rfl (x := .none) rfl (wpAny_pure ?_))
    simp only [if_true]
    refine wpAny_bind (wpAny_rule ?_)
    refine wpAny_bind (wpAny_field he₄ rfl (x := old) rfl ?_)
    refine wpAny_bind (wpAny_setField_rec he₄ (by simp) fun h₅ he₅ hs₅ => ?_)
    replace hs₅ : Heap.SameBut e h₄ h₅ := hs₅
    replace he₅ : IsEnum h₅ e it ((i : Int) + 1) x := he₅
    show wpAny _ _ (Builtin.SmallTypes.ownedTupleHandOut (.ref e) (.ref hp.objs.size) >>= _) _ _ ⟨h₅, g, d, tk + 1, os⟩
    refine wpAny_bind ?_
    · unfold Builtin.SmallTypes.ownedTupleHandOut
      refine wpAny_bind (wpAny_setField_rec he₅ (by simp) fun h₆ he₆ hs₆ => ?_)
      replace hs₆ : Heap.SameBut e h₅ h₆ := hs₆
      replace he₆ : IsEnumOut h₆ e it ((i : Int) + 1) x hp.objs.size := he₆
      refine wpAny_setField_rec he₆ (by simp) fun h₇ he₇ hs₇ => ?_
      replace hs₇ : Heap.SameBut e h₆ h₇ := hs₇
      replace he₇ : IsEnumOut h₇ e it ((i : Int) + 1) x hp.objs.size := he₇
      refine wpAny_bind (wpAny_letGo (wpAny_pure ⟨_, rfl, hQ h₇ he₇ ?_ ?_ ?_ ?_⟩))
      · exact ((hit₄.extBut hs₅.extBut (Ne.symm hne)).extBut hs₆.extBut (Ne.symm hne)).extBut hs₇.extBut (Ne.symm hne)
      · exact hs₇.extBut _ _ (Nat.ne_of_gt hel) (hs₆.extBut _ _ (Nat.ne_of_gt hel) (hs₅.extBut _ _ (Nat.ne_of_gt hel) ht₄))
      · rw [hs₇.1, hs₆.1, hs₅.1, hz₄]
      · exact fun b o hbe hbi hb => hs₇.extBut b o hbe (hs₆.extBut b o hbe (hs₅.extBut b o hbe (hk₄ b o hbe hbi hb)))

theorem pyNext_enumT_item {e it l : Addr} {i : Nat} {items : Array Value} {x old : Value} {Q : Option Value → Shared → Prop}
    (he : IsEnum s.heap e it i old) (hit : s.heap.IsTupleIter it l i) (hl : s.heap.IsTuple l items) (hx : items[i]? = some x) (hne : e ≠ it)
    (hQ : ∀ h', IsEnumOut h' e it ((i : Int) + 1) x s.heap.objs.size → h'.IsTupleIter it l (i + 1) →
      h'.get? s.heap.objs.size = some { cls := .type "tuple", data := .seq #[.int i s.toks, x] } → h'.objs.size = s.heap.objs.size + 1 →
      (∀ b o, b ≠ e → b ≠ it → s.heap.get? b = some o → h'.get? b = some o) → Q (some (.ref s.heap.objs.size)) { s with heap := h', toks := s.toks + 1 }) :
    wpAny (model prog w) A (pyNext (.ref e)) Q E s := by
  have hT : s.TypeIs (.ref e) "enumerate" := ⟨_, he, rfl⟩
  unfold pyNext
  exact wpAny_bind (wpAny_attempt (wpAny_callSpecial?_slot (name := Str.ofString "__next__") hT F.slot_enumerate_next
    (wpAny_call_entry F.slot_enumerate_next hT F.entry_enumerate_next
      (enumT_next_item he hit hl hx hne fun h' a b c d k => wpAny_pure (hQ h' a b c d k)) (F.args_enumerate_next_1 _))))

theorem pyNext_enumT_end {e it l : Addr} {i : Nat} {items : Array Value} {old : Value} {Q : Option Value → Shared → Prop} (hh : A.handled = none)
    (he : IsEnum s.heap e it i old) (hit : s.heap.IsTupleIter it l i) (hl : s.heap.IsTuple l items) (hx : items[i]? = none)
    (hQ : ∀ h', Heap.ExtBut it s.heap h' → Q none { s with heap := h' }) : wpAny (model prog w) A (pyNext (.ref e)) Q E s := by
  have hT : s.TypeIs (.ref e) "enumerate" := ⟨_, he, rfl⟩
  unfold pyNext
  refine wpAny_bind (wpAny_attempt (wpAny_callSpecial?_slot (name := Str.ofString "__next__") hT F.slot_enumerate_next
    (wpAny_call_entry F.slot_enumerate_next hT F.entry_enumerate_next ?_ (F.args_enumerate_next_1 _))))
  show wpAny _ _ (field (.ref e) 2 >>= _) _ _ _
  refine wpAny_bind (wpAny_field he rfl (x := .ref it) rfl ?_)
  refine wpAny_bind (nextOf_tuple_end hh hit hl hx fun h' x he' hx' => ?_)
  obtain ⟨o, ho, hc⟩ := hx'
  refine wpAny_bind (wpAny_isInstance (T := "StopIteration") (b := true) ⟨o, ho, hc⟩ isSubtype_stop ?_)
  exact wpAny_pure (hQ _ he')
end
end PD

/-! PDF: enumerate of a tuple, walked. -/
namespace PD
open PySem PySem.Spec PyProof.Rows L2 RZ
/-- the list at a as it stands at each turn, each item in a new pair -/
def IteT (K : PySem.W.Frag) (a : Addr) : It :=
  ⟨fun i H => ∃ (xs : List V) (x : V), SqT K H a xs ∧ xs[i]? = some x, fun i H v H' => ∃ T x, v = .ref T ∧ H T = none ∧ H' = upd H T (.tup [.int (i : Nat), x]) ∧ ∀ xs, SqT K H a xs → xs[i]? = some x, fun i H => ∃ xs : List V, SqT K H a xs ∧ xs.length ≤ i⟩
theorem turn_enumT {P : Program} {w : World} {K : PySem.W.Frag} {elts : List Expr} {kk : Nat} {tpos : Pos} (a e it : Addr) :
    Turn P w K (.Tuple elts kk tpos) (IteT K a) [e, it] e (fun i h => (∃ old, IsEnum h e it ((i : Nat) : Int) old) ∧ h.IsTupleIter it a i ∧ e ≠ it) where
  mem := by simp
  obj := fun i h st b hb => by
    obtain ⟨⟨old, he⟩, ⟨o, ho, hc, hd⟩, _⟩ := st
    have e' : b = e ∨ b = it := by simpa using hb
    rcases e' with z | z
    · rw [z]; exact ⟨_, he, fun v q => nomatch q⟩
    · rw [z]; exact ⟨o, ho, fun v q => by rw [hd] at q; cases q⟩
  keep := fun i h h' st k => let ⟨⟨old, he⟩, hi, hne⟩ := st; ⟨⟨old, k e (by simp) _ he⟩, hi.at fun o q => k it (by simp) o q, hne⟩
  item := by
    intro X hP hw hK hc i pins s σ H E I hf st hg
    subst hP hw hK
    obtain ⟨⟨old, he⟩, hit, hne⟩ := st
    obtain ⟨xs, x, hq, hx⟩ := hg
    obtain ⟨its, rv, p, hz⟩ := I.tuple hq
    obtain ⟨u, hu, ru⟩ := rv.get hx
    have hel : e < s.heap.objs.size := Heap.lt_size he
    have hil : it < s.heap.objs.size := by obtain ⟨_, q, _⟩ := hit; exact Heap.lt_size q
    refine pyNext_enumT_item he hit p (x := u) (by simpa using hu) hne fun h' ho hit' hT hsz hk => ?_
    refine ⟨_, rfl, wpAny_letOwnedTupleGo_enum (s := { s with heap := h', toks := s.toks + 1 }) ho fun h'' he' sb => ?_⟩
    have hT2 : h''.get? s.heap.objs.size = some { cls := .type "tuple", data := .seq #[.int i s.toks, u] } := (sb.2 _ (Nat.ne_of_gt hel)).trans hT
    have new : ObjOk X.prog X.w (upd H s.heap.objs.size (.tup [.int (i : Nat), x])) h'' s.heap.objs.size (.tup [.int (i : Nat), x]) :=
      ⟨by show 2 ≤ sizeLine; decide, [.int i s.toks, u], .cons ⟨_, rfl⟩ (.cons ru .nil), ⟨_, hT2, rfl, _, rfl⟩⟩
    have I1 : Inv X pins σ (upd H s.heap.objs.size (.tup [.int (i : Nat), x])) { s with heap := h'', toks := s.toks + 1 } :=
      I.turnedNew (ch := [e, it]) (fun b ob hb q => (sb.2 b (fun z => hb (by simp [z]))).trans (hk b ob (fun z => hb (by simp [z])) (fun z => hb (by simp [z])) q)) hf (Nat.le_refl _) new
    refine ⟨.ref s.heap.objs.size, _, I1, rfl, ⟨_, x, rfl, I.hok.fresh (Nat.le_refl _), rfl, fun ys hy => by rw [I.tuple_inj hy hq]; exact hx⟩, ⟨⟨u, ?_⟩, hit'.at fun o q => (sb.2 it (Ne.symm hne)).trans q, hne⟩, fun b hb => ?_⟩
    · have e1 : ((i + 1 : Nat) : Int) = (i : Int) + 1 := by omega
      rw [e1]; exact he'
    · have hb' : b < s.heap.objs.size := by
        have e' : b = e ∨ b = it := by simpa using hb
        rcases e' with z | z
        · rw [z]; exact hel
        · rw [z]; exact hil
      rw [upd_ne (Nat.ne_of_lt hb')]
      exact (hf b hb).1
  done := by
    intro X hP hw hK hc i pins s σ H E I hf st hg
    subst hP hw hK
    obtain ⟨⟨old, he⟩, hit, hne⟩ := st
    obtain ⟨xs, hq, hx⟩ := hg
    obtain ⟨its, rv, p, hz⟩ := I.tuple hq
    obtain ⟨f0, f1, f2, f3, f4, f5⟩ := hf it (by simp)
    have hl := rv.length
    exact pyNext_enumT_end (I.ok.hd hc) he hit p (by simp; omega) fun h' eb => ⟨rfl, I.turned (t' := s.toks) (fun b o hb q => eb b o hb q) f0 f1 f3 f4 f5⟩
  self := fun A i s Q E st h => let ⟨⟨_, he⟩, _⟩ := st; wpAny_pyIter_enum he h
def iEnumT (K : PySem.W.Frag) (ta : TA) : TI := fun σ H R => ta σ H fun vs H1 => ∃ a xs, vs = [.ref a] ∧ SqT K H1 a xs ∧ R (IteT K a) H1
theorem pi_enumT {X : Cx} {e : Expr} {ta : TA} {p pos tpos : Pos} {elts : List Expr} {kk : Nat} (hg : Gl X "enumerate") (hm : X.mg "enumerate" = none) (ha : PA X [e] ta) (hs : starEach [e] X.env = [(false, eval e X.env)] := by rfl) :
    PI X (.Tuple elts kk tpos) (.Call (.Name "enumerate" p) [e] [] pos) (iEnumT X.K ta) := by
  refine ⟨fun pins s σ H R I h => ?_⟩
  refine Call_ (ld_blt I hg hm boot_enumerate (PyProof.Rows.callWith_type1 (thn (ha.run pos pins s σ H _ I h) fun us s1 ⟨vs, H1, I1, r1, q1⟩ => ?_) hs rfl))
  obtain ⟨a, xs, ex, hq, q⟩ := q1
  subst ex
  cases r1 with
  | cons r rr =>
    cases rr
    cases r
    obtain ⟨its, rv, p', hz⟩ := I1.tuple hq
    refine call_enumerate_tup p' fun h' he hit hsz hk => wpAny_pyIter_enum he ?_
    have I2 : Inv X pins σ H1 { s1 with heap := h' } := I1.kept (t' := s1.toks) hk
    refine ⟨s1.heap.objs.size + 1, [s1.heap.objs.size + 1, s1.heap.objs.size], _, _, H1, rfl, I2, turn_enumT a (s1.heap.objs.size + 1) s1.heap.objs.size, ⟨⟨.none, he⟩, hit, Nat.succ_ne_self _⟩, fun b hb => ?_, q⟩
    have e' : b = s1.heap.objs.size + 1 ∨ b = s1.heap.objs.size := by simpa using hb
    have hle : s1.heap.objs.size ≤ b := by
      rcases e' with z | z
      · rw [z]; exact Nat.le_add_right _ _
      · rw [z]; exact Nat.le_refl _
    exact I1.fpOk hle (I1.hok.fresh hle)
section
variable {K : PySem.W.Frag} {a : Addr} {xs : List V}
theorem walk_enumT : Walk (IteT K a) xs.length (fun H => SqT K H a xs) (YPair (fun i => some (.int (i : Nat))) (fun i => xs[i]?)) := by
  refine ⟨fun i _ hi q => ⟨xs, xs[i], q, by simp [hi]⟩, fun _ q => ⟨xs, q, Nat.le_refl _⟩, fun i H v H' _ q y => ?_⟩
  obtain ⟨T, x, h1, h2, h3, h4⟩ := y
  exact ⟨T, .int (i : Nat), x, h1, h2, h3, rfl, h4 xs q⟩
end
def iEnumA (K : PySem.W.Frag) (ta : TA) : TI := fun σ H R => ta σ H fun vs H1 => ∃ a xs, vs = [.ref a] ∧ ((SqL K H1 a xs ∧ R (Ite K a) H1) ∨ (SqT K H1 a xs ∧ R (IteT K a) H1))
theorem pi_enumA {X : Cx} {e : Expr} {ta : TA} {p pos tpos : Pos} {elts : List Expr} {kk : Nat} (hg : Gl X "enumerate") (hm : X.mg "enumerate" = none) (ha : PA X [e] ta) (hs : starEach [e] X.env = [(false, eval e X.env)] := by rfl) :
    PI X (.Tuple elts kk tpos) (.Call (.Name "enumerate" p) [e] [] pos) (iEnumA X.K ta) := by
  refine ⟨fun pins s σ H R I h => ?_⟩
  refine Call_ (ld_blt I hg hm boot_enumerate (PyProof.Rows.callWith_type1 (thn (ha.run pos pins s σ H _ I h) fun us s1 ⟨vs, H1, I1, r1, q1⟩ => ?_) hs rfl))
  obtain ⟨a, xs, ex, hq⟩ := q1
  subst ex
  cases r1 with
  | cons r rr =>
    cases rr
    cases r
    rcases hq with ⟨hq, q⟩ | ⟨hq, q⟩
    · obtain ⟨its, rv, p', hz⟩ := I1.list hq
      refine call_enumerate_list p'.isList fun h' he hit hsz hk => wpAny_pyIter_enum he ?_
      have I2 : Inv X pins σ H1 { s1 with heap := h' } := I1.kept (t' := s1.toks) hk
      refine ⟨s1.heap.objs.size + 1, [s1.heap.objs.size + 1, s1.heap.objs.size], _, _, H1, rfl, I2, turn_enum a (s1.heap.objs.size + 1) s1.heap.objs.size, ⟨⟨.none, he⟩, hit, Nat.succ_ne_self _⟩, fun b hb => ?_, q⟩
      have e' : b = s1.heap.objs.size + 1 ∨ b = s1.heap.objs.size := by simpa using hb
      have hle : s1.heap.objs.size ≤ b := by
        rcases e' with z | z
        · rw [z]; exact Nat.le_add_right _ _
        · rw [z]; exact Nat.le_refl _
      exact I1.fpOk hle (I1.hok.fresh hle)
    · obtain ⟨its, rv, p', hz⟩ := I1.tuple hq
      refine call_enumerate_tup p' fun h' he hit hsz hk => wpAny_pyIter_enum he ?_
      have I2 : Inv X pins σ H1 { s1 with heap := h' } := I1.kept (t' := s1.toks) hk
      refine ⟨s1.heap.objs.size + 1, [s1.heap.objs.size + 1, s1.heap.objs.size], _, _, H1, rfl, I2, turn_enumT a (s1.heap.objs.size + 1) s1.heap.objs.size, ⟨⟨.none, he⟩, hit, Nat.succ_ne_self _⟩, fun b hb => ?_, q⟩
      have e' : b = s1.heap.objs.size + 1 ∨ b = s1.heap.objs.size := by simpa using hb
      have hle : s1.heap.objs.size ≤ b := by
        rcases e' with z | z
        · rw [z]; exact Nat.le_add_right _ _
        · rw [z]; exact Nat.le_refl _
      exact I1.fpOk hle (I1.hok.fresh hle)
end PD

/-! PDZ: zip of a list and a tuple. The two children are told by what they promise (Kid), so that one proof serves any pair. -/
namespace PD
open PySem
open PySem.Sem (wp)
section
variable (prog : Program) (w : World)
/-- a child of zip: an iterator at it over what stands at l, its items xs -/
structure Kid (it l : Addr) (St : Nat → Heap → Prop) (Src : Heap → Prop) (xs : Array Value) : Prop where
  obj : ∀ {k : Nat} {h : Heap}, St k h → ∃ o, h.get? it = some o
  at_ : ∀ {k : Nat} {h h' : Heap}, St k h → (∀ o, h.get? it = some o → h'.get? it = some o) → St k h'
  src : ∀ {h h' : Heap}, Src h → (∀ o, h.get? l = some o → h'.get? l = some o) → Src h'
  item : ∀ {A : Around} {E : Value → Shared → Prop} {s : Shared} {k : Nat} {x : Value} {Q : Value → Shared → Prop}, St k s.heap → Src s.heap → xs[k]? = some x →
    (∀ h', St (k + 1) h' → Heap.SameBut it s.heap h' → Q x { s with heap := h' }) → wpAny (model prog w) A (Builtin.SmallTypes.nextOf (.ref it)) Q E s
  fin : ∀ {A : Around} {E : Value → Shared → Prop} {s : Shared} {k : Nat} {Q : Value → Shared → Prop}, A.handled = none → St k s.heap → Src s.heap → xs[k]? = none →
    (∀ h' e, Heap.ExtBut it s.heap h' → (∃ o, h'.get? e = some o ∧ o.cls = .type "StopIteration") → E (.ref e) { s with heap := h' }) → wpAny (model prog w) A (Builtin.SmallTypes.nextOf (.ref it)) Q E s
end
section
variable {prog : Program} {w : World} {A : Around} {E : Value → Shared → Prop} {s : Shared} {z TI TO i1 i2 l1 l2 : Addr} {S1 S2 : Nat → Heap → Prop} {T1 T2 : Heap → Prop} {k1 k2 : Nat} {xs ys : Array Value} {x y a b : Value}
theorem kid_list (it l : Addr) (xs : Array Value) : Kid prog w it l (fun k h => h.IsListIter it l k) (fun h => h.IsList l xs) xs where
  obj := fun ⟨o, e, _⟩ => ⟨o, e⟩
  at_ := fun h e => h.at e
  src := fun ⟨o, e, r⟩ f => ⟨o, f _ e, r⟩
  item := fun h1 h2 h3 q => wpAny_nextOf_list_item h1 h2 h3 q
  fin := fun hh h1 h2 h3 q => wpAny_nextOf_list_end hh h1 h2 h3 q
theorem kid_tup (it l : Addr) (xs : Array Value) : Kid prog w it l (fun k h => h.IsTupleIter it l k) (fun h => h.IsTuple l xs) xs where
  obj := fun ⟨o, e, _⟩ => ⟨o, e⟩
  at_ := fun h e => h.at e
  src := fun ⟨o, e, r⟩ f => ⟨o, f _ e, r⟩
  item := fun h1 h2 h3 q => RZ.nextOf_tuple_item h1 h2 h3 q
  fin := fun hh h1 h2 h3 q => RZ.nextOf_tuple_end hh h1 h2 h3 q
theorem kid_next {Q : Value → Shared → Prop} (K1 : Kid prog w i1 l1 S1 T1 xs) (K2 : Kid prog w i2 l2 S2 T2 ys) (D : ZipApart z TI TO i1 i2 l1 l2)
    (hz : IsZip s.heap z TI TO .none) (hTI : IsPair s.heap TI (.ref i1) (.ref i2)) (hTO : IsPair s.heap TO a b) (h1 : S1 k1 s.heap) (h2 : S2 k2 s.heap) (hl1 : T1 s.heap) (hl2 : T2 s.heap) (hx : xs[k1]? = some x) (hy : ys[k2]? = some y)
    (hQ : ∀ h', IsZip h' z TI TO (rawInt s.heap.objs.size) → IsPair h' TO x y → S1 (k1 + 1) h' → S2 (k2 + 1) h' → IsPair h' s.heap.objs.size x y → h'.objs.size = s.heap.objs.size + 1 →
      (∀ c o, c ≠ z → c ≠ TO → c ≠ i1 → c ≠ i2 → s.heap.get? c = some o → h'.get? c = some o) → Q (.ref s.heap.objs.size) { s with heap := h' }) :
    wpAny (model prog w) A (Builtin.«zip.__next__» ⟨[.ref z], []⟩) (fun fin s' => ∃ v, fin = .done (.ret v) ∧ Q v s') E s := by
  show wpAny _ _ (field (.ref z) 2 >>= _) _ _ _
  refine wpAny_bind (wpAny_field hz rfl (x := .bool false) rfl ?_)
  show wpAny _ _ (field (.ref z) 3 >>= _) _ _ _
  refine wpAny_bind (wpAny_field hz rfl (x := .ref TI) rfl ?_)
  refine wpAny_bind (wpAny_seqItems hTI rfl ?_)
  show wpAny _ _ (Builtin.SmallTypes.ownedTupleIsFree (.ref z) >>= _) _ _ _
  refine wpAny_bind ?_
  unfold Builtin.SmallTypes.ownedTupleIsFree
  refine wpAny_bind (wpAny_field hz rfl (x := .none) rfl (wpAny_pure ?_))
  simp only [if_true]
  refine wpAny_bind (wpAny_rule ?_)
  refine wpAny_bind (wpAny_field hz rfl (x := .ref TO) rfl ?_)
  refine wpAny_bind (wpAny_setField_rec hz (by simp) fun ha za sa => ?_)
  replace za : IsZip ha z TI TO .ellipsis := za
  refine wpAny_bind ?_
  simp only [List.zipIdx_cons, List.zipIdx_nil, List.forIn_cons, List.forIn_nil]
  refine wpAny_bind (wpAny_bind (wpAny_onRaise ?_))
  show wpAny _ _ (Builtin.SmallTypes.nextOf (.ref i1) >>= _) _ _ _
  refine wpAny_bind (K1.item (K1.at_ h1 fun o e => sa.extBut _ o D.i1z e) (K1.src hl1 fun o e => sa.extBut _ o D.l1z e) hx fun hb p1 sb => wpAny_pure ?_)
  have TOb : IsPair hb TO a b := sb.extBut _ _ D.TOi1 (sa.extBut _ _ D.TOz hTO)
  refine wpAny_bind (wpAny_seqItems TOb rfl ?_)
  refine wpAny_bind (wpAny_updateSeq_pair TOb fun hc TOc sc => ?_)
  replace TOc : IsPair hc TO x b := TOc
  refine wpAny_bind (wpAny_letGo (wpAny_pure ?_))
  have up : ∀ c o, c ≠ z → c ≠ i1 → c ≠ TO → s.heap.get? c = some o → hc.get? c = some o := fun c o n1 n2 n3 e => sc.extBut _ _ n3 (sb.extBut _ _ n2 (sa.extBut _ _ n1 e))
  refine wpAny_bind (wpAny_bind (wpAny_onRaise ?_))
  show wpAny _ _ (Builtin.SmallTypes.nextOf (.ref i2) >>= _) _ _ _
  refine wpAny_bind (K2.item (K2.at_ h2 fun o e => up _ o D.i2z D.i12.symm D.TOi2.symm e) (K2.src hl2 fun o e => up _ o D.l2z D.l2i1 D.l2TO e) hy fun hd p2 sd => wpAny_pure ?_)
  have TOd : IsPair hd TO x b := sd.extBut _ _ D.TOi2 TOc
  refine wpAny_bind (wpAny_seqItems TOd rfl ?_)
  refine wpAny_bind (wpAny_updateSeq_pair TOd fun he TOe se => ?_)
  replace TOe : IsPair he TO x y := TOe
  refine wpAny_bind (wpAny_letGo (wpAny_pure (wpAny_pure ?_)))
  refine wpAny_bind (wpAny_seqItems TOe rfl ?_)
  refine wpAny_bind (wpAny_newTuple ?_)
  have hsz : he.objs.size = s.heap.objs.size := by rw [se.1, sd.1, sc.1, sb.1, sa.1]
  have ze : IsZip he z TI TO .ellipsis := se.extBut _ _ D.TOz.symm (sd.extBut _ _ D.i2z.symm (sc.extBut _ _ D.TOz.symm (sb.extBut _ _ D.i1z.symm za)))
  have q1 : S1 (k1 + 1) he := K1.at_ p1 fun o e => se.extBut _ _ D.TOi1.symm (sd.extBut _ _ D.i12 (sc.extBut _ _ D.TOi1.symm e))
  have q2 : S2 (k2 + 1) he := K2.at_ p2 fun o e => se.extBut _ _ D.TOi2.symm e
  have hzlt : z < he.objs.size := Heap.lt_size ze
  show wpAny _ _ (Builtin.SmallTypes.ownedTupleHandOut (.ref z) (.ref he.objs.size) >>= _) _ _ _
  refine wpAny_bind ?_
  unfold Builtin.SmallTypes.ownedTupleHandOut
  have zf : IsZip (he.push { cls := .type "tuple", data := .seq #[x, y] }) z TI TO .ellipsis := Heap.get?_push_of_some _ ze
  refine wpAny_bind (wpAny_setField_rec zf (by simp) fun hg zg sg => ?_)
  replace zg : IsZip hg z TI TO (rawInt he.objs.size) := zg
  refine wpAny_setField_rec zg (by simp) fun hh zh sh => ?_
  replace zh : IsZip hh z TI TO (rawInt he.objs.size) := zh
  have up2 : ∀ c o, c ≠ z → he.get? c = some o → hh.get? c = some o := fun c o c1 e => sh.extBut _ _ c1 (sg.extBut _ _ c1 (Heap.get?_push_of_some _ e))
  have hT : IsPair hh he.objs.size x y := sh.extBut _ _ (Nat.ne_of_gt hzlt) (sg.extBut _ _ (Nat.ne_of_gt hzlt) (Heap.get?_push_size _ rfl))
  have sz : hh.objs.size = he.objs.size + 1 := by rw [sh.1, sg.1, Heap.size_push]
  rw [hsz] at zh hT sz
  refine wpAny_pure ⟨_, rfl, ?_⟩
  show Q (.ref he.objs.size) _
  rw [hsz]
  exact hQ hh zh (up2 _ _ D.TOz TOe) (K1.at_ q1 fun o e => up2 _ o D.i1z e) (K2.at_ q2 fun o e => up2 _ o D.i2z e) hT sz fun c o c1 c2 c3 c4 e => up2 c o c1 (se.extBut _ _ c2 (sd.extBut _ _ c4 (up c o c1 c3 c2 e)))
theorem kid_end {Q : Fin → Shared → Prop} (K1 : Kid prog w i1 l1 S1 T1 xs) (K2 : Kid prog w i2 l2 S2 T2 ys) (hh : A.handled = none) (D : ZipApart z TI TO i1 i2 l1 l2)
    (hz : IsZip s.heap z TI TO .none) (hTI : IsPair s.heap TI (.ref i1) (.ref i2)) (hTO : IsPair s.heap TO a b) (h1 : S1 k1 s.heap) (h2 : S2 k2 s.heap) (hl1 : T1 s.heap) (hl2 : T2 s.heap) (hend : xs[k1]? = none ∨ ys[k2]? = none)
    (hE : ∀ h' e, (∀ c o, c ≠ z → c ≠ TO → c ≠ i1 → c ≠ i2 → s.heap.get? c = some o → h'.get? c = some o) → (∃ o, h'.get? e = some o ∧ o.cls = .type "StopIteration") → E (.ref e) { s with heap := h' }) :
    wpAny (model prog w) A (Builtin.«zip.__next__» ⟨[.ref z], []⟩) Q E s := by
  show wpAny _ _ (field (.ref z) 2 >>= _) _ _ _
  refine wpAny_bind (wpAny_field hz rfl (x := .bool false) rfl ?_)
  show wpAny _ _ (field (.ref z) 3 >>= _) _ _ _
  refine wpAny_bind (wpAny_field hz rfl (x := .ref TI) rfl ?_)
  refine wpAny_bind (wpAny_seqItems hTI rfl ?_)
  show wpAny _ _ (Builtin.SmallTypes.ownedTupleIsFree (.ref z) >>= _) _ _ _
  refine wpAny_bind ?_
  unfold Builtin.SmallTypes.ownedTupleIsFree
  refine wpAny_bind (wpAny_field hz rfl (x := .none) rfl (wpAny_pure ?_))
  simp only [if_true]
  refine wpAny_bind (wpAny_rule ?_)
  refine wpAny_bind (wpAny_field hz rfl (x := .ref TO) rfl ?_)
  refine wpAny_bind (wpAny_setField_rec hz (by simp) fun ha za sa => ?_)
  replace za : IsZip ha z TI TO .ellipsis := za
  refine wpAny_bind ?_
  simp only [List.zipIdx_cons, List.zipIdx_nil, List.forIn_cons, List.forIn_nil]
  refine wpAny_bind (wpAny_bind (wpAny_onRaise ?_))
  show wpAny _ _ (Builtin.SmallTypes.nextOf (.ref i1) >>= _) _ _ _
  have last : ∀ (hb : Heap) (e : Addr), IsZip hb z TI TO .ellipsis → (∃ o, hb.get? e = some o ∧ o.cls = .type "StopIteration") → ∃ o, hb.get? e = some o ∧ o.cls = .type "StopIteration" ∧ e ≠ z := fun hb e zb ⟨o, ho, hc⟩ =>
    ⟨o, ho, hc, fun q => by subst q; rw [zb] at ho; cases ho; simp at hc⟩
  cases hx : xs[k1]? with
  | none =>
    refine wpAny_bind (K1.fin hh (K1.at_ h1 fun o e => sa.extBut _ o D.i1z e) (K1.src hl1 fun o e => sa.extBut _ o D.l1z e) hx fun hb e sb he => ?_)
    have zb : IsZip hb z TI TO .ellipsis := sb _ _ D.i1z.symm za
    obtain ⟨oe, hoe, hce, hez⟩ := last hb e zb he
    refine wpAny_setField_rec zb (by simp) fun hc _ sc => hE hc e (fun c o c1 _ c3 _ q => sc.extBut _ _ c1 (sb _ _ c3 (sa.extBut _ _ c1 q))) ⟨oe, sc.extBut _ _ hez hoe, hce⟩
  | some x =>
    have hy : ys[k2]? = none := by rcases hend with h | h; rw [hx] at h; cases h; exact h
    refine wpAny_bind (K1.item (K1.at_ h1 fun o e => sa.extBut _ o D.i1z e) (K1.src hl1 fun o e => sa.extBut _ o D.l1z e) hx fun hb p1 sb => wpAny_pure ?_)
    have TOb : IsPair hb TO a b := sb.extBut _ _ D.TOi1 (sa.extBut _ _ D.TOz hTO)
    refine wpAny_bind (wpAny_seqItems TOb rfl ?_)
    refine wpAny_bind (wpAny_updateSeq_pair TOb fun hc TOc sc => ?_)
    refine wpAny_bind (wpAny_letGo (wpAny_pure ?_))
    have up : ∀ c o, c ≠ z → c ≠ i1 → c ≠ TO → s.heap.get? c = some o → hc.get? c = some o := fun c o n1 n2 n3 e => sc.extBut _ _ n3 (sb.extBut _ _ n2 (sa.extBut _ _ n1 e))
    refine wpAny_bind (wpAny_bind (wpAny_onRaise ?_))
    show wpAny _ _ (Builtin.SmallTypes.nextOf (.ref i2) >>= _) _ _ _
    refine wpAny_bind (K2.fin hh (K2.at_ h2 fun o e => up _ o D.i2z D.i12.symm D.TOi2.symm e) (K2.src hl2 fun o e => up _ o D.l2z D.l2i1 D.l2TO e) hy fun hd e sd he => ?_)
    have zd : IsZip hd z TI TO .ellipsis := sd _ _ D.i2z.symm (sc.extBut _ _ D.TOz.symm (sb.extBut _ _ D.i1z.symm za))
    obtain ⟨oe, hoe, hce, hez⟩ := last hd e zd he
    refine wpAny_setField_rec zd (by simp) fun hf _ sf => hE hf e (fun c o c1 c2 c3 c4 q => sf.extBut _ _ c1 (sd _ _ c4 (up c o c1 c3 c2 q))) ⟨oe, sf.extBut _ _ hez hoe, hce⟩
theorem kid_pyNext {Q : Option Value → Shared → Prop} (K1 : Kid prog w i1 l1 S1 T1 xs) (K2 : Kid prog w i2 l2 S2 T2 ys) (D : ZipApart z TI TO i1 i2 l1 l2)
    (hz : IsZip s.heap z TI TO .none) (hTI : IsPair s.heap TI (.ref i1) (.ref i2)) (hTO : IsPair s.heap TO a b) (h1 : S1 k1 s.heap) (h2 : S2 k2 s.heap) (hl1 : T1 s.heap) (hl2 : T2 s.heap) (hx : xs[k1]? = some x) (hy : ys[k2]? = some y)
    (hQ : ∀ h', IsZip h' z TI TO (rawInt s.heap.objs.size) → IsPair h' TO x y → S1 (k1 + 1) h' → S2 (k2 + 1) h' → IsPair h' s.heap.objs.size x y → h'.objs.size = s.heap.objs.size + 1 →
      (∀ c o, c ≠ z → c ≠ TO → c ≠ i1 → c ≠ i2 → s.heap.get? c = some o → h'.get? c = some o) → Q (some (.ref s.heap.objs.size)) { s with heap := h' }) :
    wpAny (model prog w) A (pyNext (.ref z)) Q E s := by
  have hT : s.TypeIs (.ref z) "zip" := ⟨_, hz, rfl⟩
  unfold pyNext
  exact wpAny_bind (wpAny_attempt (wpAny_callSpecial?_slot (name := Str.ofString "__next__") hT F.slot_zip_next
    (wpAny_call_entry F.slot_zip_next hT F.entry_zip_next
      (kid_next K1 K2 D hz hTI hTO h1 h2 hl1 hl2 hx hy fun h' a1 a2 a3 a4 a5 a6 a7 => wpAny_pure (hQ h' a1 a2 a3 a4 a5 a6 a7)) (F.args_zip_next_1 _))))
theorem kid_pyEnd {Q : Option Value → Shared → Prop} (K1 : Kid prog w i1 l1 S1 T1 xs) (K2 : Kid prog w i2 l2 S2 T2 ys) (hh : A.handled = none) (D : ZipApart z TI TO i1 i2 l1 l2)
    (hz : IsZip s.heap z TI TO .none) (hTI : IsPair s.heap TI (.ref i1) (.ref i2)) (hTO : IsPair s.heap TO a b) (h1 : S1 k1 s.heap) (h2 : S2 k2 s.heap) (hl1 : T1 s.heap) (hl2 : T2 s.heap) (hend : xs[k1]? = none ∨ ys[k2]? = none)
    (hQ : ∀ h', (∀ c o, c ≠ z → c ≠ TO → c ≠ i1 → c ≠ i2 → s.heap.get? c = some o → h'.get? c = some o) → Q none { s with heap := h' }) : wpAny (model prog w) A (pyNext (.ref z)) Q E s := by
  have hT : s.TypeIs (.ref z) "zip" := ⟨_, hz, rfl⟩
  unfold pyNext
  refine wpAny_bind (wpAny_attempt (wpAny_callSpecial?_slot (name := Str.ofString "__next__") hT F.slot_zip_next
    (wpAny_call_entry F.slot_zip_next hT F.entry_zip_next (kid_end K1 K2 hh D hz hTI hTO h1 h2 hl1 hl2 hend fun h' e hk he => ?_) (F.args_zip_next_1 _))))
  obtain ⟨o, ho, hc⟩ := he
  refine wpAny_bind (wpAny_isInstance (T := "StopIteration") (b := true) ⟨o, ho, hc⟩ isSubtype_stop ?_)
  exact wpAny_pure (hQ _ hk)
end
end PD
namespace PD
open PySem PySem.Spec PyProof.Rows L2 RZ
/-! what zip of a list and a tuple makes -/
def mzH1 (h : Heap) (l1 : Addr) : Heap := h.push { cls := .type "list_iterator", data := .fields #[.ref l1, .int 0 0] }
def mzH2 (h : Heap) (l1 l2 : Addr) : Heap := (mzH1 h l1).push { cls := .type "tuple_iterator", data := .fields #[.ref l2, .int 0 0] }
def mzH3 (h : Heap) (l1 l2 : Addr) : Heap := (mzH2 h l1 l2).push { cls := .type "tuple", data := .seq #[.ref h.objs.size, .ref (mzH1 h l1).objs.size] }
def mzH4 (h : Heap) (l1 l2 : Addr) : Heap := (mzH3 h l1 l2).push { cls := .type "tuple", data := .seq #[.none, .none] }
def mzH5 (h : Heap) (l1 l2 : Addr) : Heap := (mzH4 h l1 l2).push { cls := .type "zip", data := .fields #[.none, .bool false, .bool false, .ref (mzH2 h l1 l2).objs.size, .ref (mzH3 h l1 l2).objs.size] }
theorem mz_new (l1 l2 : Addr) (xs ys : Array Value) :
    Meets (Builtin.«zip.__new__» ⟨[.type "zip", .ref l1, .ref l2], []⟩) (fun _ R s => s.heap.IsList l1 xs ∧ s.heap.IsTuple l2 ys ∧
      R (.ok (.ret (.ref (mzH4 s.heap l1 l2).objs.size))) { s with heap := mzH5 s.heap l1 l2 }) :=
  .of_wp fun prog w A R s h => by
    obtain ⟨hp, g, d, tk, os⟩ := s; obtain ⟨hl1, hl2, h⟩ := h
    have hsub := sub_zip
    have hL1 : Heap.IsList (Shared.heap ⟨hp, g, d, tk, os⟩) l1 xs := hl1
    have hL2 : Heap.IsTuple (Shared.heap ⟨hp.push { cls := .type "list_iterator", data := .fields #[.ref l1, .int 0 0] }, g, d, tk, os⟩) l2 ys := Heap.IsTuple.push hl2 _
    wp_walk using wpAny_pyIter_list hL1, wpAny_pyIter_tuple hL2
    exact ⟨_, rfl, h⟩
theorem mz_call {prog : Program} {w : World} {A : Around} {E : Value → Shared → Prop} {s : Shared} {l1 l2 : Addr} {xs ys : Array Value} {Q : Value → Shared → Prop} (hl1 : s.heap.IsList l1 xs) (hl2 : s.heap.IsTuple l2 ys)
    (h : ∀ h', IsZip h' (s.heap.objs.size + 4) (s.heap.objs.size + 2) (s.heap.objs.size + 3) .none → IsPair h' (s.heap.objs.size + 2) (.ref s.heap.objs.size) (.ref (s.heap.objs.size + 1)) →
      IsPair h' (s.heap.objs.size + 3) .none .none → h'.IsListIter s.heap.objs.size l1 0 → h'.IsTupleIter (s.heap.objs.size + 1) l2 0 →
      (∀ c o, s.heap.get? c = some o → h'.get? c = some o) → Q (.ref (s.heap.objs.size + 4)) { s with heap := h' }) :
    wpAny (model prog w) A (call (.type "zip") [.ref l1, .ref l2]) Q E s := by
  refine callType_new F.called_zip (by decide) (F.typeCall_zip_2 _ _) (F.newCall_zip_2 _ _) (fun obj => F.args_object_init_3 obj _ _) F.entry_zip_new (mz_new l1 l2 xs ys) ⟨hl1, hl2, ?_⟩
  have z1 : (mzH1 s.heap l1).objs.size = s.heap.objs.size + 1 := Heap.size_push ..
  have z2 : (mzH2 s.heap l1 l2).objs.size = s.heap.objs.size + 2 := by unfold mzH2; rw [Heap.size_push, z1]
  have z3 : (mzH3 s.heap l1 l2).objs.size = s.heap.objs.size + 3 := by unfold mzH3; rw [Heap.size_push, z2]
  have z4 : (mzH4 s.heap l1 l2).objs.size = s.heap.objs.size + 4 := by unfold mzH4; rw [Heap.size_push, z3]
  have u5 : ∀ c o, (mzH4 s.heap l1 l2).get? c = some o → (mzH5 s.heap l1 l2).get? c = some o := fun c o e => Heap.get?_push_of_some _ e
  have u4 : ∀ c o, (mzH3 s.heap l1 l2).get? c = some o → (mzH5 s.heap l1 l2).get? c = some o := fun c o e => u5 c o (Heap.get?_push_of_some _ e)
  have u3 : ∀ c o, (mzH2 s.heap l1 l2).get? c = some o → (mzH5 s.heap l1 l2).get? c = some o := fun c o e => u4 c o (Heap.get?_push_of_some _ e)
  have u2 : ∀ c o, (mzH1 s.heap l1).get? c = some o → (mzH5 s.heap l1 l2).get? c = some o := fun c o e => u3 c o (Heap.get?_push_of_some _ e)
  have u1 : ∀ c o, s.heap.get? c = some o → (mzH5 s.heap l1 l2).get? c = some o := fun c o e => u2 c o (Heap.get?_push_of_some _ e)
  have g5 : (mzH5 s.heap l1 l2).get? (mzH4 s.heap l1 l2).objs.size = some _ := Heap.get?_push_size _ rfl
  have g4 := u5 _ _ (show (mzH4 s.heap l1 l2).get? (mzH3 s.heap l1 l2).objs.size = some _ from Heap.get?_push_size _ rfl)
  have g3 := u4 _ _ (show (mzH3 s.heap l1 l2).get? (mzH2 s.heap l1 l2).objs.size = some _ from Heap.get?_push_size _ rfl)
  have g2 := u3 _ _ (show (mzH2 s.heap l1 l2).get? (mzH1 s.heap l1).objs.size = some _ from Heap.get?_push_size _ rfl)
  have g1 := u2 _ _ (show (mzH1 s.heap l1).get? s.heap.objs.size = some _ from Heap.get?_push_size _ rfl)
  show _ ∧ _
  rw [z2, z3, z4] at g5
  rw [z1, z2] at g3
  rw [z3] at g4
  rw [z1] at g2
  rw [z4]
  exact ⟨⟨_, g5, rfl⟩, h _ g5 g3 g4 ⟨_, g1, rfl, rfl⟩ ⟨_, g2, rfl, rfl⟩ u1⟩
/-- the list at a and the tuple at b as they stand at each turn, the items in new pairs -/
def ItzM (K : PySem.W.Frag) (a b : Addr) : It :=
  ⟨fun i H => ∃ (xs ys : List V) (x y : V), SqL K H a xs ∧ SqT K H b ys ∧ xs[i]? = some x ∧ ys[i]? = some y,
    fun i H v H' => ∃ T x y, v = .ref T ∧ H T = none ∧ H' = upd H T (.tup [x, y]) ∧ (∀ xs, SqL K H a xs → xs[i]? = some x) ∧ ∀ ys, SqT K H b ys → ys[i]? = some y,
    fun i H => ∃ xs ys : List V, SqL K H a xs ∧ SqT K H b ys ∧ (xs.length ≤ i ∨ ys.length ≤ i)⟩
theorem turn_zipM {P : Program} {w : World} {K : PySem.W.Frag} {elts : List Expr} {kk : Nat} {tpos : Pos} {a b z TI TO i1 i2 : Addr} (D : ZipApart z TI TO i1 i2 a b) :
    Turn P w K (.Tuple elts kk tpos) (ItzM K a b) [z, TI, TO, i1, i2] z (fun i h => IsZip h z TI TO .none ∧ IsPair h TI (.ref i1) (.ref i2) ∧ (∃ x y, IsPair h TO x y) ∧ h.IsListIter i1 a i ∧ h.IsTupleIter i2 b i) where
  mem := by simp
  obj := fun i h st c hc => by
    obtain ⟨hz, hTI, ⟨x, y, hTO⟩, ⟨o1, e1, _, d1⟩, ⟨o2, e2, _, d2⟩⟩ := st
    have e' : c = z ∨ c = TI ∨ c = TO ∨ c = i1 ∨ c = i2 := by simpa using hc
    rcases e' with rfl | rfl | rfl | rfl | rfl
    · exact ⟨_, hz, fun v q => nomatch q⟩
    · exact ⟨_, hTI, fun v q => nomatch q⟩
    · exact ⟨_, hTO, fun v q => nomatch q⟩
    · exact ⟨o1, e1, fun v q => by rw [d1] at q; cases q⟩
    · exact ⟨o2, e2, fun v q => by rw [d2] at q; cases q⟩
  keep := fun i h h' st k => by
    obtain ⟨hz, hTI, ⟨x, y, hTO⟩, h1, h2⟩ := st
    exact ⟨k z (by simp) _ hz, k TI (by simp) _ hTI, ⟨x, y, k TO (by simp) _ hTO⟩, h1.at fun o q => k i1 (by simp) o q, h2.at fun o q => k i2 (by simp) o q⟩
  item := by
    intro X hP hw hK hc i pins s σ H E I hf st hg
    subst hP hw hK
    obtain ⟨hz, hTI, ⟨x0, y0, hTO⟩, h1, h2⟩ := st
    obtain ⟨xs, ys, x, y, hqx, hqy, hx, hy⟩ := hg
    obtain ⟨its, rv, p, _⟩ := I.list hqx
    obtain ⟨its2, rv2, p2, _⟩ := I.tuple hqy
    obtain ⟨u, hu, ru⟩ := rv.get hx
    obtain ⟨u2, hu2, ru2⟩ := rv2.get hy
    have hzl : z < s.heap.objs.size := Heap.lt_size hz
    refine kid_pyNext (kid_list i1 a its.toArray) (kid_tup i2 b its2.toArray) D hz hTI hTO h1 h2 p.isList p2 (x := u) (y := u2) (by simpa using hu) (by simpa using hu2) fun h' z' TO' h1' h2' hT hsz hk => ?_
    refine ⟨_, rfl, wpAny_letOwnedTupleGo_zip (s := { s with heap := h' }) z' fun h'' z'' sb => ?_⟩
    have hT2 : h''.get? s.heap.objs.size = some { cls := .type "tuple", data := .seq #[u, u2] } := (sb.2 _ (Nat.ne_of_gt hzl)).trans hT
    have new : ObjOk X.prog X.w (upd H s.heap.objs.size (.tup [x, y])) h'' s.heap.objs.size (.tup [x, y]) :=
      ⟨by show 2 ≤ sizeLine; decide, [u, u2], .cons ru (.cons ru2 .nil), ⟨_, hT2, rfl, _, rfl⟩⟩
    have I1 : Inv X pins σ (upd H s.heap.objs.size (.tup [x, y])) { s with heap := h'' } :=
      I.turnedNew (t' := s.toks) (ch := [z, TI, TO, i1, i2]) (fun c o hb q => (sb.2 c (fun q' => hb (by simp [q']))).trans (hk c o (fun q' => hb (by simp [q'])) (fun q' => hb (by simp [q'])) (fun q' => hb (by simp [q'])) (fun q' => hb (by simp [q'])) q)) hf (Nat.le_refl _) new
    refine ⟨.ref s.heap.objs.size, _, I1, rfl, ⟨_, x, y, rfl, I.hok.fresh (Nat.le_refl _), rfl, fun l hl => by rw [I.list_inj hl hqx]; exact hx, fun l hl => by rw [I.tuple_inj hl hqy]; exact hy⟩, ⟨z'', ?_, ⟨u, u2, ?_⟩, ?_, ?_⟩, fun c hcm => ?_⟩
    · exact (sb.2 _ D.TIz).trans (hk _ _ D.TIz D.TITO D.TIi1 D.TIi2 hTI)
    · exact (sb.2 _ D.TOz).trans TO'
    · exact h1'.at fun o q => (sb.2 _ D.i1z).trans q
    · exact h2'.at fun o q => (sb.2 _ D.i2z).trans q
    · have hlt : c < s.heap.objs.size := by
        have e' : c = z ∨ c = TI ∨ c = TO ∨ c = i1 ∨ c = i2 := by simpa using hcm
        rcases e' with q | q | q | q | q
        · rw [q]; exact hzl
        · rw [q]; exact Heap.lt_size hTI
        · rw [q]; exact Heap.lt_size hTO
        · rw [q]; obtain ⟨_, e1, _⟩ := h1; exact Heap.lt_size e1
        · rw [q]; obtain ⟨_, e2, _⟩ := h2; exact Heap.lt_size e2
      rw [upd_ne (Nat.ne_of_lt hlt)]
      exact (hf c hcm).1
  done := by
    intro X hP hw hK hc i pins s σ H E I hf st hg
    subst hP hw hK
    obtain ⟨hz, hTI, ⟨x0, y0, hTO⟩, h1, h2⟩ := st
    obtain ⟨xs, ys, hqx, hqy, hend⟩ := hg
    obtain ⟨its, rv, p, _⟩ := I.list hqx
    obtain ⟨its2, rv2, p2, _⟩ := I.tuple hqy
    have l1 := rv.length
    have l2 := rv2.length
    have he : its.toArray[i]? = none ∨ its2.toArray[i]? = none := by
      rcases hend with q | q
      · exact .inl (by simp; omega)
      · exact .inr (by simp; omega)
    exact kid_pyEnd (kid_list i1 a its.toArray) (kid_tup i2 b its2.toArray) (I.ok.hd hc) D hz hTI hTO h1 h2 p.isList p2 he fun h' hk => ⟨rfl, I.turnedL (t' := s.toks) (ch := [z, TI, TO, i1, i2]) (fun c o hb q =>
      hk c o (fun q' => hb (by simp [q'])) (fun q' => hb (by simp [q'])) (fun q' => hb (by simp [q'])) (fun q' => hb (by simp [q'])) q) hf⟩
  self := fun A i s Q E st h => wpAny_pyIter_zip st.1 h
def iZipM (K : PySem.W.Frag) (ta : TA) : TI := fun σ H R => ta σ H fun vs H1 => ∃ a b xs ys, vs = [.ref a, .ref b] ∧ SqL K H1 a xs ∧ SqT K H1 b ys ∧ R (ItzM K a b) H1
theorem pi_zipM {X : Cx} {e e2 : Expr} {ta : TA} {p pos tpos : Pos} {elts : List Expr} {kk : Nat} (hg : Gl X "zip") (hm : X.mg "zip" = none) (ha : PA X [e, e2] ta)
    (hs : starEach [e, e2] X.env = (false, eval e X.env) :: starEach [e2] X.env) (hpl : (backTo pos (starEach [e2] X.env)).any (·.1) = false) :
    PI X (.Tuple elts kk tpos) (.Call (.Name "zip" p) [e, e2] [] pos) (fun σ H R => ta σ H fun vs H1 => ∃ a b xs ys, vs = [.ref a, .ref b] ∧ ((SqL X.K H1 a xs ∧ SqL X.K H1 b ys ∧ R (Itz X.K a b) H1) ∨ (SqT X.K H1 a xs ∧ SqT X.K H1 b ys ∧ R (ItzT X.K a b) H1) ∨ (SqL X.K H1 a xs ∧ SqT X.K H1 b ys ∧ R (ItzM X.K a b) H1))) := by
  refine ⟨fun pins s σ H R I h => ?_⟩
  refine Call_ (ld_blt I hg hm PyProof.Rows.boot_zip (PyProof.Rows.callWith_type1 (thn (ha.run pos pins s σ H _ I h) fun us s1 ⟨vs, H1, I1, r1, q1⟩ => ?_) hs hpl))
  obtain ⟨a, b, xs, ys, rfl, q1⟩ := q1
  cases r1 with
  | cons r rr =>
    cases rr with
    | cons r' rr =>
      cases rr
      cases r
      cases r'
      have fresh5 : ∀ c, c ∈ [s1.heap.objs.size + 4, s1.heap.objs.size + 2, s1.heap.objs.size + 3, s1.heap.objs.size, s1.heap.objs.size + 1] → FpOk X pins H1 c := fun c hcm => by
        have hle : s1.heap.objs.size ≤ c := by
          simp only [List.mem_cons, List.not_mem_nil, or_false] at hcm
          rcases hcm with q | q | q | q | q <;> (rw [q]; first | exact Nat.le_add_right _ _ | exact Nat.le_refl _)
        exact I1.fpOk hle (I1.hok.fresh hle)
      rcases q1 with ⟨hqx, hqy, q⟩ | ⟨hqx, hqy, q⟩ | ⟨hqx, hqy, q⟩
      · obtain ⟨its, rv, p1, _⟩ := I1.list hqx
        obtain ⟨its2, rv2, p2, _⟩ := I1.list hqy
        refine call_zip_2 p1.isList p2.isList fun h' hz hTI hTO h1 h2 hsz hk => wpAny_pyIter_zip hz ?_
        exact ⟨s1.heap.objs.size + 4, [s1.heap.objs.size + 4, s1.heap.objs.size + 2, s1.heap.objs.size + 3, s1.heap.objs.size, s1.heap.objs.size + 1], _, _, H1, rfl, I1.kept (t' := s1.toks) hk, turn_zip (PySem.W.ktu_apart s1.heap.objs.size a b p1.lt p2.lt), ⟨hz, hTI, ⟨_, _, hTO⟩, h1, h2⟩, fresh5, q⟩
      · obtain ⟨its, rv, p1, _⟩ := I1.tuple hqx
        obtain ⟨its2, rv2, p2, _⟩ := I1.tuple hqy
        obtain ⟨o1, ho1, _⟩ := id p1
        obtain ⟨o2, ho2, _⟩ := id p2
        refine RZ.call_zipT (show s1.heap.IsTuple a its.toArray from p1) (show s1.heap.IsTuple b its2.toArray from p2) fun h' hz hTI hTO h1 h2 hsz hk => wpAny_pyIter_zip hz ?_
        exact ⟨s1.heap.objs.size + 4, [s1.heap.objs.size + 4, s1.heap.objs.size + 2, s1.heap.objs.size + 3, s1.heap.objs.size, s1.heap.objs.size + 1], _, _, H1, rfl, I1.kept (t' := s1.toks) hk, turn_zipT (PySem.W.ktu_apart s1.heap.objs.size a b (Heap.lt_size ho1) (Heap.lt_size ho2)), ⟨hz, hTI, ⟨_, _, hTO⟩, h1, h2⟩, fresh5, q⟩
      · obtain ⟨its, rv, p1, _⟩ := I1.list hqx
        obtain ⟨its2, rv2, p2, _⟩ := I1.tuple hqy
        obtain ⟨o2, ho2, _⟩ := id p2
        refine mz_call p1.isList (show s1.heap.IsTuple b its2.toArray from p2) fun h' hz hTI hTO h1 h2 hk => wpAny_pyIter_zip hz ?_
        exact ⟨s1.heap.objs.size + 4, [s1.heap.objs.size + 4, s1.heap.objs.size + 2, s1.heap.objs.size + 3, s1.heap.objs.size, s1.heap.objs.size + 1], _, _, H1, rfl, I1.kept (t' := s1.toks) hk, turn_zipM (PySem.W.ktu_apart s1.heap.objs.size a b p1.lt (Heap.lt_size ho2)), ⟨hz, hTI, ⟨_, _, hTO⟩, h1, h2⟩, fresh5, q⟩
end PD

/-! PD8: what is walked; loops. -/
namespace PD
open PySem PySem.Spec PyProof.Rows L2 RZ
/-- a walk that gives just these things, while what is shared stays -/
def WkD (K : PySem.W.Frag) (J : It) (H1 : Hp) (w1 : Wh) (xs : List D) : Prop := ∃ (G : Hp → Prop) (Y : Nat → Hp → V → Hp → Prop), Walk J xs.length G Y ∧ (∀ H' w', Sty H1 w1 H' w' → G H') ∧
  ∀ i H x H' w, i < xs.length → Y i H x H' → Sty H1 w1 H w → Wf H w → ∃ d, xs[i]? = some d ∧ Sty H w H' w ∧ (∀ a l, w a = some l → H' a = H a) ∧ Wf H' w ∧ Rp K H' w x d
def tiI (K : PySem.W.Frag) (F : List Fn) (r : Sr) : TI := fun σ H R => ∃ n w μ e xs e', Wf H w ∧ EnvR K H w μ σ e ∧ evI F r e = .ok xs e' ∧ ∀ J H1 w1, Aft K n μ σ e' H w H1 w1 → WkD K J H1 w1 xs → R J H1
section
variable {K : PySem.W.Frag} {H : Hp} {w : Wh}
theorem wk_list {v : V} {d : D} {ds : List D} (r : Rp K H w v d) (hd : d = .list ds) : ∃ a xs, v = .ref a ∧ SqL K H a xs ∧ WkD K (Itl K a) H w ds := by
  subst hd
  cases r with
  | lst nd ra =>
    refine ⟨_, _, rfl, nd.sq, fun H' => SqL K H' _ _, YAt _, ra.length ▸ walk_list, fun H' w' s => (nd.mono s).sq, fun i H2 x H3 w2 hi y s wf => ?_⟩
    obtain ⟨rfl, hx⟩ := y
    obtain ⟨d, h1, h2⟩ := (ra.mono s).getV hx
    exact ⟨d, h1, fun _ _ h e => ⟨h, e⟩, fun _ _ _ => rfl, wf, h2⟩
theorem wk_tup {v : V} {d : D} {ds : List D} (r : Rp K H w v d) (hd : d = .tuple ds) : ∃ a xs, v = .ref a ∧ SqT K H a xs ∧ WkD K (Itt K a) H w ds := by
  subst hd
  cases r with
  | tup nd ra =>
    refine ⟨_, _, rfl, nd.sq, fun H' => SqT K H' _ _, YAt _, ra.length ▸ walk_tup, fun H' w' s => (nd.mono s).sq, fun i H2 x H3 w2 hi y s wf => ?_⟩
    obtain ⟨rfl, hx⟩ := y
    obtain ⟨d, h1, h2⟩ := (ra.mono s).getV hx
    exact ⟨d, h1, fun _ _ h e => ⟨h, e⟩, fun _ _ _ => rfl, wf, h2⟩
theorem wk_range {lo hi : Int} {xs : List D} (h : rngD lo hi = some xs) : WkD K (Itr lo (hi - lo).toNat) H w xs := by
  unfold rngD at h
  split at h
  · cases h
    refine ⟨fun _ => True, YFn fun i => .int (lo + i), ?_, fun _ _ _ => trivial, fun i H2 x H3 w2 hi y s wf => ?_⟩
    · rw [List.length_map, List.length_range]
      exact walk_range
    · obtain ⟨rfl, rfl⟩ := y
      rw [List.length_map, List.length_range] at hi
      exact ⟨.int (lo + i), by simp [hi], fun _ _ h e => ⟨h, e⟩, fun _ _ _ => rfl, wf, .int _⟩
  · cases h
theorem wk_pair {J : It} {n : Nat} {G : Hp → Prop} {fx fy : Nat → Option V} {xs : List D} {gx gy : Nat → D} (wk : Walk J n G (YPair fx fy)) (hn : xs.length = n) (hG : ∀ H' w', Sty H w H' w' → G H')
    (hx : ∀ i H' w' x y, i < n → Sty H w H' w' → fx i = some x → fy i = some y → xs[i]? = some (.tuple [gx i, gy i]) ∧ Rp K H' w' x (gx i) ∧ Rp K H' w' y (gy i)) : WkD K J H w xs := by
  subst hn
  refine ⟨G, _, wk, hG, fun i H2 x H3 w2 hi y s wf => ?_⟩
  obtain ⟨T, x1, y1, rfl, hT, rfl, e1, e2⟩ := y
  obtain ⟨h1, h2, h3⟩ := hx i H2 w2 x1 y1 hi s e1 e2
  obtain ⟨s2, wf2, r2⟩ := new_tup (n := 0) wf hT (.cons h2 (.cons h3 .nil))
  exact ⟨_, h1, s2.sh, (fun a l ha => upd_ne fun z => by rw [z, wf T hT] at ha; cases ha), wf2, r2⟩
theorem wk_enum {v : V} {ds : List D} (r : Rp K H w v (.list ds)) : ∃ a xs, v = .ref a ∧ SqL K H a xs ∧ WkD K (Ite K a) H w (enumD ds) := by
  cases r with
  | lst nd ra =>
    rename_i a xs
    refine ⟨a, xs, rfl, nd.sq, wk_pair (gx := fun i => .int i) (gy := fun i => ds.getD i .none) walk_enum ?_ (fun H' w' s => (nd.mono s).sq) fun i H' w' x y hi s e1 e2 => ?_⟩
    · unfold enumD
      rw [List.length_zipWith, List.length_range, Nat.min_self, ra.length]
    · cases e1
      obtain ⟨d, h1, h2⟩ := (ra.mono s).getV e2
      have hi' : i < ds.length := by rw [← ra.length]; exact hi
      refine ⟨?_, .int _, ?_⟩
      · unfold enumD
        rw [List.getElem?_zipWith, List.getElem?_range hi', h1, List.getD_eq_getElem?_getD, h1]
        rfl
      · rw [List.getD_eq_getElem?_getD, h1]
        exact h2
theorem wk_enumT {v : V} {ds : List D} (r : Rp K H w v (.tuple ds)) : ∃ a xs, v = .ref a ∧ SqT K H a xs ∧ WkD K (IteT K a) H w (enumD ds) := by
  cases r with
  | tup nd ra =>
    rename_i a xs
    refine ⟨a, xs, rfl, nd.sq, wk_pair (gx := fun i => .int i) (gy := fun i => ds.getD i .none) walk_enumT ?_ (fun H' w' s => (nd.mono s).sq) fun i H' w' x y hi s e1 e2 => ?_⟩
    · unfold enumD
      rw [List.length_zipWith, List.length_range, Nat.min_self, ra.length]
    · cases e1
      obtain ⟨d, h1, h2⟩ := (ra.mono s).getV e2
      have hi' : i < ds.length := by rw [← ra.length]; exact hi
      refine ⟨?_, .int _, ?_⟩
      · unfold enumD
        rw [List.getElem?_zipWith, List.getElem?_range hi', h1, List.getD_eq_getElem?_getD, h1]
        rfl
      · rw [List.getD_eq_getElem?_getD, h1]
        exact h2
theorem zip_at {xs ys : List D} {i : Nat} {x y : D} (h1 : xs[i]? = some x) (h2 : ys[i]? = some y) : (zipD xs ys)[i]? = some (.tuple [xs.getD i .none, ys.getD i .none]) := by
  unfold zipD
  rw [List.getElem?_zipWith, h1, h2, List.getD_eq_getElem?_getD, List.getD_eq_getElem?_getD, h1, h2]
  rfl
theorem wk_zipL {v u : V} {ds es : List D} (r : Rp K H w v (.list ds)) (q : Rp K H w u (.list es)) : ∃ a b xs ys, v = .ref a ∧ u = .ref b ∧ SqL K H a xs ∧ SqL K H b ys ∧ WkD K (Itz K a b) H w (zipD ds es) := by
  cases r with
  | lst nd ra =>
    cases q with
    | lst ne rb =>
      rename_i a xs b ys
      refine ⟨a, b, xs, ys, rfl, rfl, nd.sq, ne.sq, wk_pair (gx := fun i => ds.getD i .none) (gy := fun i => es.getD i .none) (walk_zip (xs := xs) (ys := ys) rfl) ?_ (fun H' w' s => ⟨(nd.mono s).sq, (ne.mono s).sq⟩) fun i H' w' x y hi s e1 e2 => ?_⟩
      · unfold zipD
        rw [List.length_zipWith, ra.length, rb.length]
      · obtain ⟨d, h1, h2⟩ := (ra.mono s).getV e1
        obtain ⟨d', h1', h2'⟩ := (rb.mono s).getV e2
        refine ⟨zip_at h1 h1', ?_, ?_⟩
        · rw [List.getD_eq_getElem?_getD, h1]; exact h2
        · rw [List.getD_eq_getElem?_getD, h1']; exact h2'
theorem walk_zipT {K : PySem.W.Frag} {a b : Addr} {xs ys : List V} {n : Nat} (hn : n = min xs.length ys.length) : Walk (ItzT K a b) n (fun H => SqT K H a xs ∧ SqT K H b ys) (YPair (fun i => xs[i]?) (fun i => ys[i]?)) := by
  subst hn
  refine ⟨fun i _ hi q => ?_, fun _ q => ⟨xs, ys, q.1, q.2, by omega⟩, fun i H v H' _ q y => ?_⟩
  · have h1 : i < xs.length := by omega
    have h2 : i < ys.length := by omega
    exact ⟨xs, ys, xs[i], ys[i], q.1, q.2, by simp [h1], by simp [h2]⟩
  · obtain ⟨T, x, y, h1, h2, h3, h4, h5⟩ := y
    exact ⟨T, x, y, h1, h2, h3, h4 xs q.1, h5 ys q.2⟩
theorem wk_zipT {v u : V} {ds es : List D} (r : Rp K H w v (.tuple ds)) (q : Rp K H w u (.tuple es)) : ∃ a b xs ys, v = .ref a ∧ u = .ref b ∧ SqT K H a xs ∧ SqT K H b ys ∧ WkD K (ItzT K a b) H w (zipD ds es) := by
  cases r with
  | tup nd ra =>
    cases q with
    | tup ne rb =>
      rename_i a xs b ys
      refine ⟨a, b, xs, ys, rfl, rfl, nd.sq, ne.sq, wk_pair (gx := fun i => ds.getD i .none) (gy := fun i => es.getD i .none) (walk_zipT (xs := xs) (ys := ys) rfl) ?_ (fun H' w' s => ⟨(nd.mono s).sq, (ne.mono s).sq⟩) fun i H' w' x y hi s e1 e2 => ?_⟩
      · unfold zipD
        rw [List.length_zipWith, ra.length, rb.length]
      · obtain ⟨d, h1, h2⟩ := (ra.mono s).getV e1
        obtain ⟨d', h1', h2'⟩ := (rb.mono s).getV e2
        refine ⟨zip_at h1 h1', ?_, ?_⟩
        · rw [List.getD_eq_getElem?_getD, h1]; exact h2
        · rw [List.getD_eq_getElem?_getD, h1']; exact h2'
theorem walk_zipM {K : PySem.W.Frag} {a b : Addr} {xs ys : List V} {n : Nat} (hn : n = min xs.length ys.length) : Walk (ItzM K a b) n (fun H => SqL K H a xs ∧ SqT K H b ys) (YPair (fun i => xs[i]?) (fun i => ys[i]?)) := by
  subst hn
  refine ⟨fun i _ hi q => ?_, fun _ q => ⟨xs, ys, q.1, q.2, by omega⟩, fun i H v H' _ q y => ?_⟩
  · have h1 : i < xs.length := by omega
    have h2 : i < ys.length := by omega
    exact ⟨xs, ys, xs[i], ys[i], q.1, q.2, by simp [h1], by simp [h2]⟩
  · obtain ⟨T, x, y, h1, h2, h3, h4, h5⟩ := y
    exact ⟨T, x, y, h1, h2, h3, h4 xs q.1, h5 ys q.2⟩
theorem wk_zipM {v u : V} {ds es : List D} (r : Rp K H w v (.list ds)) (q : Rp K H w u (.tuple es)) : ∃ a b xs ys, v = .ref a ∧ u = .ref b ∧ SqL K H a xs ∧ SqT K H b ys ∧ WkD K (ItzM K a b) H w (zipD ds es) := by
  cases r with
  | lst nd ra =>
    cases q with
    | tup ne rb =>
      rename_i a xs b ys
      refine ⟨a, b, xs, ys, rfl, rfl, nd.sq, ne.sq, wk_pair (gx := fun i => ds.getD i .none) (gy := fun i => es.getD i .none) (walk_zipM (xs := xs) (ys := ys) rfl) ?_ (fun H' w' s => ⟨(nd.mono s).sq, (ne.mono s).sq⟩) fun i H' w' x y hi s e1 e2 => ?_⟩
      · unfold zipD
        rw [List.length_zipWith, ra.length, rb.length]
      · obtain ⟨d, h1, h2⟩ := (ra.mono s).getV e1
        obtain ⟨d', h1', h2'⟩ := (rb.mono s).getV e2
        refine ⟨zip_at h1 h1', ?_, ?_⟩
        · rw [List.getD_eq_getElem?_getD, h1]; exact h2
        · rw [List.getD_eq_getElem?_getD, h1']; exact h2'
end
section
variable {X : Cx} {F : List Fn} {a b c tg : Expr} {ia ib ic : IE} {it iu : IT} {pos apos cpos p1 : Pos}
/-- a list or a tuple walked -/
def iSeq (K : PySem.W.Frag) (tl : TE) : TI := fun σ H R => tl σ H fun x H1 => (∃ a xs, x = .ref a ∧ SqL K H1 a xs ∧ R (Itl K a) H1) ∨ ∃ a xs, x = .ref a ∧ SqT K H1 a xs ∧ R (Itt K a) H1
theorem pi_seq {l : Expr} {tl : TE} (hl : PE X l tl) : PI X tg l (iSeq X.K tl) := by
  refine ⟨fun pins s σ H R I h => ?_⟩
  refine thn (hl.run pins s σ H _ I h) fun v s1 ⟨x, H1, I1, r1, q1⟩ => ?_
  have fin : ∀ b ∈ [s1.heap.objs.size], FpOk X pins H1 b := fun b hb => by
    have e : b = s1.heap.objs.size := by simpa using hb
    subst e
    exact I1.fpOk (Nat.le_refl _) (I1.hok.fresh (Nat.le_refl _))
  rcases q1 with ⟨a, xs, e, hq, q⟩ | ⟨a, xs, e, hq, q⟩
  · subst e
    cases r1
    obtain ⟨its, rv, p, hz⟩ := I1.list hq
    refine wpAny_pyIter_list p.isList ?_
    exact ⟨s1.heap.objs.size, [s1.heap.objs.size], _, _, H1, rfl, I1.kept (t' := s1.toks) fun b o e => Heap.get?_push_of_some _ e, turn_list a _, ⟨_, Heap.get?_push_size _ rfl, rfl, rfl⟩, fin, q⟩
  · subst e
    cases r1
    obtain ⟨its, rv, p, hz⟩ := I1.tuple hq
    refine wpAny_pyIter_tuple (show s1.heap.IsTuple a its.toArray from p) ?_
    exact ⟨s1.heap.objs.size, [s1.heap.objs.size], _, _, H1, rfl, I1.kept (t' := s1.toks) fun b o e => Heap.get?_push_of_some _ e, turn_tuple a _, ⟨_, Heap.get?_push_size _ rfl, rfl, rfl⟩, fin, q⟩
theorem si_seq (ha : PE X a (teE X.K F ia)) : PI X tg a (tiI X.K F (.seq ia)) := by
  refine (pi_seq ha).imp fun σ H R q => ?_
  obtain ⟨n, w, μ, e, xs, e', wf, er, ev, k⟩ := q
  unfold evI at ev
  obtain ⟨x, e1, h1, ev⟩ := Rs.bind_ok ev
  split at ev
  · rename_i d e2 h2
    refine ⟨n, w, μ, e, x, e1, wf, er, h1, fun v H1 w1 a1 an => ?_⟩
    obtain ⟨w2, a2, r⟩ := a1.fz an (Nat.le_refl n) h2
    cases d with
    | list ds =>
      cases ev
      obtain ⟨a, xs, e1, h3, h4⟩ := wk_list r rfl
      exact .inl ⟨a, xs, e1, h3, k _ H1 w2 a2 h4⟩
    | tuple ds =>
      cases ev
      obtain ⟨a, xs, e1, h3, h4⟩ := wk_tup r rfl
      exact .inr ⟨a, xs, e1, h3, k _ H1 w2 a2 h4⟩
    | _ => cases ev
  · cases ev
theorem one_in {K : PySem.W.Frag} {σ : L2.St} {H : Hp} {Q : List V → Hp → Prop} (h : teE K F ia σ H fun x H1 => Q [x] H1) : teA K F [ia] σ H Q := by
  obtain ⟨n, w, μ, e, x, e1, wf, er, h1, k⟩ := h
  refine ⟨n, w, μ, e, [x], e1, wf, er, ?_, fun vs H1 w1 a1 an => ?_⟩
  · simp only [evEs]
    rw [h1]
    rfl
  · cases an with
    | cons an r => cases r; exact k _ H1 w1 a1 an
theorem rng_bd {lo hi : Int} {xs : List D} (h : rngD lo hi = some xs) : -(2 ^ 62) ≤ lo ∧ lo < 2 ^ 62 ∧ -(2 ^ 62) ≤ hi ∧ hi < 2 ^ 62 := by
  unfold rngD at h
  split at h
  · assumption
  · cases h
theorem si_rng (hg : Gl X "range") (hm : X.mg "range" = none) (ha : PA X [a] (teA X.K F [ia])) (hs : starEach [a] X.env = [(false, eval a X.env)]) : PI X tg (.Call (.Name "range" p1) [a] [] pos) (tiI X.K F (.rng ia)) := by
  refine (pi_range1 hg hm ha hs).imp fun σ H R q => ?_
  obtain ⟨n, w, μ, e, xs, e', wf, er, ev, k⟩ := q
  unfold evI at ev
  obtain ⟨x, e1, h1, ev⟩ := Rs.bind_ok ev
  refine one_in ⟨n, w, μ, e, x, e1, wf, er, h1, fun v H1 w1 a1 an => ?_⟩
  split at ev
  · rename_i j hj
    split at ev
    · rename_i xs' hr
      cases ev
      have b := rng_bd hr
      refine ⟨j, ?_, b.2.2.1, b.2.2.2, ?_⟩
      · rw [(rd_rr (Nat.le_refl n) an a1.env hj).int]
      · have hw : WkD X.K (Itr 0 (j - 0).toNat) H1 w1 xs := wk_range hr
        rw [Int.sub_zero] at hw
        exact k _ H1 w1 a1 hw
    · cases ev
  · cases ev
theorem two_inA {K : PySem.W.Frag} {σ : L2.St} {H : Hp} {Q : List V → Hp → Prop} {n : Nat} {w : Wh} {μ : Nat → Option V} {e e1 e2 : En} {x y : Ans} (wf : Wf H w) (er : EnvR K H w μ σ e) (e1h : evE F ia e = .ok x e1) (e2h : evE F ib e1 = .ok y e2)
    (k : ∀ v u H2 w2, Aft K n μ σ e2 H w H2 w2 → AnsR K n H2 w2 σ v x → AnsR K (n + 1) H2 w2 σ u y → Q [v, u] H2) : teA K F [ia, ib] σ H Q := by
  refine ⟨n, w, μ, e, [x, y], e2, wf, er, ?_, fun vs H1 w1 a1 an => ?_⟩
  · simp only [evEs]
    rw [e1h]
    simp only [Rs.bind]
    rw [e2h]
  · cases an with
    | cons an r =>
      cases r with
      | cons an2 r => cases r; exact k _ _ H1 w1 a1 an an2
theorem si_rng2 (hg : Gl X "range") (hm : X.mg "range" = none) (ha : PA X [a, b] (teA X.K F [ia, ib])) (hs : starEach [a, b] X.env = [(false, eval a X.env), (false, eval b X.env)]) (hs2 : starEach [b] X.env = [(false, eval b X.env)]) :
    PI X tg (.Call (.Name "range" p1) [a, b] [] pos) (tiI X.K F (.rng2 ia ib)) := by
  refine (pi_range2 hg hm ha hs hs2).imp fun σ H R q => ?_
  obtain ⟨n, w, μ, e, xs, e', wf, er, ev, k⟩ := q
  unfold evI at ev
  obtain ⟨x, e1, h1, ev⟩ := Rs.bind_ok ev
  obtain ⟨y, e2, h2, ev⟩ := Rs.bind_ok ev
  refine two_inA (n := n) wf er h1 h2 fun v u H1 w1 a1 an1 an2 => ?_
  split at ev
  · rename_i i j hi hj
    split at ev
    · rename_i xs' hr
      cases ev
      have bd := rng_bd hr
      refine ⟨i, j, ?_, bd, k _ H1 w1 a1 (wk_range hr)⟩
      rw [(rd_rr (Nat.le_refl n) an1 a1.env hi).int, (rd_rr (Nat.le_succ n) an2 a1.env hj).int]
    · cases ev
  · cases ev
theorem si_enum {es : List Expr} {kk : Nat} {tp : Pos} (hg : Gl X "enumerate") (hm : X.mg "enumerate" = none) (ha : PA X [a] (teA X.K F [ia])) (hs : starEach [a] X.env = [(false, eval a X.env)]) :
    PI X (.Tuple es kk tp) (.Call (.Name "enumerate" p1) [a] [] pos) (tiI X.K F (.enum ia)) := by
  refine (pi_enumA hg hm ha hs).imp fun σ H R q => ?_
  obtain ⟨n, w, μ, e, xs, e', wf, er, ev, k⟩ := q
  unfold evI at ev
  obtain ⟨x, e1, h1, ev⟩ := Rs.bind_ok ev
  refine one_in ⟨n, w, μ, e, x, e1, wf, er, h1, fun v H1 w1 a1 an => ?_⟩
  split at ev
  · rename_i d e2 h2
    obtain ⟨w2, a2, r⟩ := a1.fz an (Nat.le_refl n) h2
    cases d with
    | list ds =>
      cases ev
      obtain ⟨a, xs, e1, h3, h4⟩ := wk_enum r
      exact ⟨a, xs, by rw [e1], .inl ⟨h3, k _ H1 w2 a2 h4⟩⟩
    | tuple ds =>
      cases ev
      obtain ⟨a, xs, e1, h3, h4⟩ := wk_enumT r
      exact ⟨a, xs, by rw [e1], .inr ⟨h3, k _ H1 w2 a2 h4⟩⟩
    | _ => cases ev
  · cases ev
theorem si_zip {es : List Expr} {kk : Nat} {tp : Pos} (hg : Gl X "zip") (hm : X.mg "zip" = none) (ha : PA X [a, b] (teA X.K F [ia, ib])) (hs : starEach [a, b] X.env = (false, eval a X.env) :: starEach [b] X.env) (hpl : (backTo pos (starEach [b] X.env)).any (·.1) = false) :
    PI X (.Tuple es kk tp) (.Call (.Name "zip" p1) [a, b] [] pos) (tiI X.K F (.zip ia ib)) := by
  refine (pi_zipM hg hm ha hs hpl).imp fun σ H R q => ?_
  obtain ⟨n, w, μ, e, xs, e', wf, er, ev, k⟩ := q
  unfold evI at ev
  obtain ⟨x, e1, h1, ev1⟩ := Rs.bind_ok ev
  obtain ⟨y, e2, h2, ev2⟩ := Rs.bind_ok ev1
  refine two_inA (n := n) wf er h1 h2 fun v u H1 w1 a1 an1 an2 => ?_
  split at ev2
  · rename_i d e3 h3
    obtain ⟨w2, s2, wf2, er2, r⟩ := fzS (n := n) (an1.s (Nat.le_refl n)) (drp_wf a1.wf) (drp_env a1.env) h3
    have a2 : Aft X.K n μ σ e3 H w H1 w2 := ⟨(a1.stp.trans drp_stp).trans s2, wf2, er2⟩
    split at ev2
    · rename_i d' e4 h4
      obtain ⟨w3, s3, wf3, er3, r3⟩ := fzS (n := n) ((an2.s (Nat.le_succ n)).mono s2.sh) wf2 er2 h4
      have a3 : Aft X.K n μ σ e4 H w H1 w3 := ⟨a2.stp.trans s3, wf3, er3⟩
      have r' := Rp.mono s3.sh r
      cases d with
      | list ds =>
        cases d' with
        | list ds' =>
          cases ev2
          obtain ⟨a, b, xs, ys, ea, eb, sa, sb, wk⟩ := wk_zipL r' r3
          exact ⟨a, b, xs, ys, by rw [ea, eb], .inl ⟨sa, sb, k _ H1 w3 a3 wk⟩⟩
        | tuple ds' =>
          cases ev2
          obtain ⟨a, b, xs, ys, ea, eb, sa, sb, wk⟩ := wk_zipM r' r3
          exact ⟨a, b, xs, ys, by rw [ea, eb], .inr (.inr ⟨sa, sb, k _ H1 w3 a3 wk⟩)⟩
        | _ => cases ev2
      | tuple ds =>
        cases d' with
        | tuple ds' =>
          cases ev2
          obtain ⟨a, b, xs, ys, ea, eb, sa, sb, wk⟩ := wk_zipT r' r3
          exact ⟨a, b, xs, ys, by rw [ea, eb], .inr (.inl ⟨sa, sb, k _ H1 w3 a3 wk⟩)⟩
        | _ => cases ev2
      | _ => cases ev2
    · cases ev2
  · cases ev2
end
end PD

/-! PD9: loops, stores. -/
namespace PD
open PySem PySem.Spec PyProof.Rows L2
/-- the targets -/
def tgP (K : PySem.W.Frag) : Pt → TG
  | .nm i => gName i
  | .tp is => fun v σ H Q => gTup K is.length (tgNs is) v σ H Q ∨ gUnl K is.length (tgNs is) v σ H Q
section
variable {K : PySem.W.Frag} {F : List Fn} {H H' : Hp} {w w' : Wh} {μ : Nat → Option V} {σ σ' : L2.St} {e e' : En} {n m : Nat} {v : V} {d : D}
theorem stNs_len : ∀ {is : List Nat} {ds : List D} {e e' : En}, stNs is ds e = some e' → is.length = ds.length
  | [], [], _, _, _ => rfl
  | i :: is, d :: ds, e, e', h => by
    simp only [stNs] at h
    split at h
    · rename_i e1 _
      have := stNs_len h
      simp only [List.length_cons, this]
    · cases h
  | [], _ :: _, _, _, h => by cases h
  | _ :: _, [], _, _, h => by cases h
/-- a thing comes to its targets -/
theorem stPt_ok {pt : Pt} {e1 : En} {H1 : Hp} {w1 : Wh} {Q : L2.St → Hp → Prop} (a : AftS K μ e1 H w σ H1 w1) (r : Rp K H1 w1 v d) (h : stPt pt d e1 = some e') (k : ∀ σ' w', AftS K μ e' H w σ' H1 w' → Q σ' H1) : tgP K pt v σ H1 Q := by
  cases pt with
  | nm i => exact k _ _ (a.put (f := false) r h)
  | tp is =>
    cases d with
    | tuple ds =>
      obtain ⟨p, xs, e1, s, rs, _⟩ := Rr.tup (.inl r)
      have hl := stNs_len (show stNs is ds _ = some e' from h)
      exact .inl ⟨p, xs, e1, s, by rw [rs.length, hl], stNs_ok a rs h k⟩
    | list ds =>
      obtain ⟨p, xs, e1, s, rs⟩ := Rr.list (.inl r)
      have hl := stNs_len (show stNs is ds _ = some e' from h)
      exact .inr ⟨p, xs, e1, s, by rw [rs.length, hl], stNs_ok a rs h k⟩
    | _ => cases h
end
section
variable {X : Cx} {F : List Fn} {a b c tg : Expr} {ia ib ic : IE} {it iu : IT} {pos apos cpos p1 : Pos} {ss : List Stmt} {iss : List IS} {isr : Sr}
theorem ss_for {pt : Pt} (hp : PassesOwn (model X.prog X.w) X.A X.env X.xe) (hc : X.calm = true) (hi : PI X tg a (tiI X.K F isr)) (hg : PG X tg (tgP X.K pt)) (hb : PSs X ss (tsSs X.K F iss)) (hs : ∀ x, foldedSetIterable a X.env x = pure x) :
    PS X (.For tg a ss [] pos) (tsS X.K F (.forr pt isr iss)) := by
  refine (ps_for hp hc hi hg hb hs).imp fun D σ H q => ?_
  obtain ⟨w, μ, e, wf, er, k⟩ := q
  simp only [evS] at k
  split at k
  · rename_i xs e1 h1
    refine ⟨0, w, μ, e, xs, e1, wf, er, h1, fun J H1 w1 a1 wk => ?_⟩
    obtain ⟨G, Y, wk, hG, hY⟩ := wk
    generalize hst : (fun d e2 => match stPt pt d e2 with
      | some e3 => evSs F iss e3
      | none => Ou.no) = step at k
    refine for_it wk (fun i σ' H' => ∃ w' e', AftS X.K μ e' H w σ' H' w' ∧ Sty H1 w1 H' w' ∧ OutR X.K μ H w D (forL step (xs.drop i) e')) ?_ (fun i σ' H' _ ⟨w', e', _, s, _⟩ => hG H' w' s) (fun i x σ' H' H2 hlt ⟨w', e', a2, s, k2⟩ y => ?_) (fun σ' H' ⟨w', e', a2, s, k2⟩ => ?_)
    · exact ⟨w1, e1, a1.toS, fun _ _ h e => ⟨h, e⟩, k⟩
    · obtain ⟨d, hd, s2, hk, wf2, r⟩ := hY i H' x H2 w' hlt y s a2.wf
      have st2 : Stp (fun _ => True) H' w' H2 w' := ⟨s2, fun _ _ _ => Iff.rfl, fun b l _ hb => hk b l hb⟩
      have a3 : AftS X.K μ e' H2 w' σ' H2 w' := .refl wf2 (a2.env.mono st2 fun _ => trivial)
      have b3 : Stp (keepE 0) H w H2 w' := a2.stp.trans (st2.weak fun _ _ => trivial)
      have s3 : Sty H1 w1 H2 w' := fun p o h0 h1 => let ⟨x1, x2⟩ := s p o h0 h1; s2 p o x1 x2
      have hdr : xs.drop i = d :: xs.drop (i + 1) := by
        obtain ⟨h1, h2⟩ := List.getElem?_eq_some_iff.mp hd
        rw [List.drop_eq_getElem_cons h1, h2]
      rw [hdr] at k2
      simp only [forL] at k2
      subst hst
      cases hpt : stPt pt d e' with
      | none => simp only [hpt] at k2; exact k2.elim
      | some e3 =>
        simp only [hpt] at k2
        refine stPt_ok a3 r hpt fun σ3 w3 a4 => ⟨w3, μ, e3, a4.wf, a4.env, ?_⟩
        have b4 := b3.trans a4.stp
        have go : ∀ e5, OutR X.K μ H w D (forL (fun d e2 => match stPt pt d e2 with
            | some e3 => evSs F iss e3
            | none => Ou.no) (xs.drop (i + 1)) e5) → ∀ σ5 H5 w5, AftS X.K μ e5 H2 w3 σ5 H5 w5 → ∃ w' e', AftS X.K μ e' H w σ5 H5 w' ∧ Sty H1 w1 H5 w' ∧ OutR X.K μ H w D (forL (fun d e2 => match stPt pt d e2 with
              | some e3 => evSs F iss e3
              | none => Ou.no) (xs.drop (i + 1)) e') := fun e5 k5 σ5 H5 w5 a5 =>
          ⟨w5, e5, ⟨b4.trans a5.stp, a5.wf, a5.env⟩, fun p o h0 h1 => let ⟨x1, x2⟩ := s3 p o h0 h1; let ⟨x3, x4⟩ := a4.stp.sh p o x1 x2; a5.stp.sh p o x3 x4, k5⟩
        cases hr : evSs F iss e3 with
        | nx e5 => simp only [hr] at k2; exact go e5 k2
        | ct e5 => simp only [hr] at k2; exact go e5 k2
        | bk e5 => simp only [hr] at k2; exact fun σ5 H5 w5 a5 => k2 σ5 H5 w5 ⟨b4.trans a5.stp, a5.wf, a5.env⟩
        | rt f d e5 => simp only [hr] at k2; exact fun v σ5 H5 w5 a5 an => k2 v σ5 H5 w5 ⟨b4.trans a5.stp, a5.wf, a5.env⟩ an
        | no => simp only [hr] at k2; exact k2
        | ex c d e5 => simp only [hr] at k2; exact k2
    · rw [List.drop_eq_nil_of_le (Nat.le_refl _)] at k2
      exact k2 _ _ _ ⟨a2.stp, a2.wf, a2.env⟩
  · exact k.elim
  · exact k.elim
theorem ss_while {n : Nat} (hp : PassesOwn (model X.prog X.w) X.A X.env X.xe) (hc : PT X c (teT X.K F it)) (hb : PSs X ss (tsSs X.K F iss)) : PS X (.While c ss [] pos) (tsS X.K F (.whl n it iss)) := by
  refine (ps_while hp hc hb).imp fun D σ H q => ?_
  obtain ⟨w, μ, e, wf, er, k⟩ := q
  simp only [evS] at k
  refine ⟨fun m σ' H' => ∃ w' e', AftS X.K μ e' H w σ' H' w' ∧ OutR X.K μ H w D (whlL (evT F it) (evSs F iss) m e'), ⟨n, w, e, .refl wf er, k⟩, ?_⟩
  rintro m σ' H' ⟨w', e', a, k⟩
  cases m with
  | zero => exact k.elim
  | succ m =>
    simp only [whlL] at k
    cases hc : evT F it e' with
    | no => rw [hc] at k; exact k.elim
    | ex c d e1 => rw [hc] at k; exact k.elim
    | ok b e1 =>
      rw [hc] at k
      refine ⟨0, w', μ, e', b, e1, a.wf, a.env, hc, fun H1 w1 a1 => ?_⟩
      cases b with
      | false => exact iteF (k σ' H1 w1 ⟨a.stp.trans a1.stp, a1.wf, a1.env⟩)
      | true =>
        refine iteT ⟨fun σ5 H5 => ∃ w' e', AftS X.K μ e' H w σ5 H5 w' ∧ OutR X.K μ H w D (whlL (evT F it) (evSs F iss) m e'), fun σ5 H5 h5 => ⟨m, Nat.lt_succ_self m, h5⟩, w1, μ, e1, a1.wf, a1.env, ?_⟩
        have b4 := a.stp.trans a1.stp
        cases hr : evSs F iss e1 with
        | nx e5 => simp only [hr] at k; exact fun σ5 H5 w5 a5 => ⟨w5, e5, ⟨b4.trans a5.stp, a5.wf, a5.env⟩, k⟩
        | ct e5 => simp only [hr] at k; exact fun σ5 H5 w5 a5 => ⟨w5, e5, ⟨b4.trans a5.stp, a5.wf, a5.env⟩, k⟩
        | bk e5 => simp only [hr] at k; exact fun σ5 H5 w5 a5 => k σ5 H5 w5 ⟨b4.trans a5.stp, a5.wf, a5.env⟩
        | rt f d e5 => simp only [hr] at k; exact fun v σ5 H5 w5 a5 an => k v σ5 H5 w5 ⟨b4.trans a5.stp, a5.wf, a5.env⟩ an
        | no => simp only [hr] at k; exact k
        | ex c d e5 => simp only [hr] at k; exact k
/-! stores -/
theorem ss_unp {is : List Nat} (ha : PE X a (teE X.K F ia)) (hg : PG X tg (tgP X.K (.tp is))) (hs : swapsWithSole [tg] a pos.line X.env = pure false) (hw : swappedStores [tg] a X.env = pure none) (h1 : (assignEach [tg] X.env).map (·.2) = [assign tg X.env]) :
    PS X (.Assign [tg] a pos) (tsS X.K F (.unp is ia)) := by
  refine (ps_asg ha hg hs hw h1).imp fun D σ H q => ?_
  obtain ⟨w, μ, e, wf, er, k⟩ := q
  simp only [evS] at k
  split at k
  · rename_i x e1 h1
    split at k
    · rename_i d e2 h2
      split at k
      · rename_i e3 h3
        refine ⟨0, w, μ, e, _, e1, wf, er, h1, fun v H1 w1 a1 an => ?_⟩
        obtain ⟨w2, a2, r⟩ := a1.fz an (Nat.le_refl 0) h2
        exact stPt_ok (pt := .tp is) a2.toS r h3 fun σ' w' a3 => k σ' H1 w' a3
      · exact k.elim
    · exact k.elim
  · exact k.elim
  · exact k.elim
theorem ss_par {i j : Nat} {x y : Str} {px py pt : Pos} {kt k2 : Nat} {pt2 : Pos} (hc : X.calm = true) (hN : X.N.Nodup) (hi : X.N[i]? = some x) (hj : X.N[j]? = some y) (hij : i ≠ j)
    (hx : X.env.scope.names.lookup x = some .local) (hy : X.env.scope.names.lookup y = some .local) (ha : PA X [a, b] (teA X.K F [ia, ib]))
    (hw : swappedStores [.Tuple [.Name x px, .Name y py] kt pt] (.Tuple [a, b] k2 pt2) X.env = pure (some [x, y]))
    (hs : swapsWithSole [.Tuple [.Name x px, .Name y py] kt pt] (.Tuple [a, b] k2 pt2) pos.line X.env = pure false) :
    PS X (.Assign [.Tuple [.Name x px, .Name y py] kt pt] (.Tuple [a, b] k2 pt2) pos) (tsS X.K F (.par i j ia ib)) := by
  refine (ps_par hc hN hi hj hij hx hy ha hw hs).imp fun D σ H q => ?_
  obtain ⟨w, μ, e, wf, er, k⟩ := q
  simp only [evS] at k
  split at k
  · rename_i xs e1 h1
    split at k
    · rename_i d1 d2 e2 h2
      split at k
      · rename_i e3 h3
        refine ⟨0, w, μ, e, xs, e1, wf, er, h1, fun vs H1 w1 a1 an => ?_⟩
        obtain ⟨w2, a2, r⟩ := a1.fzs an (Nat.le_refl 0) h2
        cases r with
        | cons r1 r =>
          cases r with
          | cons r2 r =>
            cases r
            have h := stNs_ok (is := [i, j]) (Q := fun σ' H' => D.nx σ' H') a2.toS (.cons r1 (.cons r2 .nil)) h3 fun σ' w' a3 => k σ' H1 w' a3
            obtain ⟨v1, r1, e1, h⟩ := h
            cases e1
            obtain ⟨v2, r2, e2, h⟩ := h
            cases e2
            exact ⟨_, _, rfl, h.2⟩
      · exact k.elim
    · exact k.elim
  · exact k.elim
  · exact k.elim
def rSetK : TSet := fun o i v H Q => ∃ a H', o = .ref a ∧ DPut H a i v H' ∧ Q H'
def rSetU : TSet := fun o i v H Q => rSetL o i v H Q ∨ rSetK o i v H Q
theorem set_U (hu : X.A.units + 1 < cLine) : PSet X rSetU := by
  intro pins s σ H o i v ov iv u Q I ro ri rv h
  rcases h with h | ⟨a, H', rfl, g, q⟩
  · exact set_list pins s σ H o i v ov iv u Q I ro ri rv h
  · obtain rfl : ov = Value.ref a := ro
    exact d_setItem hu I g ri rv fun s4 I4 => ⟨H', I4, q⟩
end
section
variable {K : PySem.W.Frag} {H H' : Hp} {w : Wh}
theorem put_any {k : Key} : ∀ {kvs : List (Key × V)} {ds : List (D × D)}, RpKs K H w kvs ds → (ds.any fun kv => keyEq kv.1 (keyD k)) = kvs.any fun kv => decide (kv.1 = k)
  | _, _, .nil => rfl
  | (k', v) :: kvs, (_, d) :: ds, .cons a b => by
    rw [List.any_cons, List.any_cons, put_any b, keyEq_key]
theorem put_map {k : Key} {v : V} {d : D} (r : Rp K H w v d) : ∀ {kvs : List (Key × V)} {ds : List (D × D)}, RpKs K H w kvs ds → RpKs K H w (kvs.map (fun kv => if kv.1 = k then (kv.1, v) else kv)) (ds.map fun kv => if keyEq kv.1 (keyD k) = true then (kv.1, d) else kv)
  | _, _, .nil => .nil
  | (k', v') :: kvs, (_, d') :: ds, .cons a b => by
    rw [List.map_cons, List.map_cons, keyEq_key]
    by_cases h : k' = k
    · rw [if_pos h, if_pos (by simp [h])]
      exact .cons r (put_map r b)
    · rw [if_neg h, if_neg (by simp [h])]
      exact .cons a (put_map r b)
theorem put_app {k : Key} {v : V} {d : D} (r : Rp K H w v d) : ∀ {kvs : List (Key × V)} {ds : List (D × D)}, RpKs K H w kvs ds → RpKs K H w (kvs ++ [(k, v)]) (ds ++ [(keyD k, d)])
  | _, _, .nil => .cons r .nil
  | _, _, .cons a b => .cons a (put_app r b)
theorem put_ks {k : Key} {v : V} {d : D} (r : Rp K H w v d) {kvs : List (Key × V)} {ds : List (D × D)} (h : RpKs K H w kvs ds) : RpKs K H w (putK kvs k v) (dSet ds (keyD k) d) := by
  unfold putK dSet
  rw [put_any h]
  split
  · exact put_map r h
  · exact put_app r h
theorem putT_any {k : List Key} : ∀ {kvs : List (List Key × V)} {ds : List (D × D)}, RpTs K H w kvs ds → (ds.any fun kv => keyEq kv.1 (.tuple (k.map keyD))) = kvs.any fun kv => decide (kv.1 = k)
  | _, _, .nil => rfl
  | (k', v) :: kvs, (_, d) :: ds, .cons a b => by
    rw [List.any_cons, List.any_cons, putT_any b, keyEq_tup]
theorem putT_map {k : List Key} {v : V} {d : D} (r : Rp K H w v d) : ∀ {kvs : List (List Key × V)} {ds : List (D × D)}, RpTs K H w kvs ds → RpTs K H w (kvs.map (fun kv => if kv.1 = k then (kv.1, v) else kv)) (ds.map fun kv => if keyEq kv.1 (.tuple (k.map keyD)) = true then (kv.1, d) else kv)
  | _, _, .nil => .nil
  | (k', v') :: kvs, (_, d') :: ds, .cons a b => by
    rw [List.map_cons, List.map_cons, keyEq_tup]
    by_cases h : k' = k
    · rw [if_pos h, if_pos (by simp [h])]
      exact .cons r (putT_map r b)
    · rw [if_neg h, if_neg (by simp [h])]
      exact .cons a (putT_map r b)
theorem putT_app {k : List Key} {v : V} {d : D} (r : Rp K H w v d) : ∀ {kvs : List (List Key × V)} {ds : List (D × D)}, RpTs K H w kvs ds → RpTs K H w (kvs ++ [(k, v)]) (ds ++ [(.tuple (k.map keyD), d)])
  | _, _, .nil => .cons r .nil
  | _, _, .cons a b => .cons a (putT_app r b)
theorem put_ts {k : List Key} {v : V} {d : D} (r : Rp K H w v d) {kvs : List (List Key × V)} {ds : List (D × D)} (h : RpTs K H w kvs ds) : RpTs K H w (putK kvs k v) (dSet ds (.tuple (k.map keyD)) d) := by
  unfold putK dSet
  rw [putT_any h]
  split
  · exact putT_map r h
  · exact putT_app r h
theorem dSet_t {es : List (D × D)} {k v : D} : dSet ((.none, .none) :: es) k v = (.none, .none) :: dSet es k v := by
  have h : keyEq .none k = false := rfl
  unfold dSet
  simp only [List.any_cons, h, Bool.false_or, List.map_cons]
  split <;> simp
/-- an item is stored in a thing of one's own -/
theorem ixset_ok {l : Lab} {a : Addr} {d d' dk dv : D} {vk vv : V} {Q : Hp → Prop} (e : w a = some l) (c : Cn K H w a d) (rk : Rp K H w vk dk) (rv : Rp K H w vv dv) (hs : ixSet d dk dv = some d')
    (g : ∀ o, (∀ b, b ≠ a → upd H a o b = H b) → Cn K (upd H a o) w a d' → Q (upd H a o)) : rSetU (.ref a) vk vv H Q := by
  cases c with
  | lst n r =>
    cases dk with
    | int i =>
      simp only [ixSet] at hs
      split at hs
      · rename_i hb
        cases hs
        cases rk
        have hl := r.length
        refine .inl ⟨a, _, i, i.toNat, rfl, rfl, n, ?_, g _ (fun b hb => upd_ne hb) (.lst upd_same ((r.mono (sty_own e)).set _ (Rp.mono (sty_own e) rv)))⟩
        unfold ixN
        rw [if_pos hb.1, if_pos (by omega)]
      · cases hs
    | _ => simp [ixSet] at hs
  | dk n r =>
    simp only [ixSet] at hs
    split at hs
    · rename_i hb
      cases hs
      obtain ⟨k, rfl⟩ := key_ofK (isT_ks r) hb.1
      obtain rfl := rr_key (.inl rk)
      exact .inr ⟨a, _, rfl, DPut.k n (by rw [r.length]; exact hb.2), g _ (fun b hb => upd_ne hb) (.dk upd_same (put_ks (Rp.mono (sty_own e) rv) (r.mono (sty_own e))))⟩
    · cases hs
  | dt n r =>
    simp only [ixSet] at hs
    split at hs
    · rename_i hb
      cases hs
      obtain ⟨ks, rfl⟩ := key_ofT rfl hb.1
      obtain ⟨b, rfl, hkb⟩ := rr_tkey (.inl rk)
      refine .inr ⟨a, _, rfl, DPut.t n hkb (by rw [r.length]; have := hb.2; simp only [List.length_cons] at this; omega), g _ (fun b hb => upd_ne hb) ?_⟩
      rw [dSet_t]
      exact .dt upd_same (put_ts (Rp.mono (sty_own e) rv) (r.mono (sty_own e)))
    · cases hs
end
section
variable {X : Cx} {F : List Fn} {a b c tg : Expr} {ia ib ic : IE} {it iu : IT} {pos apos cpos p1 p2 : Pos} {ss : List Stmt} {iss : List IS} {isr : Sr}
theorem isOwn_at {e : En} {i : Nat} (h : isOwn e i = true) : ∃ o d, e[i]? = some (some ⟨o, d⟩) ∧ o ≠ .sh := by
  unfold isOwn at h
  split at h
  · rename_i d hs; exact ⟨_, d, hs, by intro z; cases z⟩
  · rename_i d hs; exact ⟨_, d, hs, by intro z; cases z⟩
  · cases h
theorem ss_ixset {i : Nat} {x : Str} (hu : X.A.units + 1 < cLine) (hx : PE X (.Name x p1) (tVar i)) (hk : PE X b (teE X.K F ib)) (hv : PE X a (teE X.K F ia))
    (hst : ∀ v, assign (.Subscript (.Name x p1) b p2) X.env v = (do
      let ov ← holding [v] (eval (.Name x p1) X.env)
      let iv ← holding [v, ov] (eval b X.env)
      standAt p2
      holding [v, ov, iv] (setItem ov iv v)
      release [v, ov, iv] []))
    (hs : swapsWithSole [.Subscript (.Name x p1) b p2] a pos.line X.env = pure false) (hw : swappedStores [.Subscript (.Name x p1) b p2] a X.env = pure none)
    (h1 : (assignEach [.Subscript (.Name x p1) b p2] X.env).map (·.2) = [assign (.Subscript (.Name x p1) b p2) X.env]) :
    PS X (.Assign [.Subscript (.Name x p1) b p2] a pos) (tsS X.K F (.ixset i ib ia)) := by
  refine (ps_asg hv (pg_sub hx hk (set_U hu) hst) hs hw h1).imp fun D σ H q => ?_
  obtain ⟨w, μ, e, wf, er, k⟩ := q
  simp only [evS] at k
  split at k
  · rename_i x1 e1 h1
    split at k
    · rename_i hown
      obtain ⟨o0, d0, hi0, ho0⟩ := isOwn_at hown
      split at k
      · rename_i y e2 h2
        refine ⟨0, w, μ, e, _, e1, wf, er, h1, fun v H1 w1 a1 an1 => ?_⟩
        obtain ⟨a0, hσ, _, _⟩ := own_at a1.env hi0 ho0
        refine ⟨_, hσ, 1, w1, μ, e1, y, e2, a1.wf, a1.env, h2, fun u H2 w2 a2 an2 => ?_⟩
        have a3 := a1.trans a2 (Nat.zero_le 1)
        have an1' := an1.mono a2.stp Nat.zero_lt_one
        split at k
        · rename_i dv e3 h3
          obtain ⟨w4, s4, wf4, er4, r4⟩ := fzS (n := 0) (an1'.s (Nat.le_refl 0)) (drp_wf a3.wf) (drp_env a3.env) h3
          have a4 : Aft X.K 0 μ σ e3 H w H2 w4 := ⟨(a3.stp.trans drp_stp).trans s4, wf4, er4⟩
          split at k
          · rename_i dk e4 h4
            obtain ⟨w5, s5, wf5, er5, r5⟩ := fzS (n := 0) ((an2.s (Nat.zero_le 1)).mono s4.sh) wf4 er4 h4
            have a5 : Aft X.K 0 μ σ e4 H w H2 w5 := ⟨a4.stp.trans s5, wf5, er5⟩
            split at k
            · exact k.elim
            · rename_i o d hns hi
              split at k
              · rename_i d' hd
                have ho : o ≠ .sh := fun z => hns z
                obtain ⟨a6, hσ6, hw6, c6⟩ := own_at a5.env hi ho
                have ea : a6 = a0 := by
                  rw [hσ] at hσ6
                  injection hσ6 with q
                  injection q with q
                  injection q with q
                  exact q.symm
                subst ea
                exact ixset_ok hw6 c6 r5 (Rp.mono s5.sh r4) hd fun u hu cn => k σ _ w5 (a5.own hi ho hσ6 hw6 u cn).toS
              · exact k.elim
            · exact k.elim
          · exact k.elim
        · exact k.elim
      · exact k.elim
      · exact k.elim
    · exact k.elim
  · exact k.elim
  · exact k.elim
end
end PD

/-! PD10: comprehensions. -/
namespace PD
open PySem PySem.Spec PyProof.Rows L2
theorem wipe_set {σ : L2.St} {i : Nat} {x : Option V} : ∀ {vs : List Nat}, i ∈ vs → wipe (σ.set i x) vs = wipe σ vs
  | v :: vs, h => by
    unfold wipe
    by_cases hv : i ∈ vs
    · rw [wipe_set hv]
    · have e : i = v := (List.mem_cons.mp h).resolve_right hv
      subst e
      have gen : ∀ us : List Nat, i ∉ us → wipe (σ.set i x) us = (wipe σ us).set i x := by
        intro us hu
        induction us with
        | nil => rfl
        | cons u us ih =>
          unfold wipe
          rw [ih (fun z => hu (List.mem_cons_of_mem _ z)), List.set_comm _ _ (by intro z; subst z; exact hu List.mem_cons_self)]
      rw [gen vs hv, List.set_set]
theorem tgNs_wipe {vs : List Nat} {τ : L2.St} : ∀ {is : List Nat} {xs : List V} {σ : L2.St} {H : Hp} {Q : L2.St → Hp → Prop}, (∀ i ∈ is, i ∈ vs) → wipe σ vs = τ → tgNs is xs σ H (fun σ2 H2 => wipe σ2 vs = τ → Q σ2 H2) → tgNs is xs σ H fun σ2 H2 => wipe σ2 vs = τ ∧ Q σ2 H2
  | [], xs, σ, H, Q, hm, h0, h => ⟨h.1, h0, h.2 h0⟩
  | i :: is, xs, σ, H, Q, hm, h0, h => by
    obtain ⟨v, r, e, h⟩ := h
    refine ⟨v, r, e, ?_⟩
    exact tgNs_wipe (fun j hj => hm j (List.mem_cons_of_mem _ hj)) ((wipe_set (hm i List.mem_cons_self)).trans h0) h
def ptIn (vs : List Nat) : Pt → Prop
  | .nm i => i ∈ vs
  | .tp is => ∀ i ∈ is, i ∈ vs
theorem tgP_wipe {K : PySem.W.Frag} {vs : List Nat} {pt : Pt} {v : V} {σ τ : L2.St} {H : Hp} {Q : L2.St → Hp → Prop} (hm : ptIn vs pt) (h0 : wipe σ vs = τ) (h : tgP K pt v σ H fun σ2 H2 => wipe σ2 vs = τ → Q σ2 H2) : tgP K pt v σ H fun σ2 H2 => wipe σ2 vs = τ ∧ Q σ2 H2 := by
  cases pt with
  | nm i => exact ⟨(wipe_set hm).trans h0, h ((wipe_set hm).trans h0)⟩
  | tp is =>
    rcases h with ⟨a, xs, e, s, l, h⟩ | ⟨a, xs, e, s, l, h⟩
    · exact .inl ⟨a, xs, e, s, l, tgNs_wipe hm h0 h⟩
    · exact .inr ⟨a, xs, e, s, l, tgNs_wipe hm h0 h⟩
theorem wipeE_length (e : En) : ∀ vs : List Nat, (wipeE e vs).length = e.length
  | [] => rfl
  | v :: vs => by unfold wipeE; rw [List.length_set, wipeE_length e vs]
theorem wipe_at {σ : L2.St} {i : Nat} : ∀ {vs : List Nat}, i ∉ vs → (wipe σ vs)[i]? = σ[i]?
  | [], _ => rfl
  | v :: vs, h => by
    unfold wipe
    rw [List.getElem?_set_ne (by intro z; subst z; exact h List.mem_cons_self), wipe_at fun z => h (List.mem_cons_of_mem _ z)]
theorem wipe_in {σ : L2.St} {i : Nat} : ∀ {vs : List Nat}, i ∈ vs → i < σ.length → (wipe σ vs)[i]? = some none
  | v :: vs, h, hl => by
    unfold wipe
    by_cases hv : i = v
    · subst hv
      exact List.getElem?_set_self (by rw [wipe_length]; exact hl)
    · rw [List.getElem?_set_ne (Ne.symm hv)]
      exact wipe_in ((List.mem_cons.mp h).resolve_left hv) hl
theorem wipe_wipe {σ : L2.St} {vs : List Nat} : wipe (wipe σ vs) vs = wipe σ vs := by
  apply List.ext_getElem?
  intro i
  by_cases hl : i < σ.length
  · by_cases hi : i ∈ vs
    · rw [wipe_in hi (by rw [wipe_length]; exact hl), wipe_in hi hl]
    · rw [wipe_at hi]
  · rw [List.getElem?_eq_none (by rw [wipe_length, wipe_length]; omega), List.getElem?_eq_none (by rw [wipe_length]; omega)]
theorem wipeE_at {e : En} {i : Nat} : ∀ {vs : List Nat}, i ∉ vs → (wipeE e vs)[i]? = e[i]?
  | [], _ => rfl
  | v :: vs, h => by
    unfold wipeE
    rw [List.getElem?_set_ne (by intro z; subst z; exact h List.mem_cons_self), wipeE_at fun z => h (List.mem_cons_of_mem _ z)]
theorem wipeE_in {e : En} {i : Nat} : ∀ {vs : List Nat}, i ∈ vs → ∀ s, (wipeE e vs)[i]? ≠ some (some s)
  | v :: vs, h, s => by
    unfold wipeE
    by_cases hv : i = v
    · subst hv
      intro z
      by_cases hl : i < (wipeE e vs).length
      · rw [List.getElem?_set_self hl] at z
        cases z
      · rw [List.getElem?_eq_none (by rw [List.length_set]; omega)] at z
        cases z
    · rw [List.getElem?_set_ne (Ne.symm hv)]
      exact wipeE_in ((List.mem_cons.mp h).resolve_left hv) s
section
variable {K : PySem.W.Frag} {F : List Fn} {H H' : Hp} {w w' : Wh} {μ : Nat → Option V} {σ σ' : L2.St} {e e' : En} {n m : Nat} {v : V} {d : D}
theorem wipe_env {vs : List Nat} (er : EnvR K H w μ σ e) : EnvR K H w μ (wipe σ vs) (wipeE e vs) := by
  refine ⟨by rw [wipe_length, wipeE_length]; exact er.len, fun i o d h => ?_⟩
  by_cases hi : i ∈ vs
  · exact absurd h (wipeE_in hi _)
  · rw [wipeE_at hi] at h
    rw [wipe_at hi]
    exact er.at_ i o d h
theorem backE_length (e0 e : En) : ∀ vs : List Nat, (backE e0 e vs).length = e.length
  | [] => rfl
  | v :: vs => by unfold backE; rw [List.length_set, backE_length e0 e vs]
theorem backE_at {e0 e : En} {i : Nat} : ∀ {vs : List Nat}, i ∉ vs → (backE e0 e vs)[i]? = e[i]?
  | [], _ => rfl
  | v :: vs, h => by
    unfold backE
    rw [List.getElem?_set_ne (by intro z; subst z; exact h List.mem_cons_self), backE_at fun z => h (List.mem_cons_of_mem _ z)]
theorem backE_in {e0 e : En} {i : Nat} {s : Sl} : ∀ {vs : List Nat}, i ∈ vs → (backE e0 e vs)[i]? = some (some s) → e0[i]? = some (some s)
  | v :: vs, h, z => by
    unfold backE at z
    by_cases hv : i = v
    · subst hv
      by_cases hl : i < (backE e0 e vs).length
      · rw [List.getElem?_set_self hl] at z
        cases h0 : e0[i]? with
        | none => rw [h0] at z; cases z
        | some x => rw [h0] at z; exact z
      · rw [List.getElem?_eq_none (by rw [List.length_set]; omega)] at z
        cases z
    · rw [List.getElem?_set_ne (Ne.symm hv)] at z
      exact backE_in ((List.mem_cons.mp h).resolve_left hv) z
/-- all but the slots' labels -/
def keepT (l : Lab) : Prop := ∀ i, l ≠ .slot i
theorem keepT_e {n : Nat} : ∀ l, keepE n l → keepT l
  | .out _, _ => fun i z => by cases z
  | .tmp k, q => fun i z => by cases z
  | .slot _, q => q.elim
theorem put0_env {i : Nat} {x : Option Sl} (er : EnvR K H w μ σ e) (hi : e[i]? = some x) (an : Rp K H w v d) : EnvR K H (shr i w) μ (σ.set i (some v)) (e.set i (some ⟨.sh, d⟩)) := by
  have hl : i < e.length := (List.getElem?_eq_some_iff.mp hi).1
  refine ⟨by rw [List.length_set, List.length_set]; exact er.len, fun j o d' h => ?_⟩
  by_cases hj : j = i
  · subst hj
    rw [List.getElem?_set_self hl] at h
    cases h
    exact ⟨v, List.getElem?_set_self (by rw [er.len]; exact hl), Rp.mono shr_stp.sh an, fun z => by cases z⟩
  · rw [List.getElem?_set_ne (Ne.symm hj)] at h
    obtain ⟨v', h1, h2, h3⟩ := er.at_ j o d' h
    refine ⟨v', by rw [List.getElem?_set_ne (Ne.symm hj)]; exact h1, h2.mono shr_stp.sh fun a q => ⟨(shr_stp (H := H) (w := w) (i := i)).kp a _ (by intro z; cases z; exact hj rfl) |>.mpr q, rfl⟩, h3⟩
theorem stNs_ok0 : ∀ {is : List Nat} {vs : List V} {ds : List D} {e1 : En} {σ : L2.St} {w1 : Wh} {Q : L2.St → Hp → Prop}, Wf H w1 → EnvR K H w1 μ σ e1 → RpAll K H w1 vs ds → stNs is ds e1 = some e' →
    (∀ σ' w', Stp keepT H w1 H w' → Wf H w' → EnvR K H w' μ σ' e' → Q σ' H) → tgNs is vs σ H Q
  | [], _, _, e1, σ, w1, Q, wf, er, .nil, h, k => by
    cases h
    exact ⟨rfl, k σ w1 Stp.refl wf er⟩
  | i :: is, _, _, e1, σ, w1, Q, wf, er, .cons r rs, h, k => by
    simp only [stNs] at h
    split at h
    · rename_i e2 h1
      obtain ⟨⟨x, hx⟩, rfl⟩ := stN_ok h1
      have st : Stp keepT H w1 H (shr i w1) := shr_stp.weak fun l hl => hl i
      exact ⟨_, _, rfl, stNs_ok0 (shr_wf wf) (put0_env er hx r) (rs.mono shr_stp.sh) h fun σ' w' s wf' er' => k σ' w' (st.trans s) wf' er'⟩
    · cases h
  | [], _, _, _, _, _, _, _, _, .cons _ _, h, _ => by cases h
  | _ :: _, _, _, _, _, _, _, _, _, .nil, h, _ => by cases h
theorem stPt_ok0 {pt : Pt} {e1 : En} {w1 : Wh} {Q : L2.St → Hp → Prop} (wf : Wf H w1) (er : EnvR K H w1 μ σ e1) (r : Rp K H w1 v d) (h : stPt pt d e1 = some e')
    (k : ∀ σ' w', Stp keepT H w1 H w' → Wf H w' → EnvR K H w' μ σ' e' → Q σ' H) : tgP K pt v σ H Q := by
  cases pt with
  | nm i =>
    obtain ⟨⟨x, hx⟩, rfl⟩ := stN_ok (show stN i _ e1 = some e' from h)
    exact k _ _ (shr_stp.weak fun l hl => hl i) (shr_wf wf) (put0_env er hx r)
  | tp is =>
    cases d with
    | tuple ds =>
      obtain ⟨p, xs, e1, s, rs, _⟩ := Rr.tup (.inl r)
      have hl := stNs_len (show stNs is ds _ = some e' from h)
      exact .inl ⟨p, xs, e1, s, by rw [rs.length, hl], stNs_ok0 wf er rs h k⟩
    | list ds =>
      obtain ⟨p, xs, e1, s, rs⟩ := Rr.list (.inl r)
      have hl := stNs_len (show stNs is ds _ = some e' from h)
      exact .inr ⟨p, xs, e1, s, by rw [rs.length, hl], stNs_ok0 wf er rs h k⟩
    | _ => cases h
theorem ownSh_at {e : En} : ∀ {vs : List Nat} {i : Nat} {o : O} {d : D}, ownSh e vs = true → i ∈ vs → e[i]? = some (some ⟨o, d⟩) → o = .sh
  | v :: vs, i, o, d, h, hi, hs => by
    unfold ownSh at h
    rw [Bool.and_eq_true] at h
    by_cases hv : i = v
    · subst hv
      have h1 := h.1
      rw [hs] at h1
      cases o with
      | sh => rfl
      | own => cases h1
      | mu => cases h1
    · exact ownSh_at h.2 ((List.mem_cons.mp hi).resolve_left hv) hs
end
def teC (K : PySem.W.Frag) (F : List Fn) (cs : List IT) : TT := fun σ H Q => ∃ n w μ e b e', Wf H w ∧ EnvR K H w μ σ e ∧ evC F cs e = .ok b e' ∧ ∀ H' w', Aft K n μ σ e' H w H' w' → Q b H'
theorem _root_.L2.PTs.imp {X : Cx} {es : List Expr} {t t' : TT} (h : PTs X es t) (i : ∀ σ H Q, t' σ H Q → t σ H Q) : PTs X es t' := ⟨fun pins s σ H Q I q => h.run pins s σ H Q I (i σ H Q q)⟩
section
variable {X : Cx} {F : List Fn} {a b c tg el : Expr} {ia ib ic iel : IE} {it iu : IT} {pos apos cpos p1 : Pos} {ss : List Stmt} {iss : List IS} {isr : Sr} {ifs : List Expr} {cs : List IT}
theorem sc_nil : PTs X [] (teC X.K F []) := by
  refine pts_nil.imp fun σ H Q q => ?_
  obtain ⟨n, w, μ, e, b, e', wf, er, ev, k⟩ := q
  cases ev
  exact k H w (.refl wf er)
theorem sc_one (hc : PT X c (teT X.K F it)) : PTs X [c] (teC X.K F [it]) := by
  refine (pts_one hc).imp fun σ H Q q => ?_
  obtain ⟨n, w, μ, e, b, e', wf, er, ev, k⟩ := q
  unfold evC at ev
  obtain ⟨r, e1, h1, ev⟩ := Rs.bind_ok ev
  refine ⟨n, w, μ, e, r, e1, wf, er, h1, fun H1 w1 a1 => ?_⟩
  cases r with
  | true =>
    rw [if_pos rfl] at ev
    cases ev
    exact k H1 w1 a1
  | false =>
    rw [if_neg Bool.false_ne_true] at ev
    cases ev
    exact k H1 w1 a1
theorem lc_in {pt : Pt} {vs : List Nat} (hpt : ptIn vs pt) (σ : L2.St) (H : Hp) (Q : VK) (q : teE X.K F (.comp iel pt isr cs vs) σ H Q) : tLc (tiI X.K F isr) (tgP X.K pt) (teC X.K F cs) (teE X.K F iel) vs σ H Q := by
  obtain ⟨n, w, μ, e, z, e', wf, er, ev, k⟩ := q
  unfold evE at ev
  obtain ⟨xs, e1, h1, ev1⟩ := Rs.bind_ok ev
  refine ⟨n, w, μ, e, xs, e1, wf, er, h1, fun J H1 w1 a1 wk D hD => ?_⟩
  obtain ⟨G, Y, wk, hG, hY⟩ := wk
  split at ev1
  · rename_i hb
    rw [Bool.and_eq_true, decide_eq_true_eq] at hb
    obtain ⟨ds, e7, h7, ev2⟩ := Rs.bind_ok ev1
    cases ev2
    generalize hst : (fun d e2 => match stPt pt d (wipeE e2 vs) with
        | some e3 => (evC F cs e3).bind fun b e4 => if b = true then (evE F iel e4).bind fun x e5 => match fzA x e5 with
            | some (d, e6) => Rs.ok (some d) e6
            | none => .no
          else .ok none e4
        | none => Rs.no) = step at h7
    have wD := a1.wf D hD
    have st0 := own1_stp (o := .lst []) (n := n) a1.wf hD
    refine lc_it wk (fun i H' => ∃ w' e2 acc done rest, Stp (keepE n) H w H' w' ∧ Wf H' w' ∧ EnvR X.K H' w' μ (wipe σ vs) (wipeE e2 vs) ∧ Sty H1 w1 H' w' ∧ H' D = some (.lst acc) ∧ w' D = some (.tmp n) ∧ RpAll X.K H' w' acc done ∧ done.length ≤ i ∧
      compL step (xs.drop i) e2 = .ok rest e7 ∧ done ++ rest = ds) ?_ (fun i H' _ ⟨w', _, _, _, _, _, _, _, s, _⟩ => hG H' w' s) (fun i x H' H2 hlt p y => ?_) (fun H' p => ?_)
    · exact ⟨own1 w1 D (.tmp n), e1, [], [], ds, a1.stp.trans (st0.weak keepP.e), own1_wf a1.wf, wipe_env (a1.env.mono st0 fun i z => by cases z), st0.sh, upd_same, own1_at, .nil, Nat.zero_le _, h7, rfl⟩
    · obtain ⟨w', e2, acc, done, rest, sp, wf', er', s, hDl, hDw, ra, hdn, hcl, hds⟩ := p
      obtain ⟨d, hd, s2, hk, wf2, r⟩ := hY i H' x H2 w' hlt y s wf'
      have st2 : Stp (fun _ => True) H' w' H2 w' := ⟨s2, fun _ _ _ => Iff.rfl, fun b l _ hb => hk b l hb⟩
      have hdr : xs.drop i = d :: xs.drop (i + 1) := by
        obtain ⟨h1, h2⟩ := List.getElem?_eq_some_iff.mp hd
        rw [List.drop_eq_getElem_cons h1, h2]
      rw [hdr] at hcl
      simp only [compL] at hcl
      obtain ⟨rr, e5, h5, hcl⟩ := Rs.bind_ok hcl
      obtain ⟨rs, e6, h6, hcl⟩ := Rs.bind_ok hcl
      subst hst
      cases hst' : stPt pt d (wipeE e2 vs) with
      | none => simp only [hst'] at h5; cases h5
      | some e3 =>
        simp only [hst'] at h5
        obtain ⟨bb, e4, h8, h5⟩ := Rs.bind_ok h5
        have hD2 : H2 D = some (.lst acc) := (hk D _ hDw).trans hDl
        refine tgP_wipe hpt wipe_wipe (stPt_ok0 wf2 (er'.mono st2 fun _ => trivial) r hst' fun σ3 w3 s3 wf3 er3 hσ => ?_)
        have sp3 : Stp (keepE n) H w H2 w3 := (sp.trans (st2.weak fun _ _ => trivial)).trans (s3.weak keepT_e)
        have ss3 : Sty H' w' H2 w3 := fun p o h0 h1 => let ⟨x1, x2⟩ := s2 p o h0 h1; s3.sh p o x1 x2
        have hDw3 : w3 D = some (.tmp n) := (s3.kp D _ fun i z => by cases z).mpr hDw
        refine ⟨n + 1, w3, μ, e3, bb, e4, wf3, er3, h8, fun H4 w4 a4 => ?_⟩
        have sp4 : Stp (keepE n) H w H4 w4 := sp3.trans (a4.stp.weak (keepE.le (Nat.le_succ n)))
        have ss4 : Sty H' w' H4 w4 := fun p o h0 h1 => let ⟨x1, x2⟩ := ss3 p o h0 h1; a4.stp.sh p o x1 x2
        have hD4 : H4 D = some (.lst acc) := (a4.stp.kh D (.tmp n) (Nat.lt_succ_self n) hDw3).trans hD2
        have hDw4 : w4 D = some (.tmp n) := (a4.stp.kp D (.tmp n) (Nat.lt_succ_self n)).mpr hDw3
        cases bb with
        | false =>
          rw [if_neg Bool.false_ne_true] at h5
          cases h5
          rw [h6] at hcl
          cases hcl
          refine iteF ⟨w4, _, acc, done, _, sp4, a4.wf, hσ ▸ wipe_env a4.env, fun p o h0 h1 => let ⟨x1, x2⟩ := s p o h0 h1; ss4 p o x1 x2, hD4, hDw4, ra.mono ss4, Nat.le_succ_of_le hdn, h6, hds⟩
        | true =>
          rw [if_pos rfl] at h5
          obtain ⟨x5, e5', h9, h10⟩ := Rs.bind_ok h5
          refine iteT ⟨n + 1, w4, μ, e4, x5, e5', a4.wf, a4.env, h9, fun yv H5 w5 a5 an5 => ?_⟩
          cases hf : fzA x5 e5' with
          | none => rw [hf] at h10; cases h10
          | some p =>
            obtain ⟨dd, e8⟩ := p
            rw [hf] at h10
            cases h10
            rw [h6] at hcl
            cases hcl
            obtain ⟨w6, a6, r6⟩ := a5.fz an5 (Nat.le_refl (n + 1)) hf
            have sp6 : Stp (keepE n) H w H5 w6 := sp4.trans (a6.stp.weak (keepE.le (Nat.le_succ n)))
            have ss6 : Sty H' w' H5 w6 := fun p o h0 h1 => let ⟨x1, x2⟩ := ss4 p o h0 h1; a6.stp.sh p o x1 x2
            have hD6 : H5 D = some (.lst acc) := (a6.stp.kh D (.tmp n) (Nat.lt_succ_self n) hDw4).trans hD4
            have hDw6 : w6 D = some (.tmp n) := (a6.stp.kp D (.tmp n) (Nat.lt_succ_self n)).mpr hDw4
            have su : Stp (keepP n) H5 w6 (upd H5 D (.lst (acc ++ [yv]))) w6 := ⟨sty_own hDw6, fun _ _ _ => Iff.rfl, fun b l hl hb => upd_ne fun z => by
              rw [z, hDw6] at hb
              exact hl (Option.some.inj hb).symm⟩
            refine ⟨acc, hD6, by rw [ra.length]; omega, w6, _, acc ++ [yv], done ++ [dd], _, sp6.trans (su.weak keepP.e), a6.wf.put trivial, ?_, fun p o h0 h1 => let ⟨x1, x2⟩ := s p o h0 h1; let ⟨x3, x4⟩ := ss6 p o x1 x2; su.sh p o x3 x4, upd_same, hDw6, ((ra.mono ss6).mono su.sh).append (.cons (Rp.mono su.sh r6) .nil), by rw [List.length_append]; exact Nat.succ_le_succ hdn, h6, by rw [← hds, List.append_assoc]; rfl⟩
            · exact hσ ▸ wipe_env (a6.env.mono su fun i z => by cases z)
    · obtain ⟨w', e2, acc, done, rest, sp, wf', er', s, hDl, hDw, ra, hdn, hcl, hds⟩ := p
      rw [List.drop_eq_nil_of_le (Nat.le_refl _)] at hcl
      cases hcl
      rw [List.append_nil] at hds
      subst hds
      refine k (.ref D) H' w' ⟨sp, wf', ⟨by rw [backE_length]; have := er'.len; rw [wipe_length, wipeE_length] at this; exact this, fun i o d h => ?_⟩⟩ ⟨D, rfl, hDw, .lst hDl ra⟩
      by_cases hi : i ∈ vs
      · have h0 := backE_in hi h
        have ho := ownSh_at hb.1 hi h0
        subst ho
        obtain ⟨v, v1, v2, v3⟩ := a1.env.at_ i _ d h0
        exact ⟨v, v1, Rp.mono s v2, v3⟩
      · rw [backE_at hi] at h
        obtain ⟨v, v1, v2, v3⟩ := er'.at_ i o d (by rw [wipeE_at hi]; exact h)
        rw [wipe_at hi] at v1
        exact ⟨v, v1, v2, v3⟩
  · cases ev1
end
end PD

/-! PD10b: a list of one's own is walked, and stays one's own. -/
namespace PD
open PySem PySem.Spec PyProof.Rows L2
def mu1 (μ : Nat → Option V) (i : Nat) (v : V) : Nat → Option V := fun j => if j = i then some v else μ j
def itK (K : PySem.W.Frag) (en : Bool) (a : Addr) : It := if en = true then Ite K a else Itl K a
def tiK (K : PySem.W.Frag) (F : List Fn) (en : Bool) (i : Nat) : TI := fun σ H R => ∃ n w μ e o xs, Wf H w ∧ EnvR K H w μ σ e ∧ e[i]? = some (some ⟨o, .list xs⟩) ∧ o ≠ .sh ∧ ∀ a H1 w1, Aft K n μ σ e H w H1 w1 → σ[i]? = some (some (.ref a)) → R (itK K en a) H1
section
variable {K : PySem.W.Frag} {F : List Fn} {H H' H2 : Hp} {w w' : Wh} {μ : Nat → Option V} {σ σ' : L2.St} {e e' : En} {n m i : Nat} {v x : V} {d : D} {o : O} {xs ys : List D}
theorem lkG_at (h : lkG e i = some (o, xs)) : e[i]? = some (some ⟨o, .list xs⟩) ∧ o ≠ .sh := by
  unfold lkG at h
  split at h
  · rename_i ys hs; cases h; exact ⟨hs, by intro z; cases z⟩
  · rename_i ys hs; cases h; exact ⟨hs, by intro z; cases z⟩
  · cases h
theorem lkN_at (h : lkN e i = some xs) : e[i]? = some (some ⟨.mu, .list xs⟩) := by
  unfold lkN at h
  split at h
  · rename_i ys hs; cases h; exact hs
  · cases h
theorem ow_ns {l : Lab} (ho : o ≠ .sh) (h : RpO K H w l o v d) : Ow K H w l v d := by
  cases o with
  | sh => exact absurd rfl ho
  | own => exact h
  | mu => exact h
theorem ow_to {l : Lab} (ho : o ≠ .sh) (h : Ow K H w l v d) : RpO K H w l o v d := by
  cases o with
  | sh => exact absurd rfl ho
  | own => exact h
  | mu => exact h
theorem lk_slot {a : Addr} (er : EnvR K H w μ σ e) (hi : e[i]? = some (some ⟨o, d⟩)) (ho : o ≠ .sh) (hσ : σ[i]? = some (some (.ref a))) : w a = some (.slot i) ∧ Cn K H w a d ∧ (o = .mu → μ i = some (.ref a)) := by
  obtain ⟨v, h1, h2, h3⟩ := er.at_ i o d hi
  rw [h1] at hσ
  cases hσ
  obtain ⟨b, e1, f, c⟩ := ow_ns ho h2
  cases e1
  exact ⟨f, c, h3⟩
theorem lk_ref (er : EnvR K H w μ σ e) (hi : e[i]? = some (some ⟨o, d⟩)) (ho : o ≠ .sh) : ∃ a, σ[i]? = some (some (.ref a)) := by
  obtain ⟨v, h1, h2, h3⟩ := er.at_ i o d hi
  obtain ⟨b, e1, f, c⟩ := ow_ns ho h2
  exact ⟨b, by rw [h1, e1]⟩
theorem cn_list {a : Addr} (c : Cn K H w a (.list xs)) : ∃ vs, H a = some (.lst vs) ∧ RpAll K H w vs xs := by
  cases c with
  | lst h r => exact ⟨_, h, r⟩
theorem lk_env {a : Addr} (er : EnvR K H w μ σ e) (hi : e[i]? = some (some ⟨o, d⟩)) (ho : o ≠ .sh) (hσ : σ[i]? = some (some (.ref a))) : EnvR K H w (mu1 μ i (.ref a)) σ (e.set i (some ⟨.mu, d⟩)) := by
  refine ⟨by rw [List.length_set]; exact er.len, fun j o' d' h => ?_⟩
  by_cases hj : j = i
  · subst hj
    rw [List.getElem?_set_self (List.getElem?_eq_some_iff.mp hi).1] at h
    cases h
    obtain ⟨f, c, _⟩ := lk_slot er hi ho hσ
    exact ⟨_, hσ, ⟨a, rfl, f, c⟩, fun _ => by unfold mu1; rw [if_pos rfl]⟩
  · rw [List.getElem?_set_ne (Ne.symm hj)] at h
    obtain ⟨v, h1, h2, h3⟩ := er.at_ j o' d' h
    exact ⟨v, h1, h2, fun z => by unfold mu1; rw [if_neg hj]; exact h3 z⟩
theorem unlk_env {e1 : En} (er : EnvR K H w (mu1 μ i v) σ e) (h : unlk o i e = some e1) (ho : o ≠ .sh) (hv : o = .mu → μ i = some v) : EnvR K H w μ σ e1 := by
  unfold unlk at h
  split at h
  · rename_i d hs
    cases h
    refine ⟨by rw [List.length_set]; exact er.len, fun j o' d' h => ?_⟩
    by_cases hj : j = i
    · subst hj
      rw [List.getElem?_set_self (List.getElem?_eq_some_iff.mp hs).1] at h
      cases h
      obtain ⟨u, h1, h2, h3⟩ := er.at_ j _ _ hs
      have h4 := h3 rfl
      unfold mu1 at h4
      rw [if_pos rfl] at h4
      cases h4
      exact ⟨_, h1, ow_to ho h2, hv⟩
    · rw [List.getElem?_set_ne (Ne.symm hj)] at h
      obtain ⟨u, h1, h2, h3⟩ := er.at_ j o' d' h
      exact ⟨u, h1, h2, fun z => by have := h3 z; unfold mu1 at this; rw [if_neg hj] at this; exact this⟩
  · cases h
theorem unl_out {D : Ends} {r : Ou} (ho : o ≠ .sh) (hv : o = .mu → μ i = some v) (h : OutR K μ H w D (Ou.unl o i r)) : OutR K (mu1 μ i v) H w D r := by
  cases r with
  | nx e1 =>
    simp only [Ou.unl] at h
    split at h
    · rename_i e2 h2
      exact fun σ' H' w' a => h σ' H' w' ⟨a.stp, a.wf, unlk_env a.env h2 ho hv⟩
    · exact h.elim
  | ct e1 =>
    simp only [Ou.unl] at h
    split at h
    · rename_i e2 h2
      exact fun σ' H' w' a => h σ' H' w' ⟨a.stp, a.wf, unlk_env a.env h2 ho hv⟩
    · exact h.elim
  | bk e1 =>
    simp only [Ou.unl] at h
    split at h
    · rename_i e2 h2
      exact fun σ' H' w' a => h σ' H' w' ⟨a.stp, a.wf, unlk_env a.env h2 ho hv⟩
    · exact h.elim
  | rt f d e1 =>
    simp only [Ou.unl] at h
    split at h
    · rename_i e2 h2
      exact fun v σ' H' w' a an => h v σ' H' w' ⟨a.stp, a.wf, unlk_env a.env h2 ho hv⟩ an
    · exact h.elim
  | no => exact h
  | ex c d e1 => exact h
/-- a turn of such a walk -/
theorem itK_stop {en : Bool} {a : Addr} {vs : List V} {t : Nat} (h : H a = some (.lst vs)) (hl : vs.length ≤ t) : (itK K en a).stop t H := by
  unfold itK
  cases en with
  | true => exact ⟨vs, .inl (.inl h), hl⟩
  | false => exact ⟨vs, .inl (.inl h), hl⟩
theorem itK_go {en : Bool} {a : Addr} {vs : List V} {t : Nat} (h : H a = some (.lst vs)) (hl : vs[t]? = some x) : (itK K en a).go t H := by
  unfold itK
  cases en with
  | true => exact ⟨vs, x, .inl (.inl h), hl⟩
  | false => exact ⟨vs, x, .inl (.inl h), hl⟩
theorem itK_yld {en : Bool} {a : Addr} {vs : List V} {t : Nat} (wf : Wf H w) (h : H a = some (.lst vs)) (hl : vs[t]? = some v) (r : Rp K H w v d) (y : (itK K en a).yld t H x H2) :
    Sty H w H2 w ∧ (∀ a l, w a = some l → H2 a = H a) ∧ Wf H2 w ∧ Rp K H2 w x (kItm en t d) := by
  unfold itK at y
  cases en with
  | true =>
    obtain ⟨T, x1, rfl, hT, rfl, hx⟩ := y
    have hx1 : some x1 = some v := (hx vs (.inl (.inl h))).symm.trans hl
    cases hx1
    obtain ⟨s2, wf2, r2⟩ := new_tup (n := 0) wf hT (.cons (.int (t : Int)) (.cons r .nil))
    exact ⟨s2.sh, (fun a l ha => upd_ne fun z => by rw [z, wf T hT] at ha; cases ha), wf2, r2⟩
  | false =>
    obtain ⟨rfl, hx⟩ := y
    have hx1 : some x = some v := (hx vs (.inl (.inl h))).symm.trans hl
    cases hx1
    exact ⟨fun _ _ h e => ⟨h, e⟩, fun _ _ _ => rfl, wf, r⟩
end
section
variable {X : Cx} {F : List Fn} {a b c tg el : Expr} {ia ib ic iel : IE} {it iu : IT} {pos apos cpos p1 p2 : Pos} {ss : List Stmt} {iss : List IS} {isr : Sr} {i : Nat} {cs : List IT}
theorem si_kseq (ha : PE X a (teE X.K F (.var i))) : PI X tg a (tiK X.K F false i) := by
  refine (pi_seq ha).imp fun σ H R q => ?_
  obtain ⟨n, w, μ, e, o, xs, wf, er, hi, ho, k⟩ := q
  refine ⟨n, w, μ, e, .pl i, e, wf, er, ?_, fun v H1 w1 a1 an => ?_⟩
  · unfold evE
    rw [hi]
    cases o with
    | sh => exact absurd rfl ho
    | own => rfl
    | mu => rfl
  · have hσ : σ[i]? = some (some v) := an
    obtain ⟨a', hr⟩ := lk_ref a1.env hi ho
    rw [hr] at hσ
    cases hσ
    obtain ⟨_, c, _⟩ := lk_slot a1.env hi ho hr
    obtain ⟨vs, hH, _⟩ := cn_list c
    exact .inl ⟨a', vs, rfl, .inl (.inl hH), k a' H1 w1 a1 hr⟩
theorem si_kenum {es : List Expr} {kk : Nat} {tp : Pos} (hg : Gl X "enumerate") (hm : X.mg "enumerate" = none) (ha : PA X [a] (teA X.K F [.var i])) (hs : starEach [a] X.env = [(false, eval a X.env)]) :
    PI X (.Tuple es kk tp) (.Call (.Name "enumerate" p1) [a] [] pos) (tiK X.K F true i) := by
  refine (pi_enumA hg hm ha hs).imp fun σ H R q => ?_
  obtain ⟨n, w, μ, e, o, xs, wf, er, hi, ho, k⟩ := q
  refine one_in ⟨n, w, μ, e, .pl i, e, wf, er, ?_, fun v H1 w1 a1 an => ?_⟩
  · unfold evE
    rw [hi]
    cases o with
    | sh => exact absurd rfl ho
    | own => rfl
    | mu => rfl
  · have hσ : σ[i]? = some (some v) := an
    obtain ⟨a', hr⟩ := lk_ref a1.env hi ho
    rw [hr] at hσ
    cases hσ
    obtain ⟨_, c, _⟩ := lk_slot a1.env hi ho hr
    obtain ⟨vs, hH, _⟩ := cn_list c
    exact ⟨a', vs, rfl, .inl ⟨.inl (.inl hH), k a' H1 w1 a1 hr⟩⟩
theorem ss_forK {pt : Pt} {en : Bool} (hp : PassesOwn (model X.prog X.w) X.A X.env X.xe) (hc : X.calm = true) (hi : PI X tg a (tiK X.K F en i)) (hg : PG X tg (tgP X.K pt)) (hb : PSs X ss (tsSs X.K F iss)) (hs : ∀ x, foldedSetIterable a X.env x = pure x) :
    PS X (.For tg a ss [] pos) (tsS X.K F (.forrk pt en i iss)) := by
  refine (ps_for hp hc hi hg hb hs).imp fun D σ H q => ?_
  obtain ⟨w, μ, e, wf, er, k⟩ := q
  simp only [evS] at k
  split at k
  · rename_i o xs hl
    obtain ⟨hi', ho⟩ := lkG_at hl
    refine ⟨0, w, μ, e, o, xs, wf, er, hi', ho, fun p H1 w1 a1 hσ => ?_⟩
    obtain ⟨_, _, hv⟩ := lk_slot a1.env hi' ho hσ
    have er1 := lk_env a1.env hi' ho hσ
    replace k := unl_out (v := .ref p) ho hv k
    generalize hst : (fun d e2 => match stPt pt d e2 with
      | some e3 => evSs F iss e3
      | none => Ou.no) = step at k
    refine ⟨fun t m σ' H' => ∃ w' e', AftS X.K (mu1 μ i (.ref p)) e' H w σ' H' w' ∧ OutR X.K (mu1 μ i (.ref p)) H w D (forK i en step m t e'), ⟨sizeLine + 1, w1, _, ⟨a1.stp, a1.wf, er1⟩, k⟩, ?_⟩
    rintro t m σ' H' ⟨w', e', a2, k2⟩
    cases m with
    | zero => exact k2.elim
    | succ m =>
      simp only [forK] at k2
      cases hx : lkN e' i with
      | none => simp only [hx] at k2; exact k2.elim
      | some zs =>
        simp only [hx] at k2
        have hs' := lkN_at hx
        have hmu : (mu1 μ i (.ref p)) i = some (.ref p) := by unfold mu1; rw [if_pos rfl]
        obtain ⟨u, u1, u2, u3⟩ := a2.env.at_ i _ _ hs'
        have hu := u3 rfl
        rw [hmu] at hu
        cases hu
        obtain ⟨_, c, _⟩ := lk_slot a2.env hs' (by intro z; cases z) u1
        obtain ⟨vs, hH, ra⟩ := cn_list c
        cases hz : zs[t]? with
        | none =>
          simp only [hz] at k2
          refine .inl ⟨itK_stop hH ?_, k2 _ _ _ a2⟩
          rw [ra.length]
          exact List.getElem?_eq_none_iff.mp hz
        | some d =>
          simp only [hz] at k2
          obtain ⟨xv, hxv, r⟩ := ra.get hz
          refine .inr ⟨itK_go hH hxv, fun σ' H' => ∃ w' e', AftS X.K (mu1 μ i (.ref p)) e' H w σ' H' w' ∧ OutR X.K (mu1 μ i (.ref p)) H w D (forK i en step m (t + 1) e'), fun σ5 H5 h5 => ⟨m, Nat.lt_succ_self m, h5⟩, fun x H2 y => ?_⟩
          obtain ⟨s2, hk, wf2, r2⟩ := itK_yld a2.wf hH hxv r y
          have st2 : Stp (fun _ => True) H' w' H2 w' := ⟨s2, fun _ _ _ => Iff.rfl, fun b l _ hb => hk b l hb⟩
          have a3 : AftS X.K (mu1 μ i (.ref p)) e' H2 w' σ' H2 w' := .refl wf2 (a2.env.mono st2 fun _ => trivial)
          have b3 : Stp (keepE 0) H w H2 w' := a2.stp.trans (st2.weak fun _ _ => trivial)
          subst hst
          cases hpt : stPt pt (kItm en t d) e' with
          | none => simp only [hpt] at k2; exact k2.elim
          | some e3 =>
            simp only [hpt] at k2
            refine stPt_ok a3 r2 hpt fun σ3 w3 a4 => ⟨w3, mu1 μ i (.ref p), e3, a4.wf, a4.env, ?_⟩
            have b4 := b3.trans a4.stp
            cases hr : evSs F iss e3 with
            | nx e5 => simp only [hr] at k2; exact fun σ5 H5 w5 a5 => ⟨w5, e5, ⟨b4.trans a5.stp, a5.wf, a5.env⟩, k2⟩
            | ct e5 => simp only [hr] at k2; exact fun σ5 H5 w5 a5 => ⟨w5, e5, ⟨b4.trans a5.stp, a5.wf, a5.env⟩, k2⟩
            | bk e5 => simp only [hr] at k2; exact fun σ5 H5 w5 a5 => k2 σ5 H5 w5 ⟨b4.trans a5.stp, a5.wf, a5.env⟩
            | rt f d e5 => simp only [hr] at k2; exact fun v σ5 H5 w5 a5 an => k2 v σ5 H5 w5 ⟨b4.trans a5.stp, a5.wf, a5.env⟩ an
            | no => simp only [hr] at k2; exact k2
            | ex c d e5 => simp only [hr] at k2; exact k2
  · exact k.elim
theorem lc_inK {pt : Pt} {en : Bool} {vs : List Nat} (hpt : ptIn vs pt) (σ : L2.St) (H : Hp) (Q : VK) (q : teE X.K F (.compk iel pt en i cs vs) σ H Q) : tLc (tiK X.K F en i) (tgP X.K pt) (teC X.K F cs) (teE X.K F iel) vs σ H Q := by
  obtain ⟨n, w, μ, e, z, e', wf, er, ev, k⟩ := q
  unfold evE at ev
  split at ev
  · rename_i o xs hl
    obtain ⟨hi', ho⟩ := lkG_at hl
    refine ⟨n, w, μ, e, o, xs, wf, er, hi', ho, fun p H1 w1 a1 hσ D hD => ?_⟩
    obtain ⟨_, _, hv⟩ := lk_slot a1.env hi' ho hσ
    have er1 := lk_env a1.env hi' ho hσ
    generalize he1 : e.set i (some ⟨.mu, .list xs⟩) = e1 at ev er1
    have hie : e1[i]? = some (some ⟨.mu, .list xs⟩) := by
      rw [← he1]
      exact List.getElem?_set_self (List.getElem?_eq_some_iff.mp hi').1
    split at ev
    · rename_i hb
      have hni : i ∉ vs := fun z => by
        have := ownSh_at hb z hie
        cases this
      obtain ⟨ds, e7, h7, ev2⟩ := Rs.bind_ok ev
      split at ev2
      · rename_i e8 h8
        cases ev2
        generalize hst : (fun d e2 => match stPt pt d (wipeE e2 vs) with
            | some e3 => (evC F cs e3).bind fun b e4 => if b = true then (evE F iel e4).bind fun x e5 => match fzA x e5 with
                | some (d, e6) => Rs.ok (some d) e6
                | none => .no
              else .ok none e4
            | none => Rs.no) = step at h7
        have wD := a1.wf D hD
        have st0 := own1_stp (o := .lst []) (n := n) a1.wf hD
        refine ⟨fun t m H' => ∃ w' e2 acc done rest, Stp (keepE n) H w H' w' ∧ Wf H' w' ∧ EnvR X.K H' w' (mu1 μ i (.ref p)) (wipe σ vs) (wipeE e2 vs) ∧ Sty H1 w1 H' w' ∧ H' D = some (.lst acc) ∧ w' D = some (.tmp n) ∧ RpAll X.K H' w' acc done ∧ done.length ≤ t ∧ m + t = sizeLine + 1 ∧
          compK i en step m t e2 = .ok rest e7 ∧ done ++ rest = ds, ⟨sizeLine + 1, own1 w1 D (.tmp n), e1, [], [], ds, a1.stp.trans (st0.weak keepP.e), own1_wf a1.wf, wipe_env (er1.mono st0 fun i z => by cases z), st0.sh, upd_same, own1_at, .nil, Nat.zero_le _, rfl, h7, rfl⟩, ?_⟩
        rintro t m H' ⟨w', e2, acc, done, rest, sp, wf', er', s, hDl, hDw, ra, hdn, hmt, hcl, hds⟩
        cases m with
        | zero => cases hcl
        | succ m =>
          simp only [compK] at hcl
          cases hx : lkN e2 i with
          | none => simp only [hx] at hcl; cases hcl
          | some zs =>
            simp only [hx] at hcl
            have hs2 := lkN_at hx
            have hs' : (wipeE e2 vs)[i]? = some (some ⟨.mu, .list zs⟩) := by rw [wipeE_at hni]; exact hs2
            have hmu : (mu1 μ i (.ref p)) i = some (.ref p) := by unfold mu1; rw [if_pos rfl]
            obtain ⟨u, u1, u2, u3⟩ := er'.at_ i _ _ hs'
            have hu := u3 rfl
            rw [hmu] at hu
            cases hu
            obtain ⟨_, c, _⟩ := lk_slot er' hs' (by intro z; cases z) u1
            obtain ⟨ws, hH, rw'⟩ := cn_list c
            cases hz : zs[t]? with
            | none =>
              simp only [hz] at hcl
              cases hcl
              rw [List.append_nil] at hds
              subst hds
              refine .inl ⟨itK_stop hH ?_, ?_⟩
              · rw [rw'.length]
                exact List.getElem?_eq_none_iff.mp hz
              · refine k (.ref D) H' w' ⟨sp, wf', unlk_env (v := .ref p) ⟨by rw [backE_length]; have := er'.len; rw [wipe_length, wipeE_length] at this; exact this, fun j o d h => ?_⟩ h8 ho hv⟩ ⟨D, rfl, hDw, .lst hDl ra⟩
                by_cases hj : j ∈ vs
                · have h0 := backE_in hj h
                  have ho := ownSh_at hb hj h0
                  subst ho
                  obtain ⟨v, v1, v2, v3⟩ := er1.at_ j _ d h0
                  exact ⟨v, v1, Rp.mono s v2, v3⟩
                · rw [backE_at hj] at h
                  obtain ⟨v, v1, v2, v3⟩ := er'.at_ j o d (by rw [wipeE_at hj]; exact h)
                  rw [wipe_at hj] at v1
                  exact ⟨v, v1, v2, v3⟩
            | some d =>
              simp only [hz] at hcl
              obtain ⟨xv, hxv, r⟩ := rw'.get hz
              refine .inr ⟨itK_go hH hxv, fun H' => ∃ w' e2 acc done rest, Stp (keepE n) H w H' w' ∧ Wf H' w' ∧ EnvR X.K H' w' (mu1 μ i (.ref p)) (wipe σ vs) (wipeE e2 vs) ∧ Sty H1 w1 H' w' ∧ H' D = some (.lst acc) ∧ w' D = some (.tmp n) ∧ RpAll X.K H' w' acc done ∧ done.length ≤ t + 1 ∧ m + (t + 1) = sizeLine + 1 ∧
                compK i en step m (t + 1) e2 = .ok rest e7 ∧ done ++ rest = ds, fun H5 h5 => ⟨m, Nat.lt_succ_self m, h5⟩, fun x H2 y => ?_⟩
              obtain ⟨s2, hk, wf2, r2⟩ := itK_yld wf' hH hxv r y
              have st2 : Stp (fun _ => True) H' w' H2 w' := ⟨s2, fun _ _ _ => Iff.rfl, fun b l _ hb => hk b l hb⟩
              obtain ⟨rr, e5, h5, hcl⟩ := Rs.bind_ok hcl
              obtain ⟨rs, e6, h6, hcl⟩ := Rs.bind_ok hcl
              have hmp : 1 ≤ m := by
                cases m with
                | zero => cases h6
                | succ m => omega
              subst hst
              cases hst' : stPt pt (kItm en t d) (wipeE e2 vs) with
              | none => simp only [hst'] at h5; cases h5
              | some e3 =>
                simp only [hst'] at h5
                obtain ⟨bb, e4, h8', h5⟩ := Rs.bind_ok h5
                have hD2 : H2 D = some (.lst acc) := (hk D _ hDw).trans hDl
                refine tgP_wipe hpt wipe_wipe (stPt_ok0 wf2 (er'.mono st2 fun _ => trivial) r2 hst' fun σ3 w3 s3 wf3 er3 hσ3 => ?_)
                have sp3 : Stp (keepE n) H w H2 w3 := (sp.trans (st2.weak fun _ _ => trivial)).trans (s3.weak keepT_e)
                have ss3 : Sty H' w' H2 w3 := fun p o h0 h1 => let ⟨x1, x2⟩ := s2 p o h0 h1; s3.sh p o x1 x2
                have hDw3 : w3 D = some (.tmp n) := (s3.kp D _ fun i z => by cases z).mpr hDw
                refine ⟨n + 1, w3, mu1 μ i (.ref p), e3, bb, e4, wf3, er3, h8', fun H4 w4 a4 => ?_⟩
                have sp4 : Stp (keepE n) H w H4 w4 := sp3.trans (a4.stp.weak (keepE.le (Nat.le_succ n)))
                have ss4 : Sty H' w' H4 w4 := fun p o h0 h1 => let ⟨x1, x2⟩ := ss3 p o h0 h1; a4.stp.sh p o x1 x2
                have hD4 : H4 D = some (.lst acc) := (a4.stp.kh D (.tmp n) (Nat.lt_succ_self n) hDw3).trans hD2
                have hDw4 : w4 D = some (.tmp n) := (a4.stp.kp D (.tmp n) (Nat.lt_succ_self n)).mpr hDw3
                cases bb with
                | false =>
                  rw [if_neg Bool.false_ne_true] at h5
                  cases h5
                  rw [h6] at hcl
                  cases hcl
                  refine iteF ⟨w4, _, acc, done, _, sp4, a4.wf, hσ3 ▸ wipe_env a4.env, fun p o h0 h1 => let ⟨x1, x2⟩ := s p o h0 h1; ss4 p o x1 x2, hD4, hDw4, ra.mono ss4, Nat.le_succ_of_le hdn, by omega, h6, hds⟩
                | true =>
                  rw [if_pos rfl] at h5
                  obtain ⟨x5, e5', h9, h10⟩ := Rs.bind_ok h5
                  refine iteT ⟨n + 1, w4, mu1 μ i (.ref p), e4, x5, e5', a4.wf, a4.env, h9, fun yv H5 w5 a5 an5 => ?_⟩
                  cases hf : fzA x5 e5' with
                  | none => rw [hf] at h10; cases h10
                  | some p =>
                    obtain ⟨dd, e8⟩ := p
                    rw [hf] at h10
                    cases h10
                    rw [h6] at hcl
                    cases hcl
                    obtain ⟨w6, a6, r6⟩ := a5.fz an5 (Nat.le_refl (n + 1)) hf
                    have sp6 : Stp (keepE n) H w H5 w6 := sp4.trans (a6.stp.weak (keepE.le (Nat.le_succ n)))
                    have ss6 : Sty H' w' H5 w6 := fun p o h0 h1 => let ⟨x1, x2⟩ := ss4 p o h0 h1; a6.stp.sh p o x1 x2
                    have hD6 : H5 D = some (.lst acc) := (a6.stp.kh D (.tmp n) (Nat.lt_succ_self n) hDw4).trans hD4
                    have hDw6 : w6 D = some (.tmp n) := (a6.stp.kp D (.tmp n) (Nat.lt_succ_self n)).mpr hDw4
                    have su : Stp (keepP n) H5 w6 (upd H5 D (.lst (acc ++ [yv]))) w6 := ⟨sty_own hDw6, fun _ _ _ => Iff.rfl, fun b l hl hb => upd_ne fun z => by
                      rw [z, hDw6] at hb
                      exact hl (Option.some.inj hb).symm⟩
                    refine ⟨acc, hD6, by rw [ra.length]; omega, w6, _, acc ++ [yv], done ++ [dd], _, sp6.trans (su.weak keepP.e), a6.wf.put trivial, ?_, fun p o h0 h1 => let ⟨x1, x2⟩ := s p o h0 h1; let ⟨x3, x4⟩ := ss6 p o x1 x2; su.sh p o x3 x4, upd_same, hDw6, ((ra.mono ss6).mono su.sh).append (.cons (Rp.mono su.sh r6) .nil), by rw [List.length_append]; exact Nat.succ_le_succ hdn, by omega, h6, by rw [← hds, List.append_assoc]; rfl⟩
                    · exact hσ3 ▸ wipe_env (a6.env.mono su fun i z => by cases z)
      · cases ev2
    · cases ev
  · cases ev
end
end PD

/-! PD3e: a list or tuple times a whole number; turned about. -/
namespace PD
open PySem PySem.Spec PyProof.Rows L2
theorem tuple_mulW1 (l : Addr) (items : Array Value) (n : Nat) (dd : Option Addr) (sl : Array (Option Value)) (x : Int) (u : Tok) (c0 : (decide (x < -(2 ^ 63)) || decide (x ≥ 2 ^ 63)) = false) (c1 : (items.isEmpty || x == 1) = true) :
    Meets (Builtin.«tuple.__mul__» ⟨[.ref l, .int x u], []⟩) (fun _ R s => s.heap.get? l = some { cls := .type "tuple", dict := dd, data := .seq items n, slots := sl } ∧
      R (.ok (.ret (Value.ref l))) { s with heap := s.heap, toks := s.toks }) :=
  .of_wp fun prog w A R s h => by
    obtain ⟨hp, g, d, tk, os⟩ := s
    obtain ⟨hl, h⟩ := h
    have f1 := AutoSeq1.idx_int
    wp_walk using wpAny_loadPart' hl
    repeat (first
      | (refine wpAny_ite_false (decide_eq_false (by rw [c0]; exact Bool.false_ne_true)) ?_; wp_walk using wpAny_loadPart' hl)
      | (refine wpAny_ite_true (decide_eq_true c1) ?_; wp_walk using wpAny_loadPart' hl))
    exact ⟨_, rfl, h⟩
theorem tuple_mulW2 (l : Addr) (items : Array Value) (n : Nat) (dd : Option Addr) (sl : Array (Option Value)) (x : Int) (u : Tok) (c0 : (decide (x < -(2 ^ 63)) || decide (x ≥ 2 ^ 63)) = false) (c1 : (items.isEmpty || x == 1) = false) (c2 : (decide (x ≤ 0) || items.isEmpty) = true) :
    Meets (Builtin.«tuple.__mul__» ⟨[.ref l, .int x u], []⟩) (fun _ R s => s.heap.get? l = some { cls := .type "tuple", dict := dd, data := .seq items n, slots := sl } ∧
      R (.ok (.ret (Value.ref s.heap.objs.size))) { s with heap := s.heap.push { cls := Value.type "tuple", data := Data.seq #[] }, toks := s.toks }) :=
  .of_wp fun prog w A R s h => by
    obtain ⟨hp, g, d, tk, os⟩ := s
    obtain ⟨hl, h⟩ := h
    have f1 := AutoSeq1.idx_int
    wp_walk using wpAny_loadPart' hl
    repeat (first
      | (refine wpAny_ite_false (decide_eq_false (by rw [c0]; exact Bool.false_ne_true)) ?_; wp_walk using wpAny_loadPart' hl)
      | (refine wpAny_ite_false (decide_eq_false (by rw [c1]; exact Bool.false_ne_true)) ?_; wp_walk using wpAny_loadPart' hl)
      | (refine wpAny_ite_true (decide_eq_true c2) ?_; wp_walk using wpAny_loadPart' hl))
    all_goals first
      | exact ⟨_, rfl, h⟩
      | (refine wpAny_ite_false (decide_eq_false (Nat.not_lt.mpr (Nat.zero_le _))) ?_; wp_walk using wpAny_loadPart' hl; exact ⟨_, rfl, h⟩)
theorem list_mulW (l : Addr) (items : Array Value) (n : Nat) (dd : Option Addr) (sl : Array (Option Value)) (x : Int) (u : Tok) (hc0 : ¬(!Builtin.List.listFitsIndex x) = true) (hc1 : ¬items.size * x.toNat > (2 ^ 63 - 1) / 8) (hc2 : ¬Builtin.List.listTooLong (items.size * x.toNat) = true) :
    Meets (Builtin.«list.__mul__» ⟨[.ref l, .int x u], []⟩) (fun _ R s => s.heap.get? l = some { cls := .type "list", dict := dd, data := .seq items n, slots := sl } ∧ R (.ok (.ret (Value.ref s.heap.objs.size))) { s with heap := s.heap.push { cls := Value.type "list", data := Data.seq (List.foldl (fun x1 x2 => x1 ++ x2) #[] (List.replicate (if items.isEmpty = true then 0 else x.toNat) items)) }, toks := s.toks }) :=
  .of_wp fun prog w A R s h => by
    obtain ⟨hp, g, d, tk, os⟩ := s; obtain ⟨hl, h⟩ := h
    have hsz := AutoListH.joined_fits hc2
    wp_walk using wpAny_loadPart' hl; refine wpAny_ite_false (decide_eq_false (Nat.not_lt.mpr hsz)) ?_; wp_walk using wpAny_loadPart' hl; exact ⟨_, rfl, h⟩
theorem int_rmul_list (a : Int) (t : Tok) (l : Addr) (items : Array Value) (n : Nat) (dd : Option Addr) (sl : Array (Option Value)) :
    Meets (Builtin.«int.__rmul__» ⟨[.int a t, .ref l], []⟩) (fun _ R s => s.heap.get? l = some { cls := .type "list", dict := dd, data := .seq items n, slots := sl } ∧ R (.ok (.ret Value.notImplemented)) s) :=
  .of_wp fun prog w A R s h => by obtain ⟨hp, g, d, tk, os⟩ := s; obtain ⟨hl, h⟩ := h; wp_walk using wpAny_loadPart' hl; exact ⟨_, rfl, h⟩
section
variable {X : Cx}
def rRepS (K : PySem.W.Frag) : R2 := fun x y H Q => ∃ l k xs, x = .ref l ∧ y = .int k ∧ SqL K H l xs ∧ -(2 ^ 62) < k ∧ k < 2 ^ 62 ∧ xs.length * k.toNat ≤ sizeLine ∧
  ∀ p, H p = none → Q (.ref p) (upd H p (.lst (List.replicate k.toNat xs).flatten))
theorem op_repS : OpR X (binaryOp .Mult) (rRepS X.K) := by
  intro pins s σ H x y v u Q I rx ry h
  obtain ⟨l, k, xs, rfl, rfl, hH, h1, h2, hz, q⟩ := h
  cases rx
  obtain ⟨t, rfl⟩ := ry
  obtain ⟨its, r, ⟨⟨cls, dd, data, sl⟩, n, e, ec, ed, edt⟩, hl'⟩ := I.list hH
  simp only at ec ed edt
  subst ec ed edt
  have hl : its.length = xs.length := r.length.symm
  have hlen : its.toArray.size * k.toNat ≤ sizeLine := by rw [List.size_toArray, hl]; exact hz
  have hcap : ¬ its.toArray.size * k.toNat > (2 ^ 63 - 1) / 8 := by
    have : (sizeLine : Nat) ≤ (2 ^ 63 - 1) / 8 := by decide
    omega
  have hfit : ¬ (!Builtin.List.listFitsIndex k) = true := by
    rw [fitsIndex_both (by omega) (by omega)]
    exact Bool.false_ne_true
  have hlong : ¬ Builtin.List.listTooLong (its.toArray.size * k.toNat) = true := by
    rw [notLongL hlen]
    exact Bool.false_ne_true
  have hnew : List.foldl (fun x1 x2 => x1 ++ x2) #[] (List.replicate (if its.toArray.isEmpty = true then 0 else k.toNat) its.toArray) = (List.replicate k.toNat its).flatten.toArray := by
    rw [size_rep]
    cases its with
    | nil => simp
    | cons a r' => rw [if_neg (by simp)]
  refine wpAny_binaryOp_repeat_ref (T := "list") (U := "int") (by decide) ⟨_, e, rfl⟩ (fun s' => typeIs_int s' k t) noFill_list_mul F.fills_int_mul F.slot_int_rmul repeat_list F.slot_int_index.lookup
    (call_meets F.slot_int_rmul (typeIs_int s k t) F.entry_int_rmul (F.args_int_rmul_2 _ _) (int_rmul_list k t l its.toArray n none sl)
      ⟨e, rfl, ⟨_, e, rfl⟩, call_meets F.slot_list_mul ⟨_, e, rfl⟩ F.entry_list_mul (F.args_list_mul_2 _ _) (list_mulW l its.toArray n none sl k t hfit hcap hlong) ⟨e, ?_⟩⟩)
  rw [hnew]
  exact ⟨.ref _, _, I.lnew (t' := s.toks) (r.rep k.toNat) (by rw [PyProof.Rows.lm_len_rep_flat, Nat.mul_comm]; exact hz), rfl, q _ I.fresh⟩
def rRepA (K : PySem.W.Frag) : R2 := fun x y H Q => ∃ l k xs, x = .ref l ∧ y = .int k ∧ SqT K H l xs ∧ -(2 ^ 62) < k ∧ k < 2 ^ 62 ∧ xs.length * k.toNat ≤ sizeLine ∧
  (xs = [] ∨ k = 1 → Q (.ref l) H) ∧ ∀ p, H p = none → Q (.ref p) (upd H p (.tup (List.replicate k.toNat xs).flatten))
theorem op_repA : OpR X (binaryOp .Mult) (rRepA X.K) := by
  intro pins s σ H x y v u Q I rx ry h
  obtain ⟨l, k, xs, rfl, rfl, hT, h1, h2, hz, q0, q⟩ := h
  cases rx
  obtain ⟨t, rfl⟩ := ry
  obtain ⟨its, r, ⟨⟨cls, dd, data, sl⟩, ho, hc, n, hd⟩, hs⟩ := I.tuple hT
  simp only at hc hd
  subst hc hd
  have hle : its.length = xs.length := r.length.symm
  have hsz0 : its.toArray.size = xs.length := by rw [List.size_toArray, hle]
  have c0 : (decide (k < -(2 ^ 63)) || decide (k ≥ 2 ^ 63)) = false := by
    rw [decide_eq_false (by omega), decide_eq_false (by omega)] <;> rfl
  have flen : (List.replicate k.toNat its).flatten.length ≤ sizeLine := by
    rw [PyProof.Rows.lm_len_rep_flat, hle, Nat.mul_comm]
    exact hz
  have road : ∀ {Q' : Value → Shared → Prop}, _ → wpAny (model X.prog X.w) X.A (binaryOp .Mult (.ref l) (.int k t)) Q' X.xe s := fun {Q'} m =>
    wpAny_binaryOp_repeat_ref (T := "tuple") (U := "int") (by decide) ⟨_, ho, rfl⟩ (fun s' => typeIs_int s' k t) noFill_tuple_mul F.fills_int_mul F.slot_int_rmul repeat_tuple F.slot_int_index.lookup
      (call_meets F.slot_int_rmul (typeIs_int s k t) F.entry_int_rmul (F.args_int_rmul_2 _ _) (int_rmul_tuple k t l its.toArray n dd sl)
        ⟨ho, rfl, ⟨_, ho, rfl⟩, m⟩)
  by_cases c1 : (its.toArray.isEmpty || k == 1) = true
  · refine road (call_meets F.slot_tuple_mul ⟨_, ho, rfl⟩ F.entry_tuple_mul (F.args_tuple_mul_2 _ _) (tuple_mulW1 l its.toArray n dd sl k t c0 c1) ⟨ho, ?_⟩)
    refine ⟨.ref l, H, I, rfl, q0 ?_⟩
    rw [Bool.or_eq_true] at c1
    rcases c1 with c1 | c1
    · have : its = [] := by simpa using c1
      subst this
      exact .inl (List.eq_nil_of_length_eq_zero hle.symm)
    · exact .inr (by simpa using c1)
  · have c1 : (its.toArray.isEmpty || k == 1) = false := Bool.eq_false_iff.mpr c1
    have hi : its.toArray.isEmpty = false := (Bool.or_eq_false_iff.mp c1).1
    have hk1 : k ≠ 1 := beq_eq_false_iff_ne.mp (Bool.or_eq_false_iff.mp c1).2
    have hpos : 0 < xs.length := by
      rw [← hle]
      cases its with
      | nil => cases hi
      | cons a b => exact Nat.succ_pos _
    by_cases hk : k ≤ 0
    · have c2 : (decide (k ≤ 0) || its.toArray.isEmpty) = true := by rw [decide_eq_true hk]; rfl
      refine road (call_meets F.slot_tuple_mul ⟨_, ho, rfl⟩ F.entry_tuple_mul (F.args_tuple_mul_2 _ _) (tuple_mulW2 l its.toArray n dd sl k t c0 c1 c2) ⟨ho, ?_⟩)
      have e0 : k.toNat = 0 := by omega
      rw [e0] at q
      refine ⟨.ref s.heap.objs.size, _, I.laid (t' := s.toks) (o := .tup []) (fun b ob q => Heap.get?_push_of_some _ q) (Nat.le_refl _) ?_, rfl, q _ (I.hok.fresh (Nat.le_refl _))⟩
      exact ⟨Nat.zero_le _, _, .nil, IsTup.new _ _⟩
    · have c2 : (decide (k ≤ 0) || its.toArray.isEmpty) = false := by rw [decide_eq_false hk, hi]; rfl
      have hm : ((its.toArray.size : Nat) : Int) * k = ((xs.length * k.toNat : Nat) : Int) := by
        rw [hsz0, Int.natCast_mul, Int.toNat_of_nonneg (by omega)]
      have c3 : ¬ ((its.toArray.size : Nat) : Int) * k > (2 ^ 63 - 1) / 8 := by
        rw [hm]
        have : (sizeLine : Nat) ≤ 1152921504606846975 := by decide
        omega
      have c4 : Builtin.Tuple.tupleTooMany (((its.toArray.size : Nat) : Int) * k) = false := by
        unfold Builtin.Tuple.tupleTooMany
        rw [hm]
        exact decide_eq_false (by omega)
      refine road (call_meets F.slot_tuple_mul ⟨_, ho, rfl⟩ F.entry_tuple_mul (F.args_tuple_mul_2 _ _) (tuple_mulW l its.toArray n dd sl k t c0 c1 c2 c3 c4 (by rw [size_rep, List.size_toArray]; exact flen)) ⟨ho, ?_⟩)
      rw [size_rep]
      refine ⟨.ref s.heap.objs.size, _, I.laid (t' := s.toks) (o := .tup (List.replicate k.toNat xs).flatten) (fun b ob q => Heap.get?_push_of_some _ q) (Nat.le_refl _) ?_, rfl, q _ (I.hok.fresh (Nat.le_refl _))⟩
      exact ⟨by rw [PyProof.Rows.lm_len_rep_flat, Nat.mul_comm]; exact hz, _, r.rep k.toNat, IsTup.new _ _⟩
def rMulU (K : PySem.W.Frag) : R2 := fun x y H Q => rI CMul (fun i j => .int (i * j)) x y H Q ∨ rRepS K x y H Q ∨ rRepA K x y H Q
theorem op_mulU : OpR X (binaryOp .Mult) (rMulU X.K) := OpR.or op_mul (OpR.or op_repS op_repA)
theorem pok_mul {K : PySem.W.Frag} : Pok2 K .mul (rMulU K) := by
  intro n H w v u x y d f Q wf hx hy hp g
  simp only [prim] at hp
  unfold pMul at hp
  split at hp
  · obtain rfl := hx.int
    obtain rfl := hy.int
    exact .inl (pok_mulI n H w _ _ d f Q wf hp g)
  · obtain ⟨a, xs, rfl, sx, rx⟩ := hx.list
    obtain rfl := hy.int
    split at hp
    · rename_i h
      cases hp
      exact .inr (.inl ⟨a, _, xs, rfl, rfl, sx, h.1, h.2.1, by rw [rx.length]; exact h.2.2, g.lst wf (rx.rep _)⟩)
    · cases hp
  · obtain ⟨a, xs, rfl, sx, rx, px⟩ := hx.tup
    obtain rfl := hy.int
    split at hp
    · rename_i h
      cases hp
      refine .inr (.inr ⟨a, _, xs, rfl, rfl, sx, h.1, h.2.1, by rw [rx.length]; exact h.2.2, fun e => ?_, g.tup wf (rx.rep _)⟩)
      rcases e with e | e
      · subst e
        cases rx
        rw [List.flatten_eq_nil_iff.mpr fun l hl => (List.mem_replicate.mp hl).2] at g
        exact g.same wf px
      · subst e
        simp only [Int.toNat_one, List.replicate_one, List.flatten_cons, List.flatten_nil, List.append_nil] at g
        exact g.same wf px
    · cases hp
  · cases hp
end
end PD

/-! PDS: sorted lists of tuples of whole numbers. -/
namespace PD
open PySem PySem.Spec PyProof.Rows L2
open PySem.SeqAt
open PySem.W (KatLex kat_nil kat_cons kat_go kat_yes kat_no kat_one)
section
variable {prog : Program} {w : World} {A : Around} {E : Value → Shared → Prop} {s : Shared}
theorem lex_gen {fin : Bool} {Q : Bool → Shared → Prop} : ∀ {vs ws : List Value} {ns ms : List Int} (i : Nat), IntsAre vs ns → IntsAre ws ms → fin = decide (ns.length < ms.length) → Q (HT.lexLt ns ms) s → KatLex prog w A true fin Q (vs.zip ws) i s
  | _, _, _, _, i, .nil, .nil, hf, q => by
    rw [hf]
    exact kat_nil q
  | _, _, _, _, i, .nil, .cons y u r, hf, q => by
    rw [hf]
    rw [HT.lexLt_nil_cons] at q
    exact kat_nil (by simpa using q)
  | _, _, _, _, i, .cons x t r, .nil, hf, q => by
    rw [hf]
    rw [HT.lexLt_cons_nil] at q
    exact kat_nil (by simpa using q)
  | _, _, _, _, i, .cons x t (vs := vs) (ns := ns) r, .cons y u (vs := ws) (ns := ms) r', hf, q => by
    rw [List.zip_cons_cons]
    rw [HT.lexLt_cons] at q
    refine kat_cons (SeqAt.EqAt.int_int x t y u prog w _ _ ?_)
    refine kat_go (fun e1 => ?_) (fun e1 => ?_)
    · have ex : x = y := by simpa using e1
      rw [if_pos ex] at q
      refine kat_yes (lex_gen (i + 1) r r' ?_ q)
      rw [hf]
      simp only [List.length_cons, Nat.add_lt_add_iff_right]
    · have ex : ¬ x = y := by simpa using e1
      rw [if_neg ex] at q
      refine kat_no ?_
      cases i with
      | zero => exact oneLt_int q
      | succ i =>
        have e : (true && (i + 1 == 0)) = false := rfl
        rw [e]
        exact kat_one _ _ (PyProof.Rows.lt_int q)
theorem tups_cmp {vs : List Value} {k : Value → List Int} (hp : ∀ v ∈ vs, TS.TupInts s.heap v (k v)) : SrtO.Cmp prog w A s (tuples' true) (fun p => p.1 ∈ vs) (SrtO.lt2 fun v u => HT.lexLt (k v) (k u)) := by
  intro p q hm hm'
  obtain ⟨a, xs, e1, ⟨o, ho, hc, n, hdt⟩, i⟩ := hp _ hm
  obtain ⟨a', ys, e2, ⟨o', ho', hc', n', hdt'⟩, i'⟩ := hp _ hm'
  show wpAny (model prog w) A (keyLt' (tuples' true) p.1 q.1) (fun r s' => s' = s ∧ r = HT.lexLt (k p.1) (k q.1)) (fun _ _ => False) s
  generalize k p.1 = ns at i ⊢
  generalize k q.1 = ms at i' ⊢
  rw [e1, e2]
  refine PySem.W.kat_lt ho hdt ho' hdt' (lex_gen 0 i i' ?_ ⟨rfl, rfl⟩)
  have l1 := i.length
  have l2 := i'.length
  rw [Array.length_toList] at l1 l2
  rw [l1, l2]
theorem firsts_any {h : Heap} {k : Value → List Int} : ∀ vs : List Value, (∀ v ∈ vs, TS.TupInts h v (k v) ∧ k v ≠ []) → ∃ fs, PySem.W.KatTups h vs fs ∧ fs.length = vs.length ∧ ∀ f, f ∈ fs → ∃ n t, f = Value.int n t
  | [], _ => ⟨[], PySem.W.KatTups.nil, rfl, fun f hf => by simp at hf⟩
  | v :: vs, x => by
    obtain ⟨fs, kk, hl, hi⟩ := firsts_any vs fun u hu => x u (List.mem_cons_of_mem _ hu)
    obtain ⟨⟨a, xs, rfl, ⟨o, ho, hc, n, hdt⟩, i⟩, hn⟩ := x v (List.mem_cons_self ..)
    obtain ⟨y, ys, e⟩ : ∃ y ys, xs.toList = y :: ys := by
      cases q : xs.toList with
      | nil =>
        rw [q] at i
        generalize k (.ref a) = ns at i hn
        cases i
        exact absurd rfl hn
      | cons y ys => exact ⟨y, ys, rfl⟩
    obtain ⟨m, t, hy⟩ := i.all y (by rw [e]; exact List.mem_cons_self ..)
    subst hy
    refine ⟨.int m t :: fs, PySem.W.KatTups.cons ho hc hdt ?_ kk, by simp [hl], ?_⟩
    · have : xs[0]? = xs.toList[0]? := by simp
      rw [this, e]
      rfl
    · intro f hf
      rcases List.mem_cons.mp hf with rfl | hf
      · exact ⟨m, t, rfl⟩
      · exact hi f hf
theorem tups_sortable {a : Addr} {vs : List Value} {k : Value → List Int} (h0 : 0 < vs.length) (hp : ∀ v ∈ vs, TS.TupInts s.heap v (k v) ∧ k v ≠ []) (ha : ∀ o, s.heap.get? a = some o → o.cls ≠ .type "tuple") : SrtO.SortableO prog w A s a vs fun v u => HT.lexLt (k v) (k u) := by
  intro h' keep
  have hp' : ∀ v ∈ vs, TS.TupInts h' v (k v) ∧ k v ≠ [] := fun v hm => ⟨(hp v hm).1.keeps fun b o e c => keep b o (fun z => by subst z; exact ha o e c) e, (hp v hm).2⟩
  obtain ⟨fs, h1, h2, h3⟩ := firsts_any vs hp'
  refine ⟨tuples' true, fun Q E hq => ?_, tups_cmp fun v hv => (hp' v hv).1⟩
  refine PySem.W.kat_kind (T := .type "int") h1 (by omega) (fun f hm => ?_) (by rfl) ?_
  · obtain ⟨x, t, rfl⟩ := h3 f hm
    exact PySem.W.Looks.now
  · have e : (Value.type "int" != Value.type "tuple") = true := by first | decide +kernel | rfl | decide
    rw [e]
    exact hq
end
/-- sorted(xs), xs a list of tuples of whole numbers, none empty -/
def rSortedTI (K : PySem.W.Frag) : List V → Hp → VK → Prop := fun vs H Q => ∃ (a : Addr) (xs : List V) (k : V → List Int), vs = [V.ref a] ∧ SqL K H a xs ∧ (∀ x ∈ xs, ∃ t, x = V.ref t ∧ H t = some (.tup ((k x).map V.int)) ∧ k x ≠ []) ∧
  ∀ ys p, ys.Perm xs → ys.Pairwise (fun x y => HT.lexLt (k y) (k x) = false) → H p = none → Q (.ref p) (upd H p (.lst ys))
section
variable {X : Cx}
theorem tupI_at {pins : List (Addr × Obj)} {σ : L2.St} {H : Hp} {s : Shared} (I : Inv X pins σ H s) {t : Addr} {ns : List Int} (h : H t = some (.tup (ns.map V.int))) : TS.TupInts s.heap (.ref t) ns := by
  obtain ⟨its, rv, hT, _⟩ := I.tuple (.inl (.inl h))
  exact ⟨t, its.toArray, rfl, hT, by simpa using rv.ints⟩
theorem cr_sortedTI : CallR X (.builtin "sorted") (rSortedTI X.K) := by
  intro pins s σ H vs us Q I r h
  obtain ⟨a, xs, k, rfl, hs, hx, q⟩ := h
  obtain ⟨its, rv, hl, hz⟩ := I.list hs
  rw [Vals.ref1 r]
  obtain ⟨e1, e2⟩ := refs_back rv fun x m => by
    obtain ⟨t, e, _⟩ := hx x m
    exact ⟨t, e⟩
  refine SrtO.sorted_ord (ltv := fun v u => HT.lexLt (k (backV v)) (k (backV u))) (NtL.swo_lexL fun u => k (backV u)) hl.isList (by rw [← rv.length]; exact hz) (fun h2 h₁ a' ha' keep => ?_) fun out h1 h2 => ?_
  · refine tups_sortable (by omega) (fun v hv => ?_) fun o e c => ?_
    · obtain ⟨t, rfl⟩ := e2 v hv
      have hm : V.ref t ∈ xs := by rw [e1]; exact List.mem_map.mpr ⟨_, hv, rfl⟩
      obtain ⟨t', e, ht, hn⟩ := hx _ hm
      cases e
      exact ⟨(tupI_at I ht).keeps fun b o e _ => (keep b o e).2, hn⟩
    · have e' : some o = some (seqObj "list" its.toArray 0) := e.symm.trans ha'
      cases e'
      have c' : Value.type "list" = Value.type "tuple" := c
      injection c' with c''
      exact absurd c'' (by decide)
  · have h3 : ∀ u ∈ out, ∃ a, u = Value.ref a := fun u hu => e2 u (h2.perm.mem_iff.mp hu)
    obtain ⟨ep, he'⟩ := PyProof.Rows.sortedAll_at s.heap its out.toArray
    have hp : (out.map backV).Perm xs := by
      rw [e1]
      exact h2.perm.map backV
    refine ⟨.ref _, upd H (s.heap.objs.size + 1) (.lst (out.map backV)), I.laid (t' := s.toks) (fun _ _ => PyProof.Rows.sortedAll_old) (Nat.le_succ _) ⟨?_, out, ep, vals_back h3, he'⟩, rfl, q _ _ hp ?_ (I.hok.fresh (Nat.le_succ _))⟩
    · rw [hp.length_eq]
      exact hz
    · exact List.pairwise_map.mpr (h1.imp fun {x y} z => z)
end
end PD

/-! PD3f: sorted, list of a dict, str. -/
namespace PD
open PySem PySem.Spec PyProof.Rows L2
section
variable {α : Type} {lt : α → α → Bool}
theorem insS_perm (x : α) : ∀ l : List α, (insS lt x l).Perm (x :: l)
  | [] => .refl _
  | y :: r => by
    unfold insS
    split
    · exact .refl _
    · exact ((insS_perm x r).cons y).trans (.swap x y r)
theorem srtS_perm : ∀ l : List α, (srtS lt l).Perm l
  | [] => .refl _
  | x :: r => (insS_perm x _).trans ((srtS_perm r).cons x)
theorem insS_sorted (asym : ∀ x y, lt x y = true → lt y x = false) (tr : ∀ x y z, lt y x = false → lt z y = false → lt z x = false) (x : α) : ∀ l : List α, l.Pairwise (fun x y => lt y x = false) → (insS lt x l).Pairwise (fun x y => lt y x = false)
  | [], _ => List.pairwise_singleton _ _
  | y :: r, h => by
    rw [List.pairwise_cons] at h
    unfold insS
    split
    · rename_i q
      refine List.pairwise_cons.mpr ⟨fun z hz => ?_, List.pairwise_cons.mpr h⟩
      rcases List.mem_cons.mp hz with rfl | hz
      · exact asym _ _ q
      · exact tr _ _ _ (asym _ _ q) (h.1 z hz)
    · rename_i q
      refine List.pairwise_cons.mpr ⟨fun z hz => ?_, insS_sorted asym tr x r h.2⟩
      rcases List.mem_cons.mp ((insS_perm x r).mem_iff.mp hz) with rfl | hz
      · exact Bool.eq_false_iff.mpr q
      · exact h.1 z hz
theorem srtS_sorted (asym : ∀ x y, lt x y = true → lt y x = false) (tr : ∀ x y z, lt y x = false → lt z y = false → lt z x = false) : ∀ l : List α, (srtS lt l).Pairwise (fun x y => lt y x = false)
  | [] => .nil
  | x :: r => insS_sorted asym tr x _ (srtS_sorted asym tr r)
theorem srt_uniq (anti : ∀ x y, lt x y = false → lt y x = false → x = y) : ∀ {l m : List α}, l.Perm m → l.Pairwise (fun x y => lt y x = false) → m.Pairwise (fun x y => lt y x = false) → l = m
  | [], m, p, _, _ => p.nil_eq
  | x :: l, [], p, _, _ => absurd p.length_eq (by simp)
  | x :: l, y :: m, p, hl, hm => by
    rw [List.pairwise_cons] at hl hm
    have e : x = y := by
      rcases List.mem_cons.mp (p.mem_iff.mp (List.mem_cons_self (a := x) (l := l))) with e | hx
      · exact e
      · rcases List.mem_cons.mp (p.mem_iff.mpr (List.mem_cons_self (a := y) (l := m))) with e | hy
        · exact e.symm
        · exact anti _ _ (hm.1 x hx) (hl.1 y hy)
    subst e
    rw [srt_uniq anti p.cons_inv hl.2 hm.2]
end
theorem lex_anti : ∀ xs ys : List Int, HT.lexLt xs ys = false → HT.lexLt ys xs = false → xs = ys
  | [], [], _, _ => rfl
  | [], y :: ys, h, _ => by rw [HT.lexLt_nil_cons] at h; cases h
  | x :: xs, [], _, h => by rw [HT.lexLt_nil_cons] at h; cases h
  | x :: xs, y :: ys, h1, h2 => by
    rw [HT.lexLt_cons] at h1 h2
    by_cases e : x = y
    · subst e
      rw [if_pos rfl] at h1 h2
      rw [lex_anti xs ys h1 h2]
    · rw [if_neg e] at h1
      rw [if_neg (Ne.symm e)] at h2
      have a := of_decide_eq_false h1
      have b := of_decide_eq_false h2
      omega
section
variable {K : PySem.W.Frag} {H : Hp} {w : Wh}
theorem intsOf_eq : ∀ {ds : List D} {ns : List Int}, intsOf ds = some ns → ds = ns.map .int
  | [], ns, h => by cases h; rfl
  | d :: ds, ns, h => by
    cases d with
    | int i =>
      unfold intsOf at h
      split at h
      · rename_i js e
        cases h
        rw [intsOf_eq e]
        rfl
      · cases h
    | _ => simp [intsOf] at h
theorem rpall_intsV : ∀ {xs : List V} {ns : List Int}, RpAll K H w xs (ns.map .int) → xs = ns.map V.int
  | _, [], .nil => rfl
  | _ :: _, n :: ns, .cons a b => by
    cases a
    rw [rpall_intsV b]
    rfl
theorem intsV_of {xs : List V} {ds : List D} {ns : List Int} (r : RpAll K H w xs ds) (h : intsOf ds = some ns) : xs = ns.map V.int := by
  rw [intsOf_eq h] at r
  exact rpall_intsV r
/-- the whole numbers of a tuple, read off the heap -/
def kH (H : Hp) : V → List Int
  | .ref t => match H t with
    | some (.tup vs) => vs.map fun v => match v with
      | .int i => i
      | _ => 0
    | _ => []
  | _ => []
theorem kH_at {t : Addr} {ns : List Int} (h : H t = some (.tup (ns.map V.int))) : kH H (.ref t) = ns := by
  show (match H t with | some (.tup vs) => vs.map (fun v => match v with | .int i => i | _ => 0) | _ => []) = ns
  rw [h]
  show (ns.map V.int).map _ = ns
  rw [List.map_map]
  exact List.map_id ns
theorem tups_of : ∀ {xs : List V} {ds : List D} {ms : List (List Int)}, RpAll K H w xs ds → tupsOf ds = some ms → xs.map (kH H) = ms ∧ ∀ x ∈ xs, ∃ t, x = V.ref t ∧ H t = some (.tup ((kH H x).map V.int)) ∧ kH H x ≠ [] ∧ Rp K H w x (.tuple ((kH H x).map .int))
  | _, [], _, .nil, h => by cases h; exact ⟨rfl, fun x hx => absurd hx List.not_mem_nil⟩
  | _ :: _, d :: ds, ms, .cons a b, h => by
    cases d with
    | tuple ys =>
      unfold tupsOf at h
      split at h
      · rename_i n ns ms' e1 e2
        cases h
        have a' := a
        cases a with
        | tup nd r =>
          obtain ⟨h1, h2⟩ := nd
          have ev := intsV_of r e1
          subst ev
          obtain ⟨i1, i2⟩ := tups_of b e2
          have hk := kH_at h1
          have ey : ys = (n :: ns).map .int := intsOf_eq e1
          refine ⟨by rw [List.map_cons, hk, i1], fun x hx => ?_⟩
          rcases List.mem_cons.mp hx with rfl | hx
          · refine ⟨_, rfl, by rw [hk]; exact h1, by rw [hk]; simp, ?_⟩
            rw [hk, ← ey]
            exact a'
          · exact i2 x hx
      · cases h
    | _ => simp [tupsOf] at h
theorem rpall_of {g : V → D} : ∀ {ys : List V}, (∀ y ∈ ys, Rp K H w y (g y)) → RpAll K H w ys (ys.map g)
  | [], _ => .nil
  | y :: ys, h => .cons (h y List.mem_cons_self) (rpall_of fun z hz => h z (List.mem_cons_of_mem _ hz))
theorem rpall_ints : ∀ {ns : List Int}, RpAll K H w (ns.map V.int) (ns.map .int)
  | [] => .nil
  | n :: ns => .cons (.int n) rpall_ints
end
def rSortedU (K : PySem.W.Frag) : List V → Hp → VK → Prop := fun xs H Q => rSortedI K xs H Q ∨ rSortedTI K xs H Q
theorem cr_sortedU {X : Cx} : CallR X (.builtin "sorted") (rSortedU X.K) := CallR.or cr_sortedI cr_sortedTI
theorem pok_sorted {K : PySem.W.Frag} : Pok K .sorted (rSortedU K) := by
  refine pok1 (fun ds f d h => ?_) fun n H w v x d f Q wf hx hp g => ?_
  · unfold prim at h; split at h <;> simp_all
  cases x <;> simp only [prim] at hp <;> first | cases hp | skip
  rename_i ds
  obtain ⟨a, xs, rfl, s, r⟩ := hx.list
  unfold sortD at hp
  split at hp
  · rename_i ns hn
    cases hp
    obtain rfl := intsV_of r hn
    refine .inl ⟨a, ns, rfl, s, fun ns' p pm ps hpn => ?_⟩
    have e : ns' = srtS (fun i j => decide (i < j)) ns := by
      refine srt_uniq (lt := fun i j : Int => decide (i < j)) (fun x y h1 h2 => ?_) (pm.trans (srtS_perm ns).symm) (ps.imp fun {x y} h => decide_eq_false (by omega)) (srtS_sorted (fun x y h => ?_) (fun x y z h1 h2 => ?_) ns)
      · have := of_decide_eq_false h1
        have := of_decide_eq_false h2
        omega
      · have := of_decide_eq_true h
        exact decide_eq_false (by omega)
      · have := of_decide_eq_false h1
        have := of_decide_eq_false h2
        exact decide_eq_false (by omega)
    rw [← e] at g
    exact g.lst wf rpall_ints p hpn
  · split at hp
    · rename_i ms hm
      cases hp
      obtain ⟨i1, i2⟩ := tups_of r hm
      refine .inr ⟨a, xs, kH H, rfl, s, fun x hx => ?_, fun ys p pm ps hpn => ?_⟩
      · obtain ⟨t, h1, h2, h3, _⟩ := i2 x hx
        exact ⟨t, h1, h2, h3⟩
      · have e : ys.map (kH H) = srtS HT.lexLt ms := by
          refine srt_uniq (lt := HT.lexLt) lex_anti ?_ (List.pairwise_map.mpr ps) (srtS_sorted (fun x y => NtL.lex_asym x y) (fun x y z h1 h2 => NtL.lex_tr x y z h1 h2) ms)
          rw [← i1]
          exact (pm.map (kH H)).trans (srtS_perm _).symm
        have e2 : (srtS HT.lexLt ms).map (fun ns => PyData.tuple (ns.map .int)) = ys.map fun y => .tuple ((kH H y).map .int) := by
          rw [← e, List.map_map]
          rfl
        rw [e2] at g
        exact g.lst wf (rpall_of fun y hy => by
          obtain ⟨t, _, _, _, h4⟩ := i2 y (pm.mem_iff.mp hy)
          exact h4) p hpn
    · cases hp
theorem pok_str {K : PySem.W.Frag} : Pok K .str (fun xs H Q => ∃ i, xs = [.int i] ∧ i.natAbs.log2 < 1920 ∧ Q (.str (toString i)) H) := by
  refine pok1 (fun ds f d h => ?_) fun n H w v x d f Q wf hx hp g => ?_
  · unfold prim at h; split at h <;> simp_all
  cases x <;> simp only [prim] at hp <;> first | cases hp | skip
  split at hp
  · rename_i hz
    cases hp
    obtain rfl := hx.int
    exact ⟨_, rfl, hz, g.same wf (.str _)⟩
  · cases hp
/-! list of a dict -/
theorem rp_key {K : PySem.W.Frag} {H : Hp} {w : Wh} (k : Key) : Rp K H w (kV k) (keyD k) := by
  cases k with
  | inl i => exact .int i
  | inr x => exact .str x
theorem rp_keys {K : PySem.W.Frag} {H : Hp} {w : Wh} : ∀ {kvs : List (Key × V)} {ds : List (D × D)}, RpKs K H w kvs ds → RpAll K H w (kvs.map fun kv => kV kv.1) (ds.map (·.1))
  | _, _, .nil => .nil
  | _, _, .cons a b => .cons (rp_key _) (rp_keys b)
theorem rp_keyl {K : PySem.W.Frag} {H : Hp} {w : Wh} : ∀ ks : List Key, RpAll K H w (ks.map kV) (ks.map keyD)
  | [] => .nil
  | k :: ks => .cons (rp_key k) (rp_keyl ks)
theorem keysD_ks {K : PySem.W.Frag} {H : Hp} {w : Wh} {kvs : List (Key × V)} {ds : List (D × D)} (r : RpKs K H w kvs ds) : keysD ds = ds.map (·.1) := by
  cases r with
  | nil => rfl
  | cons a b =>
    rename_i k v vs d ds
    cases k <;> rfl
theorem rp_tkeys {K : PySem.W.Frag} {H : Hp} {w : Wh} (wf : Wf H w) : ∀ {kvs : List (List Key × V)} {ds : List (D × D)} {bs : List Addr}, RpTs K H w kvs ds → IsKeys H kvs bs → RpAll K H w (bs.map V.ref) (ds.map (·.1))
  | _, _, _, .nil, h => by
    cases h
    exact .nil
  | _, _, _, .cons a b, h => by
    cases h with
    | cons h t => exact .cons (.tup ⟨h, wf.nt _ _ h⟩ (rp_keyl _)) (rp_tkeys wf b t)
def rListU (K : PySem.W.Frag) : List V → Hp → VK → Prop := fun xs H Q => (∃ p ys, xs = [.ref p] ∧ (SqL K H p ys ∨ SqT K H p ys) ∧ ∀ l, H l = none → Q (.ref l) (upd H l (.lst ys))) ∨
  (∃ (a : Addr) (kvs : List (Key × V)), xs = [.ref a] ∧ Rd H a (.dK kvs) ∧ ∀ p, H p = none → Q (.ref p) (upd H p (.lst (kvs.map fun kv => kV kv.1)))) ∨
  (∃ d kvs, xs = [V.ref d] ∧ Rd H d (.dT kvs) ∧ ∀ p bs, H p = none → IsKeys H kvs bs → Q (.ref p) (upd H p (.lst (bs.map V.ref))))
theorem cr_listU {X : Cx} (hc : X.calm = true) : CallR X (.type "list") (rListU X.K) := CallR.or call_list_of (CallR.or (call_listD hc) (call_list_dT hc))
theorem pok_listU {K : PySem.W.Frag} : Pok K .list (rListU K) := by
  refine pok1 (fun ds f d h => ?_) fun n H w v x d f Q wf hx hp g => ?_
  · unfold prim at h; split at h <;> simp_all
  cases x <;> simp only [prim] at hp <;> first | cases hp | skip
  · obtain ⟨a, xs, rfl, s, r⟩ := hx.list
    exact .inl ⟨a, xs, rfl, .inl s, g.lst wf r⟩
  · obtain ⟨a, xs, rfl, s, r, p⟩ := hx.tup
    exact .inl ⟨a, xs, rfl, .inr s, g.lst wf r⟩
  · rename_i ds
    have dc : ∃ a, v = .ref a ∧ ((∃ kvs, H a = some (.dK kvs) ∧ RpKs K H w kvs ds) ∨ ∃ kvs es, ds = (.none, .none) :: es ∧ H a = some (.dT kvs) ∧ RpTs K H w kvs es) := by
      rcases hx with hx | ⟨a, rfl, hx⟩
      · cases hx with
        | dk h e r => exact ⟨_, rfl, .inl ⟨_, h, r⟩⟩
        | dt h e r => exact ⟨_, rfl, .inr ⟨_, _, rfl, h, r⟩⟩
      · cases hx with
        | dk h r => exact ⟨_, rfl, .inl ⟨_, h, r⟩⟩
        | dt h r => exact ⟨_, rfl, .inr ⟨_, _, rfl, h, r⟩⟩
    obtain ⟨a, rfl, ⟨kvs, h, r⟩ | ⟨kvs, es, rfl, h, r⟩⟩ := dc
    · rw [keysD_ks r] at g
      exact .inr (.inl ⟨a, kvs, rfl, .inl h, fun p hp => g.lst wf (rp_keys r) p hp⟩)
    · have e : keysD ((.none, .none) :: es) = es.map (·.1) := rfl
      rw [e] at g
      exact .inr (.inr ⟨a, kvs, rfl, .inl h, fun p bs hp hk => g.lst wf (rp_tkeys wf r hk) p hp⟩)
end PD

/-! PD6h: join. -/
namespace PD
open PySem PySem.Spec PyProof.Rows L2
theorem strs_of {K : PySem.W.Frag} {H : Hp} {w : Wh} : ∀ {xs : List V} {ds : List D} {ns : List Str}, RpAll K H w xs ds → strsOf ds = some ns → xs = ns.map V.str
  | _, [], _, .nil, h => by cases h; rfl
  | _ :: _, d :: ds, ns, .cons a b, h => by
    cases d with
    | str i =>
      unfold strsOf at h
      split at h
      · rename_i is e
        cases h
        cases a
        rw [strs_of b e]
        rfl
      · cases h
    | _ => simp [strsOf] at h
section
variable {X : Cx} {F : List Fn} {a : Expr} {ia : IE} {apos cpos p1 : Pos} {k : Nat}
theorem se_join {x : Str} (ha : PE X a (teE X.K F ia)) (hline : (apos.endLine == cpos.line) = true) (hs : starEach [a] X.env = [(false, eval a X.env)]) (hpa : PA X [a] (teA X.K F [ia])) : PE X (.Call (.Attribute (.Constant (.str x) k p1) "join" apos) [a] [] cpos) (teE X.K F (.join x ia)) := by
  refine (pe_bm PySem.F.plainAttrs_str PySem.F.slot_str_join PySem.F.type_str_join mt_join pe_str hpa (by rfl) (by rw [hs]; rfl) hline (by rw [hs]; rfl) (by rfl)).imp fun σ H Q q => ?_
  obtain ⟨n, w, μ, e, z, e', wf, er, ev, k⟩ := q
  unfold evE at ev
  obtain ⟨v, e1, h1, ev⟩ := Rs.bind_ok ev
  refine ⟨rfl, one_in ⟨n, w, μ, e, v, e1, wf, er, h1, fun u H1 w1 a1 an => ?_⟩⟩
  split at ev
  · rename_i ys hr
    unfold joinD at ev
    split at ev
    · rename_i d hd
      split at hd
      · rename_i ss hss
        split at hd
        · rename_i hz
          cases hd
          cases ev
          obtain ⟨p, xs, rfl, s, r⟩ := (rd_rr (Nat.le_refl n) an a1.env hr).list
          have ex := strs_of r hss
          subst ex
          exact ⟨x, p, ss, rfl, rfl, .inl s, hz, k _ _ _ a1.drp (.str _)⟩
        · cases hd
      · cases hd
    · cases ev
  · rename_i ys hr
    unfold joinD at ev
    split at ev
    · rename_i d hd
      split at hd
      · rename_i ss hss
        split at hd
        · rename_i hz
          cases hd
          cases ev
          obtain ⟨p, xs, rfl, s, r, _⟩ := (rd_rr (Nat.le_refl n) an a1.env hr).tup
          have ex := strs_of r hss
          subst ex
          exact ⟨x, p, ss, rfl, rfl, .inr s, hz, k _ _ _ a1.drp (.str _)⟩
        · cases hd
      · cases hd
    · cases ev
  · cases ev
end
end PD

/-! PDX: new things lent, x or y, lists and tuples of a range, slices with a step. -/
namespace PD
open PySem PySem.Spec PyProof.Rows L2
section
variable {K : PySem.W.Frag} {F : List Fn} {H H1 : Hp} {w w1 : Wh} {μ : Nat → Option V} {σ : L2.St} {e e1 e' : En} {n : Nat}
/-- the n-th temporary stands as a slot behind the others -/
def lendW (n L : Nat) (a : Addr) (w : Wh) : Wh := fun b => if b = a then some (.slot L) else drp (n + 1) w b
theorem lendW_ne {n L : Nat} {a b : Addr} (h : b ≠ a) : lendW n L a w b = drp (n + 1) w b := if_neg h
theorem lend_stp {a : Addr} {L : Nat} (ha : w a = some (.tmp n)) : Stp (keepE n) H w H (lendW n L a w) := by
  refine ⟨fun b o h e0 => ⟨h, ?_⟩, fun b l kl => ?_, fun _ _ _ _ => rfl⟩
  · have hb : b ≠ a := fun z => by rw [z, ha] at e0; cases e0
    rw [lendW_ne hb]
    exact drp_none e0
  · by_cases hb : b = a
    · subst hb
      unfold lendW
      rw [if_pos rfl, ha]
      constructor
      · intro z
        cases z
        exact kl.elim
      · intro z
        cases z
        exact absurd kl (Nat.lt_irrefl n)
    · rw [lendW_ne hb]
      exact drp_keep (keepE.le (Nat.le_succ n) l kl)
theorem lend_wf {a : Addr} {L : Nat} (wf : Wf H w) (ha : w a = some (.tmp n)) : Wf H (lendW n L a w) := by
  refine ⟨fun b hb => ?_, fun b xs hb => ?_⟩
  · have h0 := wf.nn b hb
    have hn : b ≠ a := fun z => by rw [z, ha] at h0; cases h0
    rw [lendW_ne hn]
    exact drp_none h0
  · have h0 := wf.nt b xs hb
    have hn : b ≠ a := fun z => by rw [z, ha] at h0; cases h0
    rw [lendW_ne hn]
    exact drp_none h0
theorem lend_ans {a : Addr} {x : Option V} {L : Nat} (ha : w a = some (.tmp n)) : ∀ {vs : List V} {as : List Ans}, Paired (AnsS K H (PD.drp (n + 1) w) σ) vs as → Paired (AnsS K H (lendW n L a w) (σ ++ [x])) vs as
  | _, _, .nil => .nil
  | _, _, .cons (a := v) (b := y) h r => by
    refine .cons ?_ (lend_ans ha r)
    cases y with
    | val f d =>
      refine Rp.mono (fun b o h0 e0 => ⟨h0, ?_⟩) (show Rp K H (PD.drp (n + 1) w) v d from h)
      have hb : b ≠ a := fun z => by
        rw [z] at e0
        have : PD.drp (n + 1) w a = some (.tmp n) := (drp_keep (n := n + 1) (show keepE (n + 1) (.tmp n) from Nat.lt_succ_self n)).mpr ha
        rw [this] at e0
        cases e0
      rw [lendW_ne hb]
      exact e0
    | pl i =>
      have q : σ[i]? = some (some v) := h
      show (σ ++ [x])[i]? = some (some v)
      rw [List.getElem?_append_left (List.getElem?_eq_some_iff.mp q).1]
      exact q
theorem callT_in {f : Fn} {as : List Ans} {dv : List D} {us dvs : List V} {z : Ans} {Q : VK} {E : XK} (wf : Wf H w) (er : EnvR K H w μ σ e1) (an : AnsRs K H w σ n us as) (hdv : Paired (fun v d => litV d = some v) dvs dv) (hc : callT f as dv e1 = .ok z e')
    (k : ∀ v H' w', Aft K n μ σ e' H w H' w' → AnsR K n H' w' σ v z → Q v H') : spF K f (us ++ dvs) H Q E := by
  unfold callT at hc
  split at hc
  · rename_i d r
    cases an with
    | cons h ar =>
      rename_i v vs
      obtain ⟨a, rfl, ha, c⟩ := (show Ow K H w (.tmp n) v d from h)
      have st : Stp (keepE n) H w H (lendW n e1.length a w) := lend_stp ha
      have er2 : EnvR K H (lendW n e1.length a w) μ (σ ++ [some (.ref a)]) (e1 ++ [some ⟨.own, d⟩]) := by
        refine ⟨by simp [er.len], fun i o d' hi => ?_⟩
        by_cases hl : i < e1.length
        · rw [List.getElem?_append_left hl] at hi
          obtain ⟨v, v1, v2, v3⟩ := er.at_ i o d' hi
          refine ⟨v, by rw [List.getElem?_append_left (by rw [er.len]; exact hl)]; exact v1, v2.mono st.sh fun b hb => ⟨?_, rfl⟩, v3⟩
          have hn : b ≠ a := fun z => by rw [z, ha] at hb; cases hb
          rw [lendW_ne hn]
          exact drp_slot.mpr hb
        · by_cases hq : i = e1.length
          · subst hq
            rw [List.getElem?_concat_length] at hi
            cases hi
            refine ⟨.ref a, by rw [← er.len, List.getElem?_concat_length], ⟨a, rfl, if_pos rfl, c.mono st.sh rfl⟩, fun z => by cases z⟩
          · rw [List.getElem?_eq_none (by rw [List.length_append]; show e1.length + 1 ≤ i; omega)] at hi
            cases hi
      have an2 : Paired (AnsS K H (lendW n e1.length a w) (σ ++ [some (.ref a)])) (.ref a :: (vs ++ dvs)) (.pl e1.length :: (r ++ dv.map (Ans.val false))) := by
        refine .cons ?_ (paired_app (lend_ans ha (ar.s (Nat.le_refl _))) (lits_s hdv))
        show (σ ++ [some (V.ref a)])[e1.length]? = some (some (V.ref a))
        rw [← er.len, List.getElem?_concat_length]
      cases hcall : callA f (.pl e1.length :: (r ++ dv.map (Ans.val false))) (e1 ++ [some ⟨.own, d⟩]) with
      | no => rw [hcall] at hc; cases hc
      | ex c d e => rw [hcall] at hc; cases hc
      | ok z2 e2 =>
        rw [hcall] at hc
        cases z2 with
        | pl i => cases hc
        | val fr dd =>
          cases hc
          refine callA_in (n := n) (lend_wf wf ha) er2 an2 hcall fun v H' w' a2 an' => k v H' w' ⟨st.trans a2.stp, a2.wf, ?_⟩ an'.any
          have hl := a2.env.len
          have hl2 : σ.length + 1 = e2.length := by rw [← hl, List.length_append]; rfl
          refine ⟨by rw [List.length_dropLast]; omega, fun i o d' hi => ?_⟩
          rw [List.getElem?_dropLast] at hi
          split at hi
          · rename_i hlt
            obtain ⟨v, v1, v2, v3⟩ := a2.env.at_ i o d' hi
            rw [List.getElem?_append_left (by omega)] at v1
            exact ⟨v, v1, v2, v3⟩
          · cases hi
  · cases hc
end
section
variable {X : Cx} {F : List Fn} {a b c : Expr} {ia ib ic : IE} {pos p1 p2 p3 : Pos} {es : List Expr} {ies : List IE} {E : XK}
theorem call_inT {i : Nat} {fn : Fn} {dv : List D} {dvs : List V} (hF : F[i]? = some fn) (hdv : Paired (fun v d => litV d = some v) dvs dv) (σ : L2.St) (H : Hp) (Q : VK) (q : teE X.K F (.callT i ies dv) σ H Q) : tCall (spF X.K fn) dvs E (teA X.K F ies) σ H Q := by
  obtain ⟨n, w, μ, e, z, e', wf, er, ev, k⟩ := q
  unfold evE at ev
  obtain ⟨xs, e1, h1, ev⟩ := Rs.bind_ok ev
  rw [hF] at ev
  refine ⟨n, w, μ, e, xs, e1, wf, er, h1, fun vs H1 w1 a1 an => ?_⟩
  exact callT_in (n := n) a1.wf a1.env an hdv ev fun v H' w' a2 an2 => k v H' w' (a1.trans a2 (Nat.le_refl n)) an2
theorem se_callT {i k : Nat} {fn : Fn} {x : Str} {f : Addr} {fd : FuncData} {ps : List Str} {dv : List D} {dvs : List V} {ds : List Value} (G : FnOk X.prog X.w X.K X.mg X.base CX0 k f fd ps (spF X.K fn)) (hF : F[i]? = some fn) (hdv : Paired (fun v d => litV d = some v) dvs dv) (hr : Room k X.A) (hg : Gl X x) (hm : X.mg x = some (.ref f))
    (hk : PySem.W.keepIn X.K (.ref f) = true) (hb : Binds X.K fd ps ds) (hd : Vals dvs ds) (ha : PA X (a :: es) (teA X.K F ies)) (hdb : (x == ("__debug__" : Str)) = false) (he : starEach (a :: es) X.env = (false, eval a X.env) :: starEach es X.env) (hpl : (backTo pos (starEach es X.env)).any (·.1) = false) :
    PE X (.Call (.Name x p1) (a :: es) [] pos) (teE X.K F (.callT i ies dv)) :=
  (pe_call G hr hg hm hk hb hd pass0 ha hdb he hpl).imp (call_inT hF hdv)
theorem se_orT (ha : PE X a (teE X.K F ia)) (hb : PE X b (teE X.K F ib)) : PE X (.BoolOp .Or [a, b] pos) (teE X.K F (.orT ia ib)) := by
  refine (pe_orT ha (pe_one hb)).imp fun σ H Q q => ?_
  obtain ⟨n, w, μ, e, z, e', wf, er, ev, k⟩ := q
  unfold evE at ev
  obtain ⟨x, e1, h1, ev⟩ := Rs.bind_ok ev
  refine ⟨n, w, μ, e, x, e1, wf, er, h1, fun v H1 w1 a1 an1 => ?_⟩
  split at ev
  · rename_i d hd
    split at ev
    · rename_i ht
      cases ev
      refine ⟨true, tru_of (rd_rr (Nat.le_refl n) an1 a1.env hd) ht, ?_⟩
      rw [if_pos rfl]
      exact k v H1 w1 a1 an1
    · rename_i ht
      refine ⟨false, tru_of (rd_rr (Nat.le_refl n) an1 a1.env hd) ht, ?_⟩
      rw [if_neg Bool.false_ne_true]
      exact ⟨n, w1, μ, e1, z, e', a1.wf, a1.env, ev, fun v2 H2 w2 a2 an2 => k v2 H2 w2 (a1.trans a2 (Nat.le_refl n)) an2⟩
    · cases ev
  · cases ev
theorem rg_rp {K : PySem.W.Frag} {H : Hp} {w : Wh} (x : Int) : ∀ l : List Nat, RpAll K H w (l.map fun i => V.int (x + (i : Nat))) (l.map fun (i : Nat) => PyData.int (x + (i : Int)))
  | [] => .nil
  | _ :: l => .cons (.int _) (rg_rp x l)
theorem se_rglL (hc : X.calm = true) (hg : Gl X "list") (hm : X.mg "list" = none) (hg2 : Gl X "range") (hm2 : X.mg "range" = none) (ha : PE X a (teE X.K F ia)) (na : starEach [a] X.env = (false, eval a X.env) :: starEach [] X.env) :
    PE X (.Call (.Name "list" p1) [.Call (.Name "range" p2) [a] [] p3] [] pos) (teE X.K F (.rgl true ia)) := by
  refine (pe_listRg hc hg hm (prg_1 hg2 hm2 ha na)).imp fun σ H Q q => ?_
  obtain ⟨n, w, μ, e, z, e', wf, er, ev, k⟩ := q
  unfold evE at ev
  obtain ⟨x, e1, h1, ev⟩ := Rs.bind_ok ev
  refine ⟨n, w, μ, e, x, e1, wf, er, h1, fun v H1 w1 a1 an1 => ?_⟩
  split at ev
  · rename_i j hj
    obtain rfl := (rd_rr (Nat.le_refl n) an1 a1.env hj).int
    split at ev
    · rename_i hs
      unfold rngD at ev
      split at ev
      · rename_i xs hx
        cases ev
        split at hx
        · rename_i hb
          cases hx
          refine ⟨j, rfl, ⟨hb.1, hb.2.1, hb.2.2.1, hb.2.2.2, by omega⟩, ?_⟩
          exact (pgo_fin a1 k).lst (drp_wf a1.wf) (rg_rp 0 _)
        · cases hx
      · cases ev
    · cases ev
  · cases ev
theorem se_rglT (hc : X.calm = true) (hg : Gl X "tuple") (hm : X.mg "tuple" = none) (hg2 : Gl X "range") (hm2 : X.mg "range" = none) (ha : PE X a (teE X.K F ia)) (na : starEach [a] X.env = (false, eval a X.env) :: starEach [] X.env) :
    PE X (.Call (.Name "tuple" p1) [.Call (.Name "range" p2) [a] [] p3] [] pos) (teE X.K F (.rgl false ia)) := by
  refine (pe_tupRg hc hg hm (prg_1 hg2 hm2 ha na)).imp fun σ H Q q => ?_
  obtain ⟨n, w, μ, e, z, e', wf, er, ev, k⟩ := q
  unfold evE at ev
  obtain ⟨x, e1, h1, ev⟩ := Rs.bind_ok ev
  refine ⟨n, w, μ, e, x, e1, wf, er, h1, fun v H1 w1 a1 an1 => ?_⟩
  split at ev
  · rename_i j hj
    obtain rfl := (rd_rr (Nat.le_refl n) an1 a1.env hj).int
    split at ev
    · rename_i hs
      unfold rngD at ev
      split at ev
      · rename_i xs hx
        cases ev
        split at hx
        · rename_i hb
          cases hx
          refine ⟨j, rfl, ⟨hb.1, hb.2.1, hb.2.2.1, hb.2.2.2, by omega⟩, ?_⟩
          exact (pgo_fin a1 k).tup (drp_wf a1.wf) (rg_rp 0 _)
        · cases hx
      · cases ev
    · cases ev
  · cases ev
end
/-! sorted(set(xs)) -/
theorem code_lex' : ∀ {x y : List Int}, x.length = y.length → TS.Bd 64 x → TS.Bd 64 y → HT.lexLt x y = true → TS.code 64 x < TS.code 64 y
  | [], [], _, _, _, h => by cases h
  | a :: x, b :: y, hl, hx, hy, h => by
    have hl' : x.length = y.length := by simpa using hl
    rw [HT.lexLt_cons] at h
    by_cases e : a = b
    · subst e
      rw [if_pos rfl] at h
      exact (TS.code_same hl').mpr (code_lex' hl' hx.tail hy.tail h)
    · rw [if_neg e] at h
      exact TS.code_lt hl' hx.tail hy.tail (of_decide_eq_true h)
  | [], _ :: _, hl, _, _, _ => by simp at hl
  | _ :: _, [], hl, _, _, _ => by simp at hl
theorem mem_ded {x : List Int} : ∀ {ms : List (List Int)}, x ∈ dedL ms ↔ x ∈ ms
  | [] => Iff.rfl
  | y :: ms => by
    unfold dedL
    split
    · rename_i h
      have hy : y ∈ ms := by simpa using h
      rw [mem_ded, List.mem_cons]
      exact ⟨.inr, fun z => z.elim (fun e => e ▸ hy) id⟩
    · rw [List.mem_cons, List.mem_cons, mem_ded]
theorem nodup_ded : ∀ {ms : List (List Int)}, (dedL ms).Nodup
  | [] => .nil
  | y :: ms => by
    unfold dedL
    split
    · exact nodup_ded
    · rename_i h
      refine List.nodup_cons.mpr ⟨fun z => h ?_, nodup_ded⟩
      simpa using mem_ded.mp z
def adV : V → Addr
  | .ref a => a
  | _ => 0
section
variable {X : Cx} {F : List Fn} {a : Expr} {ia : IE} {pos p1 p2 p3 : Pos}
theorem se_sset (hc : X.calm = true) (hu : X.A.units + 64 < cLine) (hg : Gl X "sorted") (hm : X.mg "sorted" = none) (hg2 : Gl X "set") (hm2 : X.mg "set" = none) (ha : PA X [a] (teA X.K F [ia])) (na : starEach [a] X.env = (false, eval a X.env) :: starEach [] X.env) :
    PE X (.Call (.Name "sorted" p1) [.Call (.Name "set" p2) [a] [] p3] [] pos) (teE X.K F (.sset ia)) := by
  refine (pe_callB (cr_sortedT hc) hg hm (by decide +kernel) (pa_cons (pe_callTy (cr_setOfT hc hu) hg2 hm2 (by decide +kernel) ha (by decide) (by decide) na (by rfl)) pa_nil (by rfl)) (by decide) (by decide) (by rfl) (by rfl)).imp fun σ H Q q => ?_
  obtain ⟨n, w, μ, e, z, e', wf, er, ev, k⟩ := q
  unfold evE at ev
  obtain ⟨x, e1, h1, ev⟩ := Rs.bind_ok ev
  have hes : evEs F [ia] e = .ok [x] e1 := by
    simp only [evEs, h1, Rs.bind]
  refine ⟨n, w, μ, e, [x], e1, wf, er, hes, fun vs H1 w1 a1 an => ?_⟩
  cases an with
  | cons an1 ar =>
    cases ar
    rename_i v
    split at ev
    · rename_i ds hds
      split at ev
      · rename_i ms hms
        split at ev
        · rename_i hok
          cases ev
          unfold okTs at hok
          rw [Bool.and_eq_true, decide_eq_true_eq, List.all_eq_true] at hok
          obtain ⟨hlen, hall⟩ := hok
          have hall' : ∀ m ∈ ms, m.length = (ms.headD []).length ∧ TS.Bd 64 m := fun m hm => by
            have := hall m hm
            rw [Bool.and_eq_true, decide_eq_true_eq, List.all_eq_true] at this
            refine ⟨this.1, fun i hi => ?_⟩
            have h2 := this.2 i hi
            rw [Bool.and_eq_true, decide_eq_true_eq, decide_eq_true_eq] at h2
            exact h2
          obtain ⟨p, xs, rfl, s, r⟩ := (rd_rr (Nat.le_refl n) an1 a1.env hds).list
          obtain ⟨i1, i2⟩ := tups_of r hms
          have hkv : (xs.map fun x => (adV x, kH H1 x)).map (fun p => V.ref p.1) = xs := by
            rw [List.map_map]
            conv => rhs; rw [← List.map_id xs]
            refine List.map_congr_left fun x hx => ?_
            obtain ⟨t, rfl, _⟩ := i2 x hx
            rfl
          have hk2 : (xs.map fun x => (adV x, kH H1 x)).map (·.2) = ms := by
            rw [List.map_map]
            exact i1
          have hmem : ∀ p ∈ (xs.map fun x => (adV x, kH H1 x)), H1 p.1 = some (.tup (p.2.map V.int)) ∧ p.2 ∈ ms ∧ p.2 ≠ [] ∧ Rp X.K H1 (PD.drp n w1) (.ref p.1) (.tuple (p.2.map .int)) := fun q hq => by
            obtain ⟨x, hx, rfl⟩ := List.mem_map.mp hq
            obtain ⟨t, e1, e2, e3, e4⟩ := i2 x hx
            refine ⟨?_, ?_, e3, ?_⟩
            · show H1 (adV x) = _
              rw [e1] at e2 ⊢
              exact e2
            · rw [← i1]
              exact List.mem_map_of_mem hx
            · show Rp _ _ _ (.ref (adV x)) _
              rw [e1] at e4 ⊢
              exact e4
          generalize hks : (xs.map fun x => (adV x, kH H1 x)) = ks at hkv hk2 hmem
          have hkl : ks.length < 64 := by
            have : ks.length = ms.length := by rw [← hk2, List.length_map]
            omega
          refine ⟨p, ks, rfl, by rw [hkv]; exact s, fun q hq => .inl (.inl (hmem q hq).1), hkl, fun b L hb hL1 hL2 => ?_⟩
          have wD := a1.wf b hb
          have wD2 : PD.drp n w1 b = none := drp_none wD
          have st : Stp (keepP n) H1 (PD.drp n w1) (upd H1 b (SetTO X.prog X.w b L)) (PD.drp n w1) := ⟨sty_upd hb, fun _ _ _ => Iff.rfl, fun c l _ hc => upd_ne fun z => by rw [z, wD2] at hc; cases hc⟩
          have A2 := a1.drp.keep st ((drp_wf a1.wf).put (by trivial))
          refine ⟨b, L, max 1 (ms.headD []).length, 64, rfl, upd_same, fun q hq => ?_, by omega, fun q hq => ?_, fun L' p' pm nd hf pw hp' => ?_⟩
          · have h := (hmem q (hL1 q hq)).1
            refine .inl (.inl ?_)
            rw [upd_ne (ne_of_none h hb)]
            exact h
          · obtain ⟨_, h2, h3, _⟩ := hmem q (hL1 q hq)
            obtain ⟨h4, h5⟩ := hall' _ h2
            refine ⟨?_, h5⟩
            have : 1 ≤ q.2.length := by
              rcases hq2 : q.2 with _ | ⟨y, ys⟩
              · exact absurd hq2 h3
              · simp
            omega
          · have es : L'.map (·.2) = srtS HT.lexLt (dedL ms) := by
              refine srt_uniq (lt := HT.lexLt) lex_anti ?_ ?_ (srtS_sorted (fun x y => NtL.lex_asym x y) (fun x y z h1 h2 => NtL.lex_tr x y z h1 h2) _)
              · refine List.Perm.trans ?_ (srtS_perm _).symm
                refine (List.perm_ext_iff_of_nodup nd nodup_ded).mpr fun y => ?_
                rw [mem_ded]
                constructor
                · intro hy
                  obtain ⟨q, hq, rfl⟩ := List.mem_map.mp hy
                  exact (hmem q (hL1 q (pm.mem_iff.mp hq))).2.1
                · intro hy
                  rw [← hk2] at hy
                  obtain ⟨q, hq, rfl⟩ := List.mem_map.mp hy
                  obtain ⟨q2, hq2, e2⟩ := List.mem_map.mp (hL2 q hq)
                  exact List.mem_map.mpr ⟨q2, pm.mem_iff.mpr hq2, e2⟩
              · rw [List.pairwise_map]
                refine List.Pairwise.imp_of_mem (fun {y z} hy hz hle => ?_) pw
                obtain ⟨_, h2, _⟩ := hmem y (hL1 y (pm.mem_iff.mp hy))
                obtain ⟨_, h3, _⟩ := hmem z (hL1 z (pm.mem_iff.mp hz))
                obtain ⟨h4, h5⟩ := hall' _ h2
                obtain ⟨h6, h7⟩ := hall' _ h3
                refine Bool.eq_false_iff.mpr fun hlt => ?_
                have := code_lex' (h6.trans h4.symm) h7 h5 hlt
                omega
            have rp : RpAll X.K (upd H1 b (SetTO X.prog X.w b L)) (PD.drp n (PD.drp n w1)) (L'.map fun q => V.ref q.1) (L'.map fun q => PyData.tuple (q.2.map .int)) := by
              have gen : ∀ l : List (Addr × List Int), (∀ q ∈ l, q ∈ L') → RpAll X.K (upd H1 b (SetTO X.prog X.w b L)) (PD.drp n (PD.drp n w1)) (l.map fun q => V.ref q.1) (l.map fun q => PyData.tuple (q.2.map .int)) := by
                intro l
                induction l with
                | nil => intro _; exact .nil
                | cons q l ih =>
                  intro hl
                  have h4 := (hmem q (hL1 q (pm.mem_iff.mp (hl q List.mem_cons_self)))).2.2.2
                  exact .cons (Rp.mono (drp_stp (n := n)).sh (Rp.mono st.sh h4)) (ih fun y hy => hl y (List.mem_cons_of_mem _ hy))
              exact gen L' fun _ h => h
            have e2 : (srtS HT.lexLt (dedL ms)).map (fun ns => PyData.tuple (ns.map .int)) = L'.map fun q => PyData.tuple (q.2.map .int) := by
              rw [← es, List.map_map]
              rfl
            rw [e2] at k
            exact (pgo_fin A2 k).lst (drp_wf A2.wf) rp p' hp'
        · cases ev
      · cases ev
    · cases ev
end
/-! slices with a step -/
def stepV (xs : List V) (lo : Option Int) (s : Int) : List V :=
  (sliceRange (sliceBounds lo none (some s) xs.length).1 (sliceBounds lo none (some s) xs.length).2.1 (sliceBounds lo none (some s) xs.length).2.2).filterMap (xs[·]?)
theorem pick_vals : ∀ (ix : List Nat) {xs : List V} {us : List Value}, Vals xs us → Vals (ix.filterMap (xs[·]?)) (ix.filterMap (us[·]?))
  | [], _, _, _ => .nil
  | i :: ix, xs, us, r => by
    rw [List.filterMap_cons, List.filterMap_cons]
    have hl := r.length
    by_cases h : i < xs.length
    · have h2 : i < us.length := by omega
      rw [List.getElem?_eq_getElem h, List.getElem?_eq_getElem h2]
      obtain ⟨u, hu, ru⟩ := r.get (List.getElem?_eq_getElem h)
      rw [List.getElem?_eq_getElem h2] at hu
      cases hu
      exact .cons ru (pick_vals ix r)
    · rw [List.getElem?_eq_none (by omega), List.getElem?_eq_none (by omega)]
      exact pick_vals ix r
theorem pick_rp {K : PySem.W.Frag} {H : Hp} {w : Wh} : ∀ (ix : List Nat) {xs : List V} {ds : List D}, RpAll K H w xs ds → RpAll K H w (ix.filterMap (xs[·]?)) (ix.filterMap (ds[·]?))
  | [], _, _, _ => .nil
  | i :: ix, xs, ds, r => by
    rw [List.filterMap_cons, List.filterMap_cons]
    have hl := r.length
    by_cases h : i < ds.length
    · obtain ⟨v, hv, rv⟩ := r.get (List.getElem?_eq_getElem h)
      rw [hv, List.getElem?_eq_getElem h]
      exact .cons rv (pick_rp ix r)
    · rw [List.getElem?_eq_none (by omega), List.getElem?_eq_none (by omega)]
      exact pick_rp ix r
def tStp (K : PySem.W.Frag) (te : TE) (tl ts : TO) : TE := fun σ H Q => te σ H fun x H1 => tl σ H1 fun l H2 => ts σ H2 fun s H3 => ∃ a xs c, x = .ref a ∧ s = some c ∧ 0 < c ∧ SqL K H3 a xs ∧ ∀ p, H3 p = none → Q (.ref p) (upd H3 p (.lst (stepV xs l c)))
section
variable {X : Cx} {F : List Fn} {e z : Expr} {lo : Option Expr} {te : TE} {tl ts : TO} {pos p3 : Pos}
theorem pe_step (he : PE X e te) (hl : PO X lo tl) (hst : PO X (some z) ts) : PE X (.Subscript e (.Slice lo none (some z) p3) pos) (tStp X.K te tl ts) := by
  refine ⟨fun pins s σ H Q I h => ?_⟩
  refine Subscript_ (thn (he.run pins s σ H _ I h) fun v s1 ⟨x, H1, I1, r1, q1⟩ => ?_)
  refine wpAny_Slice (thn (hl.run pins s1 σ H1 _ I1 q1) fun vl s2 ⟨l, H2, I2, pl, q2⟩ => ?_)
  refine thn (po_none.run pins s2 σ H2 (fun o H3 => o = none ∧ H3 = H2) I2 ⟨rfl, rfl⟩) fun vu s3 ⟨u, H3, I3, pu, eu, e3⟩ => ?_
  subst eu e3
  refine thn (hst.run pins s3 σ H3 _ I3 q2) fun vs s4 ⟨o, H4, I4, ps, q4⟩ => ?_
  obtain ⟨a, xs, c, ex, eo, hc, hx, q⟩ := q4
  subst ex eo
  cases r1
  have I5 : Inv X pins σ H4 { s4 with heap := s4.heap.push { cls := .type "slice", data := .fields #[vl, vu, vs] } } := I4.kept (t' := s4.toks) fun b ob q => Heap.get?_push_of_some _ q
  obtain ⟨its, r, ht, hz⟩ := I5.list hx
  have hlen := r.length
  show wpAny (model X.prog X.w) X.A (subscriptTail e (.Slice lo none (some z) p3) (.ref a) (.ref s4.heap.objs.size)) (EP X pins σ Q) X.xe { s4 with heap := s4.heap.push { cls := .type "slice", data := .fields #[vl, vu, vs] } }
  refine tail_any (ops := [.ref a, .ref s4.heap.objs.size]) ht.isList.typeIs (PySem.slot_list_getitem.lookup) ?_ (by with_unfolding_all rfl)
  have hp : (slicePick its.toArray l none (some c)).toList = (sliceRange (sliceBounds l none (some c) xs.length).1 (sliceBounds l none (some c) xs.length).2.1 (sliceBounds l none (some c) xs.length).2.2).filterMap (its[·]?) := by
    unfold slicePick
    rw [List.size_toArray, ← hlen]
    simp
  refine wpAny_getItem_list_slice ht.isList (Heap.IsSliceOf.new _ vl vu vs) pl pu ps (by intro z; injection z with z; omega) ?_ (by rw [List.size_toArray]; omega)
  refine ⟨.ref _, _, I5.laid (t' := s4.toks) (o := .lst (stepV xs l c)) (fun b ob q => Heap.get?_push_of_some _ q) (Nat.le_refl _) ?_, rfl, q _ (I5.hok.fresh (Nat.le_refl _))⟩
  have vv : Vals (stepV xs l c) (slicePick its.toArray l none (some c)).toList := by
    rw [hp]
    exact pick_vals _ r
  have hle : (slicePick its.toArray l none (some c)).size ≤ its.toArray.size := slicePick_size_le _ _ _ _
  refine ⟨?_, (slicePick its.toArray l none (some c)).toList, 0, vv, ?_⟩
  · rw [vv.length]
    have hsz : its.toArray.size = its.length := by simp
    rw [Array.length_toList]
    exact Nat.le_trans hle (by omega)
  · rw [Array.toArray_toList]
    exact Heap.get?_push_size _ rfl
theorem se_sls {il : Option IE} {ie iz : IE} (ha : PE X e (teE X.K F ie)) (hl : PO X lo (teO X.K F il)) (hz : PE X z (teE X.K F iz)) : PE X (.Subscript e (.Slice lo none (some z) p3) pos) (teE X.K F (.sls ie il iz)) := by
  refine (pe_step ha hl (so_some hz)).imp fun σ H Q q => ?_
  obtain ⟨n, w, μ, e, zz, e', wf, er, ev, k⟩ := q
  unfold evE at ev
  obtain ⟨x, e1, h1, ev1⟩ := Rs.bind_ok ev
  obtain ⟨l, e2, h2, ev2⟩ := Rs.bind_ok ev1
  obtain ⟨h, e3, h3, ev3⟩ := Rs.bind_ok ev2
  refine ⟨n, w, μ, e, x, e1, wf, er, h1, fun v H1 w1 a1 an1 => ⟨n + 1, w1, μ, e1, l, e2, a1.wf, a1.env, h2, fun H2 w2 a2 => ?_⟩⟩
  split at ev3
  · rename_i ds c hd hc
    split at ev3
    · rename_i hpos
      have ho : evO F (some iz) e2 = .ok (some c) e3 := by
        unfold evO
        rw [h3]
        show (match rdA h e3 with | some (.int i) => Rs.ok (some i) e3 | _ => .no) = _
        rw [hc]
      cases ev3
      refine ⟨n + 1, w2, μ, e2, some c, _, a2.wf, a2.env, ho, fun H3 w3 a3 => ?_⟩
      have a4 := (a1.trans a2 (Nat.le_succ n)).trans a3 (Nat.le_succ n)
      have an4 := (an1.mono a2.stp (Nat.lt_succ_self n)).mono a3.stp (Nat.lt_succ_self n)
      obtain ⟨p, xs, rfl, s, r⟩ := (rd_rr (Nat.le_refl n) an4 a4.env hd).list
      refine ⟨p, xs, c, rfl, rfl, hpos, s, (pgo_fin a4 k).lst (drp_wf a4.wf) ?_⟩
      unfold stepV stepD
      rw [r.length]
      exact pick_rp _ r
    · cases ev3
  · cases ev3
end
end PD

/-! PD6f: a dict written with its entries. -/
namespace PD
open PySem PySem.Spec PyProof.Rows L2
section
variable {K : PySem.W.Frag} {F : List Fn}
def trsOf (K : PySem.W.Frag) (F : List Fn) : List Key → List IE → List (TE × TE)
  | k :: ks, i :: is => (tC (kV k), teE K F i) :: trsOf K F ks is
  | _, _ => []
theorem pairs_in : ∀ {ks : List Key} {is : List IE} {σ : L2.St} {H : Hp} {Q : List (V × V) → Hp → Prop} {n : Nat} {w : Wh} {μ : Nat → Option V} {e : En} {as : List Ans} {e' : En}, ks.length = is.length → Wf H w → EnvR K H w μ σ e → evEs F is e = .ok as e' →
    (∀ vs H' w', Aft K n μ σ e' H w H' w' → AnsRs K H' w' σ n vs as → Q (List.zipWith (fun k v => (kV k, v)) ks vs) H') → tPairs (trsOf K F ks is) σ H Q
  | [], [], σ, H, Q, n, w, μ, e, as, e', hl, wf, er, ev, k => by
    cases ev
    exact k [] H w (.refl wf er) (.nil n)
  | kk :: ks, i :: is, σ, H, Q, n, w, μ, e, as, e', hl, wf, er, ev, k => by
    unfold evEs at ev
    obtain ⟨x, e1, h1, ev⟩ := Rs.bind_ok ev
    obtain ⟨xs, e2, h2, ev⟩ := Rs.bind_ok ev
    cases ev
    show tC (kV kk) σ H fun kx H1 => teE K F i σ H1 fun v H2 => tPairs (trsOf K F ks is) σ H2 fun ps H3 => Q ((kx, v) :: ps) H3
    refine ⟨n, w, μ, e, x, e1, wf, er, h1, fun v H1 w1 a1 an1 => ?_⟩
    exact pairs_in (n := n + 1) (by simpa using hl) a1.wf a1.env h2 fun vs H2 w2 a2 an2 => k (v :: vs) H2 w2 (a1.trans a2 (Nat.le_succ n)) (.cons (an1.mono a2.stp (Nat.lt_succ_self n)) an2)
  | [], _ :: _, _, _, _, _, _, _, _, _, _, hl, _, _, _, _ => by simp at hl
  | _ :: _, [], _, _, _, _, _, _, _, _, _, hl, _, _, _, _ => by simp at hl
theorem merge_ks {H : Hp} {w : Wh} : ∀ {ks : List Key} {vs : List V} {ds : List D} {acc : List (Key × V)} {ad : List (D × D)}, RpAll K H w vs ds → ks.length = vs.length → RpKs K H w acc ad → RpKs K H w (mergeK acc (List.zipWith (fun k v => (k, v)) ks vs)) (zipDic (ks.map keyD) ds ad)
  | [], _, _, acc, ad, .nil, _, h => h
  | k :: ks, v :: vs, d :: ds, acc, ad, .cons a b, hl, h => by
    have q := merge_ks (ks := ks) b (by simpa using hl) (put_ks (k := k) a h)
    exact q
  | [], _, _, _, _, .cons _ _, hl, _ => by simp at hl
  | _ :: _, _, _, _, _, .nil, hl, _ => by simp at hl
end
section
variable {X : Cx} {F : List Fn} {pos : Pos}
/-- the written keys -/
inductive KeyE (X : Cx) : List (Option Expr) → List Key → Prop
  | nil : KeyE X [] []
  | cons {e : Expr} {k : Key} {es : List (Option Expr)} {ks : List Key} : PE X e (tC (kV k)) → KeyE X es ks → KeyE X (some e :: es) (k :: ks)
inductive ValE (X : Cx) (F : List Fn) : List Expr → List IE → Prop
  | nil : ValE X F [] []
  | cons {e : Expr} {i : IE} {es : List Expr} {is : List IE} : PE X e (teE X.K F i) → ValE X F es is → ValE X F (e :: es) (i :: is)
theorem pps_of : ∀ {kes : List (Option Expr)} {ks : List Key} {ves : List Expr} {is : List IE}, KeyE X kes ks → ValE X F ves is → ks.length = is.length → PPs X pos kes ves (trsOf X.K F ks is)
  | _, _, _, _, .nil, .nil, _ => pps_nil
  | _, _, _, _, .cons a b, .cons c d, hl => pps_cons a c (pps_of b d (by simpa using hl))
  | _, _, _, _, .nil, .cons _ _, hl => by simp at hl
  | _, _, _, _, .cons _ _, .nil, hl => by simp at hl
theorem keyE_all : ∀ {kes : List (Option Expr)} {ks : List Key}, KeyE X kes ks → kes.all (·.isSome) = true ∧ kes.length = ks.length
  | _, _, .nil => ⟨rfl, rfl⟩
  | _, _, .cons _ b => ⟨(keyE_all b).1, congrArg (· + 1) (keyE_all b).2⟩
theorem valE_len : ∀ {es : List Expr} {is : List IE}, ValE X F es is → es.length = is.length
  | _, _, .nil => rfl
  | _, _, .cons _ b => congrArg (· + 1) (valE_len b)
theorem evEs_len : ∀ {is : List IE} {e e' : En} {as : List Ans}, evEs F is e = .ok as e' → as.length = is.length
  | [], e, e', as, h => by cases h; rfl
  | i :: is, e, e', as, h => by
    unfold evEs at h
    obtain ⟨x, e1, h1, h⟩ := Rs.bind_ok h
    obtain ⟨xs, e2, h2, h⟩ := Rs.bind_ok h
    cases h
    exact congrArg (· + 1) (evEs_len h2)
theorem ansRs_len {K : PySem.W.Frag} {H : Hp} {w : Wh} {σ : L2.St} : ∀ {n : Nat} {vs : List V} {as : List Ans}, AnsRs K H w σ n vs as → vs.length = as.length
  | _, _, _, .nil _ => rfl
  | _, _, _, .cons _ b => congrArg (· + 1) (ansRs_len b)
theorem zip_map {ks : List Key} {vs : List V} : List.zipWith (fun k v => (kV k, v)) ks vs = (List.zipWith (fun k v => (k, v)) ks vs).map fun kv => (kV kv.1, kv.2) := by
  induction ks generalizing vs with
  | nil => rfl
  | cons k ks ih =>
    cases vs with
    | nil => rfl
    | cons v vs => simp only [List.zipWith_cons_cons, List.map_cons, ih]
theorem se_dic {kes : List (Option Expr)} {ks : List Key} {ves : List Expr} {is : List IE} (hk : KeyE X kes ks) (hv : ValE X F ves is) (hl : ks.length = is.length) (h0 : kes ≠ []) (h15 : kes.length ≤ 15) : PE X (.Dict kes ves pos) (teE X.K F (.dic (ks.map keyD) is)) := by
  have hkl := keyE_all hk
  refine (pe_disp (pps_of hk hv hl) hkl.1 (by rw [hkl.2, hl, valE_len hv]) h0 h15).imp fun σ H Q q => ?_
  obtain ⟨n, w, μ, e, z, e', wf, er, ev, k⟩ := q
  unfold evE at ev
  obtain ⟨as, e1, h1, ev⟩ := Rs.bind_ok ev
  split at ev
  · rename_i ds e2 hf
    cases ev
    intro p hp
    have s0 := own1_stp (o := .dK []) (n := n) wf hp
    have wf0 : Wf (upd H p (.dK [])) (own1 w p (.tmp n)) := own1_wf wf
    refine pairs_in (n := n + 1) hl wf0 (er.mono s0 fun i z => by cases z) h1 fun vs H2 w2 a2 an2 => ?_
    obtain ⟨w3, a3, r3⟩ := a2.fzs an2 (Nat.le_refl (n + 1)) hf
    have hH : H2 p = some (.dK []) := (a3.stp.kh p (.tmp n) (Nat.lt_succ_self n) own1_at).trans upd_same
    have hw : w3 p = some (.tmp n) := (a3.stp.kp p (.tmp n) (Nat.lt_succ_self n)).mpr own1_at
    have hvl : vs.length = ks.length := by rw [r3.length, hl, ← evEs_len h1, ← ansRs_len an2, r3.length]
    refine ⟨hH, List.zipWith (fun k v => (k, v)) ks vs, zip_map, ?_, ?_⟩
    · rw [List.length_zipWith, hvl, Nat.min_self, ← hkl.2]
      exact h15
    · have su : Stp (keepP n) H2 w3 (upd H2 p (.dK (mergeK [] (List.zipWith (fun k v => (k, v)) ks vs)))) w3 := ⟨sty_own hw, fun _ _ _ => Iff.rfl, fun b l hl hb => upd_ne fun z => by
        rw [z, hw] at hb
        exact hl (Option.some.inj hb).symm⟩
      refine k _ _ w3 ⟨((s0.weak keepP.e).trans (a3.stp.weak (keepE.le (Nat.le_succ n)))).trans (su.weak keepP.e), a3.wf.put trivial, a3.env.mono su fun i z => by cases z⟩ ⟨p, rfl, hw, .dk upd_same (merge_ks (r3.mono su.sh) hvl.symm .nil)⟩
  · cases ev
end
end PD

/-! PDY: sums, least ones, dicts of pairs, dicts with one tuple key, methods that read, things put to a name. -/
namespace PD
open PySem PySem.Spec PyProof.Rows L2
section
variable {K : PySem.W.Frag} {H : Hp} {w : Wh}
theorem fold_min : ∀ (ns : List Int) (n : Int), (ns.foldl (fun a b => if b < a then b else a) n) ∈ n :: ns ∧ ∀ y ∈ n :: ns, (ns.foldl (fun a b => if b < a then b else a) n) ≤ y
  | [], n => ⟨by simp, by simp⟩
  | m :: ns, n => by
    obtain ⟨h1, h2⟩ := fold_min ns (if m < n then m else n)
    rw [List.foldl_cons]
    generalize ns.foldl (fun a b => if b < a then b else a) (if m < n then m else n) = z at h1 h2
    have h3 := h2 _ List.mem_cons_self
    refine ⟨?_, fun y hy => ?_⟩
    · rcases List.mem_cons.mp h1 with h | h
      · rw [h]
        split
        · exact List.mem_cons_of_mem _ List.mem_cons_self
        · exact List.mem_cons_self
      · exact List.mem_cons_of_mem _ (List.mem_cons_of_mem _ h)
    · rcases List.mem_cons.mp hy with h | hy
      · subst h
        split at h3 <;> omega
      · rcases List.mem_cons.mp hy with h | hy
        · subst h
          split at h3 <;> omega
        · exact h2 _ (List.mem_cons_of_mem _ hy)
theorem fold_max : ∀ (ns : List Int) (n : Int), (ns.foldl (fun a b => if b > a then b else a) n) ∈ n :: ns ∧ ∀ y ∈ n :: ns, y ≤ (ns.foldl (fun a b => if b > a then b else a) n)
  | [], n => ⟨by simp, by simp⟩
  | m :: ns, n => by
    obtain ⟨h1, h2⟩ := fold_max ns (if m > n then m else n)
    rw [List.foldl_cons]
    generalize ns.foldl (fun a b => if b > a then b else a) (if m > n then m else n) = z at h1 h2
    have h3 := h2 _ List.mem_cons_self
    refine ⟨?_, fun y hy => ?_⟩
    · rcases List.mem_cons.mp h1 with h | h
      · rw [h]
        split
        · exact List.mem_cons_of_mem _ List.mem_cons_self
        · exact List.mem_cons_self
      · exact List.mem_cons_of_mem _ (List.mem_cons_of_mem _ h)
    · rcases List.mem_cons.mp hy with h | hy
      · subst h
        split at h3 <;> omega
      · rcases List.mem_cons.mp hy with h | hy
        · subst h
          split at h3 <;> omega
        · exact h2 _ (List.mem_cons_of_mem _ hy)
theorem pok_minL : Pok K .minL (rMin K) := by
  refine pok1 (fun ds f d h => ?_) fun n H w v x d f Q wf hx hp g => ?_
  · unfold prim at h; split at h <;> simp_all
  cases x <;> simp only [prim] at hp <;> first | cases hp | skip
  obtain ⟨a, xs, rfl, s, r⟩ := hx.list
  split at hp
  · rename_i m ms e
    cases hp
    rw [ints_of r e] at s
    refine ⟨a, m :: ms, rfl, s, by simp, fun z h1 h2 => ?_⟩
    obtain ⟨h3, h4⟩ := fold_min ms m
    have ez := Int.le_antisymm (h2 _ h3) (h4 z h1)
    rw [ez]
    exact g.same wf (.int _)
  · cases hp
theorem pok_maxL : Pok K .maxL (rMax K) := by
  refine pok1 (fun ds f d h => ?_) fun n H w v x d f Q wf hx hp g => ?_
  · unfold prim at h; split at h <;> simp_all
  cases x <;> simp only [prim] at hp <;> first | cases hp | skip
  obtain ⟨a, xs, rfl, s, r⟩ := hx.list
  split at hp
  · rename_i m ms e
    cases hp
    rw [ints_of r e] at s
    refine ⟨a, m :: ms, rfl, s, by simp, fun z h1 h2 => ?_⟩
    obtain ⟨h3, h4⟩ := fold_max ms m
    have ez := Int.le_antisymm (h4 z h1) (h2 _ h3)
    rw [ez]
    exact g.same wf (.int _)
  · cases hp
theorem pok_sumL : Pok K .sumL (rSum K) := by
  refine pok1 (fun ds f d h => ?_) fun n H w v x d f Q wf hx hp g => ?_
  · unfold prim at h; split at h <;> simp_all
  cases x <;> simp only [prim] at hp <;> first | cases hp | skip
  obtain ⟨a, xs, rfl, s, r⟩ := hx.list
  split at hp
  · rename_i ms e
    cases hp
    rw [ints_of r e] at s
    exact ⟨a, ms, rfl, s, g.same wf (.int _)⟩
  · cases hp
theorem pok_any : Pok K .any (rAny K) := by
  refine pok1 (fun ds f d h => ?_) fun n H w v x d f Q wf hx hp g => ?_
  · unfold prim at h; split at h <;> simp_all
  cases x <;> simp only [prim] at hp <;> first | cases hp | skip
  obtain ⟨a, xs, rfl, s, r⟩ := hx.list
  split at hp
  · rename_i bs e
    cases hp
    rw [bools_of r e] at s
    exact ⟨a, bs, rfl, s, g.same wf (.bl _)⟩
  · cases hp
/-! dict of pairs -/
def mergeT (kvs more : List (List Key × V)) : List (List Key × V) := more.foldl (fun acc kv => putK acc kv.1 kv.2) kvs
theorem length_mergeT : ∀ (more kvs : List (List Key × V)), (mergeT kvs more).length ≤ kvs.length + more.length
  | [], kvs => by show kvs.length ≤ kvs.length + 0; omega
  | p :: r, kvs => by
    have h1 := length_mergeT r (putK kvs p.1 p.2)
    have h2 := length_putK kvs p.1 p.2
    show (mergeT (putK kvs p.1 p.2) r).length ≤ _
    rw [List.length_cons]; omega
/-- pairs with a tuple ahead, at their places -/
inductive PrT (K : PySem.W.Frag) (H : Hp) : List Addr → List (Addr × List Key × V) → Prop
  | nil : PrT K H [] []
  | cons {p b : Addr} {k : List Key} {v : V} {ps : List Addr} {r : List (Addr × List Key × V)} : SqT K H p [.ref b, v] → H b = some (.tup (k.map kV)) → PrT K H ps r → PrT K H (p :: ps) ((b, k, v) :: r)
theorem PrT.length : ∀ {ps : List Addr} {r : List (Addr × List Key × V)}, PrT K H ps r → ps.length = r.length
  | _, _, .nil => rfl
  | _, _, .cons _ _ r => congrArg (· + 1) r.length
def rDictT (K : PySem.W.Frag) : List V → Hp → VK → Prop := fun xs H Q => ∃ (a : Addr) (ps : List Addr) (r : List (Addr × List Key × V)), xs = [.ref a] ∧ SqL K H a (ps.map V.ref) ∧ PrT K H ps r ∧
  ∀ p, H p = none → Q (.ref p) (upd H p (.dT (mergeT [] (r.map (·.2)))))
end
section
variable {X : Cx}
theorem prT_in {pins : List (Addr × Obj)} {σ : L2.St} {H : Hp} {s : Shared} (I : Inv X pins σ H s) : ∀ {ps : List Addr} {r : List (Addr × List Key × V)}, PrT X.K H ps r →
    ∃ xs : List (List Key × Addr × Value), KT H (r.map (·.2)) xs ∧ xs.length = ps.length ∧ (∀ (j : Nat) k b u, xs[j]? = some (k, b, u) → ∃ p, ps[j]? = some p ∧ IsTup s.heap p #[.ref b, u]) ∧ ∀ x ∈ xs, (tupleKind (mixKind X.prog X.w)).is s.heap x.1 x.2.1
  | _, _, .nil => ⟨[], .nil, rfl, fun j k b u e => by simp at e, fun _ h => by cases h⟩
  | _, _, .cons (p := p) (b := b) (k := k) (v := v) h1 h2 h3 => by
    obtain ⟨xs, e1, e2, e3, e4⟩ := prT_in I h3
    obtain ⟨its, rv, ht, _⟩ := I.tuple h1
    obtain ⟨u, y, ei, ru, ry⟩ := vals2 rv
    subst ei
    cases ru
    refine ⟨(k, b, y) :: xs, .cons ⟨rfl, h2, ry⟩ e1, by rw [List.length_cons, List.length_cons, e2], fun j k' b' u' e => ?_, fun x hx => ?_⟩
    · cases j with
      | zero =>
        have e' : (k, b, y) = (k', b', u') := Option.some.inj e
        cases e'
        exact ⟨p, rfl, ht⟩
      | succ j =>
        obtain ⟨q, q1, q2⟩ := e3 j k' b' u' (by simpa using e)
        exact ⟨q, by simpa using q1, q2⟩
    · rcases List.mem_cons.mp hx with rfl | hx
      · exact key_of I.hok h2
      · exact e4 x hx
theorem kt_all : ∀ {H : Hp} {xs : List (List Key × Addr × Value)} {kvs : List (List Key × V)} {acc : List (List Key × Addr × Value)} {av : List (List Key × V)}, KT H kvs xs → KT H av acc → KT H (mergeT av kvs) (storedAllH acc xs)
  | H, [], [], acc, av, .nil, h => h
  | H, x :: xs, kv :: kvs, acc, av, .cons a b, h => by
    obtain ⟨e1, e2, e3⟩ := a
    have q := h.put kv.1 e2 e3
    show KT H (mergeT (putK av kv.1 kv.2) kvs) (storedAllH (storedH acc x.1 x.2.1 x.2.2) xs)
    rw [← e1]
    exact kt_all b q
theorem cr_dictT (hc : X.calm = true) (hu : X.A.units + 2 < cLine) : CallR X (.type "dict") (rDictT X.K) := by
  intro pins s σ H xs us Q I r q
  obtain ⟨a, ps, rr, ex, hq, hp, q⟩ := q
  subst ex
  obtain ⟨u, eu, rx⟩ := vals1 r
  subst eu
  cases rx
  obtain ⟨its, rv, pl, hz⟩ := I.list hq
  have ei := refs_at rv
  subst ei
  rw [List.length_map] at hz
  obtain ⟨ys, y1, y2, y3, y4⟩ := prT_in I hp
  obtain ⟨o, n, ho, hcl, hd, hdat⟩ := pl
  have hyl : ys.length = ps.length := y2
  have PA := PairArg.list (prog := X.prog) (w := X.w) a (ps.map Value.ref).toArray (fun j => ps.getD j 0) (ys.map fun y => (Value.ref y.2.1, y.2.2))
  have hm : (s.heap.objs.size == sysModules) = false := beq_eq_false_iff_ne.mpr (Nat.ne_of_gt I.big)
  refine PySem.call_dict_pairsH (knd := tupleKind (mixKind X.prog X.w)) (ps := ys) PA (I.ok.hd hc) ?_ ⟨⟨o, n, ho, hcl, hd, by simpa using hdat⟩, ?_, fun j k v e => ?_⟩ ⟨by simp, fun i key v e => ?_⟩ (fun h' hk x hx => ?_) (by rw [List.length_map, hyl]; exact hz) fun h' tk hd' hk => ?_
  · show X.A.in1.in1.units < cLine
    have e1 : X.A.in1.in1.units = X.A.units + 2 := rfl
    omega
  · simp [hyl]
  · rw [List.getElem?_map] at e
    cases hy : ys[j]? with
    | none => rw [hy] at e; cases e
    | some y =>
      rw [hy] at e
      obtain ⟨yk, yb, yv⟩ := y
      cases e
      obtain ⟨p, p1, p2⟩ := y3 j _ _ _ hy
      have hpd : ps.getD j 0 = p := by rw [List.getD_eq_getElem?_getD, p1]; rfl
      refine ⟨?_, ?_⟩
      · show (ps.map Value.ref).toArray[j]? = some (Value.ref (ps.getD j 0))
        rw [hpd, List.getElem?_toArray, List.getElem?_map, p1]
        rfl
      · show PairAt s.heap (ps.getD j 0) (Value.ref yb) yv
        rw [hpd]
        exact .inl p2
  · have e' : (ys.map fun y => (Value.ref y.2.1, y.2.2))[i]? = some (key, v) := e
    rw [List.getElem?_map] at e'
    cases hy : ys[i]? with
    | none => rw [hy] at e'; cases e'
    | some y =>
      rw [hy] at e'
      obtain ⟨yk, yb, yv⟩ := y
      cases e'
      exact ⟨yk, yb, rfl, rfl⟩
  · obtain ⟨o', its', n', h1, h2, h3, h4⟩ := y4 x hx
    exact ⟨o', its', n', hk _ _ (Nat.ne_of_lt (Heap.lt_size h1)) (fun z => by cases z) h1, h2, h3, h4⟩
  · have hk' : ∀ b ob, s.heap.get? b = some ob → h'.get? b = some ob := fun b ob e => hk b ob (fun z => by cases z) e
    have hlen : (mergeT [] (rr.map (·.2))).length ≤ sizeLine := by
      refine Nat.le_trans (length_mergeT _ []) ?_
      rw [List.length_map, ← hp.length, List.length_nil]
      omega
    have kt := kt_all y1 (show KT H [] [] from .nil)
    obtain ⟨ob, es, ep, g1, g2, g3, g4, g5, g6⟩ := hd'
    have hn := I.hok.fresh (Nat.le_refl s.heap.objs.size)
    have ok : ObjOk X.prog X.w (upd H s.heap.objs.size (.dT (mergeT [] (rr.map (·.2))))) h' s.heap.objs.size (.dT (mergeT [] (rr.map (·.2)))) := ⟨hlen, hm, _, kt.keeps fun b zs eb => by
      rw [upd_ne (ne_of_none eb hn)]
      exact eb, ob, es, ep, g1, g2, g3, g4, g6⟩
    exact ⟨.ref s.heap.objs.size, _, I.laid (t' := tk) hk' (Nat.le_refl _) ok, rfl, q _ hn⟩
end
section
variable {K : PySem.W.Frag} {H : Hp} {w : Wh}
theorem pairs_T : ∀ {xs : List V} {ds : List D} {ps : List (D × D)}, RpAll K H w xs ds → pairsD true ds = some ps → ∃ (as : List Addr) (r : List (Addr × List Key × V)), xs = as.map V.ref ∧ PrT K H as r ∧ RpTs K H w (r.map (·.2)) ps
  | _, [], ps, .nil, h => by
    cases h
    exact ⟨[], [], rfl, .nil, .nil⟩
  | _ :: _, d :: ds, ps, .cons a b, h => by
    unfold pairsD at h
    split at h
    · rename_i heq
      cases heq
    · rename_i k v r heq
      cases heq
      split at h
      · rename_i hk
        unfold keyOk at hk
        rw [if_pos rfl] at hk
        split at h
        · rename_i ps' hps
          cases h
          obtain ⟨as, rr, rfl, h2, h3⟩ := pairs_T b hps
          cases a with
          | tup n ra =>
            rename_i p xs'
            cases ra with
            | cons r1 rb =>
              cases rb with
              | cons r2 rc =>
                cases rc
                cases k <;> simp only at hk <;> first | (cases hk; done) | skip
                rename_i kk
                obtain ⟨ks, rfl⟩ := keys_of kk hk
                obtain ⟨bb, rfl, hb⟩ := rr_tkey (ks := ks) (.inl r1)
                exact ⟨p :: as, (bb, ks, _) :: rr, rfl, .cons n.sq hb h2, .cons r2 h3⟩
        · cases h
      · cases h
    · cases h
theorem merge_ts : ∀ {kvs : List (List Key × V)} {ps : List (D × D)} {acc : List (List Key × V)} {ad : List (D × D)}, RpTs K H w kvs ps → RpTs K H w acc ad → RpTs K H w (mergeT acc kvs) (ps.foldl (fun acc p => dSet acc p.1 p.2) ad)
  | _, _, acc, ad, .nil, h => h
  | (k, v) :: kvs, (_, d) :: ps, acc, ad, .cons a b, h => merge_ts (kvs := kvs) (ps := ps) b (put_ts a h)
theorem pok_dictT : Pok K .dictT (rDictT K) := by
  refine pok1 (fun ds f d h => ?_) fun n H w v x d f Q wf hx hp g => ?_
  · unfold prim at h; split at h <;> simp_all
  cases x <;> simp only [prim] at hp <;> first | cases hp | skip
  obtain ⟨a, xs, rfl, s, r⟩ := hx.list
  unfold pDic at hp
  split at hp
  · split at hp
    · rename_i ps hps
      cases hp
      obtain ⟨as, rr, rfl, h2, h3⟩ := pairs_T r hps
      refine ⟨a, as, rr, rfl, s, h2, fun p np => ?_⟩
      have st := own1_stp (o := .dT (mergeT [] (rr.map (·.2)))) (n := n) wf np
      exact g _ _ _ st (own1_wf wf) ⟨p, rfl, own1_at, .dt upd_same ((merge_ts h3 .nil).mono st.sh)⟩
    · cases hp
  · cases hp
theorem pairs_K : ∀ {xs : List V} {ds : List D} {ps : List (D × D)}, RpAll K H w xs ds → pairsD false ds = some ps → ∃ (as : List Addr) (r : List (Key × V)), xs = as.map V.ref ∧ Paired (fun p kv => SqT K H p [kV kv.1, kv.2]) as r ∧ RpKs K H w r ps
  | _, [], ps, .nil, h => by
    cases h
    exact ⟨[], [], rfl, .nil, .nil⟩
  | _ :: _, d :: ds, ps, .cons a b, h => by
    unfold pairsD at h
    split at h
    · rename_i heq
      cases heq
    · rename_i k v r heq
      cases heq
      split at h
      · rename_i hk
        unfold keyOk at hk
        rw [if_neg Bool.false_ne_true] at hk
        split at h
        · rename_i ps' hps
          cases h
          obtain ⟨as, rr, rfl, h2, h3⟩ := pairs_K b hps
          cases a with
          | tup n ra =>
            rename_i p xs'
            cases ra with
            | cons r1 rb =>
              cases rb with
              | cons r2 rc =>
                cases rc
                obtain ⟨ks, e⟩ := keys_of [k] (by simp [hk])
                cases ks with
                | nil => simp at e
                | cons kk kr =>
                  simp only [List.map_cons, List.cons.injEq] at e
                  obtain ⟨rfl, _⟩ := e
                  obtain rfl := rr_key (.inl r1)
                  exact ⟨p :: as, (kk, _) :: rr, rfl, .cons n.sq h2, .cons r2 h3⟩
        · cases h
      · cases h
    · cases h
theorem merge_kk : ∀ {kvs : List (Key × V)} {ps : List (D × D)} {acc : List (Key × V)} {ad : List (D × D)}, RpKs K H w kvs ps → RpKs K H w acc ad → RpKs K H w (mergeK acc kvs) (ps.foldl (fun acc p => dSet acc p.1 p.2) ad)
  | _, _, acc, ad, .nil, h => h
  | (k, v) :: kvs, (_, d) :: ps, acc, ad, .cons a b, h => merge_kk (kvs := kvs) (ps := ps) b (put_ks a h)
end

section
variable {K : PySem.W.Frag} {H : Hp} {w : Wh}
theorem pok_dictK : Pok K .dictK (fun xs H Q => ∃ (a : Addr) (ps : List Addr) (kvs : List (Key × V)), xs = [.ref a] ∧ SqL K H a (ps.map V.ref) ∧ Paired (fun p kv => SqT K H p [kV kv.1, kv.2]) ps kvs ∧
    ∀ p, H p = none → Q (.ref p) (upd H p (.dK (mergeK [] kvs)))) := by
  refine pok1 (fun ds f d h => ?_) fun n H w v x d f Q wf hx hp g => ?_
  · unfold prim at h; split at h <;> simp_all
  cases x <;> simp only [prim] at hp <;> first | cases hp | skip
  obtain ⟨a, xs, rfl, s, r⟩ := hx.list
  unfold pDic at hp
  split at hp
  · split at hp
    · rename_i ps hps
      cases hp
      obtain ⟨as, rr, rfl, h2, h3⟩ := pairs_K r hps
      refine ⟨a, as, rr, rfl, s, h2, fun p np => ?_⟩
      have st := own1_stp (o := .dK (mergeK [] rr)) (n := n) wf np
      exact g _ _ _ st (own1_wf wf) ⟨p, rfl, own1_at, .dk upd_same ((merge_kk h3 .nil).mono st.sh)⟩
    · cases hp
  · cases hp
end
/-! methods that read -/
section
variable {X : Cx} {F : List Fn} {a b c : Expr} {ia ib ic : IE} {pos apos cpos p1 p2 : Pos} {es : List Expr} {ies : List IE}
theorem tyd_of {K : PySem.W.Frag} {H : Hp} {w : Wh} {v : V} {d : D} (r : Rr K H w v d) : ∀ {T : String}, (T = "dict" ∧ ∃ k, d = .dict k) ∨ (T = "list" ∧ ∃ k, d = .list k) → tyV K T v H := by
  intro T h
  rcases h with ⟨rfl, k, rfl⟩ | ⟨rfl, k, rfl⟩
  · obtain ⟨a, rfl, d⟩ := r.dic
    refine .inr (.inr (.inl ⟨rfl, ?_⟩))
    cases d with
    | k kvs e _ => exact .inl ⟨kvs, e⟩
    | t kvs es _ e _ => exact .inr ⟨kvs, e⟩
  · obtain ⟨a, xs, rfl, s, _⟩ := r.list
    exact .inl ⟨rfl, xs, s⟩
theorem rdAs_val {e : En} : ∀ {ds : List D}, rdAs (ds.map (Ans.val false)) e = some ds
  | [] => rfl
  | d :: ds => by
    show (match rdA (.val false d) e, rdAs (ds.map (Ans.val false)) e with | some d, some ds => some (d :: ds) | _, _ => none) = _
    rw [rdAs_val]
    rfl
/-- the rule r, asked of a thing, does what prim p does -/
def MokR (K : PySem.W.Frag) (p : Pr) (r : V → List V → Hp → VK → Prop) : Prop := ∀ (n : Nat) (H : Hp) (w : Wh) (v : V) (vs : List V) (x : D) (ds : List D) (d : D) (f : Bool) (Q : VK), Wf H w → Rr K H w v x → RpAll K H w vs ds → prim p (x :: ds) = some (f, d) → PGo K n H w f d Q → r v vs H Q
theorem mr_in {p : Pr} {T : String} {r : V → List V → Hp → VK → Prop} {i : Nat} {K : PySem.W.Frag} (mo : MokR K p r) (ht : ∀ d, rcvB p d = true → (T = "dict" ∧ ∃ k, d = .dict k) ∨ (T = "list" ∧ ∃ k, d = .list k)) (σ : L2.St) (H : Hp) (Q : VK) (q : teE K F (.mr p i ies) σ H Q) :
    ∃ v, σ[i]? = some (some v) ∧ tyV K T v H ∧ teA K F ies σ H fun xs H2 => r v xs H2 Q := by
  obtain ⟨n, w, μ, e, z, e', wf, er, ev, k⟩ := q
  unfold evE at ev
  split at ev
  · rename_i s hs
    split at ev
    · rename_i hrc
      obtain ⟨as, e1, h1, h2⟩ := Rs.bind_ok ev
      split at h2
      · rename_i ds0 e2 hfz
        obtain ⟨ds, f, dd, h4, h5, rfl, rfl⟩ := prA_ok h2
        obtain ⟨o, d⟩ := s
        obtain ⟨v, g1, g2, _⟩ := er.at_ i _ _ hs
        refine ⟨v, g1, tyd_of g2.rr (ht d hrc), n, w, μ, e, as, e1, wf, er, h1, fun vs H1 w1 a1 an => ?_⟩
        obtain ⟨w2, a2, rp⟩ := a1.fzs an (Nat.le_refl n) hfz
        simp only [rdAs] at h4
        cases hr : rdA (slA i ⟨o, d⟩) e' with
        | none => rw [hr] at h4; cases h4
        | some d1 =>
          rw [hr, rdAs_val] at h4
          cases h4
          refine mo n H1 (PD.drp n w2) v vs d1 ds0 dd f Q (drp_wf a2.wf) ?_ (rp.mono (drp_stp (n := n)).sh) h5 (pgo_fin a2 k)
          cases o with
          | sh =>
            cases hr
            exact .inl (Rp.mono (drp_stp (n := n)).sh (Rp.mono a2.stp.sh (show Rp K H w v d from g2)))
          | own => exact rd_rr (Nat.le_refl n) (show AnsR K n H1 w2 σ v (.pl i) from g1) a2.env hr
          | mu => exact rd_rr (Nat.le_refl n) (show AnsR K n H1 w2 σ v (.pl i) from g1) a2.env hr
      · cases h2
    · cases ev
  · cases ev
theorem se_mr {p : Pr} {T : String} {r : V → List V → Hp → VK → Prop} {i : Nat} {x name : Str} {id : String} (mo : MokR X.K p r) (ht : ∀ d, rcvB p d = true → (T = "dict" ∧ ∃ k, d = .dict k) ∨ (T = "list" ∧ ∃ k, d = .list k)) (hx : PE X (.Name x p1) (tVar i)) (pa : PlainAttrs T) (slot : Slot T name id) (hty : typeOf (.builtin id) = pure (.type "method_descriptor")) (hm : MtR X id r) (ha : PA X (a :: es) (teA X.K F ies))
    (hfew : ((backTo cpos (starEach (a :: es) X.env)).all (fun x => !x.1) && (backToKw cpos (keywordEach [] X.env)).all (fun x => x.1.isSome)
      && decide ((a :: es).length + ([] : List Keyword).length + (if ([] : List Keyword).isEmpty then 0 else 1) < 30)) = true)
    (hline : (apos.endLine == cpos.line) = true) (hs : starEach (a :: es) X.env = (false, eval a X.env) :: starEach es X.env) (hplain : (backTo cpos (starEach es X.env)).any (·.1) = false) :
    PE X (.Call (.Attribute (.Name x p1) name apos) (a :: es) [] cpos) (teE X.K F (.mr p i ies)) := by
  refine (pe_bm pa slot hty hm hx ha (by rfl) hfew hline hs hplain).imp fun σ H Q q => ?_
  obtain ⟨v, h1, h2, h3⟩ := mr_in mo ht σ H Q q
  exact ⟨v, h1, h2, h3⟩
def rGet1 : V → List V → Hp → VK → Prop := fun x xs H Q => ∃ a y o, x = .ref a ∧ xs = [y] ∧ DGet H a y o ∧ Q (o.getD .non) H
def rGet2 : V → List V → Hp → VK → Prop := fun x xs H Q => ∃ a y z o, x = .ref a ∧ xs = [y, z] ∧ DGet H a y o ∧ Q (o.getD z) H
theorem mt_get1 (hu : X.A.units + 1 < cLine) : MtR X "dict.get" rGet1 := by
  intro pins s σ H x xs v us Q I rx rxs h
  obtain ⟨a, y, o, rfl, rfl, g, q⟩ := h
  cases (show v = Value.ref a from rx)
  obtain ⟨u, rfl, ru⟩ := rxs.one
  exact d_get1 hu I g ru fun w' s3 I3 rw' => ⟨_, H, I3, rw', q⟩
theorem mt_get2 (hu : X.A.units + 1 < cLine) : MtR X "dict.get" rGet2 := by
  intro pins s σ H x xs v us Q I rx rxs h
  obtain ⟨a, y, z, o, rfl, rfl, g, q⟩ := h
  cases (show v = Value.ref a from rx)
  cases rxs with
  | cons r1 rr =>
    cases rr with
    | cons r2 r3 =>
      cases r3
      exact d_get2 hu I g r1 r2 fun w' s3 I3 rw' => ⟨_, H, I3, rw', q⟩
theorem mok_get1 {K : PySem.W.Frag} : MokR K .get1 rGet1 := by
  intro n H w v vs x ds d f Q wf hx hv hp g
  cases hv with
  | nil => cases x <;> simp [prim] at hp
  | cons h1 h2 =>
    cases h2 with
    | cons _ _ => cases x <;> simp [prim] at hp
    | nil =>
      cases x <;> simp only [prim] at hp <;> first | (cases hp; done) | skip
      split at hp
      · rename_i hk
        cases hp
        obtain ⟨a, rfl, dc⟩ := hx.dic
        obtain ⟨o, o1, o2⟩ := dget_of dc hk (.inl h1)
        refine ⟨a, _, o, rfl, rfl, o1, ?_⟩
        rcases o2 with ⟨e1, rfl⟩ | ⟨d, v', e1, rfl, e3⟩
        · rw [e1] at g
          exact g.same wf .non
        · rw [e1] at g
          exact g.same wf e3
      · cases hp
theorem mok_get2 {K : PySem.W.Frag} : MokR K .get2 rGet2 := by
  intro n H w v vs x ds d f Q wf hx hv hp g
  cases hv with
  | nil => cases x <;> simp [prim] at hp
  | cons h1 h2 =>
    cases h2 with
    | nil => cases x <;> simp [prim] at hp
    | cons h2 h3 =>
      cases h3 with
      | cons _ _ => cases x <;> simp [prim] at hp
      | nil =>
        cases x <;> simp only [prim] at hp <;> first | (cases hp; done) | skip
        split at hp
        · rename_i hk
          cases hp
          obtain ⟨a, rfl, dc⟩ := hx.dic
          obtain ⟨o, o1, o2⟩ := dget_of dc hk (.inl h1)
          refine ⟨a, _, _, o, rfl, rfl, o1, ?_⟩
          rcases o2 with ⟨e1, rfl⟩ | ⟨d, v', e1, rfl, e3⟩
          · rw [e1] at g
            exact g.same wf h2
          · rw [e1] at g
            exact g.same wf e3
        · cases hp
theorem mok_index {K : PySem.W.Frag} : MokR K .index (rIndexD K) := by
  intro n H w v vs x ds d f Q wf hx hv hp g
  cases hv with
  | nil => cases x <;> simp [prim] at hp
  | cons h1 h2 =>
    cases h2 with
    | cons _ _ => cases x <;> simp [prim] at hp
    | nil =>
      cases x <;> simp only [prim] at hp <;> first | (cases hp; done) | skip
      rename_i xs
      split at hp
      · rename_i hs
        rw [Bool.and_eq_true] at hs
        split at hp
        · rename_i j hj
          cases hp
          obtain ⟨a, ys, rfl, _, _⟩ := hx.list
          obtain ⟨hlt, z1, z2⟩ := List.findIdx?_eq_some_iff_getElem.mp hj
          refine ⟨a, _, _, xs, j, xs[j], rfl, rfl, hx.dp (SeqAt.canLay_of_shaped hs.1), Rr.dp (.inl h1) (SeqAt.canLay_of_shaped hs.2), hs.1, hs.2, List.getElem?_eq_getElem hlt, z1, fun m z' hm hz' => ?_, g.same wf (.int _)⟩
          obtain ⟨hml, rfl⟩ := List.getElem?_eq_some_iff.mp hz'
          have := z2 m hm
          simpa using this
        · cases hp
      · cases hp
theorem mok_count {K : PySem.W.Frag} : MokR K .count (rCntI K) := by
  intro n H w v vs x ds d f Q wf hx hv hp g
  cases hv with
  | nil => cases x <;> simp [prim] at hp
  | cons h1 h2 =>
    cases h2 with
    | cons _ _ => cases x <;> simp [prim] at hp
    | nil =>
      rename_i y
      cases x <;> simp only [prim] at hp <;> first | (cases hp; done) | skip
      cases y <;> simp only [prim] at hp <;> first | (cases hp; done) | skip
      rename_i xs k
      split at hp
      · rename_i ns e
        cases hp
        obtain ⟨a, ys, rfl, s, r⟩ := hx.list
        rw [ints_of r e] at s
        obtain rfl := Rr.int (.inl h1)
        exact ⟨a, ns, k, rfl, rfl, s, g.same wf (.int _)⟩
      · cases hp
theorem ints_er {K : PySem.W.Frag} {H : Hp} {w : Wh} {ns : List Int} {ds : List D} (r : RpAll K H w (ns.map V.int) ds) (j : Nat) : RpAll K H w ((ns.eraseIdx j).map V.int) (ds.eraseIdx j) := by
  induction ns generalizing ds j with
  | nil =>
    cases r
    cases j <;> exact .nil
  | cons n ns ih =>
    cases r with
    | cons a b =>
      cases j with
      | zero => exact b
      | succ j => exact .cons a (ih b j)
theorem mok_remove {K : PySem.W.Frag} : Mok K .remove rRemI := by
  intro H w l a vs d d' z ds Q e c r hm g
  cases c with
  | lst h rr =>
    rename_i xs dd
    cases r with
    | nil => simp [mtd] at hm
    | cons r1 r2 =>
      cases r2 with
      | cons _ _ => rename_i y _ _ _ _ _; cases y <;> simp [mtd] at hm
      | nil =>
        rename_i u y
        cases y <;> simp only [mtd] at hm <;> first | (cases hm; done) | skip
        rename_i k
        split at hm
        · rename_i ns hns
          split at hm
          · rename_i j hj
            cases hm
            obtain rfl := Rr.int (.inl r1)
            obtain ⟨hlt, z1, z2⟩ := List.findIdx?_eq_some_iff_getElem.mp hj
            have ei := ints_of rr hns
            subst ei
            refine ⟨a, ns, k, j, rfl, rfl, h, ?_, fun m hm hz' => ?_, ?_⟩
            · rw [List.getElem?_eq_getElem hlt]
              simpa using z1
            · obtain ⟨hml, e2⟩ := List.getElem?_eq_some_iff.mp hz'
              have := z2 m hm
              simp [e2] at this
            · exact g _ _ (fun b hb => upd_ne hb) (.lst upd_same ((ints_er rr j).mono (sty_own e))) .non
          · cases hm
        · cases hm
  | dk h rr => simp [mtd] at hm
  | dt h rr => simp [mtd] at hm
end
end PD

/-! PDV: a dict of one item; x op= y. -/
namespace PD
open PySem PySem.Spec PyProof.Rows L2
def tOneT (tk tv : TE) : TE := fun σ H Q => ∀ p, H p = none → tk σ (upd H p (.dT [])) fun x H1 => tv σ H1 fun y H2 => H2 p = some (.dT []) ∧ ∃ (b : Addr) (ks : List Key), x = .ref b ∧ H2 b = some (.tup (ks.map kV)) ∧ Q (.ref p) (upd H2 p (.dT [(ks, y)]))
section
variable {X : Cx} {F : List Fn} {a b c : Expr} {ia ib ic : IE} {pos apos cpos p1 p2 : Pos} {es : List Expr} {ies : List IE}
theorem pe_oneT {k v : Expr} {tk tv : TE} (hu : X.A.units + 1 < cLine) (hk : PE X k tk) (hv : PE X v tv) : PE X (.Dict [some k] [v] pos) (tOneT tk tv) := by
  refine ⟨fun pins s σ H Q I q => ?_⟩
  have hn := I.hok.fresh (Nat.le_refl s.heap.objs.size)
  have I1 := I.laid (a := s.heap.objs.size) (o := .dT []) (h' := s.heap.push { cls := .type "dict", data := .dict #[] }) (t' := s.toks) (fun _ _ q => Heap.get?_push_of_some _ q) (Nat.le_refl _) (dt_empty s.heap I.big)
  have hz := zip_pairTrees [some k] [v] X.env pos rfl rfl
  rw [arm_eval_Dict, hz,
    dictDisplay_pairs _ (by intro z; cases z) (by show 1 < 17; decide)]
  refine wpAny_bind (wpAny_standAt (wpAny_bind ?_))
  refine wpAny_subDictH (knd := tupleKind (mixKind X.prog X.w)) (show X.A.units < cLine by omega) (by show 1 ≤ 15; decide) ?_
  refine pairTrees_cons_walk (thn (hk.run pins _ σ _ _ I1 (q _ hn)) fun u s1 ⟨x, H1, J1, rx, q1⟩ => thn (hv.run pins s1 σ H1 _ J1 q1) fun w2 s2 ⟨y, H2, J2, ry, q2⟩ => pairTrees_nil_walk ?_)
  obtain ⟨e, bb, ks, ex, eb, q3⟩ := q2
  subst ex
  cases rx
  obtain ⟨z, hd, vs0, r0, dd⟩ := dt_of J2.hok e
  cases r0
  refine ⟨[(ks, bb, w2)], ⟨rfl, rfl, key_of J2.hok eb, trivial⟩, dd, fun h' tk dd' hs => wpAny_pure ⟨.ref s.heap.objs.size, _, ?_, rfl, q3⟩⟩
  obtain ⟨ob, es, ep, g1, g2, g3, g4, g5, g6⟩ := dd'
  have ne : bb ≠ s.heap.objs.size := fun z => by
    rw [z, e] at eb
    cases eb
  have kt : KT (upd H2 s.heap.objs.size (.dT [(ks, y)])) [(ks, y)] [(ks, bb, w2)] := .cons ⟨rfl, by rw [upd_ne ne]; exact eb, ry⟩ .nil
  have ok : ObjOk X.prog X.w (upd H2 s.heap.objs.size (.dT [(ks, y)])) h' s.heap.objs.size (.dT [(ks, y)]) := ⟨by show 1 ≤ sizeLine; decide, hd, [(ks, bb, w2)], kt, ob, es, ep, g1, g2, g3, g4, g6⟩
  exact d_write J2 (by rw [e]; exact True.intro) hs ⟨ob, g1⟩ ok
theorem two_key {K : PySem.W.Frag} {H : Hp} {w : Wh} {t : Bool} {dk dv : D} {ps : List (D × D)} (h : pairsD t [.tuple [dk, dv]] = some ps) : keyOk t dk = true ∧ ps = [(dk, dv)] := by
  unfold pairsD at h
  split at h
  · rename_i hk
    simp only [pairsD] at h
    cases h
    exact ⟨hk, rfl⟩
  · cases h
theorem dic1_in {K : PySem.W.Frag} {F : List Fn} {t : Bool} {σ : L2.St} {H : Hp} {Q : VK} (q : teE K F (.dic1 t ia ib) σ H Q) (o0 : HO) (hnt : notTup o0) (p : Addr) (hp : H p = none)
    (R : V → V → Hp → Prop) (fin : ∀ (u v : V) (dk dv : D) (n : Nat) (H2 : Hp) (w3 : Wh), w3 p = some (.tmp n) → H2 p = some o0 → Rp K H2 w3 u dk → Rp K H2 w3 v dv → keyOk t dk = true →
      (∀ o, notTup o → Sty H2 w3 (upd H2 p o) w3 → Cn K (upd H2 p o) w3 p (mkDic t [(dk, dv)]) → Q (.ref p) (upd H2 p o)) → R u v H2) :
    teE K F ia σ (upd H p o0) fun u H1 => teE K F ib σ H1 fun v H2 => R u v H2 := by
  obtain ⟨n, w, μ, e, z, e', wf, er, ev, k⟩ := q
  unfold evE at ev
  obtain ⟨x, e1, h1, ev⟩ := Rs.bind_ok ev
  obtain ⟨y, e2, h2, ev⟩ := Rs.bind_ok ev
  split at ev
  · rename_i dk e3 f1
    split at ev
    · rename_i dv e4 f2
      split at ev
      · rename_i ps hps
        cases ev
        obtain ⟨hk, rfl⟩ := two_key (K := K) (H := H) (w := w) hps
        have s0 := own1_stp (o := o0) (n := n) wf hp
        have wf0 : Wf (upd H p o0) (own1 w p (.tmp n)) := own1_wf wf hnt
        refine two_in (n := n + 1) wf0 (er.mono s0 fun i z => by cases z) h1 h2 fun u v H2 w2 a2 an1 an2 => ?_
        obtain ⟨w3, s3, wf3, er3, r3⟩ := fzS (n := n + 1) (an1.s (Nat.le_refl (n + 1))) (drp_wf a2.wf) (drp_env a2.env) f1
        have a3 : Aft K (n + 1) μ σ e3 (upd H p o0) (own1 w p (.tmp n)) H2 w3 := ⟨(a2.stp.trans drp_stp).trans s3, wf3, er3⟩
        obtain ⟨w4, s4, wf4, er4, r4⟩ := fzS (n := n + 1) ((an2.s (Nat.le_succ (n + 1))).mono s3.sh) wf3 er3 f2
        have a4 : Aft K (n + 1) μ σ e' (upd H p o0) (own1 w p (.tmp n)) H2 w4 := ⟨a3.stp.trans s4, wf4, er4⟩
        have hw : w4 p = some (.tmp n) := (a4.stp.kp p (.tmp n) (Nat.lt_succ_self n)).mpr own1_at
        have hH : H2 p = some o0 := (a4.stp.kh p (.tmp n) (Nat.lt_succ_self n) own1_at).trans upd_same
        refine fin u v dk dv n H2 w4 hw hH (Rp.mono s4.sh r3) r4 hk fun o no sto cn => ?_
        have su : Stp (keepP n) H2 w4 (upd H2 p o) w4 := ⟨sto, fun _ _ _ => Iff.rfl, fun b l hl hb => upd_ne fun z => by
          rw [z, hw] at hb
          exact hl (Option.some.inj hb).symm⟩
        exact k _ _ w4 ⟨((s0.weak keepP.e).trans (a4.stp.weak (keepE.le (Nat.le_succ n)))).trans (su.weak keepP.e), a4.wf.put no, a4.env.mono su fun i z => by cases z⟩ ⟨p, rfl, hw, cn⟩
      · cases ev
    · cases ev
  · cases ev
theorem se_oneT (hu : X.A.units + 1 < cLine) (ha : PE X a (teE X.K F ia)) (hb : PE X b (teE X.K F ib)) : PE X (.Dict [some a] [b] pos) (teE X.K F (.dic1 true ia ib)) := by
  refine (pe_oneT hu ha hb).imp fun σ H Q q => ?_
  intro p hp
  refine dic1_in q (.dT []) trivial p hp (fun x y H2 => H2 p = some (.dT []) ∧ ∃ (b : Addr) (ks : List Key), x = .ref b ∧ H2 b = some (.tup (ks.map kV)) ∧ Q (.ref p) (upd H2 p (.dT [(ks, y)]))) fun u v dk dv n H2 w3 hw hH rk rv hk g => ?_
  unfold keyOk at hk
  rw [if_pos rfl] at hk
  cases dk <;> simp only at hk <;> first | (cases hk; done) | skip
  rename_i kk
  obtain ⟨ks, rfl⟩ := keys_of kk hk
  obtain ⟨bb, rfl, hbk⟩ := rr_tkey (.inl rk)
  exact ⟨hH, bb, ks, rfl, hbk, g _ trivial (sty_own hw) (.dt upd_same (.cons (Rp.mono (sty_own hw) rv) .nil))⟩
theorem se_oneK (ha : PE X a (teE X.K F ia)) (hb : PE X b (teE X.K F ib)) : PE X (.Dict [some a] [b] pos) (teE X.K F (.dic1 false ia ib)) := by
  refine (pe_disp (pps_cons ha hb pps_nil) rfl rfl (by intro z; cases z) (by show 1 ≤ 15; decide)).imp fun σ H Q q => ?_
  intro p hp
  refine dic1_in q (.dK []) trivial p hp (fun x y H2 => H2 p = some (.dK []) ∧ ∃ kvs : List (Key × V), [(x, y)] = kvs.map (fun kv => (kV kv.1, kv.2)) ∧ kvs.length ≤ 15 ∧ Q (.ref p) (upd H2 p (.dK (mergeK [] kvs)))) fun u v dk dv n H2 w3 hw hH rk rv hk g => ?_
  unfold keyOk at hk
  rw [if_neg Bool.false_ne_true] at hk
  obtain ⟨ks, e⟩ := keys_of [dk] (by simp [hk])
  cases ks with
  | nil => simp at e
  | cons kk kr =>
    simp only [List.map_cons, List.cons.injEq] at e
    obtain ⟨rfl, _⟩ := e
    obtain rfl := rr_key (.inl rk)
    exact ⟨hH, [(kk, v)], rfl, by show 1 ≤ 15; decide, g _ trivial (sty_own hw) (.dk upd_same (.cons (Rp.mono (sty_own hw) rv) .nil))⟩
/-! x op= y -/
def augOp : Pr → Operator → Bool
  | .add, .Add => true
  | .sub, .Sub => true
  | _, _ => false
theorem aug_of {p : Pr} {op : Operator} (h : augOp p op = true) : ∃ f : Int → Int → Int, PIp X op (ipI f) ∧ ∀ x y, prim p [.int x, .int y] = some (false, .int (f x y)) := by
  cases p <;> cases op <;> simp only [augOp] at h <;> first | cases h | skip
  · exact ⟨_, ip_add, fun _ _ => rfl⟩
  · exact ⟨_, ip_sub, fun _ _ => rfl⟩
theorem aug_int {p : Pr} {op : Operator} {x dy : D} {r : Int} (h : augOp p op = true) (hp : prim p [x, dy] = some (false, .int r)) : ∃ i j, x = .int i ∧ dy = .int j := by
  cases p <;> cases op <;> simp only [augOp] at h <;> first | (cases h; done) | skip
  all_goals (cases x <;> cases dy <;> simp only [prim, pAdd] at hp <;> first | (cases hp; done) | (exact ⟨_, _, rfl, rfl⟩) | (split at hp <;> cases hp))
theorem ss_aug {i : Nat} {x : Str} {p : Pr} {op : Operator} {pos' : Pos} (hop : augOp p op = true) (hN : X.N.Nodup) (hi : X.N[i]? = some x) (hx : Loc X.env.scope x) (ha : PE X a (teE X.K F ia)) (hf : X.fn x = true ∨ X.env.scope.names.lookup x = some .local) :
    PS X (.AugAssign (.Name x pos') op a pos) (tsS X.K F (.aug i p ia)) := by
  obtain ⟨f, f1, f2⟩ := aug_of (X := X) hop
  refine (ps_aug hN hi hx ha f1 hf).imp fun D σ H q => ?_
  obtain ⟨w, μ, e, wf, er, k⟩ := q
  simp only [evS] at k
  split at k
  · rename_i dx hs
    split at k
    · rename_i y e1 h1
      split at k
      · rename_i dy hy
        split at k
        · rename_i r hr
          split at k
          · rename_i e2 h2
            obtain ⟨v, g1, g2, _⟩ := er.at_ i _ _ hs
            obtain ⟨ii, jj, rfl, rfl⟩ := aug_int hop hr
            obtain rfl := Rr.int (.inl (show Rp X.K H w v (.int ii) from g2))
            rw [f2] at hr
            cases hr
            refine ⟨_, g1, 0, w, μ, e, y, e1, wf, er, h1, fun u H1 w1 a1 an => ?_⟩
            obtain rfl := (rd_rr (Nat.le_refl 0) an a1.env hy).int
            exact ⟨_, _, rfl, rfl, k _ H1 _ (a1.toS.put (f := false) (.int _) h2)⟩
          · exact k.elim
        · exact k.elim
      · exact k.elim
    · exact k.elim
    · exact k.elim
  · exact k.elim
def rGetL (K : PySem.W.Frag) : V → V → Hp → VK → Prop := fun o i H Q => ∃ (p : Addr) (xs : List V) (k : Int) (v : V), o = .ref p ∧ i = .int k ∧ SqL K H p xs ∧ 0 ≤ k ∧ xs[k.toNat]? = some v ∧ Q v H
theorem get_listL : PGet X (rGetL X.K) := by
  intro pins s σ H o i ov iv Q I ro ri h
  obtain ⟨p, xs, k, v, rfl, rfl, hq, h0, hv, q⟩ := h
  cases ro
  obtain ⟨t, rfl⟩ := ri
  obtain ⟨its, r, pl, hz⟩ := I.list hq
  obtain ⟨w, ew, rw'⟩ := r.get hv
  have hl := r.length
  have hn := line63
  have hlt := (List.getElem?_eq_some_iff.mp hv).1
  exact wpAny_getItem_list pl.isList h0 (by omega) (by simpa using ew) ⟨v, H, I, rw', q⟩
theorem gtI_ok {e : En} {i : Nat} {j x : Int} (h : gtI e i j = some x) : ∃ o xs, e[i]? = some (some ⟨o, .list xs⟩) ∧ o ≠ .sh ∧ 0 ≤ j ∧ xs[j.toNat]? = some (.int x) := by
  unfold gtI at h
  split at h
  · cases h
  · rename_i o xs hns hs
    split at h
    · rename_i h0
      split at h
      · rename_i hx
        cases h
        exact ⟨o, xs, hs, fun z => hns z, h0, hx⟩
      · cases h
    · cases h
  · cases h
theorem ptI_ok {e e' : En} {i : Nat} {j r : Int} (h : ptI e i j r = some e') : ∃ o xs, e[i]? = some (some ⟨o, .list xs⟩) ∧ o ≠ .sh ∧ 0 ≤ j ∧ j < xs.length ∧ e' = e.set i (some ⟨o, .list (xs.set j.toNat (.int r))⟩) := by
  unfold ptI at h
  split at h
  · cases h
  · rename_i o xs hns hs
    split at h
    · rename_i h0
      cases h
      exact ⟨o, xs, hs, fun z => hns z, h0.1, h0.2, rfl⟩
    · cases h
  · cases h
theorem ss_augi {i : Nat} {x : Str} {p : Pr} {op : Operator} (hop : augOp p op = true) (hx : PE X (.Name x p1) (tVar i)) (hk : PE X b (teE X.K F ib)) (ha : PE X a (teE X.K F ia))
    (hst : ∀ ov iv new, augStore b ov iv new = (do holding [new, ov, iv] (setItem ov iv new); release [new, ov, iv] []; pure .next)) : PS X (.AugAssign (.Subscript (.Name x p1) b p2) op a pos) (tsS X.K F (.augi i p ib ia)) := by
  obtain ⟨f, f1, f2⟩ := aug_of (X := X) hop
  refine (ps_augS hx hk get_listL ha f1 set_list hst).imp fun D σ H q => ?_
  obtain ⟨w, μ, e, wf, er, k⟩ := q
  simp only [evS] at k
  split at k
  · rename_i hown
    obtain ⟨o0, d0, hi0, ho0⟩ := isOwn_at hown
    obtain ⟨a0, hσ, _, _⟩ := own_at er hi0 ho0
    split at k
    · rename_i j e1 h1
      split at k
      · rename_i xv hg
        split at k
        · rename_i z e2 h2
          split at k
          · rename_i c hc
            split at k
            · rename_i r hr
              split at k
              · rename_i e3 hpt
                rw [f2] at hr
                cases hr
                refine ⟨_, hσ, 0, w, μ, e, _, e1, wf, er, h1, fun u H1 w1 a1 an1 => ?_⟩
                obtain rfl := Rr.int (.inl (show Rp X.K H1 w1 u (.int j) from an1))
                obtain ⟨o1, xs1, g1, g2, g3, g4⟩ := gtI_ok hg
                obtain ⟨b1, hσ1, hw1, c1⟩ := own_at a1.env g1 g2
                have eb : b1 = a0 := by
                  rw [hσ] at hσ1
                  injection hσ1 with q
                  injection q with q
                  injection q with q
                  exact q.symm
                subst eb
                cases c1 with
                | lst n1 r1 =>
                  obtain ⟨v1, hv1, rv1⟩ := r1.get g4
                  obtain rfl := Rr.int (.inl rv1)
                  refine ⟨b1, _, j, _, rfl, rfl, SqL.of n1, g3, hv1, ?_⟩
                  refine ⟨0, w1, μ, e1, z, e2, a1.wf, a1.env, h2, fun u2 H2 w2 a2 an2 => ?_⟩
                  have a3 := a1.trans a2 (Nat.le_refl 0)
                  obtain rfl := (rd_rr (Nat.le_refl 0) an2 a2.env hc).int
                  refine ⟨_, _, rfl, rfl, ?_⟩
                  obtain ⟨o2, xs2, p1, p2, p3, p4, rfl⟩ := ptI_ok hpt
                  obtain ⟨b2, hσ2, hw2, c2⟩ := own_at a3.env p1 p2
                  have eb2 : b2 = b1 := by
                    rw [hσ] at hσ2
                    injection hσ2 with q
                    injection q with q
                    injection q with q
                    exact q.symm
                  subst eb2
                  cases c2 with
                  | lst n2 r2 =>
                    have hl := r2.length
                    refine ⟨b2, _, j, j.toNat, rfl, rfl, n2, ?_, ?_⟩
                    · unfold ixN
                      rw [if_pos p3, if_pos (by omega)]
                    · exact k σ _ w2 (a3.own p1 p2 hσ hw2 _ (.lst upd_same ((r2.mono (sty_own hw2)).set _ (.int _)))).toS
              · exact k.elim
            · exact k.elim
          · exact k.elim
        · exact k.elim
        · exact k.elim
      · exact k.elim
    · exact k.elim
    · exact k.elim
    · exact k.elim
  · exact k.elim
theorem ss_mov {i j : Nat} {x y : Str} {px py : Pos} (hN : X.N.Nodup) (hi : X.N[i]? = some x) (hx : Loc X.env.scope x) (hf : X.fn x = true ∨ X.env.scope.names.lookup x = some .local) (hy : PE X (.Name y py) (tVar j)) (hs : swapsWith (.Name y py) (some (.Name x px)) pos.line X.env = pure false) :
    PS X (.Assign [.Name x px] (.Name y py) pos) (tsS X.K F (.mov i j)) := by
  refine (ps_set hN hi hx hy hs hf).imp fun D σ H q => ?_
  obtain ⟨w, μ, e, wf, er, k⟩ := q
  simp only [evS] at k
  split at k
  · rename_i d hj
    split at k
    · rename_i e2 h2
      obtain ⟨v, h1, _, _⟩ := er.at_ j _ _ hj
      obtain ⟨w2, a2, an2⟩ := ret_pl (AftS.refl wf er) h1 hj
      exact ⟨v, h1, k _ H _ (a2.put (f := true) an2 h2)⟩
    · exact k.elim
  · exact k.elim
theorem ss_par3 {a b c : Expr} {ia ib ic : IE} {i j l : Nat} {x y z : Str} {px py pz pt : Pos} {kt k2 : Nat} {pt2 : Pos} (hc : X.calm = true) (hN : X.N.Nodup) (hi : X.N[i]? = some x) (hj : X.N[j]? = some y) (hl : X.N[l]? = some z) (hij : i ≠ j) (hil : i ≠ l) (hjl : j ≠ l)
    (hx : X.env.scope.names.lookup x = some .local) (hy : X.env.scope.names.lookup y = some .local) (hz : X.env.scope.names.lookup z = some .local) (ha : PA X [a, b, c] (teA X.K F [ia, ib, ic]))
    (hw : swappedStores [.Tuple [.Name x px, .Name y py, .Name z pz] kt pt] (.Tuple [a, b, c] k2 pt2) X.env = pure (some [x, y, z]))
    (hs : swapsWithSole [.Tuple [.Name x px, .Name y py, .Name z pz] kt pt] (.Tuple [a, b, c] k2 pt2) pos.line X.env = pure false) :
    PS X (.Assign [.Tuple [.Name x px, .Name y py, .Name z pz] kt pt] (.Tuple [a, b, c] k2 pt2) pos) (tsS X.K F (.par3 i j l ia ib ic)) := by
  refine (ps_par3 hc hN hi hj hl hij hil hjl hx hy hz ha hw hs).imp fun D σ H q => ?_
  obtain ⟨w, μ, e, wf, er, k⟩ := q
  simp only [evS] at k
  split at k
  · rename_i xs e1 h1
    split at k
    · rename_i d1 d2 d3 e2 h2
      split at k
      · rename_i e3 h3
        refine ⟨0, w, μ, e, xs, e1, wf, er, h1, fun vs H1 w1 a1 an => ?_⟩
        obtain ⟨w2, a2, r⟩ := a1.fzs an (Nat.le_refl 0) h2
        cases r with
        | cons r1 r =>
          cases r with
          | cons r2 r =>
            cases r with
            | cons r3 r =>
              cases r
              have h := stNs_ok (is := [i, j, l]) (Q := fun σ' H' => D.nx σ' H') a2.toS (.cons r1 (.cons r2 (.cons r3 .nil))) h3 fun σ' w' a3 => k σ' H1 w' a3
              obtain ⟨v1, r1, e1, h⟩ := h
              cases e1
              obtain ⟨v2, r2, e2, h⟩ := h
              cases e2
              obtain ⟨v3, r3, e3, h⟩ := h
              cases e3
              exact ⟨_, _, _, rfl, h.2⟩
      · exact k.elim
    · exact k.elim
  · exact k.elim
  · exact k.elim
theorem se_lset {a : Expr} {ia : IE} {p1 p2 p3 : Pos} (hc : X.calm = true) (hg : Gl X "len") (hm : X.mg "len" = none) (hg2 : Gl X "set") (hm2 : X.mg "set" = none) (ha : PE X a (teE X.K F ia)) (na : starEach [a] X.env = (false, eval a X.env) :: starEach [] X.env) :
    PE X (.Call (.Name "len" p1) [.Call (.Name "set" p2) [a] [] p3] [] pos) (teE X.K F (.lset ia)) := by
  refine (RZ.pe_lenSetI hg hm hg2 hm2 ha hc na).imp fun σ H Q q => ?_
  obtain ⟨n, w, μ, e, z, e', wf, er, ev, k⟩ := q
  unfold evE at ev
  obtain ⟨x, e1, h1, ev⟩ := Rs.bind_ok ev
  refine ⟨n, w, μ, e, x, e1, wf, er, h1, fun v H1 w1 a1 an => ?_⟩
  split at ev
  · rename_i ds hds
    split at ev
    · rename_i ns hns
      split at ev
      · rename_i hok
        cases ev
        obtain ⟨p, xs, rfl, s, r⟩ := (rd_rr (Nat.le_refl n) an a1.env hds).list
        rw [ints_of r hns] at s
        exact ⟨p, ns, rfl, s, hok.1, hok.2, k _ H1 w1 a1 (.int _)⟩
      · cases ev
    · cases ev
  · cases ev
end
end PD

/-! PD6g: turned about by a slice. -/
namespace PD
open PySem PySem.Spec PyProof.Rows L2
section
variable {prog : Program} {w : World} {A : Around} {E : Value → Shared → Prop} {s : Shared}
theorem sliceApplied_rev {sl : Addr} {n : Nat} {t : Tok} {Q : Int × Int × Nat → Shared → Prop} (hs : s.heap.IsSliceOf sl .none .none (.int (-1) t))
    (h : Q ((n : Int) - 1, -1, n) s) : wpAny (model prog w) A (Builtin.Slice.sliceApplied (.ref sl) (pure (n : Int))) Q E s := by
  obtain ⟨os, hos, hcs, hds⟩ := id hs
  unfold Builtin.Slice.sliceApplied Builtin.Slice.sliceFields
  refine wpAny_bind (wpAny_bind (wpAny_field hos hds (x := .none) rfl (wpAny_bind (wpAny_field hos hds (x := .none) rfl (wpAny_bind (wpAny_field hos hds (x := .int (-1) t) rfl (wpAny_pure ?_)))))))
  refine wpAny_bind (HT.slicePart_ (.int (-1) t) ?_)
  show wpAny _ _ (if ((-1 : Int) == 0) = true then _ else _) _ _ s
  rw [if_neg (by decide)]
  refine wpAny_bind (HT.slicePart_ .none (wpAny_bind (HT.slicePart_ .none (wpAny_bind (wpAny_pure ?_)))))
  show wpAny _ _ (match Builtin.Slice.sliceAdjust none none (-1) (n : Int) with | (lo, hi) => pure (lo, (-1 : Int), Builtin.Slice.slicePlaces lo hi (-1))) _ _ s
  have e : Builtin.Slice.sliceAdjust none none (-1) (n : Int) = ((n : Int) - 1, -1) := by
    unfold Builtin.Slice.sliceAdjust
    rfl
  rw [e]
  show wpAny _ _ (pure ((n : Int) - 1, (-1 : Int), Builtin.Slice.slicePlaces ((n : Int) - 1) (-1) (-1))) _ _ s
  have e2 : Builtin.Slice.slicePlaces ((n : Int) - 1) (-1) (-1) = n := by
    unfold Builtin.Slice.slicePlaces
    rw [if_neg (by decide)]
    show (if (n : Int) - 1 > -1 then ((n : Int) - 1 - -1 - 1) / 1 + 1 else 0).toNat = n
    rw [Int.ediv_one]
    split <;> omega
  rw [e2]
  exact wpAny_pure h
theorem pick_rev (xs : Array Value) : ((List.range xs.size).filterMap fun (m : Nat) => xs[(((xs.size : Int) - 1) + (m : Int) * (-1)).toNat]?) = xs.toList.reverse := by
  have key : ∀ k : Nat, k ≤ xs.size → ((List.range k).filterMap fun (m : Nat) => xs[(((xs.size : Int) - 1) + (m : Int) * (-1)).toNat]?) = xs.toList.reverse.take k := by
    intro k
    induction k with
    | zero => intro _; rfl
    | succ k ih =>
      intro h
      rw [List.range_succ, List.filterMap_append, ih (by omega), List.take_succ]
      congr 1
      have e : (((xs.size : Int) - 1) + (k : Int) * (-1)).toNat = xs.size - 1 - k := by omega
      have e3 : xs.toList.reverse[k]? = xs[xs.size - 1 - k]? := by
        rw [List.getElem?_reverse (by rw [Array.length_toList]; omega), Array.length_toList, Array.getElem?_toList]
      show List.filterMap _ [k] = _
      rw [e3]
      simp only [List.filterMap_cons, List.filterMap_nil, e]
      cases xs[xs.size - 1 - k]? <;> rfl
  rw [key _ (Nat.le_refl _)]
  exact List.take_of_length_le (by simp)
theorem getItem_tuple_rev {t sl : Addr} {items : Array Value} {u : Tok} {Q : Value → Shared → Prop} (ht : IsTup s.heap t items) (hs : s.heap.IsSliceOf sl .none .none (.int (-1) u))
    (h : Q (.ref s.heap.objs.size) { s with heap := s.heap.push { cls := .type "tuple", data := .seq items.toList.reverse.toArray } })
    (hsz : items.size ≤ sizeLine) : wpAny (model prog w) A (getItem (.ref t) (.ref sl)) Q E s := by
  have htake : sizeOk (.seq items.toList.reverse.toArray) := by
    show items.toList.reverse.toArray.size ≤ sizeLine
    rw [List.size_toArray, List.length_reverse, Array.length_toList]
    omega
  obtain ⟨os, hos, hcs, hds⟩ := id hs
  have hTs : s.TypeIs (.ref sl) "slice" := ⟨os, hos, hcs⟩
  unfold getItem
  try with_reducible refine wpAny_holding ?_
  first | refine wpAny_bind (wpAny_pure ?_) | skip
  refine wpAny_bind (wpAny_sequenceKey ht.typeIs (by decide) ?_)
  refine wpAny_bind (wpAny_callSpecial?_slot (name := Str.ofString "__getitem__") ht.typeIs PyProof.Rows.slot_tuple_getitem
    (wpAny_call_entry PyProof.Rows.slot_tuple_getitem ht.typeIs entry_tuple_getitem ?_ (args_tuple_getitem _ _)))
  show wpAny _ _ (Builtin.Tuple.tupleItemsOf (.ref t) >>= _) _ _ s
  refine wpAny_bind (tupleItemsOf_ ht ?_)
  refine wpAny_bind (wpAny_typeOf hTs ?_)
  rw [if_pos (by decide)]
  refine wpAny_bind (sliceApplied_rev hs ?_)
  have hno : ¬ ((((items.size : Int) - 1) == 0 && (-1 : Int) == 1 && items.size == items.size) = true) := by
    intro q
    rw [Bool.and_eq_true, Bool.and_eq_true] at q
    exact absurd q.1.2 (by decide)
  show wpAny _ _ (if (((items.size : Int) - 1) == 0 && (-1 : Int) == 1 && items.size == items.size) = true then _ else _) _ _ s
  rw [if_neg hno, pick_rev]
  first
    | exact wpAny_bind (m := Builtin.Tuple.tupleExact _) (wpAny_newObj_type (wpAny_pure ⟨_, rfl, wpAny_pure h⟩) htake)
    | exact wpAny_bind (m := Builtin.Tuple.tupleExact _) (wpAny_newObj_type (wpAny_bind (wpAny_pure (wpAny_pure ⟨_, rfl, wpAny_pure h⟩))) htake)
    | exact wpAny_bind (wpAny_bind (m := Builtin.Tuple.tupleExact _) (wpAny_newObj_type (wpAny_pure (wpAny_pure ⟨_, rfl, wpAny_pure h⟩)) htake))
    | exact wpAny_bind (wpAny_bind (m := Builtin.Tuple.tupleExact _) (wpAny_newObj_type (wpAny_pure ⟨_, rfl, wpAny_pure h⟩) htake))
end
section
variable {X : Cx}
def rRev (K : PySem.W.Frag) : V → Hp → VK → Prop := fun x H Q => ∃ a xs, x = .ref a ∧ ((SqL K H a xs ∧ ∀ p, H p = none → Q (.ref p) (upd H p (.lst xs.reverse))) ∨ (SqT K H a xs ∧ ∀ p, H p = none → Q (.ref p) (upd H p (.tup xs.reverse))))
theorem pe_rev {e : Expr} {te : TE} {k : Nat} {p1 p2 p3 pos : Pos} (he : PE X e te) : PE X (.Subscript e (.Slice none none (some (.UnaryOp .USub (.Constant (.int 1) k p1) p2)) p3) pos) (fun σ H Q => te σ H fun x H1 => rRev X.K x H1 Q) := by
  refine ⟨fun pins s σ H Q I h => ?_⟩
  refine Subscript_ (thn (he.run pins s σ H _ I h) fun v s1 ⟨x, H1, I1, r1, q1⟩ => ?_)
  obtain ⟨a, xs, ex, hx⟩ := q1
  subst ex
  cases r1
  have hst : PO X (some (.UnaryOp .USub (.Constant (.int 1) k p1) p2)) (tPart (tUn (rU fun i => .int (-i)) (tC (.int 1)))) := po_some (pe_un un_neg pe_int)
  refine wpAny_Slice (thn (po_none.run pins s1 σ H1 (fun o H2 => o = none ∧ H2 = H1) I1 ⟨rfl, rfl⟩) fun vl s2 ⟨l, H2, I2, pl, el, e2⟩ => ?_)
  subst el e2
  refine thn (po_none.run pins s2 σ H2 (fun o H3 => o = none ∧ H3 = H2) I2 ⟨rfl, rfl⟩) fun vu s3 ⟨u, H3, I3, pu, eu, e3⟩ => ?_
  subst eu e3
  refine thn (hst.run pins s3 σ H3 (fun o H4 => o = some (-1) ∧ H4 = H3) I3 ⟨1, rfl, -1, rfl, rfl, rfl⟩) fun vs s4 ⟨o, H4, I4, ps, eo, e4⟩ => ?_
  subst eo e4
  have I5 : Inv X pins σ H4 { s4 with heap := s4.heap.push { cls := .type "slice", data := .fields #[vl, vu, vs] } } := I4.kept (t' := s4.toks) fun b ob q => Heap.get?_push_of_some _ q
  show wpAny (model X.prog X.w) X.A (subscriptTail e (.Slice none none (some (.UnaryOp .USub (.Constant (.int 1) k p1) p2)) p3) (.ref a) (.ref s4.heap.objs.size)) (EP X pins σ Q) X.xe { s4 with heap := s4.heap.push { cls := .type "slice", data := .fields #[vl, vu, vs] } }
  rcases hx with ⟨hx, q⟩ | ⟨hx, q⟩
  · obtain ⟨its, r, ht, hz⟩ := I5.list hx
    have hlen := r.length
    refine tail_any (ops := [.ref a, .ref s4.heap.objs.size]) ht.isList.typeIs (PySem.slot_list_getitem.lookup) ?_ (by with_unfolding_all rfl)
    refine wpAny_getItem_list_slice ht.isList (Heap.IsSliceOf.new _ vl vu vs) pl pu ps (by decide) ?_ (by rw [List.size_toArray]; omega)
    rw [PySem.W.krv_pick]
    refine ⟨.ref _, _, I5.laid (t' := s4.toks) (o := .lst xs.reverse) (fun b ob q => Heap.get?_push_of_some _ q) (Nat.le_refl _) ?_, rfl, q _ (I5.hok.fresh (Nat.le_refl _))⟩
    exact ⟨by rw [List.length_reverse]; exact hz, _, 0, r.reverse, Heap.get?_push_size _ rfl⟩
  · obtain ⟨its, r, ht, hz⟩ := I5.tuple hx
    have hlen := r.length
    cases pl
    cases pu
    cases ps
    refine tail_any (ops := [.ref a, .ref s4.heap.objs.size]) ht.typeIs (PyProof.Rows.slot_tuple_getitem.lookup) ?_ (by with_unfolding_all rfl)
    refine getItem_tuple_rev ht (Heap.IsSliceOf.new ..) ?_ (by rw [List.size_toArray]; omega)
    refine ⟨.ref _, _, I5.laid (t' := s4.toks) (o := .tup xs.reverse) (fun b ob q => Heap.get?_push_of_some _ q) (Nat.le_refl _) ?_, rfl, q _ (I5.hok.fresh (Nat.le_refl _))⟩
    exact ⟨by rw [List.length_reverse]; exact hz, _, r.reverse, IsTup.new _ _⟩
variable {F : List Fn} {a : Expr} {ia : IE}
theorem se_rev {k : Nat} {p1 p2 p3 pos : Pos} (ha : PE X a (teE X.K F ia)) : PE X (.Subscript a (.Slice none none (some (.UnaryOp .USub (.Constant (.int 1) k p1) p2)) p3) pos) (teE X.K F (.un .rev ia)) := by
  refine (pe_rev ha).imp fun σ H Q q => ?_
  obtain ⟨n, w, μ, e, z, e', wf, er, ev, k⟩ := q
  unfold evE at ev
  obtain ⟨x, e1, h1, h3⟩ := Rs.bind_ok ev
  obtain ⟨ds, f, d, h4, h5, rfl, rfl⟩ := prA_ok h3
  obtain ⟨dx, hx, rfl⟩ := rd1 h4
  refine ⟨n, w, μ, e, x, e', wf, er, h1, fun v H1 w1 a1 an1 => ?_⟩
  have hr := rd_rr (Nat.le_refl n) an1 a1.env hx
  have g := pgo_fin a1 k
  cases dx <;> simp only [prim] at h5 <;> first | cases h5 | skip
  · obtain ⟨p, xs, rfl, s, r⟩ := hr.list
    exact ⟨p, xs, rfl, .inl ⟨s, g.lst (drp_wf a1.wf) r.reverse⟩⟩
  · obtain ⟨p, xs, rfl, s, r, rp⟩ := hr.tup
    exact ⟨p, xs, rfl, .inr ⟨s, g.tup (drp_wf a1.wf) r.reverse⟩⟩
end
end PD

/-! PD11: the look whether a piece of syntax is what a term of the pure language says. -/
namespace PD
open PySem PySem.Spec PyProof.Rows L2
/-- what a def leans on: its names by slot, the defs it calls (with what may fill up its arguments), the built-ins, the module's constants -/
structure Ck where
  N : List Str
  L : List (Str × List (List D))
  B : List Str
  G : List (Str × D)
def visB (sc : Scope) (x : Str) : Bool := match sc.names.lookup x with
  | some .local => true
  | some .cell => true
  | some .free => true
  | _ => false
/-- a name that may be stored; b: also one that inner blocks read -/
def locB (b : Bool) (sc : Scope) (x : Str) : Bool := match sc.names.lookup x with
  | some .local => true
  | some .cell => b
  | _ => false
def glB (sc : Scope) (x : Str) : Bool := match sc.names.lookup x with
  | some .globalImplicit => true
  | _ => false
def relab (scope sc : Scope) : Scope := { scope with names := scope.names.map fun (n, k) => if (k == NameKind.free && sc.kind == .function && sc.names.lookup n == some .cell) then (n, NameKind.cell) else (n, k) }
def plainName (x : Str) : Bool := (x == ("__debug__" : Str)) == false && (x == ("__classdict__" : Str)) == false && !(decide (x = ("__name__" : Str)))
def isStar : Expr → Bool
  | .Starred .. => true
  | _ => false
def isSet : Expr → Bool
  | .Set .. => true
  | _ => false
def isTup : Expr → Bool
  | .Tuple .. => true
  | _ => false
def isSlice : Expr → Bool
  | .Slice .. => true
  | _ => false
def isComp : Expr → Bool
  | .ListComp .. => true
  | .SetComp .. => true
  | .DictComp .. => true
  | _ => false
/-- no form whose test is another one than its value's truth -/
def isTst : Expr → Bool
  | .UnaryOp .. => true
  | .BoolOp .. => true
  | .IfExp .. => true
  | .Compare .. => true
  | _ => false
def opB : Pr → Operator → Bool
  | .add, .Add => true
  | .sub, .Sub => true
  | .mul, .Mult => true
  | .mod, .Mod => true
  | .fdiv, .FloorDiv => true
  | .pow, .Pow => true
  | _, _ => false
def cmB : Pr → CmpOp → Bool
  | .eq, .Eq => true
  | .ne, .NotEq => true
  | .lt, .Lt => true
  | .le, .LtE => true
  | .gt, .Gt => true
  | .ge, .GtE => true
  | .isin, .In => true
  | .notin, .NotIn => true
  | .isN, .Is => true
  | .notN, .IsNot => true
  | .isB, .Is => true
  | .notB, .IsNot => true
  | _, _ => false
def fnS : Pr → Option Str
  | .len => some "len"
  | .abs => some "abs"
  | .min2 => some "min"
  | .max2 => some "max"
  | .tuple => some "tuple"
  | .list => some "list"
  | .all => some "all"
  | .int => some "int"
  | .sorted => some "sorted"
  | .str => some "str"
  | .minL => some "min"
  | .maxL => some "max"
  | .sumL => some "sum"
  | .any => some "any"
  | .dictK => some "dict"
  | .dictT => some "dict"
  | _ => none
def mrS : Pr → Option Str
  | .get1 => some "get"
  | .get2 => some "get"
  | .index => some "index"
  | .count => some "count"
  | _ => none
def mtS : Mt → Option Str
  | .append => some "append"
  | .extend => some "extend"
  | .pop0 => some "pop"
  | .popA => some "pop"
  | .reverse => some "reverse"
  | .clear => some "clear"
  | .insert => some "insert"
  | .remove => some "remove"
def litB : D → Const → Bool
  | .none, .none => true
  | .bool a, .bool b => a == b
  | .int a, .int b => a == b
  | .str a, .str b => a == b
  | _, _ => false
def litEq : D → D → Bool
  | .none, .none => true
  | .bool a, .bool b => a == b
  | .int a, .int b => a == b
  | .str a, .str b => a == b
  | _, _ => false
def litsEq : List D → List D → Bool
  | [], [] => true
  | x :: xs, y :: ys => litEq x y && litsEq xs ys
  | _, _ => false
def Mt.zero : Mt → Bool
  | .pop0 => true
  | .reverse => true
  | .clear => true
  | _ => false
/-- written keys -/
def keysB : List D → List (Option Expr) → Bool
  | [], [] => true
  | .int i :: ks, some (.Constant (.int j) _ _) :: es => decide (i = j) && keysB ks es
  | .str i :: ks, some (.Constant (.str j) _ _) :: es => decide (i = j) && keysB ks es
  | _, _ => false
def nmB (C : Ck) (sc : Scope) (i : Nat) (x : Str) : Bool := decide (C.N[i]? = some x) && visB sc x && plainName x
def tgB (C : Ck) (b : Bool) (sc : Scope) (i : Nat) : Expr → Bool
  | .Name x _ => decide (C.N[i]? = some x) && locB b sc x
  | _ => false
def tgsB (C : Ck) (b : Bool) (sc : Scope) : List Nat → List Expr → Bool
  | [], [] => true
  | i :: is, e :: es => tgB C b sc i e && tgsB C b sc is es
  | _, _ => false
def ptB (C : Ck) (b : Bool) (sc : Scope) : Pt → Expr → Bool
  | .nm i, e => tgB C b sc i e
  | .tp is, .Tuple es _ _ => tgsB C b sc is es
  | .tp _, _ => false
/-- targets of a comprehension, by its own scope -/
def tgBc (C : Ck) (scope : Scope) (i : Nat) : Expr → Bool
  | .Name x _ => decide (C.N[i]? = some x) && (scope.names.lookup x == some .local || scope.names.lookup x == some .cell)
  | _ => false
def tgsBc (C : Ck) (scope : Scope) : List Nat → List Expr → Bool
  | [], [] => true
  | i :: is, e :: es => tgBc C scope i e && tgsBc C scope is es
  | _, _ => false
def ptBc (C : Ck) (scope : Scope) : Pt → Expr → Bool
  | .nm i, e => tgBc C scope i e
  | .tp is, .Tuple es _ _ => tgsBc C scope is es
  | .tp _, _ => false
def ptInB (own : List Nat) : Pt → Bool
  | .nm i => own.contains i
  | .tp is => is.all own.contains
def ownL (C : Ck) (own : List Nat) : List (Str × Nat) := own.map fun i => (C.N.getD i "", i)
def gB (C : Ck) (sc : Scope) (x : Str) : Bool := C.B.contains x && glB sc x && plainName x
/-- a place of one's own that is walked -/
def ckK (C : Ck) (sc : Scope) (en : Bool) (i : Nat) : Expr → Expr → Bool
  | .Name x _, _ => !en && nmB C sc i x
  | .Call (.Name x _) [.Name y _] [] _, tg => en && isTup tg && decide (x = "enumerate") && gB C sc x && nmB C sc i y
  | _, _ => false
/-- o.m(xs), o a name -/
def vAttr : Expr → Option (Str × Pos × Str × Pos × List Expr × Pos)
  | .Call (.Attribute (.Name x p1) nm apos) xs [] cpos => some (x, p1, nm, apos, xs, cpos)
  | _ => none
theorem vAttr_ok {e : Expr} {x : Str} {p1 : Pos} {nm : Str} {apos : Pos} {xs : List Expr} {cpos : Pos} (h : vAttr e = some (x, p1, nm, apos, xs, cpos)) : e = .Call (.Attribute (.Name x p1) nm apos) xs [] cpos := by
  unfold vAttr at h
  split at h
  · cases h
    rfl
  · cases h
def vLset : Expr → Option (Str × Str × Expr × Pos × Pos × Pos × Pos)
  | .Call (.Name x p1) [.Call (.Name y p2) [e] [] p3] [] p4 => some (x, y, e, p1, p2, p3, p4)
  | _ => none
theorem vLset_ok {e e1 : Expr} {x y : Str} {p1 p2 p3 p4 : Pos} (h : vLset e = some (x, y, e1, p1, p2, p3, p4)) : e = .Call (.Name x p1) [.Call (.Name y p2) [e1] [] p3] [] p4 := by
  unfold vLset at h
  split at h
  · cases h
    rfl
  · cases h
def vDic1 : Expr → Option (Expr × Expr × Pos)
  | .Dict [some k] [v] p => some (k, v, p)
  | _ => none
theorem vDic1_ok {e k v : Expr} {p : Pos} (h : vDic1 e = some (k, v, p)) : e = .Dict [some k] [v] p := by
  unfold vDic1 at h
  split at h
  · cases h
    rfl
  · cases h
mutual
def ckE (C : Ck) (sc : Scope) : IE → Expr → Bool
  | .var i, .Name x _ => nmB C sc i x
  | .lit d, .Constant c _ _ => litB d c
  | .gl x d, .Name y _ => decide (x = y) && C.G.any (fun p => decide (p.1 = x) && litEq p.2 d) && glB sc x && plainName x
  | .un .neg a, .UnaryOp .USub x _ => ckE C sc a x
  | .un .rev a, .Subscript x (.Slice none none (some (.UnaryOp .USub (.Constant (.int j) _ _) _)) _) _ => decide (j = 1) && ckE C sc a x
  | .bi p a b, .BinOp x op y _ => opB p op && ckE C sc a x && ckE C sc b y
  | .cm p a b, .Compare x [op] [y] _ => cmB p op && ckE C sc a x && ckE C sc b y && !isSet y
  | .chn p q a b c, .Compare x [op, op2] [y, z] _ => cmB p op && cmB q op2 && ckE C sc a x && ckE C sc b y && ckE C sc c z && !isSet y && !isSet z
  | .and es, .BoolOp .And xs _ => ckEs C sc es xs && !xs.isEmpty
  | .or es, .BoolOp .Or xs _ => ckEs C sc es xs && !xs.isEmpty
  | .not a, .UnaryOp .Not x _ => ckE C sc a x
  | .ite c a b, .IfExp t x y _ => ckT C sc c t && ckE C sc a x && ckE C sc b y
  | .tup es, .Tuple xs _ _ => ckEs C sc es xs
  | .lst es, .List xs _ => ckEs C sc es xs
  | .dic ks vs, .Dict kes ves _ => keysB ks kes && ckEs C sc vs ves && decide (kes.length ≤ 15) && decide (ks.length = vs.length) && !kes.isEmpty
  | .dnew _, .Dict [] [] _ => true
  | .ix a b, .Subscript x y _ => ckE C sc a x && ckE C sc b y && !isSlice y
  | .sl a lo hi, .Subscript x (.Slice l h none _) _ => ckE C sc a x && ckO C sc lo l && ckO C sc hi h
  | .fn p es, .Call (.Name x _) xs [] _ => decide (fnS p = some x) && gB C sc x && ckEs C sc es xs && !xs.isEmpty
  | .isI k a, .Call (.Name x _) [e, .Name y _] [] _ => decide (x = "isinstance") && gB C sc x && decide (y = (kdTy k : Str)) && gB C sc y && ckE C sc a e && !isStar e
  | .call i es dv, .Call (.Name x _) xs [] _ => (match C.L[i]? with
      | some p => decide (p.1 = x) && p.2.any (fun l => litsEq l dv)
      | none => false) && glB sc x && plainName x && ckEs C sc es xs
  | .callT i es dv, .Call (.Name x _) xs [] _ => (match C.L[i]? with
      | some p => decide (p.1 = x) && p.2.any (fun l => litsEq l dv)
      | none => false) && glB sc x && plainName x && ckEs C sc es xs && !xs.isEmpty
  | .orT a b, .BoolOp .Or [x, y] _ => ckE C sc a x && ckE C sc b y
  | .rgl t a, .Call (.Name x _) [.Call (.Name y _) [e] [] _] [] _ => decide (x = if t = true then "list" else "tuple") && gB C sc x && decide (y = "range") && gB C sc y && ckE C sc a e && !isStar e
  | .sls a lo st, .Subscript x (.Slice l none (some z) _) _ => ckE C sc a x && ckO C sc lo l && ckE C sc st z
  | .sset a, .Call (.Name x _) [.Call (.Name y _) [e] [] _] [] _ => decide (x = "sorted") && gB C sc x && decide (y = "set") && gB C sc y && ckE C sc a e && !isStar e
  | .mt m i es, .Call (.Attribute (.Name x _) nm apos) xs [] cpos => nmB C sc i x && decide (mtS m = some nm) && (apos.endLine == cpos.line) && ckEs C sc es xs && decide (xs.length < 20) && (m.zero == xs.isEmpty)
  | .comp el pt src cs own, .ListComp e [⟨tg, iter, ifs, 0⟩] scope _ => ckI C sc src iter tg && ptBc C scope pt tg && ckTs C (relab scope sc) cs ifs && decide (cs.length ≤ 1) && ckE C (relab scope sc) el e && blkC C.N sc scope (ownL C own) && ptInB own pt && !isSet iter
  | .bad, _ => true
  | .mr p i es, e => match vAttr e with
    | some (x, _, nm, apos, xs, cpos) => nmB C sc i x && decide (mrS p = some nm) && (apos.endLine == cpos.line) && ckEs C sc es xs && decide (xs.length < 20) && !xs.isEmpty
    | none => false
  | .dic1 _ k v, e => match vDic1 e with
    | some (ke, ve, _) => ckE C sc k ke && ckE C sc v ve
    | none => false
  | .lset a, e => match vLset e with
    | some (x, y, e, _, _, _, _) => decide (x = "len") && gB C sc x && decide (y = "set") && gB C sc y && ckE C sc a e && !isStar e
    | none => false
  | .join x a, .Call (.Attribute (.Constant (.str y) _ _) nm apos) [e] [] cpos => decide (x = y) && decide (nm = "join") && (apos.endLine == cpos.line) && ckE C sc a e && !isStar e
  | .compk el pt en i cs own, .ListComp e [⟨tg, iter, ifs, 0⟩] scope _ => ckK C sc en i iter tg && ptBc C scope pt tg && ckTs C (relab scope sc) cs ifs && decide (cs.length ≤ 1) && ckE C (relab scope sc) el e && blkC C.N sc scope (ownL C own) && ptInB own pt && !isSet iter
  | _, _ => false
def ckEs (C : Ck) (sc : Scope) : List IE → List Expr → Bool
  | [], [] => true
  | a :: as, x :: xs => ckE C sc a x && !isStar x && ckEs C sc as xs
  | _, _ => false
def ckO (C : Ck) (sc : Scope) : Option IE → Option Expr → Bool
  | none, none => true
  | some a, some x => ckE C sc a x
  | _, _ => false
def ckT (C : Ck) (sc : Scope) : IT → Expr → Bool
  | .v a, x => ckE C sc a x && !isTst x
  | .cm p a b, .Compare x [op] [y] _ => cmB p op && ckE C sc a x && ckE C sc b y && !isSet y
  | .chn p q a b c, .Compare x [op, op2] [y, z] _ => cmB p op && cmB q op2 && ckE C sc a x && ckE C sc b y && ckE C sc c z && !isSet y && !isSet z
  | .not t, .UnaryOp .Not x _ => ckT C sc t x
  | .and ts, .BoolOp .And xs _ => ckTs C sc ts xs && !xs.isEmpty
  | .or ts, .BoolOp .Or xs _ => ckTs C sc ts xs && !xs.isEmpty
  | _, _ => false
def ckTs (C : Ck) (sc : Scope) : List IT → List Expr → Bool
  | [], [] => true
  | t :: ts, x :: xs => ckT C sc t x && ckTs C sc ts xs
  | _, _ => false
def ckI (C : Ck) (sc : Scope) : Sr → Expr → Expr → Bool
  | .seq a, x, _ => ckE C sc a x
  | .rng a, .Call (.Name x _) [e] [] _, _ => decide (x = "range") && gB C sc x && ckE C sc a e && !isStar e
  | .rng2 a b, .Call (.Name x _) [e, f] [] _, _ => decide (x = "range") && gB C sc x && ckE C sc a e && ckE C sc b f && !isStar e && !isStar f
  | .enum a, .Call (.Name x _) [e] [] _, tg => isTup tg && decide (x = "enumerate") && gB C sc x && ckE C sc a e && !isStar e
  | .zip a b, .Call (.Name x _) [e, f] [] _, tg => isTup tg && decide (x = "zip") && gB C sc x && ckE C sc a e && ckE C sc b f && !isStar e && !isStar f
  | _, _, _ => false
end
end PD

/-! PD12: the look is right, for expressions. -/
namespace PD
open PySem PySem.Spec PyProof.Rows L2
structure Gd (C : Ck) (F : List Fn) (X : Cx) : Prop where
  hN : X.N = C.N
  nd : X.N.Nodup
  calm : X.calm = true
  hu : X.A.units + 130 < cLine
  blt : ∀ x ∈ C.B, X.mg x = none
  glb : ∀ p : Str × D, p ∈ C.G → ∃ u v, X.mg p.1 = some u ∧ litV p.2 = some v ∧ RelV v u
  lnk : ∀ (i : Nat) (p : Str × List (List D)), C.L[i]? = some p → ∃ fn, F[i]? = some fn ∧ ∃ (k : Nat) (f : Addr) (fd : FuncData) (ps : List Str), Room k X.A ∧ FnOk X.prog X.w X.K X.mg X.base CX0 k f fd ps (spF X.K fn) ∧ X.mg p.1 = some (.ref f) ∧ PySem.W.keepIn X.K (.ref f) = true ∧
    ∀ dv ∈ p.2, ∃ dvs ds, Paired (fun v d => litV d = some v) dvs dv ∧ Binds X.K fd ps ds ∧ Vals dvs ds
structure Gs (b : Bool) (X : Cx) (sc : Scope) : Prop where
  scope : X.env.scope = sc
  fn : b = true → ∀ x, X.fn x = true
theorem gd_blk {C : Ck} {F : List Fn} {X : Cx} (g : Gd C F X) (s : Shared) (H : Hp) (scope : Scope) (ce : Env) (fp : List Addr) : Gd C F (X.blk s H scope ce fp) := ⟨g.hN, g.nd, g.calm, g.hu, g.blt, g.glb, g.lnk⟩
section
variable {C : Ck} {F : List Fn} {b : Bool}
theorem gl_of {X : Cx} {sc : Scope} (s : Gs b X sc) {x : Str} (h : glB sc x = true) : Gl X x := by
  unfold Gl Env.kindOf
  rw [s.scope]
  unfold glB at h
  split at h
  · assumption
  · cases h
theorem vis_of {X : Cx} {sc : Scope} (s : Gs b X sc) {x : Str} (h : visB sc x = true) : Vis X.env.scope x := by
  unfold Vis
  rw [s.scope]
  unfold visB at h
  split at h
  · exact .inl (by assumption)
  · exact .inr (.inl (by assumption))
  · exact .inr (.inr (by assumption))
  · cases h
theorem loc_of {X : Cx} {sc : Scope} (s : Gs b X sc) {x : Str} (h : locB b sc x = true) : L2.Loc X.env.scope x ∧ (X.fn x = true ∨ X.env.scope.names.lookup x = some .local) := by
  unfold L2.Loc
  rw [s.scope]
  unfold locB at h
  split at h
  · rename_i q; exact ⟨.inl q, .inr q⟩
  · rename_i q; exact ⟨.inr q, .inl (s.fn h x)⟩
  · cases h
theorem plain_of {x : Str} (h : plainName x = true) : (x == ("__debug__" : Str)) = false ∧ (x == ("__classdict__" : Str)) = false ∧ x ≠ "__name__" := by
  unfold plainName at h
  simp only [Bool.and_eq_true, Bool.not_eq_true', decide_eq_false_iff_not] at h
  exact ⟨by simpa using h.1.1, by simpa using h.1.2, h.2⟩
theorem nm_of {X : Cx} {sc : Scope} (g : Gd C F X) (s : Gs b X sc) {i : Nat} {x : Str} {p : Pos} (h : nmB C sc i x = true) : PE X (.Name x p) (tVar i) := by
  unfold nmB at h
  simp only [Bool.and_eq_true, decide_eq_true_eq] at h
  obtain ⟨⟨h1, h2⟩, h3⟩ := h
  obtain ⟨p1, p2, _⟩ := plain_of h3
  exact pe_var (by rw [g.hN]; exact h1) (vis_of s h2) p1 p2
theorem star_cons {x : Expr} {xs : List Expr} {env : Env} (h : isStar x = false) : starEach (x :: xs) env = (false, eval x env) :: starEach xs env := by
  cases x <;> first | rfl | cases h
theorem fold_of {x : Expr} {env : Env} (h : isSet x = false) (v : Value) : foldedSetIterable x env v = pure v := by
  cases x <;> first | rfl | cases h
theorem beh_of {op : CmpOp} {x : Expr} (h : isSet x = false) : behindInMarks op x = false := by
  cases x <;> first | rfl | cases h
theorem ix_of {x : Expr} (h : isSlice x = false) : PlainIx x := by
  intro o i
  cases x <;> first | rfl | cases h
theorem tst_of {x : Expr} {env : Env} (h : isTst x = false) (whole : Sem Value) : isTrue x env whole = (do let v ← whole; standAt x.pos; holding [v] (truthy v)) := by
  cases x <;> first | rfl | cases h
theorem swap_of {x : Expr} {env : Env} {t : Option Expr} {n : Nat} (h : isComp x = false) : swapsWith x t n env = pure false := by
  cases x <;> first | rfl | cases h
/-- no stars among the arguments -/
def noStar : List Expr → Prop
  | [] => True
  | x :: xs => isStar x = false ∧ noStar xs
theorem any_star {env : Env} {pos : Pos} : ∀ {xs : List Expr}, noStar xs → (backTo pos (starEach xs env)).any (·.1) = false
  | [], _ => rfl
  | x :: xs, h => by
    rw [star_cons h.1]
    show (false || (backTo pos (starEach xs env)).any (·.1)) = false
    rw [any_star h.2]
    rfl
theorem all_star {env : Env} {pos : Pos} : ∀ {xs : List Expr}, noStar xs → (backTo pos (starEach xs env)).all (fun x => !x.1) = true
  | [], _ => rfl
  | x :: xs, h => by
    rw [star_cons h.1]
    show (true && (backTo pos (starEach xs env)).all (fun x => !x.1)) = true
    rw [all_star h.2]
    rfl
theorem ckEs_star {sc : Scope} : ∀ {es : List IE} {xs : List Expr}, ckEs C sc es xs = true → noStar xs
  | [], [], _ => trivial
  | a :: as, x :: xs, h => by
    simp only [ckEs, Bool.and_eq_true, Bool.not_eq_true'] at h
    exact ⟨h.1.2, ckEs_star h.2⟩
  | [], _ :: _, h => by simp [ckEs] at h
  | _ :: _, [], h => by simp [ckEs] at h
theorem tg_of {X : Cx} {sc : Scope} (g : Gd C F X) (s : Gs b X sc) {i : Nat} {e : Expr} (h : tgB C b sc i e = true) : PG X e (gName i) := by
  cases e with
  | Name x p =>
    simp only [tgB, Bool.and_eq_true, decide_eq_true_eq] at h
    exact pg_name g.nd (by rw [g.hN]; exact h.1) (loc_of s h.2).1 (loc_of s h.2).2
  | _ => simp [tgB] at h
theorem asg_names {sc : Scope} {env : Env} : ∀ {is : List Nat} {es : List Expr}, tgsB C b sc is es = true → (assignEach es env).length = is.length ∧ (assignEach es env).findIdx? (·.1) = none
  | [], [], _ => ⟨rfl, rfl⟩
  | i :: is, e :: es, h => by
    simp only [tgsB, Bool.and_eq_true] at h
    obtain ⟨h1, h2⟩ := asg_names (env := env) h.2
    cases e with
    | Name x p =>
      have q : assignEach (.Name x p :: es) env = (false, assign (.Name x p) env) :: assignEach es env := rfl
      rw [q]
      exact ⟨by rw [List.length_cons, List.length_cons, h1], by rw [List.findIdx?_cons, if_neg Bool.false_ne_true, h2]; rfl⟩
    | _ => simp [tgB] at h
  | [], _ :: _, h => by simp [tgsB] at h
  | _ :: _, [], h => by simp [tgsB] at h
theorem tgs_of {X : Cx} {sc : Scope} (g : Gd C F X) (s : Gs b X sc) : ∀ {is : List Nat} {es : List Expr}, tgsB C b sc is es = true → PGs X es (tgNs is)
  | [], [], _ => pgs_nil
  | i :: is, e :: es, h => by
    simp only [tgsB, Bool.and_eq_true] at h
    have h1 := tg_of g s h.1
    have h2 := tgs_of g s h.2
    cases e with
    | Name x p => exact pgs_cons h1 h2 (by rfl)
    | _ => simp [tgB] at h
  | [], _ :: _, h => by simp [tgsB] at h
  | _ :: _, [], h => by simp [tgsB] at h
theorem pg_or {X : Cx} {tg : Expr} {g1 g2 : TG} (h1 : PG X tg g1) (h2 : PG X tg g2) : PG X tg fun v σ H Q => g1 v σ H Q ∨ g2 v σ H Q :=
  ⟨fun pins s σ H v u Q I r hw => hw.elim (fun h => h1.run pins s σ H v u Q I r h) fun h => h2.run pins s σ H v u Q I r h⟩
theorem pt_of {X : Cx} {sc : Scope} (g : Gd C F X) (s : Gs b X sc) {pt : Pt} {e : Expr} (h : ptB C b sc pt e = true) : PG X e (tgP X.K pt) := by
  cases pt with
  | nm i => exact tg_of g s (by simpa [ptB] using h)
  | tp is =>
    cases e with
    | Tuple es k p =>
      simp only [ptB] at h
      obtain ⟨h1, h2⟩ := asg_names (env := X.env) h
      exact pg_or (pg_tup g.calm (tgs_of g s h) h1 h2) (pg_unl g.calm (tgs_of g s h) h1 h2)
    | _ => simp [ptB] at h
theorem relab_at {scope sc : Scope} {x : Str} {k : NameKind} (hk : k ≠ .free) (h : scope.names.lookup x = some k) : (relab scope sc).names.lookup x = some k := by
  unfold relab
  dsimp only
  generalize scope.names = l at h ⊢
  induction l with
  | nil => simp at h
  | cons p l ih =>
    obtain ⟨n, j⟩ := p
    rw [List.lookup_cons] at h
    cases hx : (x == n) with
    | true =>
      rw [hx] at h
      obtain rfl : j = k := Option.some.inj h
      have hf : (j == NameKind.free) = false := by
        cases j <;> first | rfl | exact absurd rfl hk
      simp only [List.map_cons, hf, Bool.false_and, Bool.false_eq_true, if_false, List.lookup_cons, hx]
    | false =>
      rw [hx] at h
      have ih' := ih h
      rw [List.map_cons]
      by_cases hc : (j == NameKind.free && sc.kind == .function && sc.names.lookup n == some .cell) = true
      · simp only [hc, if_true, List.lookup_cons, hx]
        exact ih'
      · simp only [hc, Bool.false_eq_true, if_false, List.lookup_cons, hx]
        exact ih'
theorem tg_ofc {X : Cx} {sc scope : Scope} (g : Gd C F X) (s : Gs b X (relab scope sc)) (hf : ∀ x, scope.names.lookup x = some .cell → X.fn x = true) {i : Nat} {e : Expr} (h : tgBc C scope i e = true) : PG X e (gName i) := by
  cases e with
  | Name x p =>
    simp only [tgBc, Bool.and_eq_true, Bool.or_eq_true, decide_eq_true_eq, beq_iff_eq] at h
    rcases h with ⟨h1, h2 | h2⟩
    · have h3 := relab_at (sc := sc) (by intro z; cases z) h2
      refine pg_name g.nd (by rw [g.hN]; exact h1) (.inl ?_) (.inr ?_) <;> (rw [s.scope]; exact h3)
    · have h3 := relab_at (sc := sc) (by intro z; cases z) h2
      refine pg_name g.nd (by rw [g.hN]; exact h1) (.inr ?_) (.inl (hf x h2))
      rw [s.scope]
      exact h3
  | _ => simp [tgBc] at h
theorem asg_namesc {scope : Scope} {env : Env} : ∀ {is : List Nat} {es : List Expr}, tgsBc C scope is es = true → (assignEach es env).length = is.length ∧ (assignEach es env).findIdx? (·.1) = none
  | [], [], _ => ⟨rfl, rfl⟩
  | i :: is, e :: es, h => by
    simp only [tgsBc, Bool.and_eq_true] at h
    obtain ⟨h1, h2⟩ := asg_namesc (env := env) h.2
    cases e with
    | Name x p =>
      have q : assignEach (.Name x p :: es) env = (false, assign (.Name x p) env) :: assignEach es env := rfl
      rw [q]
      exact ⟨by rw [List.length_cons, List.length_cons, h1], by rw [List.findIdx?_cons, if_neg Bool.false_ne_true, h2]; rfl⟩
    | _ => simp [tgBc] at h
  | [], _ :: _, h => by simp [tgsBc] at h
  | _ :: _, [], h => by simp [tgsBc] at h
theorem tgs_ofc {X : Cx} {sc scope : Scope} (g : Gd C F X) (s : Gs b X (relab scope sc)) (hf : ∀ x, scope.names.lookup x = some .cell → X.fn x = true) : ∀ {is : List Nat} {es : List Expr}, tgsBc C scope is es = true → PGs X es (tgNs is)
  | [], [], _ => pgs_nil
  | i :: is, e :: es, h => by
    simp only [tgsBc, Bool.and_eq_true] at h
    have h1 := tg_ofc g s hf h.1
    have h2 := tgs_ofc g s hf h.2
    cases e with
    | Name x p => exact pgs_cons h1 h2 (by rfl)
    | _ => simp [tgBc] at h
  | [], _ :: _, h => by simp [tgsBc] at h
  | _ :: _, [], h => by simp [tgsBc] at h
theorem pt_ofc {X : Cx} {sc scope : Scope} (g : Gd C F X) (s : Gs b X (relab scope sc)) (hf : ∀ x, scope.names.lookup x = some .cell → X.fn x = true) {pt : Pt} {e : Expr} (h : ptBc C scope pt e = true) : PG X e (tgP X.K pt) := by
  cases pt with
  | nm i => exact tg_ofc g s hf (by simpa [ptBc] using h)
  | tp is =>
    cases e with
    | Tuple es k p =>
      simp only [ptBc] at h
      obtain ⟨h1, h2⟩ := asg_namesc (env := X.env) h
      exact pg_or (pg_tup g.calm (tgs_ofc g s hf h) h1 h2) (pg_unl g.calm (tgs_ofc g s hf h) h1 h2)
    | _ => simp [ptBc] at h
theorem ptIn_of {own : List Nat} {pt : Pt} (h : ptInB own pt = true) : ptIn own pt := by
  cases pt with
  | nm i => simpa [ptInB, ptIn] using h
  | tp is => simpa [ptInB, ptIn] using h
theorem litB_of {X : Cx} {d : D} {c : Const} {k : Nat} {p : Pos} (h : litB d c = true) : ∃ v, litV d = some v ∧ PE X (.Constant c k p) (tC v) := by
  cases d <;> cases c <;> simp only [litB] at h <;> first | cases h | skip
  · exact ⟨_, rfl, pe_non⟩
  · rename_i a b
    have : a = b := by simpa using h
    subst this
    exact ⟨_, rfl, pe_bl⟩
  · rename_i a b
    have : a = b := by simpa using h
    subst this
    exact ⟨_, rfl, pe_int⟩
  · rename_i a b
    have : a = b := by simpa using h
    subst this
    exact ⟨_, rfl, pe_str⟩
theorem litEq_of {a b : D} (h : litEq a b = true) : a = b := by
  cases a <;> cases b <;> simp only [litEq] at h <;> first | cases h | skip
  · rfl
  · rename_i y z
    have q : y = z := by simpa using h
    rw [q]
  · rename_i y z
    have q : y = z := by simpa using h
    rw [q]
  · rename_i y z
    have q : y = z := by simpa using h
    rw [q]
theorem litsEq_of : ∀ {a b : List D}, litsEq a b = true → a = b
  | [], [], _ => rfl
  | x :: xs, y :: ys, h => by
    simp only [litsEq, Bool.and_eq_true] at h
    rw [litEq_of h.1, litsEq_of h.2]
  | [], _ :: _, h => by cases h
  | _ :: _, [], h => by cases h
/-- a binary operation's rule -/
theorem op_of {X : Cx} {p : Pr} {op : Operator} (h : opB p op = true) : ∃ r, OpR X (binaryOp op) r ∧ Pok2 X.K p r := by
  cases p <;> cases op <;> simp only [opB] at h <;> first | cases h | skip
  · exact ⟨_, op_addU, pok_add⟩
  · exact ⟨_, op_sub, pok_sub⟩
  · exact ⟨_, op_mulU, pok_mul⟩
  · exact ⟨_, op_mod, pok_mod⟩
  · exact ⟨_, op_fdiv, pok_fdiv⟩
  · exact ⟨_, op_pow, pok_pow⟩
theorem cm_of {X : Cx} (hu : X.A.units + 130 < cLine) {p : Pr} {op : CmpOp} (h : cmB p op = true) : ∃ r, OpR X (compareOp op) r ∧ Pok2 X.K p r := by
  cases p <;> cases op <;> simp only [cmB] at h <;> first | cases h | skip
  · exact ⟨_, op_eqD (by omega), pok_eq⟩
  · exact ⟨_, op_neD (by omega), pok_ne⟩
  · exact ⟨_, op_ltU (by omega), pok_lt⟩
  · exact ⟨_, op_leU (by omega), pok_le⟩
  · exact ⟨_, op_gt, pok_gt⟩
  · exact ⟨_, op_ge, pok_ge⟩
  · exact ⟨_, op_inU (by omega), pok_in⟩
  · exact ⟨_, op_notInU (by omega), pok_notin⟩
  · exact ⟨_, op_isN, pok_isN⟩
  · exact ⟨_, op_notN, pok_notN⟩
  · exact ⟨_, op_isBl, pok_isB⟩
  · exact ⟨_, op_notBl, pok_notB⟩
theorem fn_of' {X : Cx} (hc : X.calm = true) (hu : X.A.units + 130 < cLine) {p : Pr} {x : Str} (h : fnS p = some x) : ∃ r, Pok X.K p r ∧ ((∃ id, CallR X (.builtin id) r ∧ bootBuiltins x = some (.builtin id)) ∨ ∃ id, CallR X (.type id) r ∧ bootBuiltins x = some (.type id)) := by
  cases p <;> simp only [fnS] at h <;> first | cases h | skip
  · exact ⟨_, pok_len, .inl ⟨"len", call_lenU, by decide +kernel⟩⟩
  · exact ⟨_, pok_abs, .inl ⟨"abs", call_abs, by decide +kernel⟩⟩
  · exact ⟨_, pok_min2, .inl ⟨"min", call_min2 hc, by decide +kernel⟩⟩
  · exact ⟨_, pok_max2, .inl ⟨"max", call_max2 hc, by decide +kernel⟩⟩
  · exact ⟨_, pok_tuple, .inr ⟨"tuple", call_tuple_of, by decide +kernel⟩⟩
  · exact ⟨_, pok_listU, .inr ⟨"list", cr_listU hc, by decide +kernel⟩⟩
  · exact ⟨_, pok_all, .inl ⟨"all", cr_all hc, by decide +kernel⟩⟩
  · exact ⟨_, pok_int, .inr ⟨"int", call_int1, by decide +kernel⟩⟩
  · exact ⟨_, pok_sorted, .inl ⟨"sorted", cr_sortedU, by decide +kernel⟩⟩
  · exact ⟨_, pok_str, .inr ⟨"str", call_str_int, by decide +kernel⟩⟩
  · exact ⟨_, pok_minL, .inl ⟨"min", cr_min hc, by decide +kernel⟩⟩
  · exact ⟨_, pok_maxL, .inl ⟨"max", cr_max hc, by decide +kernel⟩⟩
  · exact ⟨_, pok_sumL, .inl ⟨"sum", cr_sum hc, by decide +kernel⟩⟩
  · exact ⟨_, pok_any, .inl ⟨"any", cr_any hc, by decide +kernel⟩⟩
  · exact ⟨_, pok_dictK, .inr ⟨"dict", call_dictP hc, by decide +kernel⟩⟩
  · exact ⟨_, pok_dictT, .inr ⟨"dict", cr_dictT hc (by omega), by decide +kernel⟩⟩
theorem kd_boot (k : Kd) : bootBuiltins (kdTy k : Str) = some (.type (kdTy k)) := by
  cases k <;> decide +kernel
theorem mt_of {X : Cx} {m : Mt} {x : Str} (h : mtS m = some x) : ∃ r id, Mok X.K m r ∧ Slot "list" x id ∧ typeOf (.builtin id) = pure (.type "method_descriptor") ∧ MtR X id r := by
  cases m <;> simp only [mtS] at h <;> first | cases h | skip
  · exact ⟨_, _, mok_append, PySem.F.slot_list_append, PySem.F.type_list_append, mt_append⟩
  · exact ⟨_, _, mok_extend, PySem.F.slot_list_extend, PySem.F.type_list_extend, mt_extS⟩
  · exact ⟨_, _, mok_pop0, PySem.F.slot_list_pop, PySem.F.type_list_pop, mt_pop⟩
  · exact ⟨_, _, mok_reverse, PySem.F.slot_list_reverse, PySem.F.type_list_reverse, mt_reverse⟩
  · exact ⟨_, _, mok_clear, PySem.F.slot_list_clear, PySem.F.type_list_clear, mt_clear⟩
  · exact ⟨_, _, mok_insert, PySem.F.slot_list_insert, PySem.F.type_list_insert, mt_insert⟩
  · exact ⟨_, _, mok_remove, PySem.F.slot_list_remove, PySem.F.type_list_remove, mt_remove⟩
  · exact ⟨_, _, mok_popA, PySem.F.slot_list_pop, PySem.F.type_list_pop, mt_popAt⟩
theorem mr_of {X : Cx} (hu : X.A.units + 130 < cLine) {p : Pr} {x : Str} (h : mrS p = some x) : ∃ r T id, MokR X.K p r ∧ (∀ d, rcvB p d = true → (T = "dict" ∧ ∃ k, d = .dict k) ∨ (T = "list" ∧ ∃ k, d = .list k)) ∧ PlainAttrs T ∧ Slot T x id ∧ typeOf (.builtin id) = pure (.type "method_descriptor") ∧ MtR X id r := by
  cases p <;> simp only [mrS] at h <;> first | cases h | skip
  · exact ⟨_, "dict", _, mok_get1, (fun d hd => by cases d <;> first | exact .inl ⟨rfl, _, rfl⟩ | cases hd), PySem.F.plainAttrs_dict, PySem.F.slot_dict_get, PySem.F.type_dict_get, mt_get1 (by omega)⟩
  · exact ⟨_, "dict", _, mok_get2, (fun d hd => by cases d <;> first | exact .inl ⟨rfl, _, rfl⟩ | cases hd), PySem.F.plainAttrs_dict, PySem.F.slot_dict_get, PySem.F.type_dict_get, mt_get2 (by omega)⟩
  · exact ⟨_, "list", _, mok_index, (fun d hd => by cases d <;> first | exact .inr ⟨rfl, _, rfl⟩ | cases hd), PySem.F.plainAttrs_list, PySem.F.slot_list_index, PySem.F.type_list_index, mt_indexD (by omega)⟩
  · exact ⟨_, "list", _, mok_count, (fun d hd => by cases d <;> first | exact .inr ⟨rfl, _, rfl⟩ | cases hd), PySem.F.plainAttrs_list, PySem.F.slot_list_count, PySem.F.type_list_count, mt_lcount⟩
theorem bad_ok {X : Cx} {e : Expr} : PE X e (teE X.K F .bad) := ⟨fun pins s σ H Q I h => by
  obtain ⟨n, w, μ, e, z, e', wf, er, ev, k⟩ := h
  unfold evE at ev
  cases ev⟩
theorem keysB_of {X : Cx} : ∀ {ds : List D} {es : List (Option Expr)}, keysB ds es = true → ∃ ks : List Key, ds = ks.map keyD ∧ KeyE X es ks
  | [], [], _ => ⟨[], rfl, .nil⟩
  | d :: ds, e :: es, h => by
    match d, e, h with
    | .int i, some (.Constant (.int j) k p), h =>
      simp only [keysB, Bool.and_eq_true, decide_eq_true_eq] at h
      obtain ⟨rfl, h⟩ := h
      obtain ⟨ks, e1, e2⟩ := keysB_of (X := X) h
      exact ⟨.inl i :: ks, by rw [e1]; rfl, .cons pe_int e2⟩
    | .str i, some (.Constant (.str j) k p), h =>
      simp only [keysB, Bool.and_eq_true, decide_eq_true_eq] at h
      obtain ⟨rfl, h⟩ := h
      obtain ⟨ks, e1, e2⟩ := keysB_of (X := X) h
      exact ⟨.inr i :: ks, by rw [e1]; rfl, .cons pe_str e2⟩
  | [], _ :: _, h => by cases h
  | _ :: _, [], h => by simp [keysB] at h
theorem ckK_ok {X : Cx} {sc : Scope} {b : Bool} {en : Bool} {i : Nat} {e tg : Expr} (g : Gd C F X) (s : Gs b X sc) (h : ckK C sc en i e tg = true) : PI X tg e (tiK X.K F en i) := by
  match e, h with
  | .Name x p, h =>
    simp only [ckK, Bool.and_eq_true, Bool.not_eq_true'] at h
    obtain ⟨h1, h2⟩ := h
    subst h1
    exact si_kseq (se_var (nm_of g s h2))
  | .Call (.Name x _) [.Name y p] [] _, h =>
    simp only [ckK, gB, Bool.and_eq_true, decide_eq_true_eq] at h
    obtain ⟨⟨⟨⟨h0, h1⟩, h4⟩, h2⟩, h3⟩ := h
    subst h0
    subst h4
    cases tg with
    | Tuple es k tp => exact si_kenum (gl_of s h2.1.2) (g.blt _ (by simpa using h2.1.1)) (sa_cons (se_var (nm_of g s h3)) sa_nil (star_cons rfl)) (star_cons rfl)
    | _ => cases h1
/-! ### the whole look -/
mutual
theorem ckE_ok : ∀ {ie : IE} {e : Expr} {X : Cx} {sc : Scope} {b : Bool}, Gd C F X → Gs b X sc → ckE C sc ie e = true → PE X e (teE X.K F ie)
  | .var i, e, X, sc, b, g, s, h => by
    cases e with
    | Name x p => exact se_var (nm_of g s (by simpa only [ckE] using h))
    | _ => simp [ckE] at h
  | .lit d, e, X, sc, b, g, s, h => by
    cases e with
    | Constant c k p =>
      obtain ⟨v, h1, h2⟩ := litB_of (X := X) (k := k) (p := p) (show litB d c = true by simpa only [ckE] using h)
      exact se_lit h1 h2
    | _ => simp [ckE] at h
  | .gl x d, e, X, sc, b, g, s, h => by
    cases e with
    | Name y p =>
      simp only [ckE, Bool.and_eq_true, decide_eq_true_eq] at h
      obtain ⟨⟨⟨rfl, h2⟩, h3⟩, h4⟩ := h
      obtain ⟨q, hq, h5⟩ := List.any_eq_true.mp h2
      simp only [Bool.and_eq_true, decide_eq_true_eq] at h5
      obtain ⟨rfl, h6⟩ := h5
      obtain rfl := litEq_of h6
      obtain ⟨u, v, m1, m2, m3⟩ := g.glb q hq
      exact se_gl m2 (pe_glob (gl_of s h3) m1 m3 (plain_of h4).1)
    | _ => simp [ckE] at h
  | .un p a, e, X, sc, b, g, s, h => by
    cases p <;> first | (simp [ckE] at h; done) | skip
    · cases e with
      | UnaryOp op x ps =>
        cases op <;> first | (simp [ckE] at h; done) | skip
        exact se_un un_neg pok_neg (ckE_ok g s (by simpa only [ckE] using h))
      | _ => simp [ckE] at h
    · match e, h with
      | .Subscript x (.Slice none none (some (.UnaryOp .USub (.Constant (.int j) _ _) _)) _) _, h =>
        simp only [ckE, Bool.and_eq_true, decide_eq_true_eq] at h
        obtain ⟨rfl, h⟩ := h
        exact se_rev (ckE_ok g s h)
  | .bi p a b', e, X, sc, b, g, s, h => by
    cases e with
    | BinOp x op y ps =>
      simp only [ckE, Bool.and_eq_true] at h
      obtain ⟨r, h1, h2⟩ := op_of (X := X) h.1.1
      exact se_bi h1 h2 (ckE_ok g s h.1.2) (ckE_ok g s h.2)
    | _ => simp [ckE] at h
  | .cm p a b', e, X, sc, b, g, s, h => by
    cases e with
    | Compare x ops ys ps =>
      match ops, ys, h with
      | [op], [y], h =>
        simp only [ckE, Bool.and_eq_true, Bool.not_eq_true'] at h
        obtain ⟨r, h1, h2⟩ := cm_of (X := X) g.hu h.1.1.1
        exact se_cm h1 h2 (ckE_ok g s h.1.1.2) (ckE_ok g s h.1.2) (beh_of h.2)
      | [], _, h => simp [ckE] at h
      | [_], [], h => simp [ckE] at h
      | [_], _ :: _ :: _, h => simp [ckE] at h
      | _ :: _ :: _, _, h => simp [ckE] at h
    | _ => simp [ckE] at h
  | .chn p q a b' c, e, X, sc, b, g, s, h => by
    cases e with
    | Compare x ops ys ps =>
      match ops, ys, h with
      | [op, op2], [y, z], h =>
        simp only [ckE, Bool.and_eq_true, Bool.not_eq_true'] at h
        obtain ⟨r, h1, h2⟩ := cm_of (X := X) g.hu h.1.1.1.1.1.1
        obtain ⟨r', h1', h2'⟩ := cm_of (X := X) g.hu h.1.1.1.1.1.2
        exact se_chn h1 h1' h2 h2' (ckE_ok g s h.1.1.1.1.2) (ckE_ok g s h.1.1.1.2) (ckE_ok g s h.1.1.2) (by
          show behindInMarks op2 z = false
          exact beh_of h.2)
      | [], _, h => simp [ckE] at h
      | [_], _, h => simp [ckE] at h
      | [_, _], [], h => simp [ckE] at h
      | [_, _], [_], h => simp [ckE] at h
      | [_, _], _ :: _ :: _ :: _, h => simp [ckE] at h
      | _ :: _ :: _ :: _, _, h => simp [ckE] at h
    | _ => simp [ckE] at h
  | .and es, e, X, sc, b, g, s, h => by
    cases e with
    | BoolOp op xs ps =>
      cases op with
      | And =>
        simp only [ckE, Bool.and_eq_true, Bool.not_eq_true'] at h
        exact ckAnd_ok g s h.1 h.2
      | Or => simp [ckE] at h
    | _ => simp [ckE] at h
  | .or es, e, X, sc, b, g, s, h => by
    cases e with
    | BoolOp op xs ps =>
      cases op with
      | Or =>
        simp only [ckE, Bool.and_eq_true, Bool.not_eq_true'] at h
        exact ckOr_ok g s h.1 h.2
      | And => simp [ckE] at h
    | _ => simp [ckE] at h
  | .not a, e, X, sc, b, g, s, h => by
    cases e with
    | UnaryOp op x ps =>
      cases op <;> first | (simp [ckE] at h; done) | skip
      exact se_not (ckE_ok g s (by simpa only [ckE] using h))
    | _ => simp [ckE] at h
  | .ite c a b', e, X, sc, b, g, s, h => by
    cases e with
    | IfExp t x y ps =>
      simp only [ckE, Bool.and_eq_true] at h
      exact se_ite (ckT_ok g s h.1.1) (ckE_ok g s h.1.2) (ckE_ok g s h.2)
    | _ => simp [ckE] at h
  | .tup es, e, X, sc, b, g, s, h => by
    cases e with
    | Tuple xs k ps => exact se_tup (ckEs_ok g s (by simpa only [ckE] using h))
    | _ => simp [ckE] at h
  | .lst es, e, X, sc, b, g, s, h => by
    cases e with
    | List xs ps => exact se_lst (ckEs_ok g s (by simpa only [ckE] using h))
    | _ => simp [ckE] at h
  | .dic ks vs, e, X, sc, b, g, s, h => by
    cases e with
    | Dict kes ves ps =>
      simp only [ckE, Bool.and_eq_true, Bool.not_eq_true', decide_eq_true_eq] at h
      obtain ⟨⟨⟨⟨h1, h2⟩, h3⟩, h5⟩, h4⟩ := h
      obtain ⟨kk, rfl, hk⟩ := keysB_of (X := X) h1
      have hv := ckV_ok g s h2
      refine se_dic hk hv ?_ (by intro z; subst z; cases h4) h3
      rw [← List.length_map (as := kk) keyD]
      exact h5
    | _ => simp [ckE] at h
  | .dnew t, e, X, sc, b, g, s, h => by
    cases e with
    | Dict ks vs ps =>
      match ks, vs, h with
      | [], [], h =>
        cases t with
        | false => exact se_dnewK
        | true => exact se_dnewT
      | [], _ :: _, h => simp [ckE] at h
      | _ :: _, _, h => simp [ckE] at h
    | _ => simp [ckE] at h
  | .ix a b', e, X, sc, b, g, s, h => by
    cases e with
    | Subscript x y ps =>
      simp only [ckE, Bool.and_eq_true, Bool.not_eq_true'] at h
      exact se_ix (by have := g.hu; omega) (ckE_ok g s h.1.1) (ckE_ok g s h.1.2) (ix_of h.2)
    | _ => simp [ckE] at h
  | .sl a lo hi, e, X, sc, b, g, s, h => by
    cases e with
    | Subscript x y ps =>
      cases y with
      | Slice l u st p2 =>
        cases st with
        | none =>
          simp only [ckE, Bool.and_eq_true] at h
          exact se_sl (ckE_ok g s h.1.1) (ckO_ok g s h.1.2) (ckO_ok g s h.2)
        | some _ => simp [ckE] at h
      | _ => simp [ckE] at h
    | _ => simp [ckE] at h
  | .fn p es, e, X, sc, b, g, s, h => by
    cases e with
    | Call f xs kws ps =>
      cases f with
      | Name x p1 =>
        cases kws with
        | nil =>
          simp only [ckE, gB, Bool.and_eq_true, Bool.not_eq_true', decide_eq_true_eq] at h
          obtain ⟨⟨⟨h1, h2⟩, h3⟩, h4⟩ := h
          cases xs with
          | nil => cases h4
          | cons y ys =>
            have ns := ckEs_star h3
            have ha := ckEs_ok g s h3
            have pn := plain_of h2.2
            have hm := g.blt x (by simpa using h2.1.1)
            obtain ⟨r, p1, ⟨id, c1, c2⟩ | ⟨id, c1, c2⟩⟩ := fn_of' (X := X) g.calm g.hu h1
            · exact se_fnB p1 c1 (gl_of s h2.1.2) hm c2 ha pn.2.2 pn.1 (star_cons ns.1) (any_star ns.2)
            · exact se_fnT p1 c1 (gl_of s h2.1.2) hm c2 ha pn.2.2 pn.1 (star_cons ns.1) (any_star ns.2)
        | cons _ _ => simp [ckE] at h
      | _ => simp [ckE] at h
    | _ => simp [ckE] at h
  | .isI k a, e, X, sc, b, g, s, h => by
    cases e with
    | Call f xs kws ps =>
      cases f with
      | Name x p1 =>
        match xs, kws, h with
        | [y, zz], [], h =>
          cases zz with
          | Name z p2 =>
            simp only [ckE, gB, Bool.and_eq_true, Bool.not_eq_true', decide_eq_true_eq] at h
            obtain ⟨⟨⟨⟨⟨h1, h2⟩, h3⟩, h4⟩, h5⟩, h6⟩ := h
            subst h1 h3
            have pn := plain_of h2.2
            have pn2 := plain_of h4.2
            exact se_isI (gl_of s h2.1.2) (g.blt _ (by simpa using h2.1.1)) (by decide +kernel) (gl_of s h4.1.2) (g.blt _ (by simpa using h4.1.1)) (kd_boot k) (ckE_ok g s h5) pn.2.2 pn.1 pn2.2.2 pn2.1 (star_cons h6)
          | _ => simp [ckE] at h
        | [], _, h => simp [ckE] at h
        | [_], _, h => simp [ckE] at h
        | _ :: _ :: _ :: _, _, h => simp [ckE] at h
        | [_, z], _ :: _, h => cases z <;> simp [ckE] at h
      | _ => simp [ckE] at h
    | _ => simp [ckE] at h
  | .call i es dv, e, X, sc, b, g, s, h => by
    cases e with
    | Call f xs kws ps =>
      cases f with
      | Name x p1 =>
        cases kws with
        | nil =>
          simp only [ckE, Bool.and_eq_true] at h
          obtain ⟨⟨⟨h1, h2⟩, h3⟩, h4⟩ := h
          have pn := plain_of h3
          cases hp : C.L[i]? with
          | none => rw [hp] at h1; cases h1
          | some p =>
            rw [hp] at h1
            simp only [Bool.and_eq_true, decide_eq_true_eq] at h1
            obtain ⟨rfl, h5⟩ := h1
            obtain ⟨l, hl, h6⟩ := List.any_eq_true.mp h5
            obtain rfl := litsEq_of h6
            obtain ⟨fn, f1, k, f, fd, ps', f2, f3, f4, f5, f6⟩ := g.lnk i p hp
            obtain ⟨dvs, ds, f7, f8, f9⟩ := f6 l hl
            cases xs with
            | nil =>
              cases es with
              | nil => exact se_call0 f3 f1 f7 f2 (gl_of s h2) f4 f5 f8 f9 pn.1
              | cons _ _ => simp [ckEs] at h4
            | cons y ys =>
              have ns := ckEs_star h4
              exact se_call f3 f1 f7 f2 (gl_of s h2) f4 f5 f8 f9 (ckEs_ok g s h4) pn.1 (star_cons ns.1) (any_star ns.2)
        | cons _ _ => simp [ckE] at h
      | _ => simp [ckE] at h
    | _ => simp [ckE] at h
  | .callT i es dv, e, X, sc, b, g, s, h => by
    cases e with
    | Call f xs kws ps =>
      cases f with
      | Name x p1 =>
        cases kws with
        | nil =>
          cases xs with
          | nil => simp [ckE] at h
          | cons y ys =>
            simp only [ckE, Bool.and_eq_true] at h
            obtain ⟨⟨⟨⟨h1, h2⟩, h3⟩, h4⟩, _⟩ := h
            have pn := plain_of h3
            cases hp : C.L[i]? with
            | none => rw [hp] at h1; cases h1
            | some p =>
              rw [hp] at h1
              simp only [Bool.and_eq_true, decide_eq_true_eq] at h1
              obtain ⟨rfl, h5⟩ := h1
              obtain ⟨l, hl, h6⟩ := List.any_eq_true.mp h5
              obtain rfl := litsEq_of h6
              obtain ⟨fn, f1, k, f, fd, ps', f2, f3, f4, f5, f6⟩ := g.lnk i p hp
              obtain ⟨dvs, ds, f7, f8, f9⟩ := f6 l hl
              have ns := ckEs_star h4
              exact se_callT f3 f1 f7 f2 (gl_of s h2) f4 f5 f8 f9 (ckEs_ok g s h4) pn.1 (star_cons ns.1) (any_star ns.2)
        | cons _ _ => simp [ckE] at h
      | _ => simp [ckE] at h
    | _ => simp [ckE] at h
  | .orT a b', e, X, sc, b, g, s, h => by
    match e, h with
    | .BoolOp .Or [x, y] _, h =>
      simp only [ckE, Bool.and_eq_true] at h
      exact se_orT (ckE_ok g s h.1) (ckE_ok g s h.2)
  | .rgl t a, e, X, sc, b, g, s, h => by
    match e, h with
    | .Call (.Name x _) [.Call (.Name y _) [e] [] _] [] _, h =>
      simp only [ckE, gB, Bool.and_eq_true, Bool.not_eq_true', decide_eq_true_eq] at h
      obtain ⟨⟨⟨⟨⟨hx, h2⟩, rfl⟩, h3⟩, h4⟩, h5⟩ := h
      cases t with
      | true =>
        rw [if_pos rfl] at hx
        subst hx
        exact se_rglL g.calm (gl_of s h2.1.2) (g.blt _ (by simpa using h2.1.1)) (gl_of s h3.1.2) (g.blt _ (by simpa using h3.1.1)) (ckE_ok g s h4) (star_cons h5)
      | false =>
        rw [if_neg Bool.false_ne_true] at hx
        subst hx
        exact se_rglT g.calm (gl_of s h2.1.2) (g.blt _ (by simpa using h2.1.1)) (gl_of s h3.1.2) (g.blt _ (by simpa using h3.1.1)) (ckE_ok g s h4) (star_cons h5)
  | .sls a lo st, e, X, sc, b, g, s, h => by
    match e, h with
    | .Subscript x (.Slice l none (some z) _) _, h =>
      simp only [ckE, Bool.and_eq_true] at h
      exact se_sls (ckE_ok g s h.1.1) (ckO_ok g s h.1.2) (ckE_ok g s h.2)
  | .sset a, e, X, sc, b, g, s, h => by
    match e, h with
    | .Call (.Name x _) [.Call (.Name y _) [e] [] _] [] _, h =>
      simp only [ckE, gB, Bool.and_eq_true, Bool.not_eq_true', decide_eq_true_eq] at h
      obtain ⟨⟨⟨⟨⟨rfl, h2⟩, rfl⟩, h3⟩, h4⟩, h5⟩ := h
      exact se_sset g.calm (by have := g.hu; omega) (gl_of s h2.1.2) (g.blt _ (by simpa using h2.1.1)) (gl_of s h3.1.2) (g.blt _ (by simpa using h3.1.1)) (sa_cons (ckE_ok g s h4) sa_nil (star_cons h5)) (star_cons h5)
  | .lset a, e, X, sc, b, g, s, h => by
    simp only [ckE] at h
    split at h
    · rename_i x y e1 p1 p2 p3 p4 hv
      have ee := vLset_ok hv
      subst ee
      simp only [gB, Bool.and_eq_true, Bool.not_eq_true', decide_eq_true_eq] at h
      obtain ⟨⟨⟨⟨⟨rfl, h2⟩, rfl⟩, h3⟩, h4⟩, h5⟩ := h
      exact se_lset g.calm (gl_of s h2.1.2) (g.blt _ (by simpa using h2.1.1)) (gl_of s h3.1.2) (g.blt _ (by simpa using h3.1.1)) (ckE_ok g s h4) (star_cons h5)
    · cases h
  | .mt m i es, e, X, sc, b, g, s, h => by
    cases e with
    | Call f xs kws ps =>
      cases f with
      | Attribute o nm apos =>
        cases o with
        | Name x p1 =>
          cases kws with
          | nil =>
            simp only [ckE, Bool.and_eq_true, decide_eq_true_eq] at h
            obtain ⟨⟨⟨⟨⟨h1, h2⟩, h3⟩, h4⟩, h5⟩, h6⟩ := h
            obtain ⟨r, id, m1, m2, m3, m4⟩ := mt_of (X := X) h2
            cases xs with
            | nil =>
              cases es with
              | nil => exact se_mt0 m1 (nm_of g s h1) m2 m3 m4 h3
              | cons _ _ => simp [ckEs] at h4
            | cons y ys =>
              have ns := ckEs_star h4
              refine se_mt m1 (nm_of g s h1) m2 m3 m4 (ckEs_ok g s h4) ?_ h3 (star_cons ns.1) (any_star ns.2)
              rw [Bool.and_eq_true, Bool.and_eq_true]
              refine ⟨⟨all_star ns, rfl⟩, decide_eq_true ?_⟩
              show (y :: ys).length + 0 + 0 < 30
              omega
          | cons _ _ => simp [ckE] at h
        | _ => simp [ckE] at h
      | _ => simp [ckE] at h
    | _ => simp [ckE] at h
  | .comp el pt src cs own, e, X, sc, b, g, s, h => by
    cases e with
    | ListComp x gens scope ps =>
      match gens, h with
      | [⟨tg, iter, ifs, as⟩], h =>
        by_cases h0 : as = 0
        · subst h0
          simp only [ckE, Bool.and_eq_true, Bool.not_eq_true', decide_eq_true_eq] at h
          obtain ⟨⟨⟨⟨⟨⟨⟨h1, h2⟩, h3⟩, h4⟩, h5⟩, h6⟩, h7⟩, h8⟩ := h
          have ow : (ownL C own).map (·.2) = own := by
            unfold ownL
            rw [List.map_map]
            exact List.map_id own
          have gb : ∀ (s' : Shared) (H : Hp) (D : Addr) (cl : List (Str × Addr)) (fp : List Addr), Gs false (X.blk s' H scope (compEnvC scope cl D X.env) fp) (relab scope sc) := fun s' H D cl fp => ⟨by
            show relabel scope X.env = relab scope sc
            unfold relabel relab Env.kindOf
            rw [s.scope], fun z => by cases z⟩
          have q := pe_lc (pos := ps) (wi := tiI X.K F src) (g := tgP X.K pt) (tt := teC X.K F cs) (te := teE X.K F el) g.calm g.nd (ckI_ok g s h1) (by rw [g.hN, s.scope]; exact blkOk_by h6) (fun s' H D cl fp => pt_ofc (gd_blk g s' H scope _ fp) (gb s' H D cl fp) (fun x hx => by show (scope.names.lookup x == some .cell) = true; rw [hx]; rfl) h2) (fun s' H D cl fp => ckC_ok (gd_blk g s' H scope _ fp) (gb s' H D cl fp) h3 h4)
            (fun s' H D cl fp => ckE_ok (gd_blk g s' H scope _ fp) (gb s' H D cl fp) h5) (fun v => fold_of h8 v)
          refine q.imp fun σ H Q z => ?_
          rw [ow]
          exact lc_in (ptIn_of h7) σ H Q z
        · simp [ckE, h0] at h
      | [], h => simp [ckE] at h
      | _ :: _ :: _, h => simp [ckE] at h
    | _ => simp [ckE] at h
  | .bad, e, X, sc, b, g, s, h => bad_ok
  | .mr p i es, e, X, sc, b, g, s, h => by
    simp only [ckE] at h
    split at h
    · rename_i x p1 nm apos xs cpos hv
      have ee := vAttr_ok hv
      subst ee
      simp only [Bool.and_eq_true, decide_eq_true_eq] at h
      obtain ⟨⟨⟨⟨⟨h1, h2⟩, h3⟩, h4⟩, h5⟩, h6⟩ := h
      obtain ⟨r, T, id, m1, m2, m3, m4, m5, m6⟩ := mr_of (X := X) g.hu h2
      cases xs with
      | nil => cases h6
      | cons y ys =>
        have ns := ckEs_star h4
        refine se_mr m1 m2 (nm_of g s h1) m3 m4 m5 m6 (ckEs_ok g s h4) ?_ h3 (star_cons ns.1) (any_star ns.2)
        rw [Bool.and_eq_true, Bool.and_eq_true]
        refine ⟨⟨all_star ns, rfl⟩, decide_eq_true ?_⟩
        show (y :: ys).length + 0 + 0 < 30
        omega
    · cases h
  | .dic1 t k v, e, X, sc, b, g, s, h => by
    simp only [ckE] at h
    split at h
    · rename_i ke ve pp hv
      have ee := vDic1_ok hv
      subst ee
      simp only [Bool.and_eq_true] at h
      have h1 := ckE_ok g s h.1
      have h2 := ckE_ok g s h.2
      cases t with
      | true => exact se_oneT (by have := g.hu; omega) h1 h2
      | false => exact se_oneK h1 h2
    · cases h
  | .join x a, e, X, sc, b, g, s, h => by
    match e, h with
    | .Call (.Attribute (.Constant (.str y) _ _) nm apos) [e] [] cpos, h =>
      simp only [ckE, Bool.and_eq_true, Bool.not_eq_true', decide_eq_true_eq] at h
      obtain ⟨⟨⟨⟨rfl, rfl⟩, h3⟩, h4⟩, h5⟩ := h
      exact se_join (ckE_ok g s h4) h3 (star_cons h5) (sa_cons (ckE_ok g s h4) sa_nil (star_cons h5))
  | .compk el pt en ik cs own, e, X, sc, b, g, s, h => by
    cases e with
    | ListComp x gens scope ps =>
      match gens, h with
      | [⟨tg, iter, ifs, as⟩], h =>
        by_cases h0 : as = 0
        · subst h0
          simp only [ckE, Bool.and_eq_true, Bool.not_eq_true', decide_eq_true_eq] at h
          obtain ⟨⟨⟨⟨⟨⟨⟨h1, h2⟩, h3⟩, h4⟩, h5⟩, h6⟩, h7⟩, h8⟩ := h
          have ow : (ownL C own).map (·.2) = own := by
            unfold ownL
            rw [List.map_map]
            exact List.map_id own
          have gb : ∀ (s' : Shared) (H : Hp) (D : Addr) (cl : List (Str × Addr)) (fp : List Addr), Gs false (X.blk s' H scope (compEnvC scope cl D X.env) fp) (relab scope sc) := fun s' H D cl fp => ⟨by
            show relabel scope X.env = relab scope sc
            unfold relabel relab Env.kindOf
            rw [s.scope], fun z => by cases z⟩
          have q := pe_lc (pos := ps) (wi := tiK X.K F en ik) (g := tgP X.K pt) (tt := teC X.K F cs) (te := teE X.K F el) g.calm g.nd (ckK_ok g s h1) (by rw [g.hN, s.scope]; exact blkOk_by h6) (fun s' H D cl fp => pt_ofc (gd_blk g s' H scope _ fp) (gb s' H D cl fp) (fun x hx => by show (scope.names.lookup x == some .cell) = true; rw [hx]; rfl) h2) (fun s' H D cl fp => ckC_ok (gd_blk g s' H scope _ fp) (gb s' H D cl fp) h3 h4)
            (fun s' H D cl fp => ckE_ok (gd_blk g s' H scope _ fp) (gb s' H D cl fp) h5) (fun v => fold_of h8 v)
          refine q.imp fun σ H Q z => ?_
          rw [ow]
          exact lc_inK (ptIn_of h7) σ H Q z
        · simp [ckE, h0] at h
      | [], h => simp [ckE] at h
      | _ :: _ :: _, h => simp [ckE] at h
    | _ => simp [ckE] at h
theorem ckEs_ok : ∀ {es : List IE} {xs : List Expr} {X : Cx} {sc : Scope} {b : Bool}, Gd C F X → Gs b X sc → ckEs C sc es xs = true → PA X xs (teA X.K F es)
  | [], [], X, sc, b, g, s, h => sa_nil
  | a :: as, x :: xs, X, sc, b, g, s, h => by
    simp only [ckEs, Bool.and_eq_true, Bool.not_eq_true'] at h
    exact sa_cons (ckE_ok g s h.1.1) (ckEs_ok g s h.2) (star_cons h.1.2)
  | [], _ :: _, X, sc, b, g, s, h => by simp [ckEs] at h
  | _ :: _, [], X, sc, b, g, s, h => by simp [ckEs] at h
theorem ckV_ok : ∀ {es : List IE} {xs : List Expr} {X : Cx} {sc : Scope} {b : Bool}, Gd C F X → Gs b X sc → ckEs C sc es xs = true → ValE X F xs es
  | [], [], X, sc, b, g, s, h => .nil
  | a :: as, x :: xs, X, sc, b, g, s, h => by
    simp only [ckEs, Bool.and_eq_true, Bool.not_eq_true'] at h
    exact .cons (ckE_ok g s h.1.1) (ckV_ok g s h.2)
  | [], _ :: _, X, sc, b, g, s, h => by simp [ckEs] at h
  | _ :: _, [], X, sc, b, g, s, h => by simp [ckEs] at h
theorem ckAnd_ok : ∀ {es : List IE} {xs : List Expr} {X : Cx} {sc : Scope} {b : Bool} {ps : Pos}, Gd C F X → Gs b X sc → ckEs C sc es xs = true → xs.isEmpty = false → PE X (.BoolOp .And xs ps) (teE X.K F (.and es))
  | [], [], X, sc, b, ps, g, s, h, h2 => by cases h2
  | [a], [x], X, sc, b, ps, g, s, h, h2 => by
    simp only [ckEs, Bool.and_eq_true, Bool.not_eq_true'] at h
    exact se_and1 (ckE_ok g s h.1.1)
  | a :: a2 :: as, x :: y :: xs, X, sc, b, ps, g, s, h, h2 => by
    have h' : ckEs C sc (a2 :: as) (y :: xs) = true := by
      rw [ckEs, Bool.and_eq_true] at h
      exact h.2
    rw [ckEs, Bool.and_eq_true, Bool.and_eq_true] at h
    exact se_and (ckE_ok g s h.1.1) (ckAnd_ok g s h' rfl)
  | [], _ :: _, X, sc, b, ps, g, s, h, h2 => by simp [ckEs] at h
  | _ :: _, [], X, sc, b, ps, g, s, h, h2 => by simp [ckEs] at h
  | [_], _ :: _ :: _, X, sc, b, ps, g, s, h, h2 => by simp [ckEs] at h
  | _ :: _ :: _, [_], X, sc, b, ps, g, s, h, h2 => by simp [ckEs] at h
theorem ckOr_ok : ∀ {es : List IE} {xs : List Expr} {X : Cx} {sc : Scope} {b : Bool} {ps : Pos}, Gd C F X → Gs b X sc → ckEs C sc es xs = true → xs.isEmpty = false → PE X (.BoolOp .Or xs ps) (teE X.K F (.or es))
  | [], [], X, sc, b, ps, g, s, h, h2 => by cases h2
  | [a], [x], X, sc, b, ps, g, s, h, h2 => by
    simp only [ckEs, Bool.and_eq_true, Bool.not_eq_true'] at h
    exact se_or1 (ckE_ok g s h.1.1)
  | a :: a2 :: as, x :: y :: xs, X, sc, b, ps, g, s, h, h2 => by
    have h' : ckEs C sc (a2 :: as) (y :: xs) = true := by
      rw [ckEs, Bool.and_eq_true] at h
      exact h.2
    rw [ckEs, Bool.and_eq_true, Bool.and_eq_true] at h
    exact se_or (ckE_ok g s h.1.1) (ckOr_ok g s h' rfl)
  | [], _ :: _, X, sc, b, ps, g, s, h, h2 => by simp [ckEs] at h
  | _ :: _, [], X, sc, b, ps, g, s, h, h2 => by simp [ckEs] at h
  | [_], _ :: _ :: _, X, sc, b, ps, g, s, h, h2 => by simp [ckEs] at h
  | _ :: _ :: _, [_], X, sc, b, ps, g, s, h, h2 => by simp [ckEs] at h
theorem ckO_ok : ∀ {io : Option IE} {o : Option Expr} {X : Cx} {sc : Scope} {b : Bool}, Gd C F X → Gs b X sc → ckO C sc io o = true → PO X o (teO X.K F io)
  | none, none, X, sc, b, g, s, h => so_none
  | some a, some x, X, sc, b, g, s, h => so_some (ckE_ok g s (by simpa only [ckO] using h))
  | none, some _, X, sc, b, g, s, h => by simp [ckO] at h
  | some _, none, X, sc, b, g, s, h => by simp [ckO] at h
theorem ckT_ok : ∀ {it : IT} {e : Expr} {X : Cx} {sc : Scope} {b : Bool}, Gd C F X → Gs b X sc → ckT C sc it e = true → PT X e (teT X.K F it)
  | .v a, e, X, sc, b, g, s, h => by
    simp only [ckT, Bool.and_eq_true, Bool.not_eq_true'] at h
    exact st_v (ckE_ok g s h.1) (tst_of h.2)
  | .cm p a b', e, X, sc, b, g, s, h => by
    cases e with
    | Compare x ops ys ps =>
      match ops, ys, h with
      | [op], [y], h =>
        simp only [ckT, Bool.and_eq_true, Bool.not_eq_true'] at h
        obtain ⟨r, h1, h2⟩ := cm_of (X := X) g.hu h.1.1.1
        exact st_cm h1 h2 (ckE_ok g s h.1.1.2) (ckE_ok g s h.1.2) (beh_of h.2)
      | [], _, h => simp [ckT] at h
      | [_], [], h => simp [ckT] at h
      | [_], _ :: _ :: _, h => simp [ckT] at h
      | _ :: _ :: _, _, h => simp [ckT] at h
    | _ => simp [ckT] at h
  | .chn p q a b' c, e, X, sc, b, g, s, h => by
    cases e with
    | Compare x ops ys ps =>
      match ops, ys, h with
      | [op, op2], [y, z], h =>
        simp only [ckT, Bool.and_eq_true, Bool.not_eq_true'] at h
        obtain ⟨r, h1, h2⟩ := cm_of (X := X) g.hu h.1.1.1.1.1.1
        obtain ⟨r', h1', h2'⟩ := cm_of (X := X) g.hu h.1.1.1.1.1.2
        exact st_chn h1 h1' h2 h2' (ckE_ok g s h.1.1.1.1.2) (ckE_ok g s h.1.1.1.2) (ckE_ok g s h.1.1.2) (by
          show behindInMarks op2 z = false
          exact beh_of h.2)
      | [], _, h => simp [ckT] at h
      | [_], _, h => simp [ckT] at h
      | [_, _], [], h => simp [ckT] at h
      | [_, _], [_], h => simp [ckT] at h
      | [_, _], _ :: _ :: _ :: _, h => simp [ckT] at h
      | _ :: _ :: _ :: _, _, h => simp [ckT] at h
    | _ => simp [ckT] at h
  | .not t, e, X, sc, b, g, s, h => by
    cases e with
    | UnaryOp op x ps =>
      cases op <;> first | (simp [ckT] at h; done) | skip
      exact st_not (ckT_ok g s (by simpa only [ckT] using h))
    | _ => simp [ckT] at h
  | .and ts, e, X, sc, b, g, s, h => by
    cases e with
    | BoolOp op xs ps =>
      cases op with
      | And =>
        simp only [ckT, Bool.and_eq_true, Bool.not_eq_true'] at h
        exact (ckTA_ok g s h.1 h.2).pt
      | Or => simp [ckT] at h
    | _ => simp [ckT] at h
  | .or ts, e, X, sc, b, g, s, h => by
    cases e with
    | BoolOp op xs ps =>
      cases op with
      | Or =>
        simp only [ckT, Bool.and_eq_true, Bool.not_eq_true'] at h
        exact (ckTO_ok g s h.1 h.2).pt
      | And => simp [ckT] at h
    | _ => simp [ckT] at h
theorem ckTA_ok : ∀ {ts : List IT} {xs : List Expr} {X : Cx} {sc : Scope} {b : Bool} {ps : Pos}, Gd C F X → Gs b X sc → ckTs C sc ts xs = true → xs.isEmpty = false → PW X (.BoolOp .And xs ps) (teT X.K F (.and ts))
  | [], [], X, sc, b, ps, g, s, h, h2 => by cases h2
  | [a], [x], X, sc, b, ps, g, s, h, h2 => by
    simp only [ckTs, Bool.and_eq_true] at h
    exact sw_and1 (ckT_ok g s h.1)
  | a :: a2 :: as, x :: y :: xs, X, sc, b, ps, g, s, h, h2 => by
    rw [ckTs, Bool.and_eq_true] at h
    exact sw_and (ckT_ok g s h.1) (ckTA_ok g s h.2 rfl)
  | [], _ :: _, X, sc, b, ps, g, s, h, h2 => by simp [ckTs] at h
  | _ :: _, [], X, sc, b, ps, g, s, h, h2 => by simp [ckTs] at h
  | [_], _ :: _ :: _, X, sc, b, ps, g, s, h, h2 => by simp [ckTs] at h
  | _ :: _ :: _, [_], X, sc, b, ps, g, s, h, h2 => by simp [ckTs] at h
theorem ckTO_ok : ∀ {ts : List IT} {xs : List Expr} {X : Cx} {sc : Scope} {b : Bool} {ps : Pos}, Gd C F X → Gs b X sc → ckTs C sc ts xs = true → xs.isEmpty = false → PW X (.BoolOp .Or xs ps) (teT X.K F (.or ts))
  | [], [], X, sc, b, ps, g, s, h, h2 => by cases h2
  | [a], [x], X, sc, b, ps, g, s, h, h2 => by
    simp only [ckTs, Bool.and_eq_true] at h
    exact sw_or1 (ckT_ok g s h.1)
  | a :: a2 :: as, x :: y :: xs, X, sc, b, ps, g, s, h, h2 => by
    rw [ckTs, Bool.and_eq_true] at h
    exact sw_or (ckT_ok g s h.1) (ckTO_ok g s h.2 rfl)
  | [], _ :: _, X, sc, b, ps, g, s, h, h2 => by simp [ckTs] at h
  | _ :: _, [], X, sc, b, ps, g, s, h, h2 => by simp [ckTs] at h
  | [_], _ :: _ :: _, X, sc, b, ps, g, s, h, h2 => by simp [ckTs] at h
  | _ :: _ :: _, [_], X, sc, b, ps, g, s, h, h2 => by simp [ckTs] at h
theorem ckC_ok : ∀ {ts : List IT} {xs : List Expr} {X : Cx} {sc : Scope} {b : Bool}, Gd C F X → Gs b X sc → ckTs C sc ts xs = true → ts.length ≤ 1 → PTs X xs (teC X.K F ts)
  | [], [], X, sc, b, g, s, h, h2 => sc_nil
  | [a], [x], X, sc, b, g, s, h, h2 => by
    simp only [ckTs, Bool.and_eq_true] at h
    exact sc_one (ckT_ok g s h.1)
  | _ :: _ :: _, _, X, sc, b, g, s, h, h2 => by simp at h2
  | [], _ :: _, X, sc, b, g, s, h, h2 => by simp [ckTs] at h
  | [_], [], X, sc, b, g, s, h, h2 => by simp [ckTs] at h
  | [_], _ :: _ :: _, X, sc, b, g, s, h, h2 => by simp [ckTs] at h
theorem ckI_ok : ∀ {r : Sr} {e tg : Expr} {X : Cx} {sc : Scope} {b : Bool}, Gd C F X → Gs b X sc → ckI C sc r e tg = true → PI X tg e (tiI X.K F r)
  | .seq a, e, tg, X, sc, b, g, s, h => si_seq (ckE_ok g s (by simpa only [ckI] using h))
  | .rng a, e, tg, X, sc, b, g, s, h => by
    cases e with
    | Call f xs kws ps =>
      cases f with
      | Name x p1 =>
        match xs, kws, h with
        | [y], [], h =>
          simp only [ckI, gB, Bool.and_eq_true, Bool.not_eq_true', decide_eq_true_eq] at h
          obtain ⟨⟨⟨rfl, h2⟩, h3⟩, h4⟩ := h
          exact si_rng (gl_of s h2.1.2) (g.blt _ (by simpa using h2.1.1)) (sa_cons (ckE_ok g s h3) sa_nil (star_cons h4)) (star_cons h4)
        | [], _, h => simp [ckI] at h
        | [_], _ :: _, h => simp [ckI] at h
        | _ :: _ :: _, _, h => simp [ckI] at h
      | _ => simp [ckI] at h
    | _ => simp [ckI] at h
  | .rng2 a a2, e, tg, X, sc, b, g, s, h => by
    cases e with
    | Call f xs kws ps =>
      cases f with
      | Name x p1 =>
        match xs, kws, h with
        | [y, z], [], h =>
          simp only [ckI, gB, Bool.and_eq_true, Bool.not_eq_true', decide_eq_true_eq] at h
          obtain ⟨⟨⟨⟨⟨rfl, h2⟩, h3⟩, h4⟩, h5⟩, h6⟩ := h
          exact si_rng2 (gl_of s h2.1.2) (g.blt _ (by simpa using h2.1.1)) (sa_cons (ckE_ok g s h3) (sa_cons (ckE_ok g s h4) sa_nil (star_cons h6)) (star_cons h5)) (by rw [star_cons h5, star_cons h6]; rfl) (by rw [star_cons h6]; rfl)
        | [], _, h => simp [ckI] at h
        | [_], _, h => simp [ckI] at h
        | [_, _], _ :: _, h => simp [ckI] at h
        | _ :: _ :: _ :: _, _, h => simp [ckI] at h
      | _ => simp [ckI] at h
    | _ => simp [ckI] at h
  | .enum a, e, tg, X, sc, b, g, s, h => by
    cases e with
    | Call f xs kws ps =>
      cases f with
      | Name x p1 =>
        match xs, kws, h with
        | [y], [], h =>
          simp only [ckI, gB, Bool.and_eq_true, Bool.not_eq_true', decide_eq_true_eq] at h
          obtain ⟨⟨⟨⟨h0, rfl⟩, h2⟩, h3⟩, h4⟩ := h
          cases tg with
          | Tuple es k tp => exact si_enum (gl_of s h2.1.2) (g.blt _ (by simpa using h2.1.1)) (sa_cons (ckE_ok g s h3) sa_nil (star_cons h4)) (star_cons h4)
          | _ => cases h0
        | [], _, h => simp [ckI] at h
        | [_], _ :: _, h => simp [ckI] at h
        | _ :: _ :: _, _, h => simp [ckI] at h
      | _ => simp [ckI] at h
    | _ => simp [ckI] at h
  | .zip a a2, e, tg, X, sc, b, g, s, h => by
    cases e with
    | Call f xs kws ps =>
      cases f with
      | Name x p1 =>
        match xs, kws, h with
        | [y, z], [], h =>
          simp only [ckI, gB, Bool.and_eq_true, Bool.not_eq_true', decide_eq_true_eq] at h
          obtain ⟨⟨⟨⟨⟨⟨h0, rfl⟩, h2⟩, h3⟩, h4⟩, h5⟩, h6⟩ := h
          cases tg with
          | Tuple es k tp => exact si_zip (gl_of s h2.1.2) (g.blt _ (by simpa using h2.1.1)) (sa_cons (ckE_ok g s h3) (sa_cons (ckE_ok g s h4) sa_nil (star_cons h6)) (star_cons h5)) (star_cons h5) (any_star ⟨h6, trivial⟩)
          | _ => cases h0
        | [], _, h => simp [ckI] at h
        | [_], _, h => simp [ckI] at h
        | [_, _], _ :: _, h => simp [ckI] at h
        | _ :: _ :: _ :: _, _, h => simp [ckI] at h
      | _ => simp [ckI] at h
    | _ => simp [ckI] at h
end
end
end PD

/-! PD13: the look at statements; a def's promise. -/
namespace PD
open PySem PySem.Spec PyProof.Rows L2
/-- whether the value of a comprehension goes to its name on the spot -/
def swapB (sc : Scope) (t : Str) (tp : Pos) (v : Expr) : Bool := match v with
  | .ListComp _ _ s p => (sc.names.lookup t == some .local) && tp.line == p.line && !(s.names.any fun (n, k) => n == t && (k == .local || k == .cell))
  | _ => false
def isTupE : Expr → Bool
  | .Tuple .. => true
  | .List .. => true
  | _ => false
def isSetC : Expr → Bool
  | .SetComp .. => true
  | .DictComp .. => true
  | _ => false
def vAug : Stmt → Option (Str × Pos × Operator × Expr × Pos)
  | .AugAssign (.Name x p) op e q => some (x, p, op, e, q)
  | _ => none
theorem vAug_ok {st : Stmt} {x : Str} {p : Pos} {op : Operator} {e : Expr} {q : Pos} (h : vAug st = some (x, p, op, e, q)) : st = .AugAssign (.Name x p) op e q := by
  unfold vAug at h
  split at h
  · cases h
    rfl
  · cases h
def vAugI : Stmt → Option (Str × Pos × Expr × Pos × Operator × Expr × Pos)
  | .AugAssign (.Subscript (.Name x p) k p2) op e q => some (x, p, k, p2, op, e, q)
  | _ => none
theorem vAugI_ok {st : Stmt} {x : Str} {p : Pos} {k : Expr} {p2 : Pos} {op : Operator} {e : Expr} {q : Pos} (h : vAugI st = some (x, p, k, p2, op, e, q)) : st = .AugAssign (.Subscript (.Name x p) k p2) op e q := by
  unfold vAugI at h
  split at h
  · cases h
    rfl
  · cases h
def vPar3 : Stmt → Option (Str × Pos × Str × Pos × Str × Pos × Expr × Expr × Expr)
  | .Assign [.Tuple [.Name x px, .Name y py, .Name z pz] _ _] (.Tuple [u, v, t] _ _) _ => some (x, px, y, py, z, pz, u, v, t)
  | _ => none
theorem vPar3_ok {st : Stmt} {x y z : Str} {px py pz : Pos} {u v t : Expr} (h : vPar3 st = some (x, px, y, py, z, pz, u, v, t)) : ∃ k1 p1 k2 p2 pos, st = .Assign [.Tuple [.Name x px, .Name y py, .Name z pz] k1 p1] (.Tuple [u, v, t] k2 p2) pos := by
  unfold vPar3 at h
  split at h
  · cases h
    exact ⟨_, _, _, _, _, rfl⟩
  · cases h
mutual
def ckS (C : Ck) (sc : Scope) : IS → Stmt → Bool
  | .set i a, .Assign [.Name x p] e _ => decide (C.N[i]? = some x) && locB true sc x && ckE C sc a e && !isSetC e
  | .unp is a, .Assign [.Tuple es k p] e _ => ckE C sc a e && tgsB C true sc is es && !isTupE e && !isComp e
  | .par i j a b, .Assign [.Tuple [.Name x px, .Name y py] _ _] (.Tuple [u, v] _ _) _ => decide (C.N[i]? = some x) && decide (C.N[j]? = some y) && decide (i ≠ j) && decide (x ≠ y) && (sc.names.lookup x == some .local) && (sc.names.lookup y == some .local) && (py.line == px.line) && ckE C sc a u && ckE C sc b v && !isStar u && !isStar v && !(foldedForSure 8 u && foldedForSure 8 v) && !(constantsAlone 8 u && constantsAlone 8 v)
  | .par3 i j l a b c, st => match vPar3 st with
    | some (x, px, y, py, z, pz, u, v, t) => decide (C.N[i]? = some x) && decide (C.N[j]? = some y) && decide (C.N[l]? = some z) && decide (i ≠ j) && decide (i ≠ l) && decide (j ≠ l) && decide (x ≠ y) && decide (x ≠ z) && decide (y ≠ z) && (sc.names.lookup x == some .local) && (sc.names.lookup y == some .local) && (sc.names.lookup z == some .local) && (py.line == px.line) && (pz.line == px.line) && ckE C sc a u && ckE C sc b v && ckE C sc c t && !isStar u && !isStar v && !isStar t && !(foldedForSure 8 u && foldedForSure 8 v && foldedForSure 8 t) && !(constantsAlone 8 u && constantsAlone 8 v && constantsAlone 8 t)
    | none => false
  | .exp a, .Expr e _ => ckE C sc a e && !isComp e
  | .ret a, .Return (some e) _ => ckE C sc a e
  | .retN, .Return none _ => true
  | .iff c a b, .If t x y _ => ckT C sc c t && ckSs C sc a x && ckSs C sc b y
  | .forr pt r body, .For tg it b [] _ => ckI C sc r it tg && ptB C true sc pt tg && ckSs C sc body b && !isSet it
  | .forrk pt en i body, .For tg it b [] _ => ckK C sc en i it tg && ptB C true sc pt tg && ckSs C sc body b && !isSet it
  | .whl _ c body, .While t b [] _ => ckT C sc c t && ckSs C sc body b
  | .ixset i k v, .Assign [.Subscript (.Name x p) ke p2] e _ => nmB C sc i x && ckE C sc k ke && ckE C sc v e && !isSlice ke && !isComp e
  | .mov i j, .Assign [.Name x _] (.Name y _) _ => decide (C.N[i]? = some x) && locB true sc x && nmB C sc j y
  | .pass, .Pass _ => true
  | .brk, .Break _ => true
  | .cont, .Continue _ => true
  | .doc, .Expr (.Constant (.str _) _ _) _ => true
  | .aug i p a, st => match vAug st with
    | some (x, _, op, e, _) => decide (C.N[i]? = some x) && locB true sc x && augOp p op && ckE C sc a e
    | none => false
  | .augi i p k a, st => match vAugI st with
    | some (x, _, ke, _, op, e, _) => nmB C sc i x && augOp p op && ckE C sc k ke && ckE C sc a e && !isSlice ke
    | none => false
  | .bad, _ => true
  | _, _ => false
def ckSs (C : Ck) (sc : Scope) : List IS → List Stmt → Bool
  | [], [] => true
  | s :: ss, x :: xs => ckS C sc s x && ckSs C sc ss xs
  | _, _ => false
end
section
variable {C : Ck} {F : List Fn}
theorem swapS_of {x : Expr} {env : Env} {ts : List Expr} {n : Nat} (h : isComp x = false) : swapsWithSole ts x n env = pure false := by
  match ts with
  | [] => rfl
  | [t] => exact swap_of h
  | _ :: _ :: _ => rfl
theorem swapped_none {x : Expr} {env : Env} {ts : List Expr} (h : isTupE x = false) : swappedStores ts x env = pure none := by
  unfold swappedStores
  cases x <;> first | (cases h; done) | (split <;> first | rfl | (rename_i h1 h2; simp_all) | skip)
theorem swapped_sub {x o i : Expr} {p : Pos} {env : Env} : swappedStores [.Subscript o i p] x env = pure none := by
  unfold swappedStores
  cases x <;> rfl
theorem swap_name {sc : Scope} {X : Cx} (s : Gs true X sc) (hk : sc.kind = .function) {e : Expr} {t : Str} {tp : Pos} {n : Nat} (hc : isSetC e = false) : swapsWith e (some (.Name t tp)) n X.env = pure (swapB sc t tp e) := by
  cases e <;> first | rfl | (cases hc; done) | skip
  unfold swapsWith swapB Env.blockKind Env.kindOf
  simp only [s.scope, hk]
  rfl
theorem par_swap {sc : Scope} {X : Cx} (s : Gs true X sc) (hk : sc.kind = .function) {x y : Str} {px py p1 p2 : Pos} {k1 k2 : Nat} {u v : Expr} (hxy : x ≠ y) (hx : sc.names.lookup x = some .local) (hy : sc.names.lookup y = some .local) (hl : (py.line == px.line) = true)
    (hu : isStar u = false) (hv : isStar v = false) (hf : (foldedForSure 8 u && foldedForSure 8 v) = false) (hc : (constantsAlone 8 u && constantsAlone 8 v) = false) :
    swappedStores [.Tuple [.Name x px, .Name y py] k1 p1] (.Tuple [u, v] k2 p2) X.env = pure (some [x, y]) := by
  have hb : X.env.blockKind = .function := by
    unfold Env.blockKind
    rw [s.scope, hk]
    rfl
  have kx : X.env.kindOf x = some .local := by
    unfold Env.kindOf
    rw [s.scope, hx]
  have ky : X.env.kindOf y = some .local := by
    unfold Env.kindOf
    rw [s.scope, hy]
  have su : ∀ z : Expr, isStar z = false → (match z with | .Starred .. => true | _ => false) = false := by
    intro z hz
    cases z <;> first | rfl | cases hz
  have e1 : ([x, y].eraseDups).length = 2 := by
    have hne : (y == x) = false := by
      rw [beq_eq_false_iff_ne]
      exact fun z => hxy z.symm
    simp [List.eraseDups_cons, hne]
  have hlx : (px.line == px.line) = true := by simp
  unfold swappedStores
  simp only [List.any_cons, List.any_nil, su u hu, su v hv, hb, kx, ky, List.all_cons, List.all_nil, Bool.and_true, hf, hc, List.length_cons, List.length_nil, List.filterMap_cons, List.filterMap_nil, List.head?_cons, Option.map_some, Option.getD_some, Expr.pos, hl, hlx, beq_self_eq_true, if_true, e1]
  refine (if_neg (by decide)).trans ?_
  refine (if_neg ?_).trans rfl
  intro hh
  rw [Bool.or_eq_true, Bool.or_eq_true] at hh
  rcases hh with hh | hh | hh
  · cases u <;> first | (cases hu; done) | cases hh
  · cases v <;> first | (cases hv; done) | cases hh
  · cases hh
theorem par_swap3 {sc : Scope} {X : Cx} (s : Gs true X sc) (hk : sc.kind = .function) {x y z : Str} {px py pz p1 p2 : Pos} {k1 k2 : Nat} {u v t : Expr} (hxy : x ≠ y) (hxz : x ≠ z) (hyz : y ≠ z) (hx : sc.names.lookup x = some .local) (hy : sc.names.lookup y = some .local) (hz : sc.names.lookup z = some .local) (hl : (py.line == px.line) = true) (hl2 : (pz.line == px.line) = true)
    (hu : isStar u = false) (hv : isStar v = false) (ht : isStar t = false) (hf : (foldedForSure 8 u && foldedForSure 8 v && foldedForSure 8 t) = false) (hc : (constantsAlone 8 u && constantsAlone 8 v && constantsAlone 8 t) = false) :
    swappedStores [.Tuple [.Name x px, .Name y py, .Name z pz] k1 p1] (.Tuple [u, v, t] k2 p2) X.env = pure (some [x, y, z]) := by
  have hb : X.env.blockKind = .function := by
    unfold Env.blockKind
    rw [s.scope, hk]
    rfl
  have kx : X.env.kindOf x = some .local := by
    unfold Env.kindOf
    rw [s.scope, hx]
  have ky : X.env.kindOf y = some .local := by
    unfold Env.kindOf
    rw [s.scope, hy]
  have kz : X.env.kindOf z = some .local := by
    unfold Env.kindOf
    rw [s.scope, hz]
  have su : ∀ q : Expr, isStar q = false → (match q with | .Starred .. => true | _ => false) = false := by
    intro q hq
    cases q <;> first | rfl | cases hq
  have e1 : ([x, y, z].eraseDups).length = 3 := by
    have h1 : (y == x) = false := by
      rw [beq_eq_false_iff_ne]
      exact fun q => hxy q.symm
    have h2 : (z == x) = false := by
      rw [beq_eq_false_iff_ne]
      exact fun q => hxz q.symm
    have h3 : (z == y) = false := by
      rw [beq_eq_false_iff_ne]
      exact fun q => hyz q.symm
    simp [List.eraseDups_cons, h1, h2, h3]
  have hlx : (px.line == px.line) = true := by simp
  have hf' : (foldedForSure 8 u && (foldedForSure 8 v && foldedForSure 8 t)) = false := by rw [← Bool.and_assoc]; exact hf
  have hc' : (constantsAlone 8 u && (constantsAlone 8 v && constantsAlone 8 t)) = false := by rw [← Bool.and_assoc]; exact hc
  unfold swappedStores
  simp only [List.any_cons, List.any_nil, su u hu, su v hv, su t ht, hb, kx, ky, kz, List.all_cons, List.all_nil, Bool.and_true, hf', hc', List.length_cons, List.length_nil, List.filterMap_cons, List.filterMap_nil, List.head?_cons, Option.map_some, Option.getD_some, Expr.pos, hl, hl2, hlx, beq_self_eq_true, if_true, e1]
  refine (if_neg (by decide)).trans ?_
  refine (if_neg ?_).trans rfl
  intro hh
  rw [Bool.or_eq_true, Bool.or_eq_true, Bool.or_eq_true] at hh
  rcases hh with hh | hh | hh | hh
  · cases u <;> first | (cases hu; done) | cases hh
  · cases v <;> first | (cases hv; done) | cases hh
  · cases t <;> first | (cases ht; done) | cases hh
  · cases hh
theorem set_in {K : PySem.W.Frag} {i : Nat} {ia : IE} (D : Ends) (σ : L2.St) (H : Hp) (q : tsS K F (.set i ia) D σ H) : tAsg (teE K F ia) (gName i) D σ H := by
  obtain ⟨w, μ, e, wf, er, k⟩ := q
  simp only [evS] at k
  split at k
  · rename_i f d e1 h1
    split at k
    · rename_i e2 h2
      exact ⟨0, w, μ, e, _, e1, wf, er, h1, fun v H1 w1 a1 an => k _ H1 _ (a1.toS.put an.any h2)⟩
    · exact k.elim
  · rename_i j e1 h1
    split at k
    · rename_i d e2 h2
      split at k
      · rename_i e3 h3
        refine ⟨0, w, μ, e, _, e1, wf, er, h1, fun v H1 w1 a1 an => ?_⟩
        obtain ⟨w2, a2, r⟩ := a1.fz an (Nat.le_refl 0) h2
        exact k _ H1 _ (a2.toS.put (f := false) r h3)
      · exact k.elim
    · exact k.elim
  · exact k.elim
  · exact k.elim
theorem ps_none {X : Cx} {s : IS} {st : Stmt} (h : ∀ e, evS F s e = .no) : PS X st (tsS X.K F s) := ⟨fun pins s' σ H D I q => by
  obtain ⟨w, μ, e, wf, er, k⟩ := q
  rw [h e] at k
  exact k.elim⟩
theorem comp_of {sc : Scope} {a : IE} {x : Expr} {gs : List Comprehension} {scope : Scope} {p : Pos} (h : ckE C sc a (.ListComp x gs scope p) = true) : (∃ el pt src cs own, a = .comp el pt src cs own) ∨ (∃ el pt en i cs own, a = .compk el pt en i cs own) ∨ a = .bad := by
  cases a with
  | comp el pt src cs own => exact .inl ⟨el, pt, src, cs, own, rfl⟩
  | compk el pt en i cs own => exact .inr (.inl ⟨el, pt, en, i, cs, own, rfl⟩)
  | bad => exact .inr (.inr rfl)
  | mr _ _ _ => simp only [ckE] at h; exact absurd h Bool.false_ne_true
  | dic1 _ _ _ => simp only [ckE] at h; exact absurd h Bool.false_ne_true
  | lset _ => simp only [ckE] at h; exact absurd h Bool.false_ne_true
  | un p a => cases p <;> simp [ckE] at h
  | _ => simp [ckE] at h
mutual
theorem ckS_ok : ∀ {i : IS} {st : Stmt} {X : Cx} {sc : Scope}, Gd C F X → Gs true X sc → sc.kind = .function → PassesOwn (model X.prog X.w) X.A X.env X.xe → ckS C sc i st = true → PS X st (tsS X.K F i)
  | .set i a, st, X, sc, g, s, hk, hp, h => by
    cases st with
    | Assign ts e ps =>
      match ts, h with
      | [t], h =>
        cases t with
        | Name x p =>
          simp only [ckS, Bool.and_eq_true, Bool.not_eq_true', decide_eq_true_eq] at h
          obtain ⟨⟨⟨h1, h2⟩, h3⟩, h4⟩ := h
          have hl := loc_of s h2
          have hs := swap_name (tp := p) (t := x) (n := ps.line) s hk h4
          cases hw : swapB sc x p e with
          | false =>
            rw [hw] at hs
            exact ss_set g.nd (by rw [g.hN]; exact h1) hl.1 hl.2 (ckE_ok g s h3) hs
          | true =>
            rw [hw] at hs
            cases e with
            | ListComp el gens scope cp =>
              rcases comp_of h3 with ⟨iel, pt, src, cs, own, rfl⟩ | ⟨iel, pt, en, ik, cs, own, rfl⟩ | rfl
              · match gens, h3 with
                | [⟨tg, iter, ifs, as⟩], h3 =>
                  by_cases h0 : as = 0
                  · subst h0
                    simp only [ckE, Bool.and_eq_true, Bool.not_eq_true', decide_eq_true_eq] at h3
                    obtain ⟨⟨⟨⟨⟨⟨⟨k1, k2⟩, k3⟩, k4⟩, k5⟩, k6⟩, k7⟩, k8⟩ := h3
                    have ow : (ownL C own).map (·.2) = own := by
                      unfold ownL
                      rw [List.map_map]
                      exact List.map_id own
                    have gb : ∀ (s' : Shared) (H : Hp) (D : Addr) (cl : List (Str × Addr)) (fp : List Addr), Gs false (X.blk s' H scope (compEnvC scope cl D X.env) fp) (relab scope sc) := fun s' H D cl fp => ⟨by
                      show relabel scope X.env = relab scope sc
                      unfold relabel relab Env.kindOf
                      rw [s.scope], fun z => by cases z⟩
                    have hxl : X.env.scope.names.lookup x = some .local := by
                      rw [s.scope]
                      unfold swapB at hw
                      simp only [Bool.and_eq_true, beq_iff_eq] at hw
                      exact hw.1.1
                    have q := ps_setLc (pos := cp) (spos := ps) (py := p) (wi := tiI X.K F src) (g := tgP X.K pt) (tt := teC X.K F cs) (te := teE X.K F iel) g.calm g.nd (by rw [g.hN]; exact h1) hxl hs (ckI_ok g s k1) (by rw [g.hN, s.scope]; exact blkOk_by k6) (fun s' H D cl fp => pt_ofc (gd_blk g s' H scope _ fp) (gb s' H D cl fp) (fun x hx => by show (scope.names.lookup x == some .cell) = true; rw [hx]; rfl) k2) (fun s' H D cl fp => ckC_ok (gd_blk g s' H scope _ fp) (gb s' H D cl fp) k3 k4)
                      (fun s' H D cl fp => ckE_ok (gd_blk g s' H scope _ fp) (gb s' H D cl fp) k5) (fun v => fold_of k8 v)
                    refine q.imp fun D σ H z => ?_
                    rw [ow]
                    exact lc_in (ptIn_of k7) σ H _ (set_in D σ H z)
                  · simp [ckE, h0] at h3
                | [], h3 => simp [ckE] at h3
                | _ :: _ :: _, h3 => simp [ckE] at h3
              · match gens, h3 with
                | [⟨tg, iter, ifs, as⟩], h3 =>
                  by_cases h0 : as = 0
                  · subst h0
                    simp only [ckE, Bool.and_eq_true, Bool.not_eq_true', decide_eq_true_eq] at h3
                    obtain ⟨⟨⟨⟨⟨⟨⟨k1, k2⟩, k3⟩, k4⟩, k5⟩, k6⟩, k7⟩, k8⟩ := h3
                    have ow : (ownL C own).map (·.2) = own := by
                      unfold ownL
                      rw [List.map_map]
                      exact List.map_id own
                    have gb : ∀ (s' : Shared) (H : Hp) (D : Addr) (cl : List (Str × Addr)) (fp : List Addr), Gs false (X.blk s' H scope (compEnvC scope cl D X.env) fp) (relab scope sc) := fun s' H D cl fp => ⟨by
                      show relabel scope X.env = relab scope sc
                      unfold relabel relab Env.kindOf
                      rw [s.scope], fun z => by cases z⟩
                    have hxl : X.env.scope.names.lookup x = some .local := by
                      rw [s.scope]
                      unfold swapB at hw
                      simp only [Bool.and_eq_true, beq_iff_eq] at hw
                      exact hw.1.1
                    have q := ps_setLc (pos := cp) (spos := ps) (py := p) (wi := tiK X.K F en ik) (g := tgP X.K pt) (tt := teC X.K F cs) (te := teE X.K F iel) g.calm g.nd (by rw [g.hN]; exact h1) hxl hs (ckK_ok g s k1) (by rw [g.hN, s.scope]; exact blkOk_by k6) (fun s' H D cl fp => pt_ofc (gd_blk g s' H scope _ fp) (gb s' H D cl fp) (fun x hx => by show (scope.names.lookup x == some .cell) = true; rw [hx]; rfl) k2) (fun s' H D cl fp => ckC_ok (gd_blk g s' H scope _ fp) (gb s' H D cl fp) k3 k4)
                      (fun s' H D cl fp => ckE_ok (gd_blk g s' H scope _ fp) (gb s' H D cl fp) k5) (fun v => fold_of k8 v)
                    refine q.imp fun D σ H z => ?_
                    rw [ow]
                    exact lc_inK (ptIn_of k7) σ H _ (set_in D σ H z)
                  · simp [ckE, h0] at h3
                | [], h3 => simp [ckE] at h3
                | _ :: _ :: _, h3 => simp [ckE] at h3
              · exact ps_none fun e => by simp only [evS, evE]
            | _ => simp [swapB] at hw
        | _ => simp [ckS] at h
      | [], h => exact absurd (show false = true from h) Bool.false_ne_true
      | t :: _ :: _, h =>
        cases t with
        | Subscript o _ _ => cases o <;> exact absurd (show false = true from h) Bool.false_ne_true
        | _ => exact absurd (show false = true from h) Bool.false_ne_true
    | _ => simp [ckS] at h
  | .unp is a, st, X, sc, g, s, hk, hp, h => by
    cases st with
    | Assign ts e ps =>
      match ts, h with
      | [t], h =>
        cases t with
        | Tuple es k p =>
          simp only [ckS, Bool.and_eq_true, Bool.not_eq_true'] at h
          obtain ⟨⟨⟨h1, h2⟩, h3⟩, h4⟩ := h
          exact ss_unp (ckE_ok g s h1) (pt_of (pt := .tp is) g s (by simpa only [ptB] using h2)) (swapS_of h4) (swapped_none h3) (by rfl)
        | _ => simp [ckS] at h
      | [], h => exact absurd (show false = true from h) Bool.false_ne_true
      | t :: _ :: _, h =>
        cases t with
        | Subscript o _ _ => cases o <;> exact absurd (show false = true from h) Bool.false_ne_true
        | _ => exact absurd (show false = true from h) Bool.false_ne_true
    | _ => simp [ckS] at h
  | .par i j a b, st, X, sc, g, s, hk, hp, h => by
    match st, h with
    | .Assign [.Tuple [.Name x px, .Name y py] k1 p1] (.Tuple [u, v] k2 p2) pos, h =>
      simp only [ckS, Bool.and_eq_true, Bool.not_eq_true', decide_eq_true_eq] at h
      obtain ⟨⟨⟨⟨⟨⟨⟨⟨⟨⟨⟨⟨h1, h2⟩, h3⟩, h4⟩, h5⟩, h6⟩, h7⟩, h8⟩, h9⟩, h10⟩, h11⟩, h12⟩, h13⟩ := h
      have l5 : sc.names.lookup x = some .local := by simpa using h5
      have l6 : sc.names.lookup y = some .local := by simpa using h6
      refine ss_par g.calm g.nd (by rw [g.hN]; exact h1) (by rw [g.hN]; exact h2) h3 (by rw [s.scope]; exact l5) (by rw [s.scope]; exact l6) (sa_cons (ckE_ok g s h8) (sa_cons (ckE_ok g s h9) sa_nil (star_cons h11)) (by rw [star_cons h10])) (par_swap s hk h4 l5 l6 h7 h10 h11 h12 h13) (swapS_of rfl)
  | .par3 i j l a b c, st, X, sc, g, s, hk, hp, h => by
    simp only [ckS] at h
    split at h
    · rename_i x px y py z pz u v t hv
      obtain ⟨k1, p1, k2, p2, pos, ee⟩ := vPar3_ok hv
      subst ee
      simp only [Bool.and_eq_true, Bool.not_eq_true', decide_eq_true_eq] at h
      obtain ⟨⟨⟨⟨⟨⟨⟨⟨⟨⟨⟨⟨⟨⟨⟨⟨⟨⟨⟨⟨⟨h1, h2⟩, h3⟩, h4⟩, h5⟩, h6⟩, h7⟩, h8⟩, h9⟩, h10⟩, h11⟩, h12⟩, h13⟩, h14⟩, h15⟩, h16⟩, h17⟩, h18⟩, h19⟩, h20⟩, h21⟩, h22⟩ := h
      have lx : sc.names.lookup x = some .local := by simpa using h10
      have ly : sc.names.lookup y = some .local := by simpa using h11
      have lz : sc.names.lookup z = some .local := by simpa using h12
      exact ss_par3 g.calm g.nd (by rw [g.hN]; exact h1) (by rw [g.hN]; exact h2) (by rw [g.hN]; exact h3) h4 h5 h6 (by rw [s.scope]; exact lx) (by rw [s.scope]; exact ly) (by rw [s.scope]; exact lz)
        (sa_cons (ckE_ok g s h15) (sa_cons (ckE_ok g s h16) (sa_cons (ckE_ok g s h17) sa_nil (star_cons h20)) (star_cons h19)) (by rw [star_cons h18])) (par_swap3 s hk h7 h8 h9 lx ly lz h13 h14 h18 h19 h20 h21 h22) (swapS_of rfl)
    · cases h
  | .exp a, st, X, sc, g, s, hk, hp, h => by
    cases st with
    | Expr e ps =>
      simp only [ckS, Bool.and_eq_true, Bool.not_eq_true'] at h
      exact ss_exp (ckE_ok g s h.1) (swap_of h.2)
    | _ => simp [ckS] at h
  | .ret a, st, X, sc, g, s, hk, hp, h => by
    cases st with
    | Return v ps =>
      cases v with
      | some e => exact ss_ret (ckE_ok g s (by simpa only [ckS] using h))
      | none => simp [ckS] at h
    | _ => simp [ckS] at h
  | .retN, st, X, sc, g, s, hk, hp, h => by
    cases st with
    | Return v ps =>
      cases v with
      | none => exact ss_retN
      | some _ => simp [ckS] at h
    | _ => simp [ckS] at h
  | .iff c a b, st, X, sc, g, s, hk, hp, h => by
    cases st with
    | If t x y ps =>
      simp only [ckS, Bool.and_eq_true] at h
      exact ss_if (ckT_ok g s h.1.1) (ckSs_ok g s hk hp h.1.2) (ckSs_ok g s hk hp h.2)
    | _ => simp [ckS] at h
  | .forr pt r body, st, X, sc, g, s, hk, hp, h => by
    cases st with
    | For tg it b oe ps =>
      cases oe with
      | nil =>
        simp only [ckS, Bool.and_eq_true, Bool.not_eq_true'] at h
        exact ss_for hp g.calm (ckI_ok g s h.1.1.1) (pt_of g s h.1.1.2) (ckSs_ok g s hk hp h.1.2) (fun v => fold_of h.2 v)
      | cons _ _ => simp [ckS] at h
    | _ => simp [ckS] at h
  | .forrk pt en ik body, st, X, sc, g, s, hk, hp, h => by
    cases st with
    | For tg it b oe ps =>
      cases oe with
      | nil =>
        simp only [ckS, Bool.and_eq_true, Bool.not_eq_true'] at h
        exact ss_forK hp g.calm (ckK_ok g s h.1.1.1) (pt_of g s h.1.1.2) (ckSs_ok g s hk hp h.1.2) (fun v => fold_of h.2 v)
      | cons _ _ => simp [ckS] at h
    | _ => simp [ckS] at h
  | .whl n c body, st, X, sc, g, s, hk, hp, h => by
    cases st with
    | While t b oe ps =>
      cases oe with
      | nil =>
        simp only [ckS, Bool.and_eq_true] at h
        exact ss_while hp (ckT_ok g s h.1) (ckSs_ok g s hk hp h.2)
      | cons _ _ => simp [ckS] at h
    | _ => simp [ckS] at h
  | .ixset i k v, st, X, sc, g, s, hk, hp, h => by
    cases st with
    | Assign ts e ps =>
      match ts, h with
      | [t], h =>
        cases t with
        | Subscript o ke p2 =>
          cases o with
          | Name x p =>
            simp only [ckS, Bool.and_eq_true, Bool.not_eq_true'] at h
            obtain ⟨⟨⟨⟨h1, h2⟩, h3⟩, h4⟩, h5⟩ := h
            exact ss_ixset (by have := g.hu; omega) (nm_of g s h1) (ckE_ok g s h2) (ckE_ok g s h3) (fun v => by cases ke <;> first | rfl | cases h4) (swapS_of h5) swapped_sub (by rfl)
          | _ => simp [ckS] at h
        | _ => simp [ckS] at h
      | [], h => exact absurd (show false = true from h) Bool.false_ne_true
      | t :: _ :: _, h =>
        cases t with
        | Subscript o _ _ => cases o <;> exact absurd (show false = true from h) Bool.false_ne_true
        | _ => exact absurd (show false = true from h) Bool.false_ne_true
    | _ => simp [ckS] at h
  | .aug i p a, st, X, sc, g, s, hk, hp, h => by
    simp only [ckS] at h
    split at h
    · rename_i x p1 op e p2 hv
      have ee := vAug_ok hv
      subst ee
      simp only [Bool.and_eq_true, decide_eq_true_eq] at h
      obtain ⟨⟨⟨h1, h2⟩, h3⟩, h4⟩ := h
      have hl := loc_of s h2
      exact ss_aug h3 g.nd (by rw [g.hN]; exact h1) hl.1 (ckE_ok g s h4) hl.2
    · cases h
  | .augi i p k a, st, X, sc, g, s, hk, hp, h => by
    simp only [ckS] at h
    split at h
    · rename_i x p1 ke p2 op e p3 hv
      have ee := vAugI_ok hv
      subst ee
      simp only [Bool.and_eq_true, Bool.not_eq_true'] at h
      obtain ⟨⟨⟨⟨h1, h2⟩, h3⟩, h4⟩, h5⟩ := h
      exact ss_augi h2 (nm_of g s h1) (ckE_ok g s h3) (ckE_ok g s h4) (fun ov iv new => by cases ke <;> first | rfl | cases h5)
    · cases h
  | .mov i j, st, X, sc, g, s, hk, hp, h => by
    match st, h with
    | .Assign [.Name x p] (.Name y py) pos, h =>
      simp only [ckS, Bool.and_eq_true, decide_eq_true_eq] at h
      obtain ⟨⟨h1, h2⟩, h3⟩ := h
      have hl := loc_of s h2
      exact ss_mov g.nd (by rw [g.hN]; exact h1) hl.1 hl.2 (nm_of g s h3) (swap_of rfl)
  | .bad, st, X, sc, g, s, hk, hp, h => ps_none fun e => by simp only [evS]
  | .pass, st, X, sc, g, s, hk, hp, h => by
    cases st with
    | Pass ps => exact ss_pass
    | _ => simp [ckS] at h
  | .brk, st, X, sc, g, s, hk, hp, h => by
    cases st with
    | Break ps => exact ss_brk
    | _ => simp [ckS] at h
  | .cont, st, X, sc, g, s, hk, hp, h => by
    cases st with
    | Continue ps => exact ss_cont
    | _ => simp [ckS] at h
  | .doc, st, X, sc, g, s, hk, hp, h => by
    cases st with
    | Expr e ps =>
      cases e with
      | Constant c k p =>
        cases c with
        | str z => exact ss_doc
        | _ => simp [ckS] at h
      | _ => simp [ckS] at h
    | _ => simp [ckS] at h
theorem ckSs_ok : ∀ {is : List IS} {sts : List Stmt} {X : Cx} {sc : Scope}, Gd C F X → Gs true X sc → sc.kind = .function → PassesOwn (model X.prog X.w) X.A X.env X.xe → ckSs C sc is sts = true → PSs X sts (tsSs X.K F is)
  | [], [], X, sc, g, s, hk, hp, h => ss_nil
  | i :: is, st :: sts, X, sc, g, s, hk, hp, h => by
    rw [ckSs, Bool.and_eq_true] at h
    exact ss_cons (ckS_ok g s hk hp h.1) (ckSs_ok g s hk hp h.2)
  | [], _ :: _, X, sc, g, s, hk, hp, h => by simp [ckSs] at h
  | _ :: _, [], X, sc, g, s, hk, hp, h => by simp [ckSs] at h
end
end
end PD

/-! PD14: a def's promise by its term; the law's end. -/
namespace PD
open PySem PySem.Spec PyProof.Rows L2
theorem argR_len {K : PySem.W.Frag} {H : Hp} {w : Wh} : ∀ {j : Nat} {ms : List Bool} {vs : List V} {ds : List D}, ArgR K H w j ms vs ds → vs.length = ms.length ∧ ds.length = ms.length
  | _, _, _, _, .nil j => ⟨rfl, rfl⟩
  | _, _, _, _, .ro _ r => ⟨congrArg (· + 1) (argR_len r).1, congrArg (· + 1) (argR_len r).2⟩
  | _, _, _, _, .mu _ r => ⟨congrArg (· + 1) (argR_len r).1, congrArg (· + 1) (argR_len r).2⟩
theorem argR_at {K : PySem.W.Frag} {H : Hp} {w : Wh} : ∀ {j : Nat} {ms : List Bool} {vs : List V} {ds : List D}, ArgR K H w j ms vs ds → ∀ (i : Nat) (m : Bool) (d : D), ms[i]? = some m → ds[i]? = some d → ∃ v, vs[i]? = some v ∧ RpO K H w (.slot (j + i)) (if m = true then .mu else .sh) v d
  | _, _, _, _, .nil j, i, m, d, h, _ => by simp at h
  | j, _, _, _, .ro a r, 0, m, d, h1, h2 => by
    simp at h1 h2
    subst h1 h2
    exact ⟨_, rfl, a⟩
  | j, _, _, _, .mu a r, 0, m, d, h1, h2 => by
    simp at h1 h2
    subst h1 h2
    exact ⟨_, rfl, a⟩
  | j, _, _, _, .ro a r, i + 1, m, d, h1, h2 => by
    obtain ⟨v, e, q⟩ := argR_at r i m d (by simpa using h1) (by simpa using h2)
    exact ⟨v, by simpa using e, by rw [show j + (i + 1) = j + 1 + i by omega]; exact q⟩
  | j, _, _, _, .mu a r, i + 1, m, d, h1, h2 => by
    obtain ⟨v, e, q⟩ := argR_at r i m d (by simpa using h1) (by simpa using h2)
    exact ⟨v, by simpa using e, by rw [show j + (i + 1) = j + 1 + i by omega]; exact q⟩
theorem lastMs_ok {K : PySem.W.Frag} {H : Hp} {w : Wh} {μ : Nat → Option V} {σ : L2.St} {e : En} (er : EnvR K H w μ σ e) : ∀ {modes : List Bool} {vs : List V} {j : Nat} {ms : List D}, lastMs modes j e = some ms → modes.length = vs.length → (∀ i, i < vs.length → μ (j + i) = vs[i]?) → MsR K H w j modes vs ms
  | [], [], j, ms, h, _, _ => by
    cases h
    exact .nil j
  | false :: modes, v :: vs, j, ms, h, hl, hm => by
    refine .ro (lastMs_ok er (show lastMs modes (j + 1) e = some ms from h) (by simpa using hl) fun i hi => ?_)
    rw [show j + 1 + i = j + (i + 1) by omega, hm (i + 1) (by simp only [List.length_cons]; omega)]
    simp
  | true :: modes, v :: vs, j, ms, h, hl, hm => by
    simp only [lastMs] at h
    split at h
    · rename_i d ds h1 h2
      cases h
      obtain ⟨v', v1, v2, v3⟩ := er.at_ j _ d h1
      have hv := hm 0 (by simp)
      rw [Nat.add_zero, v3 rfl] at hv
      have ev : v' = v := by simpa using hv
      subst ev
      refine .mu v2 (lastMs_ok er h2 (by simpa using hl) fun i hi => ?_)
      rw [show j + 1 + i = j + (i + 1) by omega, hm (i + 1) (by simp only [List.length_cons]; omega)]
      simp
    · cases h
  | [], _ :: _, _, _, _, hl, _ => by simp at hl
  | _ :: _, [], _, _, _, hl, _ => by simp at hl
section
variable {P : Program} {w : World} {K : PySem.W.Frag} {mg : Str → Option Value} {base : Heap}
/-- what a callee is known by -/
def LnkOk (P : Program) (w : World) (K : PySem.W.Frag) (mg : Str → Option Value) (base : Heap) (k : Nat) (p : Str × List (List D)) (fn : Fn) : Prop :=
  ∃ (f : Addr) (fd : FuncData) (ps : List Str), FnOk P w K mg base CX0 k f fd ps (spF K fn) ∧ mg p.1 = some (.ref f) ∧ PySem.W.keepIn K (.ref f) = true ∧
    ∀ dv ∈ p.2, ∃ dvs ds, Paired (fun v d => litV d = some v) dvs dv ∧ Binds K fd ps ds ∧ Vals dvs ds
theorem fn_pdG {x qual : Str} {st : Stmt} {f : Addr} {fd : FuncData} {N ps : List Str} {k : Nat} {C : Ck} {Fs : List Fn} {modes : List Bool} {body : List IS}
    (ok : ∀ {sp : Sp}, (∀ vs H Q E, sp vs H Q E → vs.length = ps.length) → (∀ (cdv : Value) (A : Around) (outer : List Env) (s : Shared) (H : Hp) (vs : List V) (Q : VK) (E : XK), Room k (A.deeper (envOfC qual (defScope st) s.heap.objs.size f cdv)) → sp vs H Q E →
      ∃ t, PSs (cxOf CX0 P w K mg base N qual (defScope st) f cdv A outer s H E).nox (defBody st) t ∧ t { nx := fun _ H' => Q .non H', rt := Q } (L2.start N vs) H) → FnOk P w K mg base CX0 (k + 1) f fd ps sp)
    (S : FnScope N ps (defScope st)) (hN : C.N = N) (hm : modes.length = ps.length)
    (hck : ckSs C (defScope st) body (defBody st) = true) (blt : ∀ x ∈ C.B, mg x = none) (glb : ∀ p : Str × D, p ∈ C.G → ∃ u v, mg p.1 = some u ∧ litV p.2 = some v ∧ RelV v u)
    (lnk : ∀ (i : Nat) (p : Str × List (List D)), C.L[i]? = some p → ∃ fn, Fs[i]? = some fn ∧ LnkOk P w K mg base k p fn) : FnOk P w K mg base CX0 (k + 1) f fd ps (spF K ⟨modes, runF Fs modes N.length body⟩) := by
  refine ok (fun vs H Q E h => ?_) (fun cdv A outer s H vs Q E hr h => ⟨tsSs K Fs body, ?_, ?_⟩)
  · obtain ⟨w, ds, wf, ar, _⟩ := h
    rw [(argR_len ar).1, hm]
  · refine ckSs_ok (X := (cxOf CX0 P w K mg base N qual (defScope st) f cdv A outer s H E).nox) (sc := defScope st) ⟨hN.symm, S.nd, rfl, ?_, blt, glb, fun i p hp => ?_⟩ ⟨rfl, fun _ _ => rfl⟩ S.kind PassesOwn.never hck
    · have := hr.un
      show (A.deeper (envOfC qual (defScope st) s.heap.objs.size f cdv)).units + 130 < cLine
      omega
    · obtain ⟨fn, h1, f', fd', ps', h2, h3, h4, h5⟩ := lnk i p hp
      exact ⟨fn, h1, k, f', fd', ps', hr, h2, h3, h4, h5⟩
  · obtain ⟨w, ds, wf, ar, sem⟩ := h
    obtain ⟨l1, l2⟩ := argR_len ar
    simp only at l1 l2 sem
    split at sem
    · rename_i fr d0 ms0 heq
      unfold runF at heq
      have hlen : ds.length = modes.length ∧ modes.length ≤ N.length := by
        split at heq
        · assumption
        · cases heq
      rw [if_pos hlen] at heq
      have er : EnvR K H w (fun j => vs[j]?) (L2.start N vs) (startE modes ds N.length) := by
        have zl : (List.zipWith (fun m d => some (Sl.mk (if m = true then .mu else .sh) d)) modes ds).length = modes.length := by
          rw [List.length_zipWith, l2, Nat.min_self]
        refine ⟨?_, fun i o d h => ?_⟩
        · unfold L2.start startE
          rw [List.length_append, List.length_append, List.length_map, List.length_replicate, List.length_replicate, zl, l1, l2]
        · unfold startE at h
          by_cases hi : i < modes.length
          · rw [List.getElem?_append_left (by rw [zl]; exact hi), List.getElem?_zipWith] at h
            have h1 : modes[i]? = some modes[i] := List.getElem?_eq_getElem hi
            have h2 : ds[i]? = some (ds[i]'(by omega)) := List.getElem?_eq_getElem (by omega)
            rw [h1, h2] at h
            cases h
            obtain ⟨v, v1, v2⟩ := argR_at ar i _ _ h1 h2
            refine ⟨v, ?_, by rw [Nat.zero_add] at v2; exact v2, fun _ => v1⟩
            unfold L2.start
            rw [List.getElem?_append_left (by rw [List.length_map, l1]; exact hi), List.getElem?_map, v1]
            rfl
          · rw [List.getElem?_append_right (by rw [zl]; omega), List.getElem?_replicate] at h
            split at h <;> cases h
      refine ⟨w, fun j => vs[j]?, _, wf, er, ?_⟩
      have fin : ∀ {f : Bool} {d : D} {e : En} {ms : List D} {v : V} {σ' : L2.St} {H' : Hp} {w' : Wh}, lastMs modes 0 e = some ms → AftS K (fun j => vs[j]?) e H w σ' H' w' → AnsR K 0 H' w' [] v (.val f d) →
          (∀ v H' w', Stp (keepE 0) H w H' w' → Wf H' w' → AnsR K 0 H' w' [] v (.val f d) → MsR K H' w' 0 modes vs ms → Q v H') → Q v H' := fun hms a an k =>
        k _ _ _ a.stp a.wf an (lastMs_ok a.env hms (by rw [l1]) fun i hi => by rw [Nat.zero_add])
      cases hr : evSs Fs body (startE modes ds N.length) with
      | nx e =>
        rw [hr] at heq
        simp only at heq
        cases hms : lastMs modes 0 e with
        | none => rw [hms] at heq; cases heq
        | some ms =>
          rw [hms] at heq
          cases heq
          exact fun σ' H' w' a => fin (d := .none) (f := false) hms a .non sem
      | rt f d e =>
        rw [hr] at heq
        simp only at heq
        cases hms : lastMs modes 0 e with
        | none => rw [hms] at heq; cases heq
        | some ms =>
          rw [hms] at heq
          cases heq
          exact fun v σ' H' w' a an => fin hms a an sem
      | no => rw [hr] at heq; cases heq
      | bk e => rw [hr] at heq; cases heq
      | ct e => rw [hr] at heq; cases heq
      | ex c d e =>
        rw [hr] at heq
        simp only at heq
        cases hms : lastMs modes 0 e with
        | none => rw [hms] at heq; cases heq
        | some ms => rw [hms] at heq; cases heq
    · exact sem.elim
theorem fn_pd {x qual : Str} {st : Stmt} {f : Addr} {fd : FuncData} {N ps : List Str} {k : Nat} {C : Ck} {Fs : List Fn} {modes : List Bool} {body : List IS} (F : Fun K x qual st f fd) (S : FnScope N ps (defScope st)) (hN : C.N = N) (hm : modes.length = ps.length)
    (hck : ckSs C (defScope st) body (defBody st) = true) (blt : ∀ x ∈ C.B, mg x = none) (glb : ∀ p : Str × D, p ∈ C.G → ∃ u v, mg p.1 = some u ∧ litV p.2 = some v ∧ RelV v u)
    (lnk : ∀ (i : Nat) (p : Str × List (List D)), C.L[i]? = some p → ∃ fn, Fs[i]? = some fn ∧ LnkOk P w K mg base k p fn) : FnOk P w K mg base CX0 (k + 1) f fd ps (spF K ⟨modes, runF Fs modes N.length body⟩) :=
  fn_pdG (x := x) (fun len hb => F.ok S len hb) S hN hm hck blt glb lnk
/-- a def with defaults -/
theorem fn_pdD {x qual : Str} {st : Stmt} {f : Addr} {fd : FuncData} {N ps : List Str} {k : Nat} {C : Ck} {Fs : List Fn} {modes : List Bool} {body : List IS} {dvs : List V} {kws : List (Str × V)} (F : FunD K x qual (defArgs st) (defBody st) (defScope st) dvs kws f fd) (S : FnScope N ps (defScope st)) (hN : C.N = N) (hm : modes.length = ps.length)
    (hck : ckSs C (defScope st) body (defBody st) = true) (blt : ∀ x ∈ C.B, mg x = none) (glb : ∀ p : Str × D, p ∈ C.G → ∃ u v, mg p.1 = some u ∧ litV p.2 = some v ∧ RelV v u)
    (lnk : ∀ (i : Nat) (p : Str × List (List D)), C.L[i]? = some p → ∃ fn, Fs[i]? = some fn ∧ LnkOk P w K mg base k p fn) : FnOk P w K mg base CX0 (k + 1) f fd ps (spF K ⟨modes, runF Fs modes N.length body⟩) :=
  fn_pdG (x := x) (fun len hb => F.ok S len fun cdv A outer s H vs Q E hr hsp => by
    obtain ⟨t, h, q⟩ := hb cdv A outer s H vs Q E hr hsp
    exact ⟨t, h.nox, q⟩) S hN hm hck blt glb lnk
/-- what is asked of the law's def -/
def spLaw (K : PySem.W.Frag) : Sp := fun vs H Q _ => ∃ (a : Addr) (ns : List Int), vs = [.ref a] ∧ SqL K H a (ns.map V.int) ∧ ns.length ≤ 63 ∧ ∀ H', Q (.bl true) H'
theorem law_pd {k : Nat} {f : Addr} {fd : FuncData} {ps : List Str} {fn : Fn} (G : FnOk P w K mg base CX0 k f fd ps (spF K fn)) (hm : fn.modes = [false]) (hs : ∀ ns : List Int, ns.length ≤ 63 → ∃ fr, fn.sem [.list (ns.map .int)] = .ok fr (.bool true) []) :
    FnOk P w K mg base CX0 k f fd ps (spLaw K) := by
  refine G.imp fun vs H Q E h => ?_
  obtain ⟨a, ns, rfl, hS, hl, k⟩ := h
  obtain ⟨fr, hs⟩ := hs ns hl
  have ri : ∀ ns : List Int, RpAll K H (fun _ => none) (ns.map V.int) (ns.map PyData.int) := by
    intro ns
    induction ns with
    | nil => exact .nil
    | cons n ns ih => exact .cons (.int n) ih
  refine ⟨fun _ => none, [.list (ns.map .int)], ⟨fun _ _ => rfl, fun _ _ _ => rfl⟩, ?_, ?_⟩
  · rw [hm]
    refine .ro (.lst ?_ (ri ns)) (.nil 1)
    exact hS.imp (fun h => ⟨h, rfl⟩) fun h => h
  · rw [hs]
    intro v H' w' _ _ an _
    rw [ans_bl an]
    exact k H'
end
end PD

/-! PD15: defs put together. -/
namespace PD
open PySem PySem.Spec PyProof.Rows L2
/-- a def that stands in the module -/
def Kn (K : PySem.W.Frag) (mg : Str → Option Value) (x : Str) (st : Stmt) (ps : List Str) : Prop :=
  ∃ (f : Addr) (fd : FuncData), Fun K x x st f fd ∧ Binds K fd ps [] ∧ mg x = some (.ref f) ∧ PySem.W.keepIn K (.ref f) = true
section
variable {P : Program} {w : World} {K : PySem.W.Frag} {mg : Str → Option Value} {base : Heap}
theorem kn_mk {x : Str} {st : Stmt} {f : Addr} {h : Heap} {ps : List Str} {oc : Value} {od an : Option Addr} {osl : Array (Option Value)} {kV doc pm cdv ct : Value} (X : K.In h) (G : h.Ns mainGlobals mg)
    (a : PySem.W.nsIn K mainGlobals x = some (some (.ref f)))
    (l : K.lookup f = some ⟨oc, od, .func (PySem.W.fnOf x x (defArgs st) (defBody st) (defScope st) .none kV doc pm an cdv ct), osl⟩)
    (c : PySem.W.codeIn K cdv x = true) (k : PySem.W.keepIn K (.ref f) = true)
    (hb : ∀ (kV doc pm : Value) (an : Option Addr) (cdv ct : Value) (us : List Value), us.length = ps.length → bindArgs (PySem.W.fnOf x x (defArgs st) (defBody st) (defScope st) .none kV doc pm an cdv ct) ⟨us, []⟩ = pure (ps.zip us)) : Kn K mg x st ps :=
  ⟨f, _, fun_mk l c k, (fun_mk l c k).binds hb, PySem.W.mg_of X G a, k⟩
def LnkL (P : Program) (w : World) (K : PySem.W.Frag) (mg : Str → Option Value) (base : Heap) (k : Nat) : List (Str × List (List D)) → List Fn → Prop
  | [], [] => True
  | p :: ps, f :: fs => LnkOk P w K mg base k p f ∧ LnkL P w K mg base k ps fs
  | _, _ => False
theorem LnkL.at {k : Nat} : ∀ {L : List (Str × List (List D))} {fs : List Fn}, LnkL P w K mg base k L fs → ∀ (i : Nat) (p : Str × List (List D)), L[i]? = some p → ∃ fn, fs[i]? = some fn ∧ LnkOk P w K mg base k p fn
  | [], [], _, i, p, h => by simp at h
  | q :: L, f :: fs, hl, 0, p, h => by
    simp at h
    subst h
    exact ⟨f, rfl, hl.1⟩
  | q :: L, f :: fs, hl, i + 1, p, h => by
    obtain ⟨fn, h1, h2⟩ := LnkL.at hl.2 i p (by simpa using h)
    exact ⟨fn, by simpa using h1, h2⟩
theorem LnkOk.mono {j k : Nat} {p : Str × List (List D)} {fn : Fn} (h : LnkOk P w K mg base j p fn) (hj : j ≤ k) : LnkOk P w K mg base k p fn := by
  obtain ⟨f, fd, ps, h1, h2⟩ := h
  exact ⟨f, fd, ps, h1.mono hj, h2⟩
theorem lnk_pd {x : Str} {st : Stmt} {N ps : List Str} {k : Nat} {C : Ck} {Fs : List Fn} {modes : List Bool} {body : List IS} (n : Kn K mg x st ps) (S : FnScope N ps (defScope st)) (hN : C.N = N) (hm : modes.length = ps.length)
    (hck : ckSs C (defScope st) body (defBody st) = true) (blt : ∀ x ∈ C.B, mg x = none) (glb : ∀ p : Str × D, p ∈ C.G → ∃ u v, mg p.1 = some u ∧ litV p.2 = some v ∧ RelV v u)
    (lnk : LnkL P w K mg base k C.L Fs) : LnkOk P w K mg base (k + 1) (x, [[]]) ⟨modes, runF Fs modes N.length body⟩ := by
  obtain ⟨f, fd, F, hb, h1, h2⟩ := n
  refine ⟨f, fd, ps, fn_pd F S hN hm hck blt glb lnk.at, h1, h2, fun dv hd => ?_⟩
  rw [List.mem_singleton] at hd
  subst hd
  exact ⟨[], [], .nil, hb, .nil⟩
/-- a def with one default, None, that stands in the module -/
def KnD (K : PySem.W.Frag) (mg : Str → Option Value) (x : Str) (st : Stmt) (ps : List Str) : Prop :=
  ∃ (f : Addr) (fd : FuncData), FunD K x x (defArgs st) (defBody st) (defScope st) [.non] [] f fd ∧ (∃ ds, Vals [.non] ds ∧ Binds K fd ps ds) ∧ (∃ ds, Vals [] ds ∧ Binds K fd ps ds) ∧ mg x = some (.ref f) ∧ PySem.W.keepIn K (.ref f) = true
theorem kn_mkD {x : Str} {st : Stmt} {f T : Addr} {h : Heap} {ps : List Str} {oc tc : Value} {od an td : Option Addr} {osl tsl : Array (Option Value)} {tn : Nat} {kV doc pm cdv ct : Value} (X : K.In h) (G : h.Ns mainGlobals mg)
    (a : PySem.W.nsIn K mainGlobals x = some (some (.ref f)))
    (l : K.lookup f = some ⟨oc, od, .func (PySem.W.fnOf x x (defArgs st) (defBody st) (defScope st) (.ref T) kV doc pm an cdv ct), osl⟩)
    (t : K.lookup T = some ⟨tc, td, .seq #[.none] tn, tsl⟩)
    (c : PySem.W.codeIn K cdv x = true) (k : PySem.W.keepIn K (.ref f) = true) (hp : 1 ≤ ps.length)
    (h0 : ∀ (T : Addr) (kV doc pm : Value) (an : Option Addr) (cdv ct : Value) (us its : List Value), us.length = ps.length - 1 → its.length = 1 →
      ∃ k, bindArgs (PySem.W.fnOf x x (defArgs st) (defBody st) (defScope st) (.ref T) kV doc pm an cdv ct) ⟨us, []⟩ = seqItems? (.ref T) >>= k ∧ k (some its.toArray) = pure (ps.zip (us ++ its.drop 0)))
    (h1 : ∀ (T : Addr) (kV doc pm : Value) (an : Option Addr) (cdv ct : Value) (us its : List Value), us.length = ps.length → its.length = 1 →
      ∃ k, bindArgs (PySem.W.fnOf x x (defArgs st) (defBody st) (defScope st) (.ref T) kV doc pm an cdv ct) ⟨us, []⟩ = seqItems? (.ref T) >>= k ∧ k (some its.toArray) = pure (ps.zip (us ++ its.drop 1))) : KnD K mg x st ps := by
  have F : FunD K x x (defArgs st) (defBody st) (defScope st) [.non] [] f (PySem.W.fnOf x x (defArgs st) (defBody st) (defScope st) (.ref T) kV doc pm an cdv ct) :=
    ⟨⟨oc, od, _, kV, doc, pm, an, cdv, ct, osl, rfl, l, c, .inr ⟨by simp, T, _, [.none], tn, rfl, t, rfl, .cons rfl .nil⟩, .inl rfl⟩, k⟩
  exact ⟨f, _, F, F.binds1 (ps := ps) (ps.length - 1) 0 (by simp) (by show ps.length - 1 + 1 = _; omega) h0, F.binds1 (ps := ps) ps.length 1 (by simp) (by show ps.length + 0 = _; omega) h1, PySem.W.mg_of X G a, k⟩
theorem LnkOk.sub {k : Nat} {x : Str} {L L' : List (List D)} {fn : Fn} (h : LnkOk P w K mg base k (x, L) fn) (hs : ∀ dv ∈ L', dv ∈ L) : LnkOk P w K mg base k (x, L') fn := by
  obtain ⟨f, fd, ps, h1, h2, h3, h4⟩ := h
  exact ⟨f, fd, ps, h1, h2, h3, fun dv hd => h4 dv (hs dv hd)⟩
theorem lnk_pdD {x : Str} {st : Stmt} {N ps : List Str} {k : Nat} {C : Ck} {Fs : List Fn} {modes : List Bool} {body : List IS} (n : KnD K mg x st ps) (S : FnScope N ps (defScope st)) (hN : C.N = N) (hm : modes.length = ps.length)
    (hck : ckSs C (defScope st) body (defBody st) = true) (blt : ∀ x ∈ C.B, mg x = none) (glb : ∀ p : Str × D, p ∈ C.G → ∃ u v, mg p.1 = some u ∧ litV p.2 = some v ∧ RelV v u)
    (lnk : LnkL P w K mg base k C.L Fs) : LnkOk P w K mg base (k + 1) (x, [[], [.none]]) ⟨modes, runF Fs modes N.length body⟩ := by
  obtain ⟨f, fd, F, ⟨ds, d1, b1⟩, ⟨ds0, d0, b0⟩, h1, h2⟩ := n
  refine ⟨f, fd, ps, fn_pdD F S hN hm hck blt glb lnk.at, h1, h2, fun dv hd => ?_⟩
  rcases List.mem_cons.mp hd with rfl | hd
  · exact ⟨[], ds0, .nil, b0, d0⟩
  · rw [List.mem_singleton] at hd
    subst hd
    exact ⟨[.non], ds, .cons rfl .nil, b1, d1⟩
theorem law_end {N ps : List Str} {k : Nat} {fa : Addr} {x : Str} {st : Stmt} {oc : Value} {od an : Option Addr} {osl : Array (Option Value)} {kV doc pm cdv ct : Value} (S : FnScope N ps (defScope st))
    (l : K.lookup fa = some ⟨oc, od, .func (PySem.W.fnOf x x (defArgs st) (defBody st) (defScope st) .none kV doc pm an cdv ct), osl⟩)
    (c : PySem.W.codeIn K cdv x = true) (kk : PySem.W.keepIn K (.ref fa) = true) {C : Ck} {Fs : List Fn} {body : List IS} (hN : C.N = N) (hp : ps.length = 1)
    (hck : ckSs C (defScope st) body (defBody st) = true) (blt : ∀ x ∈ C.B, mg x = none) (glb : ∀ p : Str × D, p ∈ C.G → ∃ u v, mg p.1 = some u ∧ litV p.2 = some v ∧ RelV v u)
    (lnk : LnkL P w K mg base k C.L Fs) (hs : ∀ ns : List Int, ns.length ≤ 63 → ∃ fr, runF Fs [false] N.length body [.list (ns.map .int)] = .ok fr (.bool true) []) :
    FnOk P w K mg base CX0 (k + 1) fa (PySem.W.fnOf x x (defArgs st) (defBody st) (defScope st) .none kV doc pm an cdv ct) ps (spLaw K) :=
  law_pd (fn_pd (modes := [false]) (fun_mk l c kk) S hN (by rw [hp]; rfl) hck blt glb lnk.at) rfl hs
end
end PD

namespace CM
open PySem PD
def b__law_pen : List IS := [
  .ret (.dic [(.str "cells"), (.str "at"), (.str "left")] [(.sl (.var 0) none (some (.lit (.int 63)))), (.lit (.int 0)), (.lit (.int 0))])]
def f__law_pen : Fn := ⟨[false], runF [] [false] 1 b__law_pen⟩
@[simp] theorem m__law_pen : f__law_pen.modes = [false] := rfl
theorem e__law_pen (ds : List D) : f__law_pen.sem ds = runF [] [false] 1 b__law_pen ds := rfl
def b__law_draw : List IS := [
  .iff (.cm .gt (.ix (.var 0) (.lit (.str "left"))) (.lit (.int 0))) [
    .set 2 (.bi .mod (.ix (.var 0) (.lit (.str "left"))) (.var 1)),
    .ixset 0 (.lit (.str "left")) (.bi .fdiv (.ix (.var 0) (.lit (.str "left"))) (.var 1)),
    .ret (.var 2)] [],
  .set 3 (.ix (.var 0) (.lit (.str "at"))),
  .ixset 0 (.lit (.str "at")) (.bi .add (.var 3) (.lit (.int 1))),
  .set 4 (.bi .add (.bi .mul (.lit (.int 41)) (.var 3)) (.lit (.int 13))),
  .iff (.cm .gt (.fn .len [(.ix (.var 0) (.lit (.str "cells")))]) (.lit (.int 0))) [
    .set 4 (.ix (.ix (.var 0) (.lit (.str "cells"))) (.bi .mod (.var 3) (.fn .len [(.ix (.var 0) (.lit (.str "cells")))])))] [],
  .iff (.and [(.cm .lt (.var 3) (.fn .len [(.ix (.var 0) (.lit (.str "cells")))])), (.cm .ge (.fn .abs [(.var 4)]) (.bi .pow (.lit (.int 10)) (.lit (.int 18))))]) [
    .ixset 0 (.lit (.str "left")) (.bi .fdiv (.fn .abs [(.var 4)]) (.var 1)),
    .ret (.bi .mod (.fn .abs [(.var 4)]) (.var 1))] [],
  .set 5 (.ix (.tup [(.lit (.int 2147483647)), (.lit (.int 2147483629)), (.lit (.int 2147483587)), (.lit (.int 2147483579)), (.lit (.int 2147483563)), (.lit (.int 2147483549)), (.lit (.int 2147483543))]) (.bi .mod (.var 3) (.lit (.int 7)))),
  .set 6 (.bi .mod (.bi .pow (.bi .add (.bi .add (.bi .add (.bi .mod (.var 4) (.lit (.int 2147483489))) (.bi .mul (.bi .mul (.lit (.int 60013)) (.var 3)) (.var 3))) (.bi .mul (.lit (.int 40009)) (.var 3))) (.lit (.int 733))) (.lit (.int 3))) (.var 5)),
  .set 6 (.bi .mod (.bi .pow (.bi .add (.bi .add (.var 6) (.bi .mul (.lit (.int 17)) (.var 3))) (.lit (.int 3))) (.lit (.int 2))) (.lit (.int 2147483477))),
  .ret (.bi .mod (.bi .fdiv (.bi .mod (.bi .mul (.var 6) (.lit (.int 69997))) (.lit (.int 2147483423))) (.lit (.int 1013))) (.var 1))]
def f__law_draw : Fn := ⟨[true, false], runF [] [true, false] 7 b__law_draw⟩
@[simp] theorem m__law_draw : f__law_draw.modes = [true, false] := rfl
theorem e__law_draw (ds : List D) : f__law_draw.sem ds = runF [] [true, false] 7 b__law_draw ds := rfl
def b__law_size : List IS := [
  .set 1 (.lit (.int 1)),
  .forr (.nm 2) (.seq (.var 0)) [
    .set 1 (.bi .mul (.var 1) (.var 2))],
  .ret (.var 1)]
def f__law_size : Fn := ⟨[false], runF [] [false] 3 b__law_size⟩
@[simp] theorem m__law_size : f__law_size.modes = [false] := rfl
theorem e__law_size (ds : List D) : f__law_size.sem ds = runF [] [false] 3 b__law_size ds := rfl
def b__law_room : List IS := [
  .set 2 (.call 0 [(.var 0), (.lit (.int 6))] []),
  .set 3 (.ix (.lst [(.lit (.int 8)), (.lit (.int 4)), (.lit (.int 1)), (.lit (.int 8)), (.lit (.int 3)), (.bi .add (.lit (.int 1)) (.call 0 [(.var 0), (.lit (.int 8))] []))]) (.var 2)),
  .set 4 (.tup []),
  .forr (.nm 5) (.rng (.var 3)) [
    .set 6 (.ix (.lst [(.lit (.int 2)), (.lit (.int 4)), (.bi .add (.lit (.int 2)) (.call 0 [(.var 0), (.lit (.int 3))] []))]) (.fn .min2 [(.var 2), (.lit (.int 2))])),
    .iff (.cm .le (.bi .mul (.call 1 [(.var 4)] []) (.var 6)) (.var 1)) [
      .set 4 (.bi .add (.var 4) (.tup [(.var 6)]))] []],
  .ret (.var 4)]
def f__law_room : Fn := ⟨[true, false], runF [f__law_draw, f__law_size] [true, false] 7 b__law_room⟩
@[simp] theorem m__law_room : f__law_room.modes = [true, false] := rfl
theorem e__law_room (ds : List D) : f__law_room.sem ds = runF [f__law_draw, f__law_size] [true, false] 7 b__law_room ds := rfl
def b__law_all : List IS := [
  .set 1 (.lst []),
  .forr (.nm 2) (.rng (.call 0 [(.var 0)] [])) [
    .set 3 (.lst []),
    .forr (.nm 4) (.seq (.un .rev (.var 0))) [
      .exp (.mt .append 3 [(.bi .mod (.var 2) (.var 4))]),
      .set 2 (.bi .fdiv (.var 2) (.var 4))],
    .exp (.mt .append 1 [(.fn .tuple [(.un .rev (.var 3))])])],
  .ret (.var 1)]
def f__law_all : Fn := ⟨[false], runF [f__law_size] [false] 5 b__law_all⟩
@[simp] theorem m__law_all : f__law_all.modes = [false] := rfl
theorem e__law_all (ds : List D) : f__law_all.sem ds = runF [f__law_size] [false] 5 b__law_all ds := rfl
def b_lengthened : List IS := [
  .set 2 (.lst []),
  .forr (.nm 3) (.seq (.var 0)) [
    .exp (.mt .extend 2 [(.comp (.bi .add (.var 3) (.tup [(.var 4)])) (.nm 4) (.rng (.var 1)) [] [4])])],
  .ret (.var 2)]
def f_lengthened : Fn := ⟨[false, false], runF [] [false, false] 5 b_lengthened⟩
@[simp] theorem m_lengthened : f_lengthened.modes = [false, false] := rfl
theorem e_lengthened (ds : List D) : f_lengthened.sem ds = runF [] [false, false] 5 b_lengthened ds := rfl
def b_standings : List IS := [
  .set 1 (.lst [(.tup [])]),
  .forr (.nm 2) (.seq (.var 0)) [
    .set 1 (.call 0 [(.var 1), (.var 2)] [])],
  .ret (.var 1)]
def f_standings : Fn := ⟨[false], runF [f_lengthened] [false] 3 b_standings⟩
@[simp] theorem m_standings : f_standings.modes = [false] := rfl
theorem e_standings (ds : List D) : f_standings.sem ds = runF [f_lengthened] [false] 3 b_standings ds := rfl
def b_number : List IS := [
  .set 2 (.lit (.int 0)),
  .forr (.tp [3, 4]) (.zip (.var 0) (.var 1)) [
    .set 2 (.bi .add (.bi .mul (.var 2) (.var 3)) (.var 4))],
  .ret (.var 2)]
def f_number : Fn := ⟨[false, false], runF [] [false, false] 5 b_number⟩
@[simp] theorem m_number : f_number.modes = [false, false] := rfl
theorem e_number (ds : List D) : f_number.sem ds = runF [] [false, false] 5 b_number ds := rfl
def b__law_is_whole : List IS := [
  .ret (.and [(.isI .int (.var 0)), (.not (.isI .bool (.var 0)))])]
def f__law_is_whole : Fn := ⟨[false], runF [] [false] 1 b__law_is_whole⟩
@[simp] theorem m__law_is_whole : f__law_is_whole.modes = [false] := rfl
theorem e__law_is_whole (ds : List D) : f__law_is_whole.sem ds = runF [] [false] 1 b__law_is_whole ds := rfl
def b__law_is_standing : List IS := [
  .iff (.or [(.not (.v (.isI .tuple (.var 1)))), (.cm .ne (.fn .len [(.var 1)]) (.fn .len [(.var 0)]))]) [
    .ret (.lit (.bool false))] [],
  .ret (.fn .all [(.comp (.and [(.call 0 [(.var 2)] []), (.chn .le .lt (.lit (.int 0)) (.var 2) (.var 3))]) (.tp [2, 3]) (.zip (.var 1) (.var 0)) [] [2, 3])])]
def f__law_is_standing : Fn := ⟨[false, false], runF [f__law_is_whole] [false, false] 4 b__law_is_standing⟩
@[simp] theorem m__law_is_standing : f__law_is_standing.modes = [false, false] := rfl
theorem e__law_is_standing (ds : List D) : f__law_is_standing.sem ds = runF [f__law_is_whole] [false, false] 4 b__law_is_standing ds := rfl
def b__law_list_right : List IS := [
  .set 1 (.call 0 [(.var 0)] []),
  .iff (.or [(.not (.v (.isI .list (.var 1)))), (.cm .ne (.fn .len [(.var 1)]) (.call 1 [(.var 0)] []))]) [
    .ret (.lit (.bool false))] [],
  .forr (.nm 2) (.rng (.fn .len [(.var 1)])) [
    .iff (.or [(.not (.v (.call 2 [(.var 0), (.ix (.var 1) (.var 2))] []))), (.and [(.cm .gt (.var 2) (.lit (.int 0))), (.not (.cm .lt (.ix (.var 1) (.bi .sub (.var 2) (.lit (.int 1)))) (.ix (.var 1) (.var 2))))])]) [
      .ret (.lit (.bool false))] []],
  .exp (.mt .reverse 1 []),
  .exp (.mt .pop0 1 []),
  .exp (.mt .append 1 [(.lit .none)]),
  .ret (.lit (.bool true))]
def f__law_list_right : Fn := ⟨[false], runF [f_standings, f__law_size, f__law_is_standing] [false] 3 b__law_list_right⟩
@[simp] theorem m__law_list_right : f__law_list_right.modes = [false] := rfl
theorem e__law_list_right (ds : List D) : f__law_list_right.sem ds = runF [f_standings, f__law_size, f__law_is_standing] [false] 3 b__law_list_right ds := rfl
def b_changed : List IS := [
  .ret (.bi .add (.bi .add (.sl (.var 0) none (some (.var 1))) (.tup [(.var 2)])) (.sl (.var 0) (some (.bi .add (.var 1) (.lit (.int 1)))) none))]
def f_changed : Fn := ⟨[false, false, false], runF [] [false, false, false] 3 b_changed⟩
@[simp] theorem m_changed : f_changed.modes = [false, false, false] := rfl
theorem e_changed (ds : List D) : f_changed.sem ds = runF [] [false, false, false] 3 b_changed ds := rfl
def b__law_changed_right : List IS := [
  .set 4 (.call 0 [(.var 1), (.var 2), (.var 3)] []),
  .iff (.or [(.not (.v (.call 1 [(.var 0), (.var 4)] []))), (.cm .ne (.ix (.var 4) (.var 2)) (.var 3))]) [
    .ret (.lit (.bool false))] [],
  .ret (.cm .eq (.comp (.var 5) (.nm 5) (.rng (.fn .len [(.var 0)])) [(.and [(.cm .ne (.var 5) (.var 2)), (.cm .ne (.ix (.var 4) (.var 5)) (.ix (.var 1) (.var 5)))])] [5]) (.lst []))]
def f__law_changed_right : Fn := ⟨[false, false, false, false], runF [f_changed, f__law_is_standing] [false, false, false, false] 6 b__law_changed_right⟩
@[simp] theorem m__law_changed_right : f__law_changed_right.modes = [false, false, false, false] := rfl
theorem e__law_changed_right (ds : List D) : f__law_changed_right.sem ds = runF [f_changed, f__law_is_standing] [false, false, false, false] 6 b__law_changed_right ds := rfl
def b_law : List IS := [
  .set 1 (.call 0 [(.var 0)] []),
  .forr (.nm 2) (.rng (.lit (.int 4))) [
    .set 3 (.call 1 [(.var 1), (.ix (.lst [(.lit (.int 256)), (.lit (.int 256)), (.lit (.int 48))]) (.call 2 [(.var 1), (.lit (.int 3))] []))] []),
    .iff (.or [(.not (.v (.call 3 [(.var 3)] []))), (.not (.v (.call 3 [(.var 3)] [])))]) [
      .ret (.lit (.bool false))] [],
    .set 4 (.call 4 [(.var 3)] []),
    .iff (.cm .ne (.call 5 [(.var 3)] []) (.var 4)) [
      .ret (.lit (.bool false))] [],
    .forr (.nm 5) (.rng (.lit (.int 12))) [
      .set 6 (.ix (.lst [(.lit (.int 0)), (.bi .sub (.fn .len [(.var 4)]) (.lit (.int 1))), (.call 2 [(.var 1), (.fn .len [(.var 4)])] [])]) (.fn .min2 [(.var 5), (.lit (.int 2))])),
      .set 7 (.call 6 [(.var 3), (.ix (.var 4) (.var 6))] []),
      .iff (.or [(.not (.v (.call 7 [(.var 7)] []))), (.cm .ne (.var 7) (.var 6))]) [
        .ret (.lit (.bool false))] [],
      .set 8 (.call 2 [(.var 1), (.fn .len [(.var 3)])] []),
      .set 9 (.call 2 [(.var 1), (.ix (.var 3) (.var 8))] []),
      .iff (.not (.v (.call 8 [(.var 3), (.ix (.var 4) (.var 6)), (.var 8), (.var 9)] []))) [
        .ret (.lit (.bool false))] [],
      .iff (.not (.v (.call 8 [(.var 3), (.ix (.var 4) (.var 6)), (.bi .sub (.fn .len [(.var 3)]) (.lit (.int 1))), (.ix (.ix (.var 4) (.var 6)) (.un .neg (.lit (.int 1))))] []))) [
        .ret (.lit (.bool false))] []]],
  .ret (.lit (.bool true))]
def f_law : Fn := ⟨[false], runF [f__law_pen, f__law_room, f__law_draw, f__law_list_right, f__law_all, f_standings, f_number, f__law_is_whole, f__law_changed_right] [false] 10 b_law⟩
@[simp] theorem m_law : f_law.modes = [false] := rfl
theorem e_law (ds : List D) : f_law.sem ds = runF [f__law_pen, f__law_room, f__law_draw, f__law_list_right, f__law_all, f_standings, f_number, f__law_is_whole, f__law_changed_right] [false] 10 b_law ds := rfl
def b_is_whole : List IS := [
  .ret (.and [(.isI .int (.var 0)), (.not (.isI .bool (.var 0)))])]
def f_is_whole : Fn := ⟨[false], runF [] [false] 1 b_is_whole⟩
@[simp] theorem m_is_whole : f_is_whole.modes = [false] := rfl
theorem e_is_whole (ds : List D) : f_is_whole.sem ds = runF [] [false] 1 b_is_whole ds := rfl
def b_is_worth : List IS := [
  .ret (.and [(.call 0 [(.var 2)] []), (.chn .le .lt (.lit (.int 0)) (.var 2) (.ix (.var 0) (.var 1)))])]
def f_is_worth : Fn := ⟨[false, false, false], runF [f_is_whole] [false, false, false] 3 b_is_worth⟩
@[simp] theorem m_is_worth : f_is_worth.modes = [false, false, false] := rfl
theorem e_is_worth (ds : List D) : f_is_worth.sem ds = runF [f_is_whole] [false, false, false] 3 b_is_worth ds := rfl
def b_keeps : List IS := [
  .ret (.fn .all [(.comp (.cm .eq (.ix (.var 0) (.var 2)) (.var 3)) (.tp [2, 3]) (.seq (.var 1)) [] [2, 3])])]
def f_keeps : Fn := ⟨[false, false], runF [] [false, false] 4 b_keeps⟩
@[simp] theorem m_keeps : f_keeps.modes = [false, false] := rfl
theorem e_keeps (ds : List D) : f_keeps.sem ds = runF [] [false, false] 4 b_keeps ds := rfl
def b_turned : List IS := [
  .ret (.fn .tuple [(.comp (.tup [(.var 1), (.var 2), (.var 4), (.var 3)]) (.tp [1, 2, 3, 4]) (.seq (.var 0)) [] [1, 2, 3, 4])])]
def f_turned : Fn := ⟨[false], runF [] [false] 5 b_turned⟩
@[simp] theorem m_turned : f_turned.modes = [false] := rfl
theorem e_turned (ds : List D) : f_turned.sem ds = runF [] [false] 5 b_turned ds := rfl
def b_bettered_by : List IS := [
  .unp [2, 3, 4, 5] (.var 0),
  .iff (.and [(.cm .eq (.ix (.var 1) (.var 3)) (.var 5)), (.v (.call 0 [(.var 1), (.var 2)] []))]) [
    .ret (.call 1 [(.var 1), (.var 3), (.var 4)] [])] [],
  .ret (.lit .none)]
def f_bettered_by : Fn := ⟨[false, false], runF [f_keeps, f_changed] [false, false] 6 b_bettered_by⟩
@[simp] theorem m_bettered_by : f_bettered_by.modes = [false, false] := rfl
theorem e_bettered_by (ds : List D) : f_bettered_by.sem ds = runF [f_keeps, f_changed] [false, false] 6 b_bettered_by ds := rfl
end CM

namespace CM
open PySem PD
end CM

namespace CM
open PySem PD
def b_is_standing : List IS := [
  .iff (.or [(.not (.v (.isI .tuple (.var 1)))), (.cm .ne (.fn .len [(.var 1)]) (.fn .len [(.var 0)]))]) [
    .ret (.lit (.bool false))] [],
  .ret (.fn .all [(.comp (.call 0 [(.var 0), (.var 2), (.var 3)] []) (.tp [2, 3]) (.enum (.var 1)) [] [2, 3])])]
def f_is_standing : Fn := ⟨[false, false], runF [f_is_worth] [false, false] 4 b_is_standing⟩
@[simp] theorem m_is_standing : f_is_standing.modes = [false, false] := rfl
theorem e_is_standing (ds : List D) : f_is_standing.sem ds = runF [f_is_worth] [false, false] 4 b_is_standing ds := rfl
end CM

namespace CM
open PySem PD
def b_betterings : List IS := [
  .set 4 (.fn .list [(.orT (.var 3) (.tup []))]),
  .set 5 (.dnew true),
  .forr (.nm 6) (.seq (.var 1)) [
    .set 7 (.call 0 [(.var 6), (.var 2)] []),
    .iff (.and [(.cm .notN (.var 7) (.lit .none)), (.cm .notin (.ix (.var 6) (.lit (.int 1))) (.var 4))]) [
      .ixset 5 (.var 7) (.lit (.bool true))] []],
  .ret (.fn .sorted [(.fn .list [(.var 5)])])]
def f_betterings : Fn := ⟨[false, false, false, false], runF [f_bettered_by] [false, false, false, false] 8 b_betterings⟩
@[simp] theorem m_betterings : f_betterings.modes = [false, false, false, false] := rfl
theorem e_betterings (ds : List D) : f_betterings.sem ds = runF [f_bettered_by] [false, false, false, false] 8 b_betterings ds := rfl
def b__law_pen_v2 : List IS := [
  .ret (.dic [(.str "script"), (.str "at"), (.str "left")] [(.var 0), (.lit (.int 0)), (.lit (.int 0))])]
def f__law_pen_v2 : Fn := ⟨[false], runF [] [false] 1 b__law_pen_v2⟩
@[simp] theorem m__law_pen_v2 : f__law_pen_v2.modes = [false] := rfl
theorem e__law_pen_v2 (ds : List D) : f__law_pen_v2.sem ds = runF [] [false] 1 b__law_pen_v2 ds := rfl
def b__law_take : List IS := [
  .iff (.cm .gt (.ix (.var 0) (.lit (.str "left"))) (.lit (.int 0))) [
    .set 2 (.bi .mod (.ix (.var 0) (.lit (.str "left"))) (.var 1)),
    .ixset 0 (.lit (.str "left")) (.bi .fdiv (.ix (.var 0) (.lit (.str "left"))) (.var 1)),
    .ret (.var 2)] [],
  .set 3 (.ix (.var 0) (.lit (.str "at"))),
  .ixset 0 (.lit (.str "at")) (.bi .add (.var 3) (.lit (.int 1))),
  .set 4 (.lit (.int 0)),
  .iff (.cm .gt (.fn .len [(.ix (.var 0) (.lit (.str "script")))]) (.lit (.int 0))) [
    .set 4 (.ix (.ix (.var 0) (.lit (.str "script"))) (.bi .mod (.var 3) (.fn .len [(.ix (.var 0) (.lit (.str "script")))])))] [],
  .iff (.and [(.cm .lt (.var 3) (.fn .len [(.ix (.var 0) (.lit (.str "script")))])), (.cm .ge (.fn .abs [(.var 4)]) (.bi .pow (.lit (.int 10)) (.lit (.int 18))))]) [
    .ixset 0 (.lit (.str "left")) (.bi .fdiv (.fn .abs [(.var 4)]) (.var 1)),
    .ret (.bi .mod (.fn .abs [(.var 4)]) (.var 1))] [],
  .set 5 (.bi .mod (.bi .mul (.bi .add (.bi .add (.bi .add (.bi .mod (.var 4) (.lit (.int 2147483629))) (.bi .mul (.bi .mul (.lit (.int 7919)) (.var 3)) (.var 3))) (.bi .mul (.lit (.int 104729)) (.var 3))) (.lit (.int 23))) (.lit (.int 69621))) (.lit (.int 2147483647))),
  .set 5 (.bi .mod (.bi .add (.bi .add (.bi .mul (.var 5) (.var 5)) (.bi .mul (.lit (.int 40692)) (.var 5))) (.bi .mul (.lit (.int 65537)) (.var 3))) (.lit (.int 2147483579))),
  .ret (.bi .mod (.bi .fdiv (.bi .mod (.bi .mul (.var 5) (.lit (.int 16807))) (.lit (.int 2147483563))) (.lit (.int 13))) (.var 1))]
def f__law_take : Fn := ⟨[true, false], runF [] [true, false] 6 b__law_take⟩
@[simp] theorem m__law_take : f__law_take.modes = [true, false] := rfl
theorem e__law_take (ds : List D) : f__law_take.sem ds = runF [] [true, false] 6 b__law_take ds := rfl
def b__law_room_v2 : List IS := [
  .iff (.cm .eq (.var 1) (.lit (.int 256))) [
    .ret (.ix (.lst [(.tup [(.lit (.int 4)), (.lit (.int 4)), (.lit (.int 4)), (.lit (.int 4))]), (.tup [(.lit (.int 2)), (.lit (.int 2)), (.lit (.int 2)), (.lit (.int 2)), (.lit (.int 2)), (.lit (.int 2)), (.lit (.int 2)), (.lit (.int 2))]), (.tup [(.lit (.int 3)), (.lit (.int 3)), (.lit (.int 3)), (.lit (.int 3)), (.lit (.int 3))]), (.tup [(.lit (.int 4)), (.lit (.int 4)), (.lit (.int 4)), (.lit (.int 2)), (.lit (.int 2))])]) (.call 0 [(.var 0), (.lit (.int 4))] []))] [],
  .set 2 (.lst [(.tup [(.lit (.int 2))]), (.tup [(.lit (.int 4)), (.lit (.int 2))]), (.tup [(.lit (.int 2)), (.lit (.int 2)), (.lit (.int 2)), (.lit (.int 2))]), (.tup [(.lit (.int 4)), (.lit (.int 4))]), (.tup [(.lit (.int 2)), (.lit (.int 2)), (.lit (.int 2)), (.lit (.int 2)), (.lit (.int 2)), (.lit (.int 2))]), (.tup [(.lit (.int 4)), (.lit (.int 4)), (.lit (.int 4))]), (.tup [(.lit (.int 3)), (.lit (.int 2)), (.lit (.int 4)), (.lit (.int 2))])]),
  .set 3 (.ix (.var 2) (.call 0 [(.var 0), (.lit (.int 7))] [])),
  .iff (.and [(.cm .le (.call 1 [(.var 3)] []) (.var 1)), (.cm .eq (.call 0 [(.var 0), (.lit (.int 2))] []) (.lit (.int 0)))]) [
    .ret (.var 3)] [],
  .set 3 (.tup []),
  .forr (.nm 4) (.rng (.bi .add (.lit (.int 1)) (.call 0 [(.var 0), (.lit (.int 5))] []))) [
    .set 5 (.bi .add (.lit (.int 2)) (.call 0 [(.var 0), (.lit (.int 3))] [])),
    .iff (.cm .le (.bi .mul (.call 1 [(.var 3)] []) (.var 5)) (.var 1)) [
      .set 3 (.bi .add (.var 3) (.tup [(.var 5)]))] []],
  .ret (.var 3)]
def f__law_room_v2 : Fn := ⟨[true, false], runF [f__law_take, f__law_size] [true, false] 6 b__law_room_v2⟩
@[simp] theorem m__law_room_v2 : f__law_room_v2.modes = [true, false] := rfl
theorem e__law_room_v2 (ds : List D) : f__law_room_v2.sem ds = runF [f__law_take, f__law_size] [true, false] 6 b__law_room_v2 ds := rfl
def b__law_snake : List IS := [
  .set 1 (.lst [(.tup [])]),
  .forr (.nm 2) (.seq (.var 0)) [
    .set 3 (.lst []),
    .forr (.nm 4) (.rng (.fn .len [(.var 1)])) [
      .set 5 (.comp (.bi .add (.ix (.var 1) (.var 4)) (.tup [(.var 6)])) (.nm 6) (.rng (.var 2)) [] [6]),
      .exp (.mt .extend 3 [(.ix (.lst [(.var 5), (.un .rev (.var 5))]) (.bi .mod (.var 4) (.lit (.int 2))))])],
    .set 1 (.var 3)],
  .ret (.var 1)]
def f__law_snake : Fn := ⟨[false], runF [] [false] 7 b__law_snake⟩
@[simp] theorem m__law_snake : f__law_snake.modes = [false] := rfl
theorem e__law_snake (ds : List D) : f__law_snake.sem ds = runF [] [false] 7 b__law_snake ds := rfl
def b__law_full : List IS := [
  .set 2 (.ix (.comp (.var 3) (.nm 3) (.rng (.fn .len [(.var 0)])) [(.cm .ne (.ix (.var 0) (.var 3)) (.ix (.var 1) (.var 3)))] [3]) (.lit (.int 0))),
  .set 4 (.fn .tuple [(.comp (.tup [(.var 3), (.ix (.var 0) (.var 3))]) (.nm 3) (.rng (.fn .len [(.var 0)])) [(.cm .ne (.var 3) (.var 2))] [3])]),
  .ret (.tup [(.var 4), (.var 2), (.ix (.var 1) (.var 2)), (.ix (.var 0) (.var 2))])]
def f__law_full : Fn := ⟨[false, false], runF [] [false, false] 5 b__law_full⟩
@[simp] theorem m__law_full : f__law_full.modes = [false, false] := rfl
theorem e__law_full (ds : List D) : f__law_full.sem ds = runF [] [false, false] 5 b__law_full ds := rfl
def b__law_given_v2 : List IS := [
  .set 3 (.bi .add (.lit (.int 1)) (.call 0 [(.var 0), (.lit (.int 3))] [])),
  .set 4 (.lst []),
  .forr (.nm 5) (.rng (.fn .len [(.var 1)])) [
    .iff (.and [(.cm .eq (.call 0 [(.var 0), (.bi .add (.lit (.int 1)) (.var 3))] []) (.lit (.int 0))), (.cm .ne (.var 5) (.var 2))]) [
      .exp (.mt .append 4 [(.tup [(.var 5), (.call 0 [(.var 0), (.ix (.var 1) (.var 5))] [])])])] []],
  .ret (.fn .tuple [(.var 4)])]
def f__law_given_v2 : Fn := ⟨[true, false, false], runF [f__law_take] [true, false, false] 6 b__law_given_v2⟩
@[simp] theorem m__law_given_v2 : f__law_given_v2.modes = [true, false, false] := rfl
theorem e__law_given_v2 (ds : List D) : f__law_given_v2.sem ds = runF [f__law_take] [true, false, false] 6 b__law_given_v2 ds := rfl
def b__law_wish_v2 : List IS := [
  .set 3 (.call 0 [(.var 0), (.fn .len [(.var 1)])] []),
  .set 4 (.call 0 [(.var 0), (.ix (.var 1) (.var 3))] []),
  .set 5 (.bi .mod (.bi .add (.bi .add (.var 4) (.lit (.int 1))) (.call 0 [(.var 0), (.bi .sub (.ix (.var 1) (.var 3)) (.lit (.int 1)))] [])) (.ix (.var 1) (.var 3))),
  .iff (.and [(.cm .eq (.var 2) (.lit (.int 1))), (.cm .lt (.var 5) (.var 4))]) [
    .par 5 4 (.var 4) (.var 5)] [],
  .ret (.tup [(.call 1 [(.var 0), (.var 1), (.var 3)] []), (.var 3), (.var 5), (.var 4)])]
def f__law_wish_v2 : Fn := ⟨[true, false, false], runF [f__law_take, f__law_given_v2] [true, false, false] 6 b__law_wish_v2⟩
@[simp] theorem m__law_wish_v2 : f__law_wish_v2.modes = [true, false, false] := rfl
theorem e__law_wish_v2 (ds : List D) : f__law_wish_v2.sem ds = runF [f__law_take, f__law_given_v2] [true, false, false] 6 b__law_wish_v2 ds := rfl
def b__law_row_book : List IS := [
  .set 2 (.call 0 [(.var 1)] []),
  .iff (.cm .eq (.call 1 [(.var 0), (.lit (.int 2))] []) (.lit (.int 0))) [
    .set 2 (.un .rev (.var 2))] [],
  .set 3 (.comp (.call 2 [(.ix (.var 2) (.var 4)), (.ix (.var 2) (.bi .add (.var 4) (.lit (.int 1))))] []) (.nm 4) (.rng (.bi .sub (.fn .len [(.var 2)]) (.lit (.int 1)))) [] [4]),
  .set 5 (.call 1 [(.var 0), (.fn .len [(.var 3)])] []),
  .set 6 (.call 1 [(.var 0), (.lit (.int 4))] []),
  .iff (.cm .eq (.var 6) (.lit (.int 0))) [
    .set 3 (.bi .add (.sl (.var 3) none (some (.var 5))) (.sl (.var 3) (some (.bi .add (.var 5) (.lit (.int 1)))) none))] [],
  .iff (.cm .eq (.var 6) (.lit (.int 1))) [
    .ixset 3 (.var 5) (.call 2 [(.ix (.var 2) (.bi .add (.var 5) (.lit (.int 1)))), (.ix (.var 2) (.var 5))] [])] [],
  .iff (.cm .eq (.var 6) (.lit (.int 2))) [
    .exp (.mt .insert 3 [(.var 5), (.call 3 [(.var 0), (.var 1), (.lit (.int 0))] [])])] [],
  .ret (.fn .tuple [(.var 3)])]
def f__law_row_book : Fn := ⟨[true, false], runF [f__law_snake, f__law_take, f__law_full, f__law_wish_v2] [true, false] 7 b__law_row_book⟩
@[simp] theorem m__law_row_book : f__law_row_book.modes = [true, false] := rfl
theorem e__law_row_book (ds : List D) : f__law_row_book.sem ds = runF [f__law_snake, f__law_take, f__law_full, f__law_wish_v2] [true, false] 7 b__law_row_book ds := rfl
def b__law_turned : List IS := [
  .set 2 (.lst []),
  .forr (.nm 3) (.seq (.var 1)) [
    .exp (.mt .insert 2 [(.call 0 [(.var 0), (.bi .add (.fn .len [(.var 2)]) (.lit (.int 1)))] []), (.var 3)])],
  .ret (.var 2)]
def f__law_turned : Fn := ⟨[true, false], runF [f__law_take] [true, false] 4 b__law_turned⟩
@[simp] theorem m__law_turned : f__law_turned.modes = [true, false] := rfl
theorem e__law_turned (ds : List D) : f__law_turned.sem ds = runF [f__law_take] [true, false] 4 b__law_turned ds := rfl
def b__law_all_v2 : List IS := [
  .set 1 (.lst [(.tup [])]),
  .forr (.nm 2) (.seq (.var 0)) [
    .set 1 (.comp (.bi .add (.ix (.var 1) (.bi .fdiv (.var 3) (.var 2))) (.tup [(.bi .mod (.var 3) (.var 2))])) (.nm 3) (.rng (.bi .mul (.fn .len [(.var 1)]) (.var 2))) [] [3])],
  .ret (.var 1)]
def f__law_all_v2 : Fn := ⟨[false], runF [] [false] 4 b__law_all_v2⟩
@[simp] theorem m__law_all_v2 : f__law_all_v2.modes = [false] := rfl
theorem e__law_all_v2 (ds : List D) : f__law_all_v2.sem ds = runF [] [false] 4 b__law_all_v2 ds := rfl
def b__law_ranked : List IS := [
  .set 2 (.call 0 [(.var 0), (.rgl true (.fn .len [(.var 1)]))] []),
  .set 3 (.lst []),
  .forr (.nm 4) (.rng (.fn .len [(.var 2)])) [
    .set 5 (.ix (.var 2) (.var 4)),
    .set 6 (.fn .sorted [(.sl (.call 0 [(.var 0), (.sl (.var 2) none (some (.var 4)))] []) none (some (.call 1 [(.var 0), (.lit (.int 3))] [])))]),
    .iff (.cm .gt (.call 2 [(.comp (.ix (.var 1) (.var 7)) (.nm 7) (.seq (.var 6)) [] [7])] []) (.lit (.int 9))) [
      .set 6 (.sl (.var 6) none (some (.lit (.int 1))))] [],
    .forr (.nm 8) (.seq (.call 3 [(.comp (.ix (.var 1) (.var 7)) (.nm 7) (.seq (.var 6)) [] [7])] [])) [
      .set 9 (.call 0 [(.var 0), (.rgl true (.ix (.var 1) (.var 5)))] []),
      .set 10 (.fn .tuple [(.comp (.tup [(.var 7), (.var 11)]) (.tp [7, 11]) (.zip (.var 6) (.var 8)) [] [7, 11])]),
      .exp (.mt .extend 3 [(.comp (.tup [(.var 10), (.var 5), (.ix (.var 9) (.bi .add (.var 12) (.lit (.int 1)))), (.ix (.var 9) (.var 12))]) (.nm 12) (.rng (.bi .sub (.ix (.var 1) (.var 5)) (.lit (.int 1)))) [] [12])])]],
  .ret (.fn .tuple [(.var 3)])]
def f__law_ranked : Fn := ⟨[true, false], runF [f__law_turned, f__law_take, f__law_size, f__law_all_v2] [true, false] 13 b__law_ranked⟩
@[simp] theorem m__law_ranked : f__law_ranked.modes = [true, false] := rfl
theorem e__law_ranked (ds : List D) : f__law_ranked.sem ds = runF [f__law_turned, f__law_take, f__law_size, f__law_all_v2] [true, false] 13 b__law_ranked ds := rfl
def b__law_book_v2 : List IS := [
  .set 2 (.call 0 [(.var 0), (.lit (.int 7))] []),
  .iff (.cm .eq (.var 2) (.lit (.int 6))) [
    .ret (.tup [])] [],
  .iff (.cm .eq (.var 2) (.lit (.int 5))) [
    .ret (.call 1 [(.var 0), (.var 1)] [])] [],
  .iff (.cm .gt (.var 2) (.lit (.int 2))) [
    .set 3 (.fn .list [(.call 2 [(.var 0), (.var 1)] [])]),
    .iff (.and [(.cm .eq (.var 2) (.lit (.int 4))), (.cm .gt (.fn .len [(.var 3)]) (.lit (.int 0)))]) [
      .ixset 3 (.call 0 [(.var 0), (.fn .len [(.var 3)])] []) (.call 3 [(.var 0), (.var 1), (.lit (.int 0))] [])] [],
    .ret (.fn .tuple [(.var 3)])] [],
  .set 3 (.comp (.call 3 [(.var 0), (.var 1), (.var 2)] []) (.nm 4) (.rng (.bi .add (.lit (.int 1)) (.call 0 [(.var 0), (.lit (.int 14))] []))) [] [4]),
  .ret (.fn .tuple [(.bi .add (.var 3) (.sl (.var 3) none (some (.call 0 [(.var 0), (.lit (.int 2))] []))))])]
def f__law_book_v2 : Fn := ⟨[true, false], runF [f__law_take, f__law_row_book, f__law_ranked, f__law_wish_v2] [true, false] 5 b__law_book_v2⟩
@[simp] theorem m__law_book_v2 : f__law_book_v2.modes = [true, false] := rfl
theorem e__law_book_v2 (ds : List D) : f__law_book_v2.sem ds = runF [f__law_take, f__law_row_book, f__law_ranked, f__law_wish_v2] [true, false] 5 b__law_book_v2 ds := rfl
def b__law_standing_v2 : List IS := [
  .ret (.fn .tuple [(.comp (.call 0 [(.var 0), (.var 2)] []) (.nm 2) (.seq (.var 1)) [] [2])])]
def f__law_standing_v2 : Fn := ⟨[true, false], runF [f__law_take] [true, false] 3 b__law_standing_v2⟩
@[simp] theorem m__law_standing_v2 : f__law_standing_v2.modes = [true, false] := rfl
theorem e__law_standing_v2 (ds : List D) : f__law_standing_v2.sem ds = runF [f__law_take] [true, false] 3 b__law_standing_v2 ds := rfl
end CM

namespace CM
open PySem PD
end CM

namespace CM
open PySem PD
def b__law_held_v2 : List IS := [
  .set 2 (.call 0 [(.var 0), (.lit (.int 3))] []),
  .iff (.cm .eq (.var 2) (.lit (.int 0))) [
    .ret (.lit .none)] [],
  .ret (.fn .tuple [(.comp (.var 3) (.nm 3) (.rng (.fn .len [(.var 1)])) [(.and [(.cm .eq (.var 2) (.lit (.int 2))), (.cm .eq (.call 0 [(.var 0), (.lit (.int 3))] []) (.lit (.int 0)))])] [3])])]
def f__law_held_v2 : Fn := ⟨[true, false], runF [f__law_take] [true, false] 4 b__law_held_v2⟩
@[simp] theorem m__law_held_v2 : f__law_held_v2.modes = [true, false] := rfl
theorem e__law_held_v2 (ds : List D) : f__law_held_v2.sem ds = runF [f__law_take] [true, false] 4 b__law_held_v2 ds := rfl
def b_shut_of : List IS := [
  .ret (.sset (.bi .add (.lst [(.var 1)]) (.fn .list [(.var 0)])))]
def f_shut_of : Fn := ⟨[false, false], runF [] [false, false] 2 b_shut_of⟩
@[simp] theorem m_shut_of : f_shut_of.modes = [false, false] := rfl
theorem e_shut_of (ds : List D) : f_shut_of.sem ds = runF [] [false, false] 2 b_shut_of ds := rfl
def b_found_from : List IS := [
  .set 4 (.dnew true),
  .set 5 (.lst [(.var 2)]),
  .set 6 (.lit (.int 0)),
  .whl 1000000 (.cm .lt (.var 6) (.fn .len [(.var 5)])) [
    .forr (.nm 7) (.seq (.call 0 [(.var 0), (.var 1), (.ix (.var 5) (.var 6)), (.var 3)] [])) [
      .iff (.cm .notin (.var 7) (.var 4)) [
        .ixset 4 (.var 7) (.ix (.var 5) (.var 6)),
        .iff (.cm .ne (.var 7) (.var 2)) [
          .exp (.mt .append 5 [(.var 7)])] []] []],
    .aug 6 .add (.lit (.int 1))],
  .ret (.var 4)]
def f_found_from : Fn := ⟨[false, false, false, false], runF [f_betterings] [false, false, false, false] 8 b_found_from⟩
@[simp] theorem m_found_from : f_found_from.modes = [false, false, false, false] := rfl
theorem e_found_from (ds : List D) : f_found_from.sem ds = runF [f_betterings] [false, false, false, false] 8 b_found_from ds := rfl
def b_reached : List IS := [
  .ret (.call 0 [(.call 1 [(.var 0), (.var 1), (.var 2), (.var 3)] []), (.var 2)] [])]
def f_reached : Fn := ⟨[false, false, false, false], runF [f_shut_of, f_found_from] [false, false, false, false] 4 b_reached⟩
@[simp] theorem m_reached : f_reached.modes = [false, false, false, false] := rfl
theorem e_reached (ds : List D) : f_reached.sem ds = runF [f_shut_of, f_found_from] [false, false, false, false] 4 b_reached ds := rfl
def b__law_room_v3 : List IS := [
  .set 2 (.lst [(.tup [(.lit (.int 2))]), (.tup [(.lit (.int 4)), (.lit (.int 2))]), (.tup [(.lit (.int 2)), (.lit (.int 2)), (.lit (.int 2)), (.lit (.int 2))]), (.tup [(.lit (.int 4)), (.lit (.int 4))]), (.tup [(.lit (.int 2)), (.lit (.int 2)), (.lit (.int 2)), (.lit (.int 2)), (.lit (.int 2)), (.lit (.int 2))]), (.tup [(.lit (.int 4)), (.lit (.int 4)), (.lit (.int 4))]), (.tup [(.lit (.int 3)), (.lit (.int 2)), (.lit (.int 4)), (.lit (.int 2))])]),
  .set 3 (.ix (.var 2) (.call 0 [(.var 0), (.lit (.int 7))] [])),
  .iff (.and [(.cm .le (.call 1 [(.var 3)] []) (.var 1)), (.cm .eq (.call 0 [(.var 0), (.lit (.int 2))] []) (.lit (.int 0)))]) [
    .ret (.var 3)] [],
  .set 3 (.tup []),
  .forr (.nm 4) (.rng (.bi .add (.lit (.int 1)) (.call 0 [(.var 0), (.lit (.int 5))] []))) [
    .set 5 (.bi .add (.lit (.int 2)) (.call 0 [(.var 0), (.lit (.int 3))] [])),
    .iff (.cm .le (.bi .mul (.call 1 [(.var 3)] []) (.var 5)) (.var 1)) [
      .set 3 (.bi .add (.var 3) (.tup [(.var 5)]))] []],
  .ret (.var 3)]
def f__law_room_v3 : Fn := ⟨[true, false], runF [f__law_take, f__law_size] [true, false] 6 b__law_room_v3⟩
@[simp] theorem m__law_room_v3 : f__law_room_v3.modes = [true, false] := rfl
theorem e__law_room_v3 (ds : List D) : f__law_room_v3.sem ds = runF [f__law_take, f__law_size] [true, false] 6 b__law_room_v3 ds := rfl
def b_way_back : List IS := [
  .set 3 (.lst [(.var 2)]),
  .set 4 (.ix (.var 0) (.var 2)),
  .whl 1000000 (.cm .ne (.var 4) (.var 1)) [
    .exp (.mt .append 3 [(.var 4)]),
    .set 4 (.ix (.var 0) (.var 4))],
  .exp (.mt .append 3 [(.var 1)]),
  .ret (.un .rev (.var 3))]
def f_way_back : Fn := ⟨[false, false, false], runF [] [false, false, false] 5 b_way_back⟩
@[simp] theorem m_way_back : f_way_back.modes = [false, false, false] := rfl
theorem e_way_back (ds : List D) : f_way_back.sem ds = runF [] [false, false, false] 5 b_way_back ds := rfl
def b_told : List IS := [
  .set 5 (.call 0 [(.var 0), (.var 1), (.var 2), (.var 4)] []),
  .iff (.cm .isin (.var 3) (.var 5)) [
    .ret (.tup [(.lit (.str "better")), (.call 1 [(.var 5), (.var 2), (.var 3)] [])])] [],
  .ret (.tup [(.lit (.str "not")), (.call 2 [(.var 5), (.var 2)] [])])]
def f_told : Fn := ⟨[false, false, false, false, false], runF [f_found_from, f_way_back, f_shut_of] [false, false, false, false, false] 6 b_told⟩
@[simp] theorem m_told : f_told.modes = [false, false, false, false, false] := rfl
theorem e_told (ds : List D) : f_told.sem ds = runF [f_found_from, f_way_back, f_shut_of] [false, false, false, false, false] 6 b_told ds := rfl
def b_are_standings : List IS := [
  .ret (.and [(.isI .list (.var 1)), (.fn .all [(.comp (.call 0 [(.var 0), (.var 2)] []) (.nm 2) (.seq (.var 1)) [] [2])])])]
def f_are_standings : Fn := ⟨[false, false], runF [f_is_standing] [false, false] 3 b_are_standings⟩
@[simp] theorem m_are_standings : f_are_standings.modes = [false, false] := rfl
theorem e_are_standings (ds : List D) : f_are_standings.sem ds = runF [f_is_standing] [false, false] 3 b_are_standings ds := rfl
def b_lets_way : List IS := [
  .iff (.or [(.not (.v (.call 0 [(.var 0), (.var 4)] []))), (.cm .lt (.fn .len [(.var 4)]) (.lit (.int 2))), (.cm .ne (.ix (.var 4) (.lit (.int 0))) (.var 2)), (.cm .ne (.ix (.var 4) (.un .neg (.lit (.int 1)))) (.var 3))]) [
    .ret (.lit (.bool false))] [],
  .forr (.nm 6) (.rng2 (.lit (.int 1)) (.fn .len [(.var 4)])) [
    .iff (.cm .notin (.ix (.var 4) (.var 6)) (.call 1 [(.var 0), (.var 1), (.ix (.var 4) (.bi .sub (.var 6) (.lit (.int 1)))), (.var 5)] [])) [
      .ret (.lit (.bool false))] []],
  .ret (.lit (.bool true))]
def f_lets_way : Fn := ⟨[false, false, false, false, false, false], runF [f_are_standings, f_betterings] [false, false, false, false, false, false] 7 b_lets_way⟩
@[simp] theorem m_lets_way : f_lets_way.modes = [false, false, false, false, false, false] := rfl
theorem e_lets_way (ds : List D) : f_lets_way.sem ds = runF [f_are_standings, f_betterings] [false, false, false, false, false, false] 7 b_lets_way ds := rfl
def b_are_rising : List IS := [
  .forr (.nm 1) (.rng2 (.lit (.int 1)) (.fn .len [(.var 0)])) [
    .iff (.cm .le (.ix (.var 0) (.var 1)) (.ix (.var 0) (.bi .sub (.var 1) (.lit (.int 1))))) [
      .ret (.lit (.bool false))] []],
  .ret (.lit (.bool true))]
def f_are_rising : Fn := ⟨[false], runF [] [false] 2 b_are_rising⟩
@[simp] theorem m_are_rising : f_are_rising.modes = [false] := rfl
theorem e_are_rising (ds : List D) : f_are_rising.sem ds = runF [] [false] 2 b_are_rising ds := rfl
def b_lets_shut : List IS := [
  .iff (.or [(.not (.v (.call 0 [(.var 0), (.var 4)] []))), (.not (.v (.call 1 [(.var 4)] [])))]) [
    .ret (.lit (.bool false))] [],
  .set 6 (.fn .dictT [(.comp (.tup [(.var 7), (.lit (.bool true))]) (.nm 7) (.seq (.var 4)) [] [7])]),
  .forr (.nm 7) (.seq (.var 4)) [
    .forr (.nm 8) (.seq (.call 2 [(.var 0), (.var 1), (.var 7), (.var 5)] [])) [
      .iff (.or [(.cm .eq (.var 8) (.var 3)), (.cm .notin (.var 8) (.var 6))]) [
        .ret (.lit (.bool false))] []]],
  .ret (.cm .isin (.var 2) (.var 6))]
def f_lets_shut : Fn := ⟨[false, false, false, false, false, false], runF [f_are_standings, f_are_rising, f_betterings] [false, false, false, false, false, false] 9 b_lets_shut⟩
@[simp] theorem m_lets_shut : f_lets_shut.modes = [false, false, false, false, false, false] := rfl
theorem e_lets_shut (ds : List D) : f_lets_shut.sem ds = runF [f_are_standings, f_are_rising, f_betterings] [false, false, false, false, false, false] 9 b_lets_shut ds := rfl
def b__law_more : List IS := [
  .set 6 (.call 0 [(.var 0), (.var 1), (.var 2), (.var 3), (.var 4)] []),
  .set 7 (.call 0 [(.var 0), (.bi .add (.var 1) (.tup [(.var 5)])), (.var 2), (.var 3), (.var 4)] []),
  .set 8 (.call 1 [(.var 0), (.bi .add (.var 1) (.tup [(.var 5)])), (.var 2), (.var 4)] []),
  .iff (.cm .ne (.comp (.var 9) (.nm 9) (.seq (.call 1 [(.var 0), (.var 1), (.var 2), (.var 4)] [])) [(.cm .notin (.var 9) (.var 8))] [9]) (.lst [])) [
    .ret (.lit (.bool false))] [],
  .iff (.cm .eq (.ix (.var 6) (.lit (.int 0))) (.lit (.str "not"))) [
    .ret (.lit (.bool true))] [],
  .ret (.and [(.cm .eq (.ix (.var 7) (.lit (.int 0))) (.lit (.str "better"))), (.cm .le (.fn .len [(.ix (.var 7) (.lit (.int 1)))]) (.fn .len [(.ix (.var 6) (.lit (.int 1)))]))])]
def f__law_more : Fn := ⟨[false, false, false, false, false, false], runF [f_told, f_reached] [false, false, false, false, false, false] 10 b__law_more⟩
@[simp] theorem m__law_more : f__law_more.modes = [false, false, false, false, false, false] := rfl
theorem e__law_more (ds : List D) : f__law_more.sem ds = runF [f_told, f_reached] [false, false, false, false, false, false] 10 b__law_more ds := rfl
def b__law_joined : List IS := [
  .unp [4, 5, 6] (.var 2),
  .set 7 (.call 0 [(.var 0), (.var 1), (.var 4), (.var 5), (.var 3)] []),
  .set 8 (.call 0 [(.var 0), (.var 1), (.var 5), (.var 6), (.var 3)] []),
  .iff (.or [(.cm .ne (.ix (.var 7) (.lit (.int 0))) (.lit (.str "better"))), (.cm .ne (.ix (.var 8) (.lit (.int 0))) (.lit (.str "better")))]) [
    .ret (.lit (.bool true))] [],
  .set 9 (.bi .add (.ix (.var 7) (.lit (.int 1))) (.sl (.ix (.var 8) (.lit (.int 1))) (some (.lit (.int 1))) none)),
  .set 10 (.call 0 [(.var 0), (.var 1), (.var 4), (.var 6), (.var 3)] []),
  .iff (.or [(.cm .ne (.ix (.var 10) (.lit (.int 0))) (.lit (.str "better"))), (.cm .gt (.fn .len [(.ix (.var 10) (.lit (.int 1)))]) (.fn .len [(.var 9)]))]) [
    .ret (.lit (.bool false))] [],
  .ret (.cm .isB (.call 1 [(.var 0), (.var 1), (.var 4), (.var 6), (.var 9), (.var 3)] []) (.lit (.bool true)))]
def f__law_joined : Fn := ⟨[false, false, false, false], runF [f_told, f_lets_way] [false, false, false, false] 11 b__law_joined⟩
@[simp] theorem m__law_joined : f__law_joined.modes = [false, false, false, false] := rfl
theorem e__law_joined (ds : List D) : f__law_joined.sem ds = runF [f_told, f_lets_way] [false, false, false, false] 11 b__law_joined ds := rfl
def b__law_back : List IS := [
  .set 5 (.call 0 [(.var 0), (.var 1), (.var 2), (.var 3), (.var 4)] []),
  .set 6 (.call 0 [(.var 0), (.call 1 [(.var 1)] []), (.var 3), (.var 2), (.var 4)] []),
  .iff (.cm .ne (.ix (.var 5) (.lit (.int 0))) (.ix (.var 6) (.lit (.int 0)))) [
    .ret (.lit (.bool false))] [],
  .iff (.cm .eq (.ix (.var 5) (.lit (.int 0))) (.lit (.str "not"))) [
    .ret (.lit (.bool true))] [],
  .iff (.cm .ne (.fn .len [(.ix (.var 5) (.lit (.int 1)))]) (.fn .len [(.ix (.var 6) (.lit (.int 1)))])) [
    .ret (.lit (.bool false))] [],
  .iff (.cm .notB (.call 2 [(.var 0), (.call 1 [(.var 1)] []), (.var 3), (.var 2), (.un .rev (.ix (.var 5) (.lit (.int 1)))), (.var 4)] []) (.lit (.bool true))) [
    .ret (.lit (.bool false))] [],
  .ret (.cm .isB (.call 2 [(.var 0), (.var 1), (.var 2), (.var 3), (.un .rev (.ix (.var 6) (.lit (.int 1)))), (.var 4)] []) (.lit (.bool true)))]
def f__law_back : Fn := ⟨[false, false, false, false, false], runF [f_told, f_turned, f_lets_way] [false, false, false, false, false] 7 b__law_back⟩
@[simp] theorem m__law_back : f__law_back.modes = [false, false, false, false, false] := rfl
theorem e__law_back (ds : List D) : f__law_back.sem ds = runF [f_told, f_turned, f_lets_way] [false, false, false, false, false] 7 b__law_back ds := rfl
def b__law_shut_for_all : List IS := [
  .set 5 (.call 0 [(.var 0), (.var 1), (.var 2), (.var 3), (.var 4)] []),
  .iff (.cm .eq (.ix (.var 5) (.lit (.int 0))) (.lit (.str "better"))) [
    .ret (.lit (.bool true))] [],
  .forr (.nm 6) (.seq (.ix (.var 5) (.lit (.int 1)))) [
    .iff (.cm .notB (.call 1 [(.var 0), (.var 1), (.var 6), (.var 3), (.ix (.var 5) (.lit (.int 1))), (.var 4)] []) (.lit (.bool true))) [
      .ret (.lit (.bool false))] []],
  .ret (.lit (.bool true))]
def f__law_shut_for_all : Fn := ⟨[false, false, false, false, false], runF [f_told, f_lets_shut] [false, false, false, false, false] 7 b__law_shut_for_all⟩
@[simp] theorem m__law_shut_for_all : f__law_shut_for_all.modes = [false, false, false, false, false] := rfl
theorem e__law_shut_for_all (ds : List D) : f__law_shut_for_all.sem ds = runF [f_told, f_lets_shut] [false, false, false, false, false] 7 b__law_shut_for_all ds := rfl
def b_law_v18 : List IS := [
  .set 1 (.call 0 [(.var 0)] []),
  .set 2 (.call 1 [(.var 1), (.lit (.int 32))] []),
  .set 3 (.call 2 [(.var 1), (.var 2)] []),
  .forr (.nm 4) (.rng (.lit (.int 6))) [
    .set 5 (.call 3 [(.var 1), (.var 2)] []),
    .set 6 (.call 4 [(.var 1), (.var 2)] []),
    .set 7 (.call 5 [(.var 2), (.var 3), (.var 6), (.var 5)] []),
    .set 8 (.ix (.var 7) (.call 6 [(.var 1), (.fn .len [(.var 7)])] [])),
    .set 9 (.call 5 [(.var 2), (.var 3), (.var 8), (.var 5)] []),
    .set 10 (.lst [(.var 6), (.var 8), (.ix (.var 9) (.call 6 [(.var 1), (.fn .len [(.var 9)])] []))]),
    .set 11 (.call 4 [(.var 1), (.var 2)] []),
    .iff (.or [(.not (.v (.call 7 [(.var 2), (.var 3), (.var 10), (.var 5)] []))), (.not (.v (.call 8 [(.var 2), (.var 3), (.var 6), (.var 8), (.var 5)] [])))]) [
      .ret (.lit (.bool false))] [],
    .iff (.or [(.not (.v (.call 8 [(.var 2), (.var 3), (.var 6), (.var 11), (.var 5)] []))), (.not (.v (.call 9 [(.var 2), (.var 3), (.var 6), (.var 11), (.var 5)] [])))]) [
      .ret (.lit (.bool false))] [],
    .iff (.not (.v (.call 10 [(.var 2), (.var 3), (.var 6), (.ix (.lst [(.var 8), (.var 11)]) (.bi .mod (.var 4) (.lit (.int 2)))), (.var 5), (.call 11 [(.var 1), (.var 2), (.lit (.int 0))] [])] []))) [
      .ret (.lit (.bool false))] []],
  .ret (.lit (.bool true))]
def f_law_v18 : Fn := ⟨[false], runF [f__law_pen_v2, f__law_room_v3, f__law_book_v2, f__law_held_v2, f__law_standing_v2, f_reached, f__law_take, f__law_joined, f__law_back, f__law_shut_for_all, f__law_more, f__law_wish_v2] [false] 12 b_law_v18⟩
@[simp] theorem m_law_v18 : f_law_v18.modes = [false] := rfl
theorem e_law_v18 (ds : List D) : f_law_v18.sem ds = runF [f__law_pen_v2, f__law_room_v3, f__law_book_v2, f__law_held_v2, f__law_standing_v2, f_reached, f__law_take, f__law_joined, f__law_back, f__law_shut_for_all, f__law_more, f__law_wish_v2] [false] 12 b_law_v18 ds := rfl
end CM

namespace K21
open PySem PySem.Spec PyProof.Rows L2 PD CM
def topS (i : Nat) : Stmt := PySem.Challenge.pw_allelse_k21_whole_ways_put_together.main.body.getD i (.Pass ⟨0, 0, 0, 0⟩)
abbrev s__law_pen : Stmt := topS 24
def C__law_pen : Ck := ⟨["_law_script"], [], [], []⟩
theorem sc__law_pen : FnScope ["_law_script"] ["_law_script"] (defScope s__law_pen) := ⟨rfl, rfl, rfl, by decide +kernel, rfl, by decide +kernel, by decide +kernel⟩
theorem ck__law_pen : ckSs C__law_pen (defScope s__law_pen) b__law_pen_v2 (defBody s__law_pen) = true := by decide +kernel
abbrev s__law_take : Stmt := topS 25
def C__law_take : Ck := ⟨["_law_pen_here", "_law_most", "_law_found", "_law_at", "_law_cell", "_law_mixed"], [], ["len", "abs"], []⟩
theorem sc__law_take : FnScope ["_law_pen_here", "_law_most", "_law_found", "_law_at", "_law_cell", "_law_mixed"] ["_law_pen_here", "_law_most"] (defScope s__law_take) := ⟨rfl, rfl, rfl, by decide +kernel, rfl, by decide +kernel, by decide +kernel⟩
theorem ck__law_take : ckSs C__law_take (defScope s__law_take) b__law_take (defBody s__law_take) = true := by decide +kernel
abbrev s__law_size : Stmt := topS 26
def C__law_size : Ck := ⟨["_law_room_here", "_law_many", "_law_worths"], [], [], []⟩
theorem sc__law_size : FnScope ["_law_room_here", "_law_many", "_law_worths"] ["_law_room_here"] (defScope s__law_size) := ⟨rfl, rfl, rfl, by decide +kernel, rfl, by decide +kernel, by decide +kernel⟩
theorem ck__law_size : ckSs C__law_size (defScope s__law_size) b__law_size (defBody s__law_size) = true := by decide +kernel
abbrev s__law_room : Stmt := topS 27
def C__law_room : Ck := ⟨["_law_pen_here", "_law_most", "_law_some", "_law_room_here", "_law_k", "_law_worths"], [("_law_take", [[]]), ("_law_size", [[]])], ["range"], []⟩
theorem sc__law_room : FnScope ["_law_pen_here", "_law_most", "_law_some", "_law_room_here", "_law_k", "_law_worths"] ["_law_pen_here", "_law_most"] (defScope s__law_room) := ⟨rfl, rfl, rfl, by decide +kernel, rfl, by decide +kernel, by decide +kernel⟩
theorem ck__law_room : ckSs C__law_room (defScope s__law_room) b__law_room_v3 (defBody s__law_room) = true := by decide +kernel
abbrev s__law_snake : Stmt := topS 33
def C__law_snake : Ck := ⟨["_law_room_here", "_law_found", "_law_worths", "_law_longer", "_law_k", "_law_some", "_law_worth"], [], ["range", "len"], []⟩
theorem sc__law_snake : FnScope ["_law_room_here", "_law_found", "_law_worths", "_law_longer", "_law_k", "_law_some", "_law_worth"] ["_law_room_here"] (defScope s__law_snake) := ⟨rfl, rfl, rfl, by decide +kernel, rfl, by decide +kernel, by decide +kernel⟩
theorem ck__law_snake : ckSs C__law_snake (defScope s__law_snake) b__law_snake (defBody s__law_snake) = true := by decide +kernel
abbrev s__law_full : Stmt := topS 34
def C__law_full : Ck := ⟨["_law_one", "_law_other", "_law_box", "_law_k", "_law_given_here"], [], ["range", "len", "tuple"], []⟩
theorem sc__law_full : FnScope ["_law_one", "_law_other", "_law_box", "_law_k", "_law_given_here"] ["_law_one", "_law_other"] (defScope s__law_full) := ⟨rfl, rfl, rfl, by decide +kernel, rfl, by decide +kernel, by decide +kernel⟩
theorem ck__law_full : ckSs C__law_full (defScope s__law_full) b__law_full (defBody s__law_full) = true := by decide +kernel
abbrev s__law_given : Stmt := topS 30
def C__law_given : Ck := ⟨["_law_pen_here", "_law_room_here", "_law_box", "_law_rare", "_law_found", "_law_at"], [("_law_take", [[]])], ["range", "len", "tuple"], []⟩
theorem sc__law_given : FnScope ["_law_pen_here", "_law_room_here", "_law_box", "_law_rare", "_law_found", "_law_at"] ["_law_pen_here", "_law_room_here", "_law_box"] (defScope s__law_given) := ⟨rfl, rfl, rfl, by decide +kernel, rfl, by decide +kernel, by decide +kernel⟩
theorem ck__law_given : ckSs C__law_given (defScope s__law_given) b__law_given_v2 (defBody s__law_given) = true := by decide +kernel
abbrev s__law_wish : Stmt := topS 31
def C__law_wish : Ck := ⟨["_law_pen_here", "_law_room_here", "_law_way", "_law_box", "_law_worse", "_law_better"], [("_law_take", [[]]), ("_law_given", [[]])], ["len"], []⟩
theorem sc__law_wish : FnScope ["_law_pen_here", "_law_room_here", "_law_way", "_law_box", "_law_worse", "_law_better"] ["_law_pen_here", "_law_room_here", "_law_way"] (defScope s__law_wish) := ⟨rfl, rfl, rfl, by decide +kernel, rfl, by decide +kernel, by decide +kernel⟩
theorem ck__law_wish : ckSs C__law_wish (defScope s__law_wish) b__law_wish_v2 (defBody s__law_wish) = true := by decide +kernel
abbrev s__law_row_book : Stmt := topS 35
def C__law_row_book : Ck := ⟨["_law_pen_here", "_law_room_here", "_law_row", "_law_book_here", "_law_k", "_law_at", "_law_way"], [("_law_snake", [[]]), ("_law_take", [[]]), ("_law_full", [[]]), ("_law_wish", [[]])], ["range", "len", "tuple"], []⟩
theorem sc__law_row_book : FnScope ["_law_pen_here", "_law_room_here", "_law_row", "_law_book_here", "_law_k", "_law_at", "_law_way"] ["_law_pen_here", "_law_room_here"] (defScope s__law_row_book) := ⟨rfl, rfl, rfl, by decide +kernel, rfl, by decide +kernel, by decide +kernel⟩
theorem ck__law_row_book : ckSs C__law_row_book (defScope s__law_row_book) b__law_row_book (defBody s__law_row_book) = true := by decide +kernel
abbrev s__law_turned : Stmt := topS 32
def C__law_turned : Ck := ⟨["_law_pen_here", "_law_some", "_law_found", "_law_one"], [("_law_take", [[]])], ["len"], []⟩
theorem sc__law_turned : FnScope ["_law_pen_here", "_law_some", "_law_found", "_law_one"] ["_law_pen_here", "_law_some"] (defScope s__law_turned) := ⟨rfl, rfl, rfl, by decide +kernel, rfl, by decide +kernel, by decide +kernel⟩
theorem ck__law_turned : ckSs C__law_turned (defScope s__law_turned) b__law_turned (defBody s__law_turned) = true := by decide +kernel
abbrev s__law_all : Stmt := topS 28
def C__law_all : Ck := ⟨["_law_room_here", "_law_found", "_law_worths", "_law_k"], [], ["range", "len"], []⟩
theorem sc__law_all : FnScope ["_law_room_here", "_law_found", "_law_worths", "_law_k"] ["_law_room_here"] (defScope s__law_all) := ⟨rfl, rfl, rfl, by decide +kernel, rfl, by decide +kernel, by decide +kernel⟩
theorem ck__law_all : ckSs C__law_all (defScope s__law_all) b__law_all_v2 (defBody s__law_all) = true := by decide +kernel
abbrev s__law_ranked : Stmt := topS 36
def C__law_ranked : Ck := ⟨["_law_pen_here", "_law_room_here", "_law_boxes_here", "_law_book_here", "_law_k", "_law_box", "_law_parents", "_law_at", "_law_case", "_law_rank", "_law_given_here", "_law_worth", "_law_j"], [("_law_turned", [[]]), ("_law_take", [[]]), ("_law_size", [[]]), ("_law_all", [[]])], ["list", "range", "len", "sorted", "tuple", "zip"], []⟩
theorem sc__law_ranked : FnScope ["_law_pen_here", "_law_room_here", "_law_boxes_here", "_law_book_here", "_law_k", "_law_box", "_law_parents", "_law_at", "_law_case", "_law_rank", "_law_given_here", "_law_worth", "_law_j"] ["_law_pen_here", "_law_room_here"] (defScope s__law_ranked) := ⟨rfl, rfl, rfl, by decide +kernel, rfl, by decide +kernel, by decide +kernel⟩
theorem ck__law_ranked : ckSs C__law_ranked (defScope s__law_ranked) b__law_ranked (defBody s__law_ranked) = true := by decide +kernel
abbrev s__law_book : Stmt := topS 37
def C__law_book : Ck := ⟨["_law_pen_here", "_law_room_here", "_law_way", "_law_book_here", "_law_k"], [("_law_take", [[]]), ("_law_row_book", [[]]), ("_law_ranked", [[]]), ("_law_wish", [[]])], ["list", "len", "tuple", "range"], []⟩
theorem sc__law_book : FnScope ["_law_pen_here", "_law_room_here", "_law_way", "_law_book_here", "_law_k"] ["_law_pen_here", "_law_room_here"] (defScope s__law_book) := ⟨rfl, rfl, rfl, by decide +kernel, rfl, by decide +kernel, by decide +kernel⟩
theorem ck__law_book : ckSs C__law_book (defScope s__law_book) b__law_book_v2 (defBody s__law_book) = true := by decide +kernel
abbrev s__law_held : Stmt := topS 38
def C__law_held : Ck := ⟨["_law_pen_here", "_law_room_here", "_law_way", "_law_box"], [("_law_take", [[]])], ["tuple", "range", "len"], []⟩
theorem sc__law_held : FnScope ["_law_pen_here", "_law_room_here", "_law_way", "_law_box"] ["_law_pen_here", "_law_room_here"] (defScope s__law_held) := ⟨rfl, rfl, rfl, by decide +kernel, rfl, by decide +kernel, by decide +kernel⟩
theorem ck__law_held : ckSs C__law_held (defScope s__law_held) b__law_held_v2 (defBody s__law_held) = true := by decide +kernel
abbrev s__law_standing : Stmt := topS 29
def C__law_standing : Ck := ⟨["_law_pen_here", "_law_room_here", "_law_worths"], [("_law_take", [[]])], ["tuple"], []⟩
theorem sc__law_standing : FnScope ["_law_pen_here", "_law_room_here", "_law_worths"] ["_law_pen_here", "_law_room_here"] (defScope s__law_standing) := ⟨rfl, rfl, rfl, by decide +kernel, rfl, by decide +kernel, by decide +kernel⟩
theorem ck__law_standing : ckSs C__law_standing (defScope s__law_standing) b__law_standing_v2 (defBody s__law_standing) = true := by decide +kernel
abbrev s_shut_of : Stmt := topS 13
def C_shut_of : Ck := ⟨["before", "one"], [], ["sorted", "set", "list"], []⟩
theorem sc_shut_of : FnScope ["before", "one"] ["before", "one"] (defScope s_shut_of) := ⟨rfl, rfl, rfl, by decide +kernel, rfl, by decide +kernel, by decide +kernel⟩
theorem ck_shut_of : ckSs C_shut_of (defScope s_shut_of) b_shut_of (defBody s_shut_of) = true := by decide +kernel
abbrev s_keeps : Stmt := topS 6
def C_keeps : Ck := ⟨["standing", "given", "box", "worth"], [], ["all"], []⟩
theorem sc_keeps : FnScope ["standing", "given", "box", "worth"] ["standing", "given"] (defScope s_keeps) := ⟨rfl, rfl, rfl, by decide +kernel, rfl, by decide +kernel, by decide +kernel⟩
theorem ck_keeps : ckSs C_keeps (defScope s_keeps) b_keeps (defBody s_keeps) = true := by decide +kernel
abbrev s_changed : Stmt := topS 4
def C_changed : Ck := ⟨["standing", "box", "worth"], [], [], []⟩
theorem sc_changed : FnScope ["standing", "box", "worth"] ["standing", "box", "worth"] (defScope s_changed) := ⟨rfl, rfl, rfl, by decide +kernel, rfl, by decide +kernel, by decide +kernel⟩
theorem ck_changed : ckSs C_changed (defScope s_changed) b_changed (defBody s_changed) = true := by decide +kernel
abbrev s_bettered_by : Stmt := topS 8
def C_bettered_by : Ck := ⟨["wish", "standing", "given", "box", "better", "worse"], [("keeps", [[]]), ("changed", [[]])], [], []⟩
theorem sc_bettered_by : FnScope ["wish", "standing", "given", "box", "better", "worse"] ["wish", "standing"] (defScope s_bettered_by) := ⟨rfl, rfl, rfl, by decide +kernel, rfl, by decide +kernel, by decide +kernel⟩
theorem ck_bettered_by : ckSs C_bettered_by (defScope s_bettered_by) b_bettered_by (defBody s_bettered_by) = true := by decide +kernel
abbrev s_betterings : Stmt := topS 9
def C_betterings : Ck := ⟨["room", "book", "standing", "held", "alone", "found", "wish", "to"], [("bettered_by", [[]])], ["list", "sorted"], []⟩
theorem sc_betterings : FnScope ["room", "book", "standing", "held", "alone", "found", "wish", "to"] ["room", "book", "standing", "held"] (defScope s_betterings) := ⟨rfl, rfl, rfl, by decide +kernel, rfl, by decide +kernel, by decide +kernel⟩
theorem ck_betterings : ckSs C_betterings (defScope s_betterings) b_betterings (defBody s_betterings) = true := by decide +kernel
abbrev s_found_from : Stmt := topS 11
def C_found_from : Ck := ⟨["room", "book", "one", "held", "before", "waiting", "at", "there"], [("betterings", [[]])], ["len"], []⟩
theorem sc_found_from : FnScope ["room", "book", "one", "held", "before", "waiting", "at", "there"] ["room", "book", "one", "held"] (defScope s_found_from) := ⟨rfl, rfl, rfl, by decide +kernel, rfl, by decide +kernel, by decide +kernel⟩
theorem ck_found_from : ckSs C_found_from (defScope s_found_from) b_found_from (defBody s_found_from) = true := by decide +kernel
abbrev s_reached : Stmt := topS 14
def C_reached : Ck := ⟨["room", "book", "standing", "held"], [("shut_of", [[]]), ("found_from", [[]])], [], []⟩
theorem sc_reached : FnScope ["room", "book", "standing", "held"] ["room", "book", "standing", "held"] (defScope s_reached) := ⟨rfl, rfl, rfl, by decide +kernel, rfl, by decide +kernel, by decide +kernel⟩
theorem ck_reached : ckSs C_reached (defScope s_reached) b_reached (defBody s_reached) = true := by decide +kernel
abbrev s_way_back : Stmt := topS 12
def C_way_back : Ck := ⟨["before", "one", "other", "way", "at"], [], [], []⟩
theorem sc_way_back : FnScope ["before", "one", "other", "way", "at"] ["before", "one", "other"] (defScope s_way_back) := ⟨rfl, rfl, rfl, by decide +kernel, rfl, by decide +kernel, by decide +kernel⟩
theorem ck_way_back : ckSs C_way_back (defScope s_way_back) b_way_back (defBody s_way_back) = true := by decide +kernel
abbrev s_told : Stmt := topS 15
def C_told : Ck := ⟨["room", "book", "one", "other", "held", "before"], [("found_from", [[]]), ("way_back", [[]]), ("shut_of", [[]])], [], []⟩
theorem sc_told : FnScope ["room", "book", "one", "other", "held", "before"] ["room", "book", "one", "other", "held"] (defScope s_told) := ⟨rfl, rfl, rfl, by decide +kernel, rfl, by decide +kernel, by decide +kernel⟩
theorem ck_told : ckSs C_told (defScope s_told) b_told (defBody s_told) = true := by decide +kernel
abbrev s__law_more : Stmt := topS 43
def C__law_more : Ck := ⟨["_law_room_here", "_law_book_here", "_law_one", "_law_two", "_law_held_here", "_law_wish_here", "_law_found", "_law_other", "_law_some", "_law_there"], [("told", [[]]), ("reached", [[]])], ["len"], []⟩
theorem sc__law_more : FnScope ["_law_room_here", "_law_book_here", "_law_one", "_law_two", "_law_held_here", "_law_wish_here", "_law_found", "_law_other", "_law_some", "_law_there"] ["_law_room_here", "_law_book_here", "_law_one", "_law_two", "_law_held_here", "_law_wish_here"] (defScope s__law_more) := ⟨rfl, rfl, rfl, by decide +kernel, rfl, by decide +kernel, by decide +kernel⟩
theorem ck__law_more : ckSs C__law_more (defScope s__law_more) b__law_more (defBody s__law_more) = true := by decide +kernel
abbrev s_is_whole : Stmt := topS 1
def C_is_whole : Ck := ⟨["thing"], [], ["isinstance", "int", "bool"], []⟩
theorem sc_is_whole : FnScope ["thing"] ["thing"] (defScope s_is_whole) := ⟨rfl, rfl, rfl, by decide +kernel, rfl, by decide +kernel, by decide +kernel⟩
theorem ck_is_whole : ckSs C_is_whole (defScope s_is_whole) b_is_whole (defBody s_is_whole) = true := by decide +kernel
abbrev s_is_worth : Stmt := topS 2
def C_is_worth : Ck := ⟨["room", "box", "thing"], [("is_whole", [[]])], [], []⟩
theorem sc_is_worth : FnScope ["room", "box", "thing"] ["room", "box", "thing"] (defScope s_is_worth) := ⟨rfl, rfl, rfl, by decide +kernel, rfl, by decide +kernel, by decide +kernel⟩
theorem ck_is_worth : ckSs C_is_worth (defScope s_is_worth) b_is_worth (defBody s_is_worth) = true := by decide +kernel
abbrev s_is_standing : Stmt := topS 3
def C_is_standing : Ck := ⟨["room", "thing", "box", "worth"], [("is_worth", [[]])], ["isinstance", "tuple", "len", "all", "enumerate"], []⟩
theorem sc_is_standing : FnScope ["room", "thing", "box", "worth"] ["room", "thing"] (defScope s_is_standing) := ⟨rfl, rfl, rfl, by decide +kernel, rfl, by decide +kernel, by decide +kernel⟩
theorem ck_is_standing : ckSs C_is_standing (defScope s_is_standing) b_is_standing (defBody s_is_standing) = true := by decide +kernel
abbrev s_are_standings : Stmt := topS 16
def C_are_standings : Ck := ⟨["room", "thing", "part"], [("is_standing", [[]])], ["isinstance", "list", "all"], []⟩
theorem sc_are_standings : FnScope ["room", "thing", "part"] ["room", "thing"] (defScope s_are_standings) := ⟨rfl, rfl, rfl, by decide +kernel, rfl, by decide +kernel, by decide +kernel⟩
theorem ck_are_standings : ckSs C_are_standings (defScope s_are_standings) b_are_standings (defBody s_are_standings) = true := by decide +kernel
abbrev s_lets_way : Stmt := topS 17
def C_lets_way : Ck := ⟨["room", "book", "one", "other", "thing", "held", "k"], [("are_standings", [[]]), ("betterings", [[]])], ["len", "range"], []⟩
theorem sc_lets_way : FnScope ["room", "book", "one", "other", "thing", "held", "k"] ["room", "book", "one", "other", "thing", "held"] (defScope s_lets_way) := ⟨rfl, rfl, rfl, by decide +kernel, rfl, by decide +kernel, by decide +kernel⟩
theorem ck_lets_way : ckSs C_lets_way (defScope s_lets_way) b_lets_way (defBody s_lets_way) = true := by decide +kernel
abbrev s__law_joined : Stmt := topS 40
def C__law_joined : Ck := ⟨["_law_room_here", "_law_book_here", "_law_three", "_law_held_here", "_law_one", "_law_two", "_law_last", "_law_first", "_law_second", "_law_whole", "_law_third"], [("told", [[]]), ("lets_way", [[]])], ["len"], []⟩
theorem sc__law_joined : FnScope ["_law_room_here", "_law_book_here", "_law_three", "_law_held_here", "_law_one", "_law_two", "_law_last", "_law_first", "_law_second", "_law_whole", "_law_third"] ["_law_room_here", "_law_book_here", "_law_three", "_law_held_here"] (defScope s__law_joined) := ⟨rfl, rfl, rfl, by decide +kernel, rfl, by decide +kernel, by decide +kernel⟩
theorem ck__law_joined : ckSs C__law_joined (defScope s__law_joined) b__law_joined (defBody s__law_joined) = true := by decide +kernel
abbrev s_turned : Stmt := topS 22
def C_turned : Ck := ⟨["book", "given", "box", "better", "worse"], [], ["tuple"], []⟩
theorem sc_turned : FnScope ["book", "given", "box", "better", "worse"] ["book"] (defScope s_turned) := ⟨rfl, rfl, rfl, by decide +kernel, rfl, by decide +kernel, by decide +kernel⟩
theorem ck_turned : ckSs C_turned (defScope s_turned) b_turned (defBody s_turned) = true := by decide +kernel
abbrev s__law_back : Stmt := topS 41
def C__law_back : Ck := ⟨["_law_room_here", "_law_book_here", "_law_one", "_law_two", "_law_held_here", "_law_found", "_law_other"], [("told", [[]]), ("turned", [[]]), ("lets_way", [[]])], ["len"], []⟩
theorem sc__law_back : FnScope ["_law_room_here", "_law_book_here", "_law_one", "_law_two", "_law_held_here", "_law_found", "_law_other"] ["_law_room_here", "_law_book_here", "_law_one", "_law_two", "_law_held_here"] (defScope s__law_back) := ⟨rfl, rfl, rfl, by decide +kernel, rfl, by decide +kernel, by decide +kernel⟩
theorem ck__law_back : ckSs C__law_back (defScope s__law_back) b__law_back (defBody s__law_back) = true := by decide +kernel
abbrev s_are_rising : Stmt := topS 19
def C_are_rising : Ck := ⟨["some", "k"], [], ["range", "len"], []⟩
theorem sc_are_rising : FnScope ["some", "k"] ["some"] (defScope s_are_rising) := ⟨rfl, rfl, rfl, by decide +kernel, rfl, by decide +kernel, by decide +kernel⟩
theorem ck_are_rising : ckSs C_are_rising (defScope s_are_rising) b_are_rising (defBody s_are_rising) = true := by decide +kernel
abbrev s_lets_shut : Stmt := topS 20
def C_lets_shut : Ck := ⟨["room", "book", "one", "other", "thing", "held", "inside", "standing", "there"], [("are_standings", [[]]), ("are_rising", [[]]), ("betterings", [[]])], ["dict"], []⟩
theorem sc_lets_shut : FnScope ["room", "book", "one", "other", "thing", "held", "inside", "standing", "there"] ["room", "book", "one", "other", "thing", "held"] (defScope s_lets_shut) := ⟨rfl, rfl, rfl, by decide +kernel, rfl, by decide +kernel, by decide +kernel⟩
theorem ck_lets_shut : ckSs C_lets_shut (defScope s_lets_shut) b_lets_shut (defBody s_lets_shut) = true := by decide +kernel
abbrev s__law_shut_for_all : Stmt := topS 42
def C__law_shut_for_all : Ck := ⟨["_law_room_here", "_law_book_here", "_law_one", "_law_two", "_law_held_here", "_law_found", "_law_standing_here"], [("told", [[]]), ("lets_shut", [[]])], [], []⟩
theorem sc__law_shut_for_all : FnScope ["_law_room_here", "_law_book_here", "_law_one", "_law_two", "_law_held_here", "_law_found", "_law_standing_here"] ["_law_room_here", "_law_book_here", "_law_one", "_law_two", "_law_held_here"] (defScope s__law_shut_for_all) := ⟨rfl, rfl, rfl, by decide +kernel, rfl, by decide +kernel, by decide +kernel⟩
theorem ck__law_shut_for_all : ckSs C__law_shut_for_all (defScope s__law_shut_for_all) b__law_shut_for_all (defBody s__law_shut_for_all) = true := by decide +kernel
abbrev s_law : Stmt := topS 44
def C_law : Ck := ⟨["_law_script", "_law_pen_here", "_law_room_here", "_law_book_here", "_law_turn", "_law_held_here", "_law_one", "_law_some", "_law_two", "_law_others", "_law_three", "_law_lone"], [("_law_pen", [[]]), ("_law_room", [[]]), ("_law_book", [[]]), ("_law_held", [[]]), ("_law_standing", [[]]), ("reached", [[]]), ("_law_take", [[]]), ("_law_joined", [[]]), ("_law_back", [[]]), ("_law_shut_for_all", [[]]), ("_law_more", [[]]), ("_law_wish", [[]])], ["range", "len"], []⟩
theorem sc_law : FnScope ["_law_script", "_law_pen_here", "_law_room_here", "_law_book_here", "_law_turn", "_law_held_here", "_law_one", "_law_some", "_law_two", "_law_others", "_law_three", "_law_lone"] ["_law_script"] (defScope s_law) := ⟨rfl, rfl, rfl, by decide +kernel, rfl, by decide +kernel, by decide +kernel⟩
theorem ck_law : ckSs C_law (defScope s_law) b_law_v18 (defBody s_law) = true := by decide +kernel
theorem all_mk {l : PySem.W.OpenLaw} {w : World} {K : PySem.W.Frag} {h : Heap} {mg : Str → Option Value} {fa : Addr} (X : K.In h) (G : h.Ns mainGlobals mg) (hfa : mg "law" = some (.ref fa))
    {fa0 : Addr} {od0 an0 : Option Addr} {sl0 : Array (Option Value)} {oc0 kV0 dc0 pm0 cd0 ct0 : Value}
    (a0 : PySem.W.nsIn K mainGlobals "_law_pen" = some (some (.ref fa0))) (l0 : K.lookup fa0 = some ⟨oc0, od0, .func (PySem.W.fnOf "_law_pen" "_law_pen" (defArgs s__law_pen) (defBody s__law_pen) (defScope s__law_pen) .none kV0 dc0 pm0 an0 cd0 ct0), sl0⟩) (c0 : PySem.W.codeIn K cd0 "_law_pen" = true) (k0 : PySem.W.keepIn K (.ref fa0) = true)
    {fa1 : Addr} {od1 an1 : Option Addr} {sl1 : Array (Option Value)} {oc1 kV1 dc1 pm1 cd1 ct1 : Value}
    (a1 : PySem.W.nsIn K mainGlobals "_law_take" = some (some (.ref fa1))) (l1 : K.lookup fa1 = some ⟨oc1, od1, .func (PySem.W.fnOf "_law_take" "_law_take" (defArgs s__law_take) (defBody s__law_take) (defScope s__law_take) .none kV1 dc1 pm1 an1 cd1 ct1), sl1⟩) (c1 : PySem.W.codeIn K cd1 "_law_take" = true) (k1 : PySem.W.keepIn K (.ref fa1) = true)
    {fa2 : Addr} {od2 an2 : Option Addr} {sl2 : Array (Option Value)} {oc2 kV2 dc2 pm2 cd2 ct2 : Value}
    (a2 : PySem.W.nsIn K mainGlobals "_law_size" = some (some (.ref fa2))) (l2 : K.lookup fa2 = some ⟨oc2, od2, .func (PySem.W.fnOf "_law_size" "_law_size" (defArgs s__law_size) (defBody s__law_size) (defScope s__law_size) .none kV2 dc2 pm2 an2 cd2 ct2), sl2⟩) (c2 : PySem.W.codeIn K cd2 "_law_size" = true) (k2 : PySem.W.keepIn K (.ref fa2) = true)
    {fa3 : Addr} {od3 an3 : Option Addr} {sl3 : Array (Option Value)} {oc3 kV3 dc3 pm3 cd3 ct3 : Value}
    (a3 : PySem.W.nsIn K mainGlobals "_law_room" = some (some (.ref fa3))) (l3 : K.lookup fa3 = some ⟨oc3, od3, .func (PySem.W.fnOf "_law_room" "_law_room" (defArgs s__law_room) (defBody s__law_room) (defScope s__law_room) .none kV3 dc3 pm3 an3 cd3 ct3), sl3⟩) (c3 : PySem.W.codeIn K cd3 "_law_room" = true) (k3 : PySem.W.keepIn K (.ref fa3) = true)
    {fa4 : Addr} {od4 an4 : Option Addr} {sl4 : Array (Option Value)} {oc4 kV4 dc4 pm4 cd4 ct4 : Value}
    (a4 : PySem.W.nsIn K mainGlobals "_law_snake" = some (some (.ref fa4))) (l4 : K.lookup fa4 = some ⟨oc4, od4, .func (PySem.W.fnOf "_law_snake" "_law_snake" (defArgs s__law_snake) (defBody s__law_snake) (defScope s__law_snake) .none kV4 dc4 pm4 an4 cd4 ct4), sl4⟩) (c4 : PySem.W.codeIn K cd4 "_law_snake" = true) (k4 : PySem.W.keepIn K (.ref fa4) = true)
    {fa5 : Addr} {od5 an5 : Option Addr} {sl5 : Array (Option Value)} {oc5 kV5 dc5 pm5 cd5 ct5 : Value}
    (a5 : PySem.W.nsIn K mainGlobals "_law_full" = some (some (.ref fa5))) (l5 : K.lookup fa5 = some ⟨oc5, od5, .func (PySem.W.fnOf "_law_full" "_law_full" (defArgs s__law_full) (defBody s__law_full) (defScope s__law_full) .none kV5 dc5 pm5 an5 cd5 ct5), sl5⟩) (c5 : PySem.W.codeIn K cd5 "_law_full" = true) (k5 : PySem.W.keepIn K (.ref fa5) = true)
    {fa6 : Addr} {od6 an6 : Option Addr} {sl6 : Array (Option Value)} {oc6 kV6 dc6 pm6 cd6 ct6 : Value}
    (a6 : PySem.W.nsIn K mainGlobals "_law_given" = some (some (.ref fa6))) (l6 : K.lookup fa6 = some ⟨oc6, od6, .func (PySem.W.fnOf "_law_given" "_law_given" (defArgs s__law_given) (defBody s__law_given) (defScope s__law_given) .none kV6 dc6 pm6 an6 cd6 ct6), sl6⟩) (c6 : PySem.W.codeIn K cd6 "_law_given" = true) (k6 : PySem.W.keepIn K (.ref fa6) = true)
    {fa7 : Addr} {od7 an7 : Option Addr} {sl7 : Array (Option Value)} {oc7 kV7 dc7 pm7 cd7 ct7 : Value}
    (a7 : PySem.W.nsIn K mainGlobals "_law_wish" = some (some (.ref fa7))) (l7 : K.lookup fa7 = some ⟨oc7, od7, .func (PySem.W.fnOf "_law_wish" "_law_wish" (defArgs s__law_wish) (defBody s__law_wish) (defScope s__law_wish) .none kV7 dc7 pm7 an7 cd7 ct7), sl7⟩) (c7 : PySem.W.codeIn K cd7 "_law_wish" = true) (k7 : PySem.W.keepIn K (.ref fa7) = true)
    {fa8 : Addr} {od8 an8 : Option Addr} {sl8 : Array (Option Value)} {oc8 kV8 dc8 pm8 cd8 ct8 : Value}
    (a8 : PySem.W.nsIn K mainGlobals "_law_row_book" = some (some (.ref fa8))) (l8 : K.lookup fa8 = some ⟨oc8, od8, .func (PySem.W.fnOf "_law_row_book" "_law_row_book" (defArgs s__law_row_book) (defBody s__law_row_book) (defScope s__law_row_book) .none kV8 dc8 pm8 an8 cd8 ct8), sl8⟩) (c8 : PySem.W.codeIn K cd8 "_law_row_book" = true) (k8 : PySem.W.keepIn K (.ref fa8) = true)
    {fa9 : Addr} {od9 an9 : Option Addr} {sl9 : Array (Option Value)} {oc9 kV9 dc9 pm9 cd9 ct9 : Value}
    (a9 : PySem.W.nsIn K mainGlobals "_law_turned" = some (some (.ref fa9))) (l9 : K.lookup fa9 = some ⟨oc9, od9, .func (PySem.W.fnOf "_law_turned" "_law_turned" (defArgs s__law_turned) (defBody s__law_turned) (defScope s__law_turned) .none kV9 dc9 pm9 an9 cd9 ct9), sl9⟩) (c9 : PySem.W.codeIn K cd9 "_law_turned" = true) (k9 : PySem.W.keepIn K (.ref fa9) = true)
    {fa10 : Addr} {od10 an10 : Option Addr} {sl10 : Array (Option Value)} {oc10 kV10 dc10 pm10 cd10 ct10 : Value}
    (a10 : PySem.W.nsIn K mainGlobals "_law_all" = some (some (.ref fa10))) (l10 : K.lookup fa10 = some ⟨oc10, od10, .func (PySem.W.fnOf "_law_all" "_law_all" (defArgs s__law_all) (defBody s__law_all) (defScope s__law_all) .none kV10 dc10 pm10 an10 cd10 ct10), sl10⟩) (c10 : PySem.W.codeIn K cd10 "_law_all" = true) (k10 : PySem.W.keepIn K (.ref fa10) = true)
    {fa11 : Addr} {od11 an11 : Option Addr} {sl11 : Array (Option Value)} {oc11 kV11 dc11 pm11 cd11 ct11 : Value}
    (a11 : PySem.W.nsIn K mainGlobals "_law_ranked" = some (some (.ref fa11))) (l11 : K.lookup fa11 = some ⟨oc11, od11, .func (PySem.W.fnOf "_law_ranked" "_law_ranked" (defArgs s__law_ranked) (defBody s__law_ranked) (defScope s__law_ranked) .none kV11 dc11 pm11 an11 cd11 ct11), sl11⟩) (c11 : PySem.W.codeIn K cd11 "_law_ranked" = true) (k11 : PySem.W.keepIn K (.ref fa11) = true)
    {fa12 : Addr} {od12 an12 : Option Addr} {sl12 : Array (Option Value)} {oc12 kV12 dc12 pm12 cd12 ct12 : Value}
    (a12 : PySem.W.nsIn K mainGlobals "_law_book" = some (some (.ref fa12))) (l12 : K.lookup fa12 = some ⟨oc12, od12, .func (PySem.W.fnOf "_law_book" "_law_book" (defArgs s__law_book) (defBody s__law_book) (defScope s__law_book) .none kV12 dc12 pm12 an12 cd12 ct12), sl12⟩) (c12 : PySem.W.codeIn K cd12 "_law_book" = true) (k12 : PySem.W.keepIn K (.ref fa12) = true)
    {fa13 : Addr} {od13 an13 : Option Addr} {sl13 : Array (Option Value)} {oc13 kV13 dc13 pm13 cd13 ct13 : Value}
    (a13 : PySem.W.nsIn K mainGlobals "_law_held" = some (some (.ref fa13))) (l13 : K.lookup fa13 = some ⟨oc13, od13, .func (PySem.W.fnOf "_law_held" "_law_held" (defArgs s__law_held) (defBody s__law_held) (defScope s__law_held) .none kV13 dc13 pm13 an13 cd13 ct13), sl13⟩) (c13 : PySem.W.codeIn K cd13 "_law_held" = true) (k13 : PySem.W.keepIn K (.ref fa13) = true)
    {fa14 : Addr} {od14 an14 : Option Addr} {sl14 : Array (Option Value)} {oc14 kV14 dc14 pm14 cd14 ct14 : Value}
    (a14 : PySem.W.nsIn K mainGlobals "_law_standing" = some (some (.ref fa14))) (l14 : K.lookup fa14 = some ⟨oc14, od14, .func (PySem.W.fnOf "_law_standing" "_law_standing" (defArgs s__law_standing) (defBody s__law_standing) (defScope s__law_standing) .none kV14 dc14 pm14 an14 cd14 ct14), sl14⟩) (c14 : PySem.W.codeIn K cd14 "_law_standing" = true) (k14 : PySem.W.keepIn K (.ref fa14) = true)
    {fa15 : Addr} {od15 an15 : Option Addr} {sl15 : Array (Option Value)} {oc15 kV15 dc15 pm15 cd15 ct15 : Value}
    (a15 : PySem.W.nsIn K mainGlobals "shut_of" = some (some (.ref fa15))) (l15 : K.lookup fa15 = some ⟨oc15, od15, .func (PySem.W.fnOf "shut_of" "shut_of" (defArgs s_shut_of) (defBody s_shut_of) (defScope s_shut_of) .none kV15 dc15 pm15 an15 cd15 ct15), sl15⟩) (c15 : PySem.W.codeIn K cd15 "shut_of" = true) (k15 : PySem.W.keepIn K (.ref fa15) = true)
    {fa16 : Addr} {od16 an16 : Option Addr} {sl16 : Array (Option Value)} {oc16 kV16 dc16 pm16 cd16 ct16 : Value}
    (a16 : PySem.W.nsIn K mainGlobals "keeps" = some (some (.ref fa16))) (l16 : K.lookup fa16 = some ⟨oc16, od16, .func (PySem.W.fnOf "keeps" "keeps" (defArgs s_keeps) (defBody s_keeps) (defScope s_keeps) .none kV16 dc16 pm16 an16 cd16 ct16), sl16⟩) (c16 : PySem.W.codeIn K cd16 "keeps" = true) (k16 : PySem.W.keepIn K (.ref fa16) = true)
    {fa17 : Addr} {od17 an17 : Option Addr} {sl17 : Array (Option Value)} {oc17 kV17 dc17 pm17 cd17 ct17 : Value}
    (a17 : PySem.W.nsIn K mainGlobals "changed" = some (some (.ref fa17))) (l17 : K.lookup fa17 = some ⟨oc17, od17, .func (PySem.W.fnOf "changed" "changed" (defArgs s_changed) (defBody s_changed) (defScope s_changed) .none kV17 dc17 pm17 an17 cd17 ct17), sl17⟩) (c17 : PySem.W.codeIn K cd17 "changed" = true) (k17 : PySem.W.keepIn K (.ref fa17) = true)
    {fa18 : Addr} {od18 an18 : Option Addr} {sl18 : Array (Option Value)} {oc18 kV18 dc18 pm18 cd18 ct18 : Value}
    (a18 : PySem.W.nsIn K mainGlobals "bettered_by" = some (some (.ref fa18))) (l18 : K.lookup fa18 = some ⟨oc18, od18, .func (PySem.W.fnOf "bettered_by" "bettered_by" (defArgs s_bettered_by) (defBody s_bettered_by) (defScope s_bettered_by) .none kV18 dc18 pm18 an18 cd18 ct18), sl18⟩) (c18 : PySem.W.codeIn K cd18 "bettered_by" = true) (k18 : PySem.W.keepIn K (.ref fa18) = true)
    {fa19 : Addr} {od19 an19 : Option Addr} {sl19 : Array (Option Value)} {oc19 kV19 dc19 pm19 cd19 ct19 : Value}
    {T19 : Addr} {tc19 : Value} {td19 : Option Addr} {tn19 : Nat} {ts19 : Array (Option Value)}
    (a19 : PySem.W.nsIn K mainGlobals "betterings" = some (some (.ref fa19))) (l19 : K.lookup fa19 = some ⟨oc19, od19, .func (PySem.W.fnOf "betterings" "betterings" (defArgs s_betterings) (defBody s_betterings) (defScope s_betterings) (.ref T19) kV19 dc19 pm19 an19 cd19 ct19), sl19⟩) (c19 : PySem.W.codeIn K cd19 "betterings" = true) (k19 : PySem.W.keepIn K (.ref fa19) = true) (t19 : K.lookup T19 = some ⟨tc19, td19, .seq #[.none] tn19, ts19⟩)
    {fa20 : Addr} {od20 an20 : Option Addr} {sl20 : Array (Option Value)} {oc20 kV20 dc20 pm20 cd20 ct20 : Value}
    (a20 : PySem.W.nsIn K mainGlobals "found_from" = some (some (.ref fa20))) (l20 : K.lookup fa20 = some ⟨oc20, od20, .func (PySem.W.fnOf "found_from" "found_from" (defArgs s_found_from) (defBody s_found_from) (defScope s_found_from) .none kV20 dc20 pm20 an20 cd20 ct20), sl20⟩) (c20 : PySem.W.codeIn K cd20 "found_from" = true) (k20 : PySem.W.keepIn K (.ref fa20) = true)
    {fa21 : Addr} {od21 an21 : Option Addr} {sl21 : Array (Option Value)} {oc21 kV21 dc21 pm21 cd21 ct21 : Value}
    {T21 : Addr} {tc21 : Value} {td21 : Option Addr} {tn21 : Nat} {ts21 : Array (Option Value)}
    (a21 : PySem.W.nsIn K mainGlobals "reached" = some (some (.ref fa21))) (l21 : K.lookup fa21 = some ⟨oc21, od21, .func (PySem.W.fnOf "reached" "reached" (defArgs s_reached) (defBody s_reached) (defScope s_reached) (.ref T21) kV21 dc21 pm21 an21 cd21 ct21), sl21⟩) (c21 : PySem.W.codeIn K cd21 "reached" = true) (k21 : PySem.W.keepIn K (.ref fa21) = true) (t21 : K.lookup T21 = some ⟨tc21, td21, .seq #[.none] tn21, ts21⟩)
    {fa22 : Addr} {od22 an22 : Option Addr} {sl22 : Array (Option Value)} {oc22 kV22 dc22 pm22 cd22 ct22 : Value}
    (a22 : PySem.W.nsIn K mainGlobals "way_back" = some (some (.ref fa22))) (l22 : K.lookup fa22 = some ⟨oc22, od22, .func (PySem.W.fnOf "way_back" "way_back" (defArgs s_way_back) (defBody s_way_back) (defScope s_way_back) .none kV22 dc22 pm22 an22 cd22 ct22), sl22⟩) (c22 : PySem.W.codeIn K cd22 "way_back" = true) (k22 : PySem.W.keepIn K (.ref fa22) = true)
    {fa23 : Addr} {od23 an23 : Option Addr} {sl23 : Array (Option Value)} {oc23 kV23 dc23 pm23 cd23 ct23 : Value}
    {T23 : Addr} {tc23 : Value} {td23 : Option Addr} {tn23 : Nat} {ts23 : Array (Option Value)}
    (a23 : PySem.W.nsIn K mainGlobals "told" = some (some (.ref fa23))) (l23 : K.lookup fa23 = some ⟨oc23, od23, .func (PySem.W.fnOf "told" "told" (defArgs s_told) (defBody s_told) (defScope s_told) (.ref T23) kV23 dc23 pm23 an23 cd23 ct23), sl23⟩) (c23 : PySem.W.codeIn K cd23 "told" = true) (k23 : PySem.W.keepIn K (.ref fa23) = true) (t23 : K.lookup T23 = some ⟨tc23, td23, .seq #[.none] tn23, ts23⟩)
    {fa24 : Addr} {od24 an24 : Option Addr} {sl24 : Array (Option Value)} {oc24 kV24 dc24 pm24 cd24 ct24 : Value}
    (a24 : PySem.W.nsIn K mainGlobals "_law_more" = some (some (.ref fa24))) (l24 : K.lookup fa24 = some ⟨oc24, od24, .func (PySem.W.fnOf "_law_more" "_law_more" (defArgs s__law_more) (defBody s__law_more) (defScope s__law_more) .none kV24 dc24 pm24 an24 cd24 ct24), sl24⟩) (c24 : PySem.W.codeIn K cd24 "_law_more" = true) (k24 : PySem.W.keepIn K (.ref fa24) = true)
    {fa25 : Addr} {od25 an25 : Option Addr} {sl25 : Array (Option Value)} {oc25 kV25 dc25 pm25 cd25 ct25 : Value}
    (a25 : PySem.W.nsIn K mainGlobals "is_whole" = some (some (.ref fa25))) (l25 : K.lookup fa25 = some ⟨oc25, od25, .func (PySem.W.fnOf "is_whole" "is_whole" (defArgs s_is_whole) (defBody s_is_whole) (defScope s_is_whole) .none kV25 dc25 pm25 an25 cd25 ct25), sl25⟩) (c25 : PySem.W.codeIn K cd25 "is_whole" = true) (k25 : PySem.W.keepIn K (.ref fa25) = true)
    {fa26 : Addr} {od26 an26 : Option Addr} {sl26 : Array (Option Value)} {oc26 kV26 dc26 pm26 cd26 ct26 : Value}
    (a26 : PySem.W.nsIn K mainGlobals "is_worth" = some (some (.ref fa26))) (l26 : K.lookup fa26 = some ⟨oc26, od26, .func (PySem.W.fnOf "is_worth" "is_worth" (defArgs s_is_worth) (defBody s_is_worth) (defScope s_is_worth) .none kV26 dc26 pm26 an26 cd26 ct26), sl26⟩) (c26 : PySem.W.codeIn K cd26 "is_worth" = true) (k26 : PySem.W.keepIn K (.ref fa26) = true)
    {fa27 : Addr} {od27 an27 : Option Addr} {sl27 : Array (Option Value)} {oc27 kV27 dc27 pm27 cd27 ct27 : Value}
    (a27 : PySem.W.nsIn K mainGlobals "is_standing" = some (some (.ref fa27))) (l27 : K.lookup fa27 = some ⟨oc27, od27, .func (PySem.W.fnOf "is_standing" "is_standing" (defArgs s_is_standing) (defBody s_is_standing) (defScope s_is_standing) .none kV27 dc27 pm27 an27 cd27 ct27), sl27⟩) (c27 : PySem.W.codeIn K cd27 "is_standing" = true) (k27 : PySem.W.keepIn K (.ref fa27) = true)
    {fa28 : Addr} {od28 an28 : Option Addr} {sl28 : Array (Option Value)} {oc28 kV28 dc28 pm28 cd28 ct28 : Value}
    (a28 : PySem.W.nsIn K mainGlobals "are_standings" = some (some (.ref fa28))) (l28 : K.lookup fa28 = some ⟨oc28, od28, .func (PySem.W.fnOf "are_standings" "are_standings" (defArgs s_are_standings) (defBody s_are_standings) (defScope s_are_standings) .none kV28 dc28 pm28 an28 cd28 ct28), sl28⟩) (c28 : PySem.W.codeIn K cd28 "are_standings" = true) (k28 : PySem.W.keepIn K (.ref fa28) = true)
    {fa29 : Addr} {od29 an29 : Option Addr} {sl29 : Array (Option Value)} {oc29 kV29 dc29 pm29 cd29 ct29 : Value}
    {T29 : Addr} {tc29 : Value} {td29 : Option Addr} {tn29 : Nat} {ts29 : Array (Option Value)}
    (a29 : PySem.W.nsIn K mainGlobals "lets_way" = some (some (.ref fa29))) (l29 : K.lookup fa29 = some ⟨oc29, od29, .func (PySem.W.fnOf "lets_way" "lets_way" (defArgs s_lets_way) (defBody s_lets_way) (defScope s_lets_way) (.ref T29) kV29 dc29 pm29 an29 cd29 ct29), sl29⟩) (c29 : PySem.W.codeIn K cd29 "lets_way" = true) (k29 : PySem.W.keepIn K (.ref fa29) = true) (t29 : K.lookup T29 = some ⟨tc29, td29, .seq #[.none] tn29, ts29⟩)
    {fa30 : Addr} {od30 an30 : Option Addr} {sl30 : Array (Option Value)} {oc30 kV30 dc30 pm30 cd30 ct30 : Value}
    (a30 : PySem.W.nsIn K mainGlobals "_law_joined" = some (some (.ref fa30))) (l30 : K.lookup fa30 = some ⟨oc30, od30, .func (PySem.W.fnOf "_law_joined" "_law_joined" (defArgs s__law_joined) (defBody s__law_joined) (defScope s__law_joined) .none kV30 dc30 pm30 an30 cd30 ct30), sl30⟩) (c30 : PySem.W.codeIn K cd30 "_law_joined" = true) (k30 : PySem.W.keepIn K (.ref fa30) = true)
    {fa31 : Addr} {od31 an31 : Option Addr} {sl31 : Array (Option Value)} {oc31 kV31 dc31 pm31 cd31 ct31 : Value}
    (a31 : PySem.W.nsIn K mainGlobals "turned" = some (some (.ref fa31))) (l31 : K.lookup fa31 = some ⟨oc31, od31, .func (PySem.W.fnOf "turned" "turned" (defArgs s_turned) (defBody s_turned) (defScope s_turned) .none kV31 dc31 pm31 an31 cd31 ct31), sl31⟩) (c31 : PySem.W.codeIn K cd31 "turned" = true) (k31 : PySem.W.keepIn K (.ref fa31) = true)
    {fa32 : Addr} {od32 an32 : Option Addr} {sl32 : Array (Option Value)} {oc32 kV32 dc32 pm32 cd32 ct32 : Value}
    (a32 : PySem.W.nsIn K mainGlobals "_law_back" = some (some (.ref fa32))) (l32 : K.lookup fa32 = some ⟨oc32, od32, .func (PySem.W.fnOf "_law_back" "_law_back" (defArgs s__law_back) (defBody s__law_back) (defScope s__law_back) .none kV32 dc32 pm32 an32 cd32 ct32), sl32⟩) (c32 : PySem.W.codeIn K cd32 "_law_back" = true) (k32 : PySem.W.keepIn K (.ref fa32) = true)
    {fa33 : Addr} {od33 an33 : Option Addr} {sl33 : Array (Option Value)} {oc33 kV33 dc33 pm33 cd33 ct33 : Value}
    (a33 : PySem.W.nsIn K mainGlobals "are_rising" = some (some (.ref fa33))) (l33 : K.lookup fa33 = some ⟨oc33, od33, .func (PySem.W.fnOf "are_rising" "are_rising" (defArgs s_are_rising) (defBody s_are_rising) (defScope s_are_rising) .none kV33 dc33 pm33 an33 cd33 ct33), sl33⟩) (c33 : PySem.W.codeIn K cd33 "are_rising" = true) (k33 : PySem.W.keepIn K (.ref fa33) = true)
    {fa34 : Addr} {od34 an34 : Option Addr} {sl34 : Array (Option Value)} {oc34 kV34 dc34 pm34 cd34 ct34 : Value}
    {T34 : Addr} {tc34 : Value} {td34 : Option Addr} {tn34 : Nat} {ts34 : Array (Option Value)}
    (a34 : PySem.W.nsIn K mainGlobals "lets_shut" = some (some (.ref fa34))) (l34 : K.lookup fa34 = some ⟨oc34, od34, .func (PySem.W.fnOf "lets_shut" "lets_shut" (defArgs s_lets_shut) (defBody s_lets_shut) (defScope s_lets_shut) (.ref T34) kV34 dc34 pm34 an34 cd34 ct34), sl34⟩) (c34 : PySem.W.codeIn K cd34 "lets_shut" = true) (k34 : PySem.W.keepIn K (.ref fa34) = true) (t34 : K.lookup T34 = some ⟨tc34, td34, .seq #[.none] tn34, ts34⟩)
    {fa35 : Addr} {od35 an35 : Option Addr} {sl35 : Array (Option Value)} {oc35 kV35 dc35 pm35 cd35 ct35 : Value}
    (a35 : PySem.W.nsIn K mainGlobals "_law_shut_for_all" = some (some (.ref fa35))) (l35 : K.lookup fa35 = some ⟨oc35, od35, .func (PySem.W.fnOf "_law_shut_for_all" "_law_shut_for_all" (defArgs s__law_shut_for_all) (defBody s__law_shut_for_all) (defScope s__law_shut_for_all) .none kV35 dc35 pm35 an35 cd35 ct35), sl35⟩) (c35 : PySem.W.codeIn K cd35 "_law_shut_for_all" = true) (k35 : PySem.W.keepIn K (.ref fa35) = true)
    {fa36 : Addr} {od36 an36 : Option Addr} {sl36 : Array (Option Value)} {oc36 kV36 dc36 pm36 cd36 ct36 : Value}
    (a36 : PySem.W.nsIn K mainGlobals "law" = some (some (.ref fa36))) (l36 : K.lookup fa36 = some ⟨oc36, od36, .func (PySem.W.fnOf "law" "law" (defArgs s_law) (defBody s_law) (defScope s_law) .none kV36 dc36 pm36 an36 cd36 ct36), sl36⟩) (c36 : PySem.W.codeIn K cd36 "law" = true) (k36 : PySem.W.keepIn K (.ref fa36) = true)
    (z0 : PySem.W.nsIn K mainGlobals "len" = some none)
    (z1 : PySem.W.nsIn K mainGlobals "abs" = some none)
    (z2 : PySem.W.nsIn K mainGlobals "range" = some none)
    (z3 : PySem.W.nsIn K mainGlobals "tuple" = some none)
    (z4 : PySem.W.nsIn K mainGlobals "list" = some none)
    (z5 : PySem.W.nsIn K mainGlobals "sorted" = some none)
    (z6 : PySem.W.nsIn K mainGlobals "zip" = some none)
    (z7 : PySem.W.nsIn K mainGlobals "set" = some none)
    (z8 : PySem.W.nsIn K mainGlobals "all" = some none)
    (z9 : PySem.W.nsIn K mainGlobals "isinstance" = some none)
    (z10 : PySem.W.nsIn K mainGlobals "int" = some none)
    (z11 : PySem.W.nsIn K mainGlobals "bool" = some none)
    (z12 : PySem.W.nsIn K mainGlobals "enumerate" = some none)
    (z13 : PySem.W.nsIn K mainGlobals "dict" = some none)
    (sem : ∀ ns : List Int, ns.length ≤ 63 → ∃ fr, f_law_v18.sem [.list (ns.map .int)] = .ok fr (.bool true) []) :
    ∃ fd : FuncData, (∀ (s : Shared) (v : Value), BindsTo s fd ⟨[v], []⟩ [("_law_script", v)]) ∧ ∀ base : Heap, K.In base → base.Ns mainGlobals mg → FnOk l.prog w K mg base CX0 7 fa fd ["_law_script"] (spLaw K) := by
  have e := hfa.symm.trans (PySem.W.mg_of X G a36)
  cases e
  have hB : ∀ x ∈ (["len", "abs", "range", "tuple", "list", "sorted", "zip", "set", "all", "isinstance", "int", "bool", "enumerate", "dict"] : List Str), mg x = none := by
    intro x hx
    simp only [List.mem_cons, List.not_mem_nil, or_false] at hx
    rcases hx with rfl | rfl | rfl | rfl | rfl | rfl | rfl | rfl | rfl | rfl | rfl | rfl | rfl | rfl
    · exact PySem.W.mg_none_of X G z0
    · exact PySem.W.mg_none_of X G z1
    · exact PySem.W.mg_none_of X G z2
    · exact PySem.W.mg_none_of X G z3
    · exact PySem.W.mg_none_of X G z4
    · exact PySem.W.mg_none_of X G z5
    · exact PySem.W.mg_none_of X G z6
    · exact PySem.W.mg_none_of X G z7
    · exact PySem.W.mg_none_of X G z8
    · exact PySem.W.mg_none_of X G z9
    · exact PySem.W.mg_none_of X G z10
    · exact PySem.W.mg_none_of X G z11
    · exact PySem.W.mg_none_of X G z12
    · exact PySem.W.mg_none_of X G z13
  have hG : ∀ p : Str × D, p ∈ ([] : List (Str × D)) → ∃ u v, mg p.1 = some u ∧ litV p.2 = some v ∧ RelV v u := by
    intro p hp
    simp only [List.mem_cons, List.not_mem_nil, or_false] at hp
  have n0 : Kn K mg "_law_pen" s__law_pen ["_law_script"] := kn_mk X G a0 l0 c0 k0 fun _ _ _ _ _ _ us hl => match us, hl with | [_], _ => rfl
  have n1 : Kn K mg "_law_take" s__law_take ["_law_pen_here", "_law_most"] := kn_mk X G a1 l1 c1 k1 fun _ _ _ _ _ _ us hl => match us, hl with | [_, _], _ => rfl
  have n2 : Kn K mg "_law_size" s__law_size ["_law_room_here"] := kn_mk X G a2 l2 c2 k2 fun _ _ _ _ _ _ us hl => match us, hl with | [_], _ => rfl
  have n3 : Kn K mg "_law_room" s__law_room ["_law_pen_here", "_law_most"] := kn_mk X G a3 l3 c3 k3 fun _ _ _ _ _ _ us hl => match us, hl with | [_, _], _ => rfl
  have n4 : Kn K mg "_law_snake" s__law_snake ["_law_room_here"] := kn_mk X G a4 l4 c4 k4 fun _ _ _ _ _ _ us hl => match us, hl with | [_], _ => rfl
  have n5 : Kn K mg "_law_full" s__law_full ["_law_one", "_law_other"] := kn_mk X G a5 l5 c5 k5 fun _ _ _ _ _ _ us hl => match us, hl with | [_, _], _ => rfl
  have n6 : Kn K mg "_law_given" s__law_given ["_law_pen_here", "_law_room_here", "_law_box"] := kn_mk X G a6 l6 c6 k6 fun _ _ _ _ _ _ us hl => match us, hl with | [_, _, _], _ => rfl
  have n7 : Kn K mg "_law_wish" s__law_wish ["_law_pen_here", "_law_room_here", "_law_way"] := kn_mk X G a7 l7 c7 k7 fun _ _ _ _ _ _ us hl => match us, hl with | [_, _, _], _ => rfl
  have n8 : Kn K mg "_law_row_book" s__law_row_book ["_law_pen_here", "_law_room_here"] := kn_mk X G a8 l8 c8 k8 fun _ _ _ _ _ _ us hl => match us, hl with | [_, _], _ => rfl
  have n9 : Kn K mg "_law_turned" s__law_turned ["_law_pen_here", "_law_some"] := kn_mk X G a9 l9 c9 k9 fun _ _ _ _ _ _ us hl => match us, hl with | [_, _], _ => rfl
  have n10 : Kn K mg "_law_all" s__law_all ["_law_room_here"] := kn_mk X G a10 l10 c10 k10 fun _ _ _ _ _ _ us hl => match us, hl with | [_], _ => rfl
  have n11 : Kn K mg "_law_ranked" s__law_ranked ["_law_pen_here", "_law_room_here"] := kn_mk X G a11 l11 c11 k11 fun _ _ _ _ _ _ us hl => match us, hl with | [_, _], _ => rfl
  have n12 : Kn K mg "_law_book" s__law_book ["_law_pen_here", "_law_room_here"] := kn_mk X G a12 l12 c12 k12 fun _ _ _ _ _ _ us hl => match us, hl with | [_, _], _ => rfl
  have n13 : Kn K mg "_law_held" s__law_held ["_law_pen_here", "_law_room_here"] := kn_mk X G a13 l13 c13 k13 fun _ _ _ _ _ _ us hl => match us, hl with | [_, _], _ => rfl
  have n14 : Kn K mg "_law_standing" s__law_standing ["_law_pen_here", "_law_room_here"] := kn_mk X G a14 l14 c14 k14 fun _ _ _ _ _ _ us hl => match us, hl with | [_, _], _ => rfl
  have n15 : Kn K mg "shut_of" s_shut_of ["before", "one"] := kn_mk X G a15 l15 c15 k15 fun _ _ _ _ _ _ us hl => match us, hl with | [_, _], _ => rfl
  have n16 : Kn K mg "keeps" s_keeps ["standing", "given"] := kn_mk X G a16 l16 c16 k16 fun _ _ _ _ _ _ us hl => match us, hl with | [_, _], _ => rfl
  have n17 : Kn K mg "changed" s_changed ["standing", "box", "worth"] := kn_mk X G a17 l17 c17 k17 fun _ _ _ _ _ _ us hl => match us, hl with | [_, _, _], _ => rfl
  have n18 : Kn K mg "bettered_by" s_bettered_by ["wish", "standing"] := kn_mk X G a18 l18 c18 k18 fun _ _ _ _ _ _ us hl => match us, hl with | [_, _], _ => rfl
  have n19 : KnD K mg "betterings" s_betterings ["room", "book", "standing", "held"] := kn_mkD X G a19 l19 t19 c19 k19 (by decide) (fun _ _ _ _ _ _ _ us its hu hi => match us, hu, its, hi with | [_, _, _], _, [_], _ => ⟨_, rfl, rfl⟩) (fun _ _ _ _ _ _ _ us its hu hi => match us, hu, its, hi with | [_, _, _, _], _, [_], _ => ⟨_, rfl, rfl⟩)
  have n20 : Kn K mg "found_from" s_found_from ["room", "book", "one", "held"] := kn_mk X G a20 l20 c20 k20 fun _ _ _ _ _ _ us hl => match us, hl with | [_, _, _, _], _ => rfl
  have n21 : KnD K mg "reached" s_reached ["room", "book", "standing", "held"] := kn_mkD X G a21 l21 t21 c21 k21 (by decide) (fun _ _ _ _ _ _ _ us its hu hi => match us, hu, its, hi with | [_, _, _], _, [_], _ => ⟨_, rfl, rfl⟩) (fun _ _ _ _ _ _ _ us its hu hi => match us, hu, its, hi with | [_, _, _, _], _, [_], _ => ⟨_, rfl, rfl⟩)
  have n22 : Kn K mg "way_back" s_way_back ["before", "one", "other"] := kn_mk X G a22 l22 c22 k22 fun _ _ _ _ _ _ us hl => match us, hl with | [_, _, _], _ => rfl
  have n23 : KnD K mg "told" s_told ["room", "book", "one", "other", "held"] := kn_mkD X G a23 l23 t23 c23 k23 (by decide) (fun _ _ _ _ _ _ _ us its hu hi => match us, hu, its, hi with | [_, _, _, _], _, [_], _ => ⟨_, rfl, rfl⟩) (fun _ _ _ _ _ _ _ us its hu hi => match us, hu, its, hi with | [_, _, _, _, _], _, [_], _ => ⟨_, rfl, rfl⟩)
  have n24 : Kn K mg "_law_more" s__law_more ["_law_room_here", "_law_book_here", "_law_one", "_law_two", "_law_held_here", "_law_wish_here"] := kn_mk X G a24 l24 c24 k24 fun _ _ _ _ _ _ us hl => match us, hl with | [_, _, _, _, _, _], _ => rfl
  have n25 : Kn K mg "is_whole" s_is_whole ["thing"] := kn_mk X G a25 l25 c25 k25 fun _ _ _ _ _ _ us hl => match us, hl with | [_], _ => rfl
  have n26 : Kn K mg "is_worth" s_is_worth ["room", "box", "thing"] := kn_mk X G a26 l26 c26 k26 fun _ _ _ _ _ _ us hl => match us, hl with | [_, _, _], _ => rfl
  have n27 : Kn K mg "is_standing" s_is_standing ["room", "thing"] := kn_mk X G a27 l27 c27 k27 fun _ _ _ _ _ _ us hl => match us, hl with | [_, _], _ => rfl
  have n28 : Kn K mg "are_standings" s_are_standings ["room", "thing"] := kn_mk X G a28 l28 c28 k28 fun _ _ _ _ _ _ us hl => match us, hl with | [_, _], _ => rfl
  have n29 : KnD K mg "lets_way" s_lets_way ["room", "book", "one", "other", "thing", "held"] := kn_mkD X G a29 l29 t29 c29 k29 (by decide) (fun _ _ _ _ _ _ _ us its hu hi => match us, hu, its, hi with | [_, _, _, _, _], _, [_], _ => ⟨_, rfl, rfl⟩) (fun _ _ _ _ _ _ _ us its hu hi => match us, hu, its, hi with | [_, _, _, _, _, _], _, [_], _ => ⟨_, rfl, rfl⟩)
  have n30 : Kn K mg "_law_joined" s__law_joined ["_law_room_here", "_law_book_here", "_law_three", "_law_held_here"] := kn_mk X G a30 l30 c30 k30 fun _ _ _ _ _ _ us hl => match us, hl with | [_, _, _, _], _ => rfl
  have n31 : Kn K mg "turned" s_turned ["book"] := kn_mk X G a31 l31 c31 k31 fun _ _ _ _ _ _ us hl => match us, hl with | [_], _ => rfl
  have n32 : Kn K mg "_law_back" s__law_back ["_law_room_here", "_law_book_here", "_law_one", "_law_two", "_law_held_here"] := kn_mk X G a32 l32 c32 k32 fun _ _ _ _ _ _ us hl => match us, hl with | [_, _, _, _, _], _ => rfl
  have n33 : Kn K mg "are_rising" s_are_rising ["some"] := kn_mk X G a33 l33 c33 k33 fun _ _ _ _ _ _ us hl => match us, hl with | [_], _ => rfl
  have n34 : KnD K mg "lets_shut" s_lets_shut ["room", "book", "one", "other", "thing", "held"] := kn_mkD X G a34 l34 t34 c34 k34 (by decide) (fun _ _ _ _ _ _ _ us its hu hi => match us, hu, its, hi with | [_, _, _, _, _], _, [_], _ => ⟨_, rfl, rfl⟩) (fun _ _ _ _ _ _ _ us its hu hi => match us, hu, its, hi with | [_, _, _, _, _, _], _, [_], _ => ⟨_, rfl, rfl⟩)
  have n35 : Kn K mg "_law_shut_for_all" s__law_shut_for_all ["_law_room_here", "_law_book_here", "_law_one", "_law_two", "_law_held_here"] := kn_mk X G a35 l35 c35 k35 fun _ _ _ _ _ _ us hl => match us, hl with | [_, _, _, _, _], _ => rfl
  refine ⟨PySem.W.fnOf "law" "law" (defArgs s_law) (defBody s_law) (defScope s_law) .none kV36 dc36 pm36 an36 cd36 ct36, fun s v => .of_eq rfl, fun base _ _ => ?_⟩
  have G0 : LnkOk l.prog w K mg base 1 ("_law_pen", [[]]) f__law_pen_v2 := lnk_pd n0 sc__law_pen rfl rfl ck__law_pen (fun x hx => hB x ((by decide +kernel : ∀ y ∈ C__law_pen.B, y ∈ (["len", "abs", "range", "tuple", "list", "sorted", "zip", "set", "all", "isinstance", "int", "bool", "enumerate", "dict"] : List Str)) x hx)) (fun p hp => absurd hp List.not_mem_nil) trivial
  have G1 : LnkOk l.prog w K mg base 1 ("_law_take", [[]]) f__law_take := lnk_pd n1 sc__law_take rfl rfl ck__law_take (fun x hx => hB x ((by decide +kernel : ∀ y ∈ C__law_take.B, y ∈ (["len", "abs", "range", "tuple", "list", "sorted", "zip", "set", "all", "isinstance", "int", "bool", "enumerate", "dict"] : List Str)) x hx)) (fun p hp => absurd hp List.not_mem_nil) trivial
  have G2 : LnkOk l.prog w K mg base 1 ("_law_size", [[]]) f__law_size := lnk_pd n2 sc__law_size rfl rfl ck__law_size (fun x hx => hB x ((by decide +kernel : ∀ y ∈ C__law_size.B, y ∈ (["len", "abs", "range", "tuple", "list", "sorted", "zip", "set", "all", "isinstance", "int", "bool", "enumerate", "dict"] : List Str)) x hx)) (fun p hp => absurd hp List.not_mem_nil) trivial
  have G3 : LnkOk l.prog w K mg base 2 ("_law_room", [[]]) f__law_room_v3 := lnk_pd n3 sc__law_room rfl rfl ck__law_room (fun x hx => hB x ((by decide +kernel : ∀ y ∈ C__law_room.B, y ∈ (["len", "abs", "range", "tuple", "list", "sorted", "zip", "set", "all", "isinstance", "int", "bool", "enumerate", "dict"] : List Str)) x hx)) (fun p hp => absurd hp List.not_mem_nil) ⟨(G1.mono (by decide)), (G2.mono (by decide)), trivial⟩
  have G4 : LnkOk l.prog w K mg base 1 ("_law_snake", [[]]) f__law_snake := lnk_pd n4 sc__law_snake rfl rfl ck__law_snake (fun x hx => hB x ((by decide +kernel : ∀ y ∈ C__law_snake.B, y ∈ (["len", "abs", "range", "tuple", "list", "sorted", "zip", "set", "all", "isinstance", "int", "bool", "enumerate", "dict"] : List Str)) x hx)) (fun p hp => absurd hp List.not_mem_nil) trivial
  have G5 : LnkOk l.prog w K mg base 1 ("_law_full", [[]]) f__law_full := lnk_pd n5 sc__law_full rfl rfl ck__law_full (fun x hx => hB x ((by decide +kernel : ∀ y ∈ C__law_full.B, y ∈ (["len", "abs", "range", "tuple", "list", "sorted", "zip", "set", "all", "isinstance", "int", "bool", "enumerate", "dict"] : List Str)) x hx)) (fun p hp => absurd hp List.not_mem_nil) trivial
  have G6 : LnkOk l.prog w K mg base 2 ("_law_given", [[]]) f__law_given_v2 := lnk_pd n6 sc__law_given rfl rfl ck__law_given (fun x hx => hB x ((by decide +kernel : ∀ y ∈ C__law_given.B, y ∈ (["len", "abs", "range", "tuple", "list", "sorted", "zip", "set", "all", "isinstance", "int", "bool", "enumerate", "dict"] : List Str)) x hx)) (fun p hp => absurd hp List.not_mem_nil) ⟨(G1.mono (by decide)), trivial⟩
  have G7 : LnkOk l.prog w K mg base 3 ("_law_wish", [[]]) f__law_wish_v2 := lnk_pd n7 sc__law_wish rfl rfl ck__law_wish (fun x hx => hB x ((by decide +kernel : ∀ y ∈ C__law_wish.B, y ∈ (["len", "abs", "range", "tuple", "list", "sorted", "zip", "set", "all", "isinstance", "int", "bool", "enumerate", "dict"] : List Str)) x hx)) (fun p hp => absurd hp List.not_mem_nil) ⟨(G1.mono (by decide)), (G6.mono (by decide)), trivial⟩
  have G8 : LnkOk l.prog w K mg base 4 ("_law_row_book", [[]]) f__law_row_book := lnk_pd n8 sc__law_row_book rfl rfl ck__law_row_book (fun x hx => hB x ((by decide +kernel : ∀ y ∈ C__law_row_book.B, y ∈ (["len", "abs", "range", "tuple", "list", "sorted", "zip", "set", "all", "isinstance", "int", "bool", "enumerate", "dict"] : List Str)) x hx)) (fun p hp => absurd hp List.not_mem_nil) ⟨(G4.mono (by decide)), (G1.mono (by decide)), (G5.mono (by decide)), (G7.mono (by decide)), trivial⟩
  have G9 : LnkOk l.prog w K mg base 2 ("_law_turned", [[]]) f__law_turned := lnk_pd n9 sc__law_turned rfl rfl ck__law_turned (fun x hx => hB x ((by decide +kernel : ∀ y ∈ C__law_turned.B, y ∈ (["len", "abs", "range", "tuple", "list", "sorted", "zip", "set", "all", "isinstance", "int", "bool", "enumerate", "dict"] : List Str)) x hx)) (fun p hp => absurd hp List.not_mem_nil) ⟨(G1.mono (by decide)), trivial⟩
  have G10 : LnkOk l.prog w K mg base 1 ("_law_all", [[]]) f__law_all_v2 := lnk_pd n10 sc__law_all rfl rfl ck__law_all (fun x hx => hB x ((by decide +kernel : ∀ y ∈ C__law_all.B, y ∈ (["len", "abs", "range", "tuple", "list", "sorted", "zip", "set", "all", "isinstance", "int", "bool", "enumerate", "dict"] : List Str)) x hx)) (fun p hp => absurd hp List.not_mem_nil) trivial
  have G11 : LnkOk l.prog w K mg base 3 ("_law_ranked", [[]]) f__law_ranked := lnk_pd n11 sc__law_ranked rfl rfl ck__law_ranked (fun x hx => hB x ((by decide +kernel : ∀ y ∈ C__law_ranked.B, y ∈ (["len", "abs", "range", "tuple", "list", "sorted", "zip", "set", "all", "isinstance", "int", "bool", "enumerate", "dict"] : List Str)) x hx)) (fun p hp => absurd hp List.not_mem_nil) ⟨(G9.mono (by decide)), (G1.mono (by decide)), (G2.mono (by decide)), (G10.mono (by decide)), trivial⟩
  have G12 : LnkOk l.prog w K mg base 5 ("_law_book", [[]]) f__law_book_v2 := lnk_pd n12 sc__law_book rfl rfl ck__law_book (fun x hx => hB x ((by decide +kernel : ∀ y ∈ C__law_book.B, y ∈ (["len", "abs", "range", "tuple", "list", "sorted", "zip", "set", "all", "isinstance", "int", "bool", "enumerate", "dict"] : List Str)) x hx)) (fun p hp => absurd hp List.not_mem_nil) ⟨(G1.mono (by decide)), (G8.mono (by decide)), (G11.mono (by decide)), (G7.mono (by decide)), trivial⟩
  have G13 : LnkOk l.prog w K mg base 2 ("_law_held", [[]]) f__law_held_v2 := lnk_pd n13 sc__law_held rfl rfl ck__law_held (fun x hx => hB x ((by decide +kernel : ∀ y ∈ C__law_held.B, y ∈ (["len", "abs", "range", "tuple", "list", "sorted", "zip", "set", "all", "isinstance", "int", "bool", "enumerate", "dict"] : List Str)) x hx)) (fun p hp => absurd hp List.not_mem_nil) ⟨(G1.mono (by decide)), trivial⟩
  have G14 : LnkOk l.prog w K mg base 2 ("_law_standing", [[]]) f__law_standing_v2 := lnk_pd n14 sc__law_standing rfl rfl ck__law_standing (fun x hx => hB x ((by decide +kernel : ∀ y ∈ C__law_standing.B, y ∈ (["len", "abs", "range", "tuple", "list", "sorted", "zip", "set", "all", "isinstance", "int", "bool", "enumerate", "dict"] : List Str)) x hx)) (fun p hp => absurd hp List.not_mem_nil) ⟨(G1.mono (by decide)), trivial⟩
  have G15 : LnkOk l.prog w K mg base 1 ("shut_of", [[]]) f_shut_of := lnk_pd n15 sc_shut_of rfl rfl ck_shut_of (fun x hx => hB x ((by decide +kernel : ∀ y ∈ C_shut_of.B, y ∈ (["len", "abs", "range", "tuple", "list", "sorted", "zip", "set", "all", "isinstance", "int", "bool", "enumerate", "dict"] : List Str)) x hx)) (fun p hp => absurd hp List.not_mem_nil) trivial
  have G16 : LnkOk l.prog w K mg base 1 ("keeps", [[]]) f_keeps := lnk_pd n16 sc_keeps rfl rfl ck_keeps (fun x hx => hB x ((by decide +kernel : ∀ y ∈ C_keeps.B, y ∈ (["len", "abs", "range", "tuple", "list", "sorted", "zip", "set", "all", "isinstance", "int", "bool", "enumerate", "dict"] : List Str)) x hx)) (fun p hp => absurd hp List.not_mem_nil) trivial
  have G17 : LnkOk l.prog w K mg base 1 ("changed", [[]]) f_changed := lnk_pd n17 sc_changed rfl rfl ck_changed (fun x hx => hB x ((by decide +kernel : ∀ y ∈ C_changed.B, y ∈ (["len", "abs", "range", "tuple", "list", "sorted", "zip", "set", "all", "isinstance", "int", "bool", "enumerate", "dict"] : List Str)) x hx)) (fun p hp => absurd hp List.not_mem_nil) trivial
  have G18 : LnkOk l.prog w K mg base 2 ("bettered_by", [[]]) f_bettered_by := lnk_pd n18 sc_bettered_by rfl rfl ck_bettered_by (fun x hx => hB x ((by decide +kernel : ∀ y ∈ C_bettered_by.B, y ∈ (["len", "abs", "range", "tuple", "list", "sorted", "zip", "set", "all", "isinstance", "int", "bool", "enumerate", "dict"] : List Str)) x hx)) (fun p hp => absurd hp List.not_mem_nil) ⟨(G16.mono (by decide)), (G17.mono (by decide)), trivial⟩
  have G19 : LnkOk l.prog w K mg base 3 ("betterings", [[], [.none]]) f_betterings := lnk_pdD n19 sc_betterings rfl rfl ck_betterings (fun x hx => hB x ((by decide +kernel : ∀ y ∈ C_betterings.B, y ∈ (["len", "abs", "range", "tuple", "list", "sorted", "zip", "set", "all", "isinstance", "int", "bool", "enumerate", "dict"] : List Str)) x hx)) (fun p hp => absurd hp List.not_mem_nil) ⟨(G18.mono (by decide)), trivial⟩
  have G20 : LnkOk l.prog w K mg base 4 ("found_from", [[]]) f_found_from := lnk_pd n20 sc_found_from rfl rfl ck_found_from (fun x hx => hB x ((by decide +kernel : ∀ y ∈ C_found_from.B, y ∈ (["len", "abs", "range", "tuple", "list", "sorted", "zip", "set", "all", "isinstance", "int", "bool", "enumerate", "dict"] : List Str)) x hx)) (fun p hp => absurd hp List.not_mem_nil) ⟨((G19.sub (by simp)).mono (by decide)), trivial⟩
  have G21 : LnkOk l.prog w K mg base 5 ("reached", [[], [.none]]) f_reached := lnk_pdD n21 sc_reached rfl rfl ck_reached (fun x hx => hB x ((by decide +kernel : ∀ y ∈ C_reached.B, y ∈ (["len", "abs", "range", "tuple", "list", "sorted", "zip", "set", "all", "isinstance", "int", "bool", "enumerate", "dict"] : List Str)) x hx)) (fun p hp => absurd hp List.not_mem_nil) ⟨(G15.mono (by decide)), (G20.mono (by decide)), trivial⟩
  have G22 : LnkOk l.prog w K mg base 1 ("way_back", [[]]) f_way_back := lnk_pd n22 sc_way_back rfl rfl ck_way_back (fun x hx => hB x ((by decide +kernel : ∀ y ∈ C_way_back.B, y ∈ (["len", "abs", "range", "tuple", "list", "sorted", "zip", "set", "all", "isinstance", "int", "bool", "enumerate", "dict"] : List Str)) x hx)) (fun p hp => absurd hp List.not_mem_nil) trivial
  have G23 : LnkOk l.prog w K mg base 5 ("told", [[], [.none]]) f_told := lnk_pdD n23 sc_told rfl rfl ck_told (fun x hx => hB x ((by decide +kernel : ∀ y ∈ C_told.B, y ∈ (["len", "abs", "range", "tuple", "list", "sorted", "zip", "set", "all", "isinstance", "int", "bool", "enumerate", "dict"] : List Str)) x hx)) (fun p hp => absurd hp List.not_mem_nil) ⟨(G20.mono (by decide)), (G22.mono (by decide)), (G15.mono (by decide)), trivial⟩
  have G24 : LnkOk l.prog w K mg base 6 ("_law_more", [[]]) f__law_more := lnk_pd n24 sc__law_more rfl rfl ck__law_more (fun x hx => hB x ((by decide +kernel : ∀ y ∈ C__law_more.B, y ∈ (["len", "abs", "range", "tuple", "list", "sorted", "zip", "set", "all", "isinstance", "int", "bool", "enumerate", "dict"] : List Str)) x hx)) (fun p hp => absurd hp List.not_mem_nil) ⟨((G23.sub (by simp)).mono (by decide)), ((G21.sub (by simp)).mono (by decide)), trivial⟩
  have G25 : LnkOk l.prog w K mg base 1 ("is_whole", [[]]) f_is_whole := lnk_pd n25 sc_is_whole rfl rfl ck_is_whole (fun x hx => hB x ((by decide +kernel : ∀ y ∈ C_is_whole.B, y ∈ (["len", "abs", "range", "tuple", "list", "sorted", "zip", "set", "all", "isinstance", "int", "bool", "enumerate", "dict"] : List Str)) x hx)) (fun p hp => absurd hp List.not_mem_nil) trivial
  have G26 : LnkOk l.prog w K mg base 2 ("is_worth", [[]]) f_is_worth := lnk_pd n26 sc_is_worth rfl rfl ck_is_worth (fun x hx => hB x ((by decide +kernel : ∀ y ∈ C_is_worth.B, y ∈ (["len", "abs", "range", "tuple", "list", "sorted", "zip", "set", "all", "isinstance", "int", "bool", "enumerate", "dict"] : List Str)) x hx)) (fun p hp => absurd hp List.not_mem_nil) ⟨(G25.mono (by decide)), trivial⟩
  have G27 : LnkOk l.prog w K mg base 3 ("is_standing", [[]]) f_is_standing := lnk_pd n27 sc_is_standing rfl rfl ck_is_standing (fun x hx => hB x ((by decide +kernel : ∀ y ∈ C_is_standing.B, y ∈ (["len", "abs", "range", "tuple", "list", "sorted", "zip", "set", "all", "isinstance", "int", "bool", "enumerate", "dict"] : List Str)) x hx)) (fun p hp => absurd hp List.not_mem_nil) ⟨(G26.mono (by decide)), trivial⟩
  have G28 : LnkOk l.prog w K mg base 4 ("are_standings", [[]]) f_are_standings := lnk_pd n28 sc_are_standings rfl rfl ck_are_standings (fun x hx => hB x ((by decide +kernel : ∀ y ∈ C_are_standings.B, y ∈ (["len", "abs", "range", "tuple", "list", "sorted", "zip", "set", "all", "isinstance", "int", "bool", "enumerate", "dict"] : List Str)) x hx)) (fun p hp => absurd hp List.not_mem_nil) ⟨(G27.mono (by decide)), trivial⟩
  have G29 : LnkOk l.prog w K mg base 5 ("lets_way", [[], [.none]]) f_lets_way := lnk_pdD n29 sc_lets_way rfl rfl ck_lets_way (fun x hx => hB x ((by decide +kernel : ∀ y ∈ C_lets_way.B, y ∈ (["len", "abs", "range", "tuple", "list", "sorted", "zip", "set", "all", "isinstance", "int", "bool", "enumerate", "dict"] : List Str)) x hx)) (fun p hp => absurd hp List.not_mem_nil) ⟨(G28.mono (by decide)), ((G19.sub (by simp)).mono (by decide)), trivial⟩
  have G30 : LnkOk l.prog w K mg base 6 ("_law_joined", [[]]) f__law_joined := lnk_pd n30 sc__law_joined rfl rfl ck__law_joined (fun x hx => hB x ((by decide +kernel : ∀ y ∈ C__law_joined.B, y ∈ (["len", "abs", "range", "tuple", "list", "sorted", "zip", "set", "all", "isinstance", "int", "bool", "enumerate", "dict"] : List Str)) x hx)) (fun p hp => absurd hp List.not_mem_nil) ⟨((G23.sub (by simp)).mono (by decide)), ((G29.sub (by simp)).mono (by decide)), trivial⟩
  have G31 : LnkOk l.prog w K mg base 1 ("turned", [[]]) f_turned := lnk_pd n31 sc_turned rfl rfl ck_turned (fun x hx => hB x ((by decide +kernel : ∀ y ∈ C_turned.B, y ∈ (["len", "abs", "range", "tuple", "list", "sorted", "zip", "set", "all", "isinstance", "int", "bool", "enumerate", "dict"] : List Str)) x hx)) (fun p hp => absurd hp List.not_mem_nil) trivial
  have G32 : LnkOk l.prog w K mg base 6 ("_law_back", [[]]) f__law_back := lnk_pd n32 sc__law_back rfl rfl ck__law_back (fun x hx => hB x ((by decide +kernel : ∀ y ∈ C__law_back.B, y ∈ (["len", "abs", "range", "tuple", "list", "sorted", "zip", "set", "all", "isinstance", "int", "bool", "enumerate", "dict"] : List Str)) x hx)) (fun p hp => absurd hp List.not_mem_nil) ⟨((G23.sub (by simp)).mono (by decide)), (G31.mono (by decide)), ((G29.sub (by simp)).mono (by decide)), trivial⟩
  have G33 : LnkOk l.prog w K mg base 1 ("are_rising", [[]]) f_are_rising := lnk_pd n33 sc_are_rising rfl rfl ck_are_rising (fun x hx => hB x ((by decide +kernel : ∀ y ∈ C_are_rising.B, y ∈ (["len", "abs", "range", "tuple", "list", "sorted", "zip", "set", "all", "isinstance", "int", "bool", "enumerate", "dict"] : List Str)) x hx)) (fun p hp => absurd hp List.not_mem_nil) trivial
  have G34 : LnkOk l.prog w K mg base 5 ("lets_shut", [[], [.none]]) f_lets_shut := lnk_pdD n34 sc_lets_shut rfl rfl ck_lets_shut (fun x hx => hB x ((by decide +kernel : ∀ y ∈ C_lets_shut.B, y ∈ (["len", "abs", "range", "tuple", "list", "sorted", "zip", "set", "all", "isinstance", "int", "bool", "enumerate", "dict"] : List Str)) x hx)) (fun p hp => absurd hp List.not_mem_nil) ⟨(G28.mono (by decide)), (G33.mono (by decide)), ((G19.sub (by simp)).mono (by decide)), trivial⟩
  have G35 : LnkOk l.prog w K mg base 6 ("_law_shut_for_all", [[]]) f__law_shut_for_all := lnk_pd n35 sc__law_shut_for_all rfl rfl ck__law_shut_for_all (fun x hx => hB x ((by decide +kernel : ∀ y ∈ C__law_shut_for_all.B, y ∈ (["len", "abs", "range", "tuple", "list", "sorted", "zip", "set", "all", "isinstance", "int", "bool", "enumerate", "dict"] : List Str)) x hx)) (fun p hp => absurd hp List.not_mem_nil) ⟨((G23.sub (by simp)).mono (by decide)), ((G34.sub (by simp)).mono (by decide)), trivial⟩
  have lnk : LnkL l.prog w K mg base 6 C_law.L [f__law_pen_v2, f__law_room_v3, f__law_book_v2, f__law_held_v2, f__law_standing_v2, f_reached, f__law_take, f__law_joined, f__law_back, f__law_shut_for_all, f__law_more, f__law_wish_v2] := ⟨(G0.mono (by decide)), (G3.mono (by decide)), (G12.mono (by decide)), (G13.mono (by decide)), (G14.mono (by decide)), ((G21.sub (by simp)).mono (by decide)), (G1.mono (by decide)), (G30.mono (by decide)), (G32.mono (by decide)), (G35.mono (by decide)), (G24.mono (by decide)), (G7.mono (by decide)), trivial⟩
  exact law_end sc_law l36 c36 k36 rfl rfl ck_law (fun x hx => hB x ((by decide +kernel : ∀ y ∈ C_law.B, y ∈ (["len", "abs", "range", "tuple", "list", "sorted", "zip", "set", "all", "isinstance", "int", "bool", "enumerate", "dict"] : List Str)) x hx)) (fun p hp => absurd hp List.not_mem_nil) lnk sem
end K21

/-! PM0: plain laws about the pure language. -/
namespace PD
open PySem
def stepF (F : List Fn) (pt : Pt) (body : List IS) (d : D) (e : En) : Ou := match stPt pt d e with
  | some e3 => evSs F body e3
  | none => .no
def stepC (F : List Fn) (el : IE) (pt : Pt) (cs : List IT) (own : List Nat) (d : D) (e2 : En) : Rs (Option D) := match stPt pt d (wipeE e2 own) with
  | some e3 => (evC F cs e3).bind fun b e4 => if b = true then (evE F el e4).bind fun x e5 => match fzA x e5 with
      | some (d, e6) => .ok (some d) e6
      | none => .no
    else .ok none e4
  | none => .no
theorem evE_comp {F : List Fn} {el : IE} {pt : Pt} {src : Sr} {cs : List IT} {own : List Nat} {e : En} : evE F (.comp el pt src cs own) e = (evI F src e).bind fun xs e1 =>
    if ownSh e1 own && decide (xs.length ≤ sizeLine) then (compL (stepC F el pt cs own) xs e1).bind fun ds e7 => .ok (.val true (.list ds)) (backE e1 e7 own) else .no := by
  simp only [evE]
  rfl
@[simp] theorem rsbind_ok {α β : Type} (a : α) (e : En) (f : α → En → Rs β) : Rs.bind (.ok a e) f = f a e := rfl
/-- a loop by what holds ahead of each turn -/
theorem forL_inv {step : D → En → Ou} : ∀ (xs : List D) (I : List D → En → Prop) (e : En), I xs e → (∀ x r e, I (x :: r) e → ∃ e', (step x e = .nx e' ∨ step x e = .ct e') ∧ I r e') → ∃ e', forL step xs e = .nx e' ∧ I [] e'
  | [], I, e, h, _ => ⟨e, rfl, h⟩
  | x :: r, I, e, h, hs => by
    obtain ⟨e1, h1, h2⟩ := hs x r e h
    obtain ⟨e2, h3, h4⟩ := forL_inv r I e1 h2 hs
    refine ⟨e2, ?_, h4⟩
    simp only [forL]
    rcases h1 with h1 | h1 <;> rw [h1] <;> exact h3
/-- the same, by the number of turns done -/
theorem forL_nat {step : D → En → Ou} {xs : List D} (I : Nat → En → Prop) {e : En} (h0 : I 0 e) (hs : ∀ (i : Nat) (x : D) (e : En), xs[i]? = some x → I i e → ∃ e', (step x e = .nx e' ∨ step x e = .ct e') ∧ I (i + 1) e') : ∃ e', forL step xs e = .nx e' ∧ I xs.length e' := by
  obtain ⟨e', h1, h2⟩ := forL_inv (step := step) xs (fun r e => ∃ i, i + r.length = xs.length ∧ xs.drop i = r ∧ I i e) e ⟨0, by simp, by simp, h0⟩ fun x r e ⟨i, hi, hd, hI⟩ => by
    have hx : xs[i]? = some x := by
      have := congrArg (·[0]?) hd
      simpa using this
    obtain ⟨e', h1, h2⟩ := hs i x e hx hI
    refine ⟨e', h1, i + 1, ?_, ?_, h2⟩
    · simp only [List.length_cons] at hi
      omega
    · have := congrArg (List.drop 1) hd
      simpa using this
  obtain ⟨i, hi, hd, hI⟩ := h2
  simp only [List.length_nil, Nat.add_zero] at hi
  subst hi
  exact ⟨e', h1, hI⟩
/-- the same where each turn comes to its end -/
theorem forL_nx {step : D → En → Ou} {xs : List D} (I : Nat → En → Prop) {e : En} (h0 : I 0 e) (hs : ∀ (i : Nat) (x : D) (e : En), xs[i]? = some x → I i e → ∃ e', step x e = .nx e' ∧ I (i + 1) e') : ∃ e', forL step xs e = .nx e' ∧ I xs.length e' :=
  forL_nat I h0 fun i x e hx hI => by
    obtain ⟨e', h1, h2⟩ := hs i x e hx hI
    exact ⟨e', .inl h1, h2⟩
theorem forL_use {step : D → En → Ou} {xs : List D} {e : En} {L : Ou} (h : forL step xs e = L) (I : Nat → En → Prop) (h0 : I 0 e) (hs : ∀ (i : Nat) (x : D) (e : En), xs[i]? = some x → I i e → ∃ e', step x e = .nx e' ∧ I (i + 1) e') : ∃ e', L = .nx e' ∧ I xs.length e' := h ▸ forL_nx I h0 hs
/-- a slot that holds nothing, or a thing that is shared -/
def ShN (y : Option Sl) : Prop := y = none ∨ ∃ d, y = some ⟨.sh, d⟩
theorem shn0 : ShN none := .inl rfl
theorem shn1 {d : D} : ShN (some ⟨.sh, d⟩) := .inr ⟨d, rfl⟩
theorem rng_at {n i : Nat} {x : D} {g : Nat → D} (h : ((List.range n).map g)[i]? = some x) : x = g i ∧ i < n := by
  rw [List.getElem?_map] at h
  by_cases hi : i < n
  · rw [List.getElem?_range hi] at h
    cases h
    exact ⟨rfl, hi⟩
  · rw [List.getElem?_eq_none (by rw [List.length_range]; omega)] at h
    cases h
theorem map_at {α : Type} {xs : List α} {i : Nat} {x : D} {g : α → D} (h : (xs.map g)[i]? = some x) : ∃ a, xs[i]? = some a ∧ x = g a := by
  rw [List.getElem?_map] at h
  cases e : xs[i]? with
  | none => rw [e] at h; cases h
  | some a => rw [e] at h; cases h; exact ⟨a, rfl, rfl⟩
/-- a loop that may return from within -/
theorem forL_ret {step : D → En → Ou} {xs : List D} (I : Nat → En → Prop) (R : Ou → Prop) {e : En} (h0 : I 0 e) (hs : ∀ (i : Nat) (x : D) (e : En), xs[i]? = some x → I i e → (∃ e', (step x e = .nx e' ∨ step x e = .ct e') ∧ I (i + 1) e') ∨ ∃ f d e', step x e = .rt f d e' ∧ R (.rt f d e')) :
    (∃ e', forL step xs e = .nx e' ∧ I xs.length e') ∨ ∃ f d e', forL step xs e = .rt f d e' ∧ R (.rt f d e') := by
  have key : ∀ (r : List D) (i : Nat) (e : En), xs.drop i = r → i + r.length = xs.length → I i e → (∃ e', forL step r e = .nx e' ∧ I xs.length e') ∨ ∃ f d e', forL step r e = .rt f d e' ∧ R (.rt f d e') := by
    intro r
    induction r with
    | nil =>
      intro i e _ hi hI
      simp only [List.length_nil, Nat.add_zero] at hi
      subst hi
      exact .inl ⟨e, rfl, hI⟩
    | cons x r ih =>
      intro i e hd hi hI
      have hx : xs[i]? = some x := by
        have := congrArg (·[0]?) hd
        simpa using this
      rcases hs i x e hx hI with ⟨e', h1, h2⟩ | ⟨f, d, e', h1, h2⟩
      · have := ih (i + 1) e' (by have := congrArg (List.drop 1) hd; simpa using this) (by simp only [List.length_cons] at hi; omega) h2
        simp only [forL]
        rcases h1 with h1 | h1 <;> rw [h1] <;> exact this
      · refine .inr ⟨f, d, e', ?_, h2⟩
        simp only [forL]
        rw [h1]
  exact key xs 0 e (by simp) (by simp) h0
theorem comp_map {α : Type} {step : D → En → Rs (Option D)} {own : List Nat} {h : α → D} {g : α → Option D} {W : En} : ∀ (xs : List α) (e : En), wipeE e own = W → (∀ x ∈ xs, ∀ e, wipeE e own = W → ∃ e', step (h x) e = .ok (g x) e' ∧ wipeE e' own = W) → ∃ e', compL step (xs.map h) e = .ok (xs.filterMap g) e' ∧ wipeE e' own = W
  | [], e, h, _ => ⟨e, rfl, h⟩
  | x :: xs, e, hw, hs => by
    obtain ⟨e1, h1, h2⟩ := hs x List.mem_cons_self e hw
    obtain ⟨e2, h3, h4⟩ := comp_map xs e1 h2 fun y hy => hs y (List.mem_cons_of_mem _ hy)
    refine ⟨e2, ?_, h4⟩
    simp only [List.map_cons, compL, h1, rsbind_ok, h3]
    cases hg : g x <;> simp [hg]
theorem fm_map {α β : Type} {g : α → β} : ∀ xs : List α, (xs.filterMap fun a => some (g a)) = xs.map g
  | [] => rfl
  | x :: xs => by simp [fm_map xs]
theorem wipe_len (e : En) : ∀ own : List Nat, (wipeE e own).length = e.length
  | [] => rfl
  | i :: own => by
    simp only [wipeE, List.length_set]
    exact wipe_len e own
theorem back_len (e0 e : En) : ∀ own : List Nat, (backE e0 e own).length = e.length
  | [] => rfl
  | i :: own => by
    simp only [backE, List.length_set]
    exact back_len e0 e own
theorem back_at (e0 e : En) : ∀ (own : List Nat) (j : Nat), (backE e0 e own)[j]? = if j ∈ own then (if j < e.length then some (match e0[j]? with | some x => x | none => none) else none) else e[j]?
  | [], j => by simp [backE]
  | i :: own, j => by
    simp only [backE, List.getElem?_set, back_len]
    by_cases h : i = j
    · subst h
      by_cases h2 : i < e.length
      · simp [h2] <;> rfl
      · simp [h2]
    · rw [if_neg h, back_at e0 e own j]
      have : (j ∈ i :: own) ↔ j ∈ own := by simp [Ne.symm h]
      simp only [this]
theorem wipe_get (e : En) : ∀ (own : List Nat) (j : Nat), (wipeE e own)[j]? = if j ∈ own then (if j < e.length then some none else none) else e[j]?
  | [], j => by simp [wipeE]
  | i :: own, j => by
    simp only [wipeE, List.getElem?_set, wipe_len]
    by_cases h : i = j
    · subst h
      by_cases h2 : i < e.length <;> simp [h2]
    · rw [if_neg h, wipe_get e own j]
      have : (j ∈ i :: own) ↔ j ∈ own := by simp [Ne.symm h]
      simp only [this]
theorem back_eq {e0 e : En} {own : List Nat} (h : wipeE e own = wipeE e0 own) : backE e0 e own = e0 := by
  have hl : e.length = e0.length := by rw [← wipe_len e own, h, wipe_len]
  refine List.ext_getElem? fun j => ?_
  rw [back_at]
  have hj := congrArg (·[j]?) h
  simp only [wipe_get] at hj
  by_cases h1 : j ∈ own
  · rw [if_pos h1]
    by_cases h2 : j < e.length
    · rw [if_pos h2, List.getElem?_eq_getElem (by omega)]
    · rw [if_neg h2, List.getElem?_eq_none (by omega)]
  · rw [if_neg h1]
    rw [if_neg h1, if_neg h1] at hj
    exact hj
theorem evE_comp_map {α : Type} {F : List Fn} {el : IE} {pt : Pt} {src : Sr} {cs : List IT} {own : List Nat} {e e1 : En} {A : List α} {h : α → D} {g : α → Option D} (hi : evI F src e = .ok (A.map h) e1) (ho : ownSh e1 own = true) (hl : A.length ≤ sizeLine)
    (hs : ∀ x ∈ A, ∀ e, wipeE e own = wipeE e1 own → ∃ e', stepC F el pt cs own (h x) e = .ok (g x) e' ∧ wipeE e' own = wipeE e1 own) : evE F (.comp el pt src cs own) e = .ok (.val true (.list (A.filterMap g))) e1 := by
  rw [evE_comp, hi, rsbind_ok, ho, decide_eq_true (show (A.map h).length ≤ sizeLine by rw [List.length_map]; exact hl)]
  obtain ⟨e', h1, h2⟩ := comp_map (step := stepC F el pt cs own) (own := own) A e1 rfl hs
  simp only [Bool.and_self, if_true, h1, rsbind_ok, back_eq h2]
end PD

/-! PMR: the pure language as rewriting rules. -/
namespace PD
open PySem
def kRd : Option (Option Sl) → Option D
  | some (some s) => some s.d
  | _ => none
def kVar (i : Nat) (e : En) : Option (Option Sl) → Rs Ans
  | some (some ⟨.sh, d⟩) => .ok (.val false d) e
  | some (some _) => .ok (.pl i) e
  | _ => .no
def kBi2 (p : Pr) (x : Ans) (y : Ans) (e : En) : Rs Ans := prA p [x, y] e
def kBi (F : List Fn) (p : Pr) (b : IE) (x : Ans) (e : En) : Rs Ans := (evE F b e).bind (kBi2 p x)
def kUn (p : Pr) (x : Ans) (e : En) : Rs Ans := prA p [x] e
def kPr2 (e : En) : Option (Bool × D) → Rs Ans
  | some (f, d) => .ok (.val f d) e
  | none => .no
def kPr (p : Pr) (e : En) : Option (List D) → Rs Ans
  | some ds => kPr2 e (prim p ds)
  | none => .no
def kCo : Option D → Option (List D) → Option (List D)
  | some d, some ds => some (d :: ds)
  | _, _ => none
def kCh3 (F : List Fn) (q : Pr) (y : Ans) (c : IE) (r : Ans) (e : En) : Rs Ans := match r with
  | .val _ (.bool true) => (evE F c e).bind (kBi2 q y)
  | .val _ (.bool false) => .ok (.val false (.bool false)) e
  | _ => .no
def kCh2 (F : List Fn) (p q : Pr) (x : Ans) (c : IE) (y : Ans) (e : En) : Rs Ans := (prA p [x, y] e).bind (kCh3 F q y c)
def kCh (F : List Fn) (p q : Pr) (b c : IE) (x : Ans) (e : En) : Rs Ans := (evE F b e).bind (kCh2 F p q x c)
def kAn2 (F : List Fn) (es : List IE) (e : En) : Option D → Rs Ans
  | some (.bool true) => evAnd F es e
  | some (.bool false) => .ok (.val false (.bool false)) e
  | _ => .no
def kAn (F : List Fn) (es : List IE) (x : Ans) (e : En) : Rs Ans := kAn2 F es e (rdA x e)
def kOr2 (F : List Fn) (es : List IE) (e : En) : Option D → Rs Ans
  | some (.bool true) => .ok (.val false (.bool true)) e
  | some (.bool false) => evOr F es e
  | _ => .no
def kOr (F : List Fn) (es : List IE) (x : Ans) (e : En) : Rs Ans := kOr2 F es e (rdA x e)
def kNo2 (e : En) : Option D → Rs Ans
  | some (.bool b) => .ok (.val false (.bool (!b))) e
  | _ => .no
def kNo (x : Ans) (e : En) : Rs Ans := kNo2 e (rdA x e)
def kIt (F : List Fn) (a b : IE) (r : Bool) (e : En) : Rs Ans := if r = true then evE F a e else evE F b e
def kTu2 : Option (List D × En) → Rs Ans
  | some (ds, e) => if ds.length ≤ sizeLine then .ok (.val false (.tuple ds)) e else .no
  | none => .no
def kTu (as : List Ans) (e : En) : Rs Ans := kTu2 (fzAs as e)
def kLs2 : Option (List D × En) → Rs Ans
  | some (ds, e) => if ds.length ≤ sizeLine then .ok (.val true (.list ds)) e else .no
  | none => .no
def kLs (as : List Ans) (e : En) : Rs Ans := kLs2 (fzAs as e)
def kDi2 (ks : List D) : Option (List D × En) → Rs Ans
  | some (ds, e) => .ok (.val true (.dict (zipDic ks ds []))) e
  | none => .no
def kDi (ks : List D) (as : List Ans) (e : En) : Rs Ans := kDi2 ks (fzAs as e)
def kIx4 (e : En) : Option D → Rs Ans
  | some d => .ok (.val false d) e
  | none => .no
def kIx3 (e : En) : Option D → Option D → Rs Ans
  | some x, some y => kIx4 e (pIx x y)
  | _, _ => .no
def kIx2 (x y : Ans) (e : En) : Rs Ans := kIx3 e (rdA x e) (rdA y e)
def kIx (F : List Fn) (b : IE) (x : Ans) (e : En) : Rs Ans := (evE F b e).bind (kIx2 x)
def kSl4 (e : En) (l h : Option Int) : Option D → Rs Ans
  | some (.list xs) => .ok (.val true (.list (cutD xs l h))) e
  | some (.tuple xs) => .ok (.val false (.tuple (cutD xs l h))) e
  | _ => .no
def kSl3 (x : Ans) (l : Option Int) (h : Option Int) (e : En) : Rs Ans := kSl4 e l h (rdA x e)
def kSl2 (F : List Fn) (x : Ans) (hi : Option IE) (l : Option Int) (e : En) : Rs Ans := (evO F hi e).bind (kSl3 x l)
def kSl (F : List Fn) (lo hi : Option IE) (x : Ans) (e : En) : Rs Ans := (evO F lo e).bind (kSl2 F x hi)
def kFn (p : Pr) (as : List Ans) (e : En) : Rs Ans := prA p as e
def kIs2 (k : Kd) (e : En) : Option D → Rs Ans
  | some d => .ok (.val false (.bool (kindOf k d))) e
  | none => .no
def kIs (k : Kd) (x : Ans) (e : En) : Rs Ans := kIs2 k e (rdA x e)
def kCl2 (as : List Ans) (e : En) : Option Fn → Rs Ans
  | some f => callA f as e
  | none => .no
def kCl (F : List Fn) (k : Nat) (dv : List D) (as : List Ans) (e : En) : Rs Ans := kCl2 (as ++ dv.map (Ans.val false)) e F[k]?
def kCa5 (fr : Bool) (d : D) : Option En → Rs Ans
  | some e => .ok (.val fr d) e
  | none => .no
def kCa4 (fr : Bool) (d : D) (al : List (Nat × Nat)) (le : List Nat) : Option En → Rs Ans
  | some e => if isSc d && al.isEmpty then .ok (.val false d) e else kCa5 fr d (shareAll le e)
  | none => .no
def kCa6 (c : Str) (d : D) : Option En → Rs Ans
  | some e => .ex c d e
  | none => .no
def kCa7 (c : Str) (d : D) (le : List Nat) : Option En → Rs Ans
  | some e => kCa6 c d (shareAll le e)
  | none => .no
def kCa3 (al : List (Nat × Nat)) (le : List Nat) (e : En) : FR → Rs Ans
  | .ok fr d ms => kCa4 fr d al le (putMs al ms e)
  | .ex c d ms => kCa7 c d le (putMs al ms e)
  | .no => .no
def kCa2 (f : Fn) (e : En) : Option (List D × List (Nat × Nat) × List Nat) → Rs Ans
  | some (ds, al, le) => if noMix al le = true then kCa3 al le e (f.sem ds) else .no
  | none => .no
def kAr3 (j i : Nat) (ds : List D) (al : List (Nat × Nat)) (le : List Nat) : Option (Option Sl) → Option (List D × List (Nat × Nat) × List Nat)
  | some (some ⟨.sh, _⟩) => none
  | some (some ⟨_, d⟩) => if al.any (fun p => p.1 == i) = true then none else some (d :: ds, (i, j) :: al, le)
  | _ => none
def kAr2 (i : Nat) (ds : List D) (al : List (Nat × Nat)) (le : List Nat) : Option (Option Sl) → Option (List D × List (Nat × Nat) × List Nat)
  | some (some s) => some (s.d :: ds, al, i :: le)
  | _ => none
def kAr (j : Nat) (m : Bool) (a : Ans) (e : En) : Option (List D × List (Nat × Nat) × List Nat) → Option (List D × List (Nat × Nat) × List Nat)
  | some (ds, al, le) => match m, a with
    | false, .val _ d => some (d :: ds, al, le)
    | false, .pl i => kAr2 i ds al le e[i]?
    | true, .pl i => kAr3 j i ds al le e[i]?
    | true, .val _ _ => none
  | none => none
def kPm (ps : List (Nat × Nat)) (p : Nat) (d : D) (ds : List D) (e : En) : Option (Option Sl) → Option En
  | some (some s) => putMs ps ds (e.set p (some ⟨s.o, d⟩))
  | _ => none
def kSh (i : Nat) (is : List Nat) (e : En) : Option (Option Sl) → Option En
  | some (some ⟨.mu, _⟩) => none
  | some (some ⟨_, d⟩) => shareAll is (e.set i (some ⟨.sh, d⟩))
  | _ => none
def kFz (i : Nat) (e : En) : Option (Option Sl) → Option (D × En)
  | some (some ⟨.own, d⟩) => some (d, e.set i (some ⟨.sh, d⟩))
  | some (some ⟨.sh, d⟩) => some (d, e)
  | _ => none
def kFs3 (d : D) : Option (List D × En) → Option (List D × En)
  | some (ds, e) => some (d :: ds, e)
  | none => none
def kFs (as : List Ans) : Option (D × En) → Option (List D × En)
  | some (d, e) => kFs3 d (fzAs as e)
  | none => none
def kIsL : Option (Option Sl) → Bool
  | some (some ⟨.own, .list _⟩) => true
  | some (some ⟨.mu, .list _⟩) => true
  | _ => false
def kIsO : Option (Option Sl) → Bool
  | some (some ⟨.own, _⟩) => true
  | some (some ⟨.mu, _⟩) => true
  | _ => false
def kMt4 (i : Nat) (o : O) (e : En) : Option (D × D) → Rs Ans
  | some (d, r) => .ok (.val false r) (e.set i (some ⟨o, d⟩))
  | none => .no
def kMt3 (m : Mt) (i : Nat) (ds : List D) (e : En) : Option (Option Sl) → Rs Ans
  | some (some ⟨.sh, _⟩) => .no
  | some (some ⟨o, d⟩) => kMt4 i o e (mtd m d ds)
  | _ => .no
def kMt2 (m : Mt) (i : Nat) : Option (List D × En) → Rs Ans
  | some (ds, e) => kMt3 m i ds e e[i]?
  | none => .no
def kMt (m : Mt) (i : Nat) (as : List Ans) (e : En) : Rs Ans := kMt2 m i (fzAs as e)
def kEs2 (x : Ans) (xs : List Ans) (e : En) : Rs (List Ans) := .ok (x :: xs) e
def kEs (F : List Fn) (es : List IE) (x : Ans) (e : En) : Rs (List Ans) := (evEs F es e).bind (kEs2 x)
def kO2 (e : En) : Option D → Rs (Option Int)
  | some (.int i) => .ok (some i) e
  | _ => .no
def kO (x : Ans) (e : En) : Rs (Option Int) := kO2 e (rdA x e)
def kTv3 (e : En) : Option Bool → Rs Bool
  | some b => .ok b e
  | none => .no
def kTv2 (e : En) : Option D → Rs Bool
  | some d => kTv3 e (truthD d)
  | none => .no
def kTv (x : Ans) (e : En) : Rs Bool := kTv2 e (rdA x e)
def kTb (r : Ans) (e : En) : Rs Bool := match r with
  | .val _ (.bool b) => .ok b e
  | _ => .no
def kTn (b : Bool) (e : En) : Rs Bool := .ok (!b) e
def kTA (F : List Fn) (ts : List IT) (b : Bool) (e : En) : Rs Bool := if b = true then evTA F ts e else .ok false e
def kTO (F : List Fn) (ts : List IT) (b : Bool) (e : En) : Rs Bool := if b = true then .ok true e else evTO F ts e
def kTC (F : List Fn) (ts : List IT) (b : Bool) (e : En) : Rs Bool := if b = true then evC F ts e else .ok false e
def kSq3 (e : En) : Option (List D) → Rs (List D)
  | some xs => .ok xs e
  | none => .no
def kSq2 : Option (D × En) → Rs (List D)
  | some (d, e) => kSq3 e (seqD d)
  | none => .no
def kSq (x : Ans) (e : En) : Rs (List D) := kSq2 (fzA x e)
def kRg2 (e : En) : Option D → Rs (List D)
  | some (.int j) => kSq3 e (rngD 0 j)
  | _ => .no
def kRg (x : Ans) (e : En) : Rs (List D) := kRg2 e (rdA x e)
def kRr3 (e : En) : Option D → Option D → Rs (List D)
  | some (.int i), some (.int j) => kSq3 e (rngD i j)
  | _, _ => .no
def kRr2 (x y : Ans) (e : En) : Rs (List D) := kRr3 e (rdA x e) (rdA y e)
def kRr (F : List Fn) (b : IE) (x : Ans) (e : En) : Rs (List D) := (evE F b e).bind (kRr2 x)
def kEn2 : Option (D × En) → Rs (List D)
  | some (d, e) => match d with
    | .list xs => .ok (enumD xs) e
    | .tuple xs => .ok (enumD xs) e
    | _ => .no
  | none => .no
def kEn (x : Ans) (e : En) : Rs (List D) := kEn2 (fzA x e)
def kZi3 (d : D) : Option (D × En) → Rs (List D)
  | some (d', e) => match d, d' with
    | .list xs, .list ys => .ok (zipD xs ys) e
    | .tuple xs, .tuple ys => .ok (zipD xs ys) e
    | .list xs, .tuple ys => .ok (zipD xs ys) e
    | _, _ => .no
  | none => .no
def kZi4 (y : Ans) : Option (D × En) → Rs (List D)
  | some (d, e) => kZi3 d (fzA y e)
  | none => .no
def kZi2 (x y : Ans) (e : En) : Rs (List D) := kZi4 y (fzA x e)
def kZi (F : List Fn) (b : IE) (x : Ans) (e : En) : Rs (List D) := (evE F b e).bind (kZi2 x)
def kNx : Option En → Ou
  | some e => .nx e
  | none => .no
def kSt (i : Nat) (s : Sl) (e : En) : Option (Option Sl) → Option En
  | some (some ⟨.mu, _⟩) => none
  | some _ => some (e.set i (some s))
  | none => none
def kSe2 (i : Nat) : Option (D × En) → Ou
  | some (d, e) => kNx (stN i ⟨.sh, d⟩ e)
  | none => .no
def kSe (i : Nat) : Rs Ans → Ou
  | .ok (.val f d) e1 => kNx (stN i ⟨if f = true then .own else .sh, d⟩ e1)
  | .ok (.pl j) e1 => kSe2 i (fzA (.pl j) e1)
  | .ex c d e1 => .ex c d e1
  | .no => .no
def kUp2 (is : List Nat) : Option (D × En) → Ou
  | some (d, e2) => kNx (stPt (.tp is) d e2)
  | none => .no
def kUp (is : List Nat) : Rs Ans → Ou
  | .ok x e1 => kUp2 is (fzA x e1)
  | .ex c d e1 => .ex c d e1
  | .no => .no
def kEx : Rs Ans → Ou
  | .ok _ e1 => .nx e1
  | .ex c d e1 => .ex c d e1
  | .no => .no
def kRt2 (j : Nat) (e : En) : Option (Option Sl) → Ou
  | some (some ⟨.own, d⟩) => .rt true d (e.set j none)
  | _ => .no
def kRt : Rs Ans → Ou
  | .ok (.val f d) e1 => .rt f d e1
  | .ok (.pl j) e1 => kRt2 j e1 e1[j]?
  | .ex c d e1 => .ex c d e1
  | .no => .no
def kIf (F : List Fn) (a b : List IS) : Rs Bool → Ou
  | .ok true e1 => evSs F a e1
  | .ok false e1 => evSs F b e1
  | .ex k d e1 => .ex k d e1
  | .no => .no
def kFo (st : D → En → Ou) : Rs (List D) → Ou
  | .ok xs e1 => forL st xs e1
  | .ex c d e1 => .ex c d e1
  | .no => .no
def kXs5 (i : Nat) (o : O) (e : En) : Option D → Ou
  | some d => .nx (e.set i (some ⟨o, d⟩))
  | none => .no
def kXs4 (i : Nat) (dv dk : D) (e : En) : Option (Option Sl) → Ou
  | some (some ⟨.sh, _⟩) => .no
  | some (some ⟨o, d⟩) => kXs5 i o e (ixSet d dk dv)
  | _ => .no
def kXs3 (i : Nat) (dv : D) : Option (D × En) → Ou
  | some (dk, e) => kXs4 i dv dk e e[i]?
  | none => .no
def kXs6 (i : Nat) (y : Ans) : Option (D × En) → Ou
  | some (dv, e) => kXs3 i dv (fzA y e)
  | none => .no
def kXs2 (i : Nat) (x : Ans) : Rs Ans → Ou
  | .ok y e => kXs6 i y (fzA x e)
  | .ex c d e => .ex c d e
  | .no => .no
def kXs (F : List Fn) (i : Nat) (k : IE) : Rs Ans → Ou
  | .ok x e => if isOwn e i = true then kXs2 i x (evE F k e) else .no
  | .ex c d e => .ex c d e
  | .no => .no
def kSs (F : List Fn) (ss : List IS) : Ou → Ou
  | .nx e => evSs F ss e
  | r => r
def kRn2 (f : Bool) (d : D) : Option (List D) → FR
  | some ms => .ok f d ms
  | none => .no
def kRn3 (c : Str) (d : D) : Option (List D) → FR
  | some ms => .ex c d ms
  | none => .no
def kRn (modes : List Bool) : Ou → FR
  | .nx e => kRn2 false .none (lastMs modes 0 e)
  | .rt f d e => kRn2 f d (lastMs modes 0 e)
  | .ex c d e => kRn3 c d (lastMs modes 0 e)
  | _ => .no
def kLm (d? : Option (Option Sl)) (ds : Option (List D)) : Option (List D) := match d?, ds with
  | some (some ⟨.mu, d⟩), some ds => some (d :: ds)
  | _, _ => none
def kWh (c : En → Rs Bool) (b : En → Ou) (n : Nat) : Ou → Ou
  | .nx e2 => whlL c b n e2
  | .ct e2 => whlL c b n e2
  | .bk e2 => .nx e2
  | r => r
def kWc (c : En → Rs Bool) (b : En → Ou) (n : Nat) : Rs Bool → Ou
  | .ok true e1 => kWh c b n (b e1)
  | .ok false e1 => .nx e1
  | .no => .no
  | .ex k d e1 => .ex k d e1
def kSp (F : List Fn) (body : List IS) : Option En → Ou
  | some e3 => evSs F body e3
  | none => .no
def kCp4 : Option (D × En) → Rs (Option D)
  | some (d, e) => .ok (some d) e
  | none => .no
def kCp3 (x : Ans) (e : En) : Rs (Option D) := kCp4 (fzA x e)
def kCp2 (F : List Fn) (el : IE) (b : Bool) (e : En) : Rs (Option D) := if b = true then (evE F el e).bind kCp3 else .ok none e
def kCp (F : List Fn) (el : IE) (cs : List IT) : Option En → Rs (Option D)
  | some e3 => (evC F cs e3).bind (kCp2 F el)
  | none => .no
theorem rbind_assoc {α β γ : Type} {m : Rs α} {f : α → En → Rs β} {g : β → En → Rs γ} : (m.bind f).bind g = m.bind (fun x e => (f x e).bind g) := by
  cases m <;> rfl
theorem evT_cm {F : List Fn} {p : Pr} {a b : IE} {e : En} : evT F (.cm p a b) e = (evE F (.cm p a b) e).bind kTb := by
  simp only [evT, evE, rbind_assoc]
  rfl
theorem evT_chn {F : List Fn} {p q : Pr} {a b c : IE} {e : En} : evT F (.chn p q a b c) e = (evE F (.chn p q a b c) e).bind kTb := by
  simp only [evT, evE, rbind_assoc]
  congr 1
  funext x e1
  congr 1
  funext y e2
  congr 1
  funext r e3
  cases r with
  | pl i => rfl
  | val f d =>
    cases d <;> try rfl
    rename_i t
    cases t
    · rfl
    · simp only [rbind_assoc]
      congr 1
section
variable {F : List Fn} {e : En} {a b c : IE} {p q : Pr} {es : List IE} {i j k : Nat} {d dx dy : D} {f : Bool}
theorem r_rd_v  : rdA (.val f d) e = some d := rfl
theorem r_rd_p  : rdA (.pl i) e = kRd e[i]? := rfl
theorem r_krd {s : Sl} : kRd (some (some s)) = some s.d := rfl
theorem r_rds0  : rdAs [] e = some [] := rfl
theorem r_rds {y : Ans} {as : List Ans} : rdAs (y :: as) e = kCo (rdA y e) (rdAs as e) := rfl
theorem r_kco {ds : List D} : kCo (some d) (some ds) = some (d :: ds) := rfl
theorem r_pr {as : List Ans} : prA p as e = kPr p e (rdAs as e) := rfl
theorem r_kpr {ds : List D} : kPr p e (some ds) = kPr2 e (prim p ds) := rfl
theorem r_kpr2  : kPr2 e (some (f, d)) = .ok (.val f d) e := rfl
theorem r_var  : evE F (.var i) e = kVar i e e[i]? := rfl
theorem r_kvar1  : kVar i e (some (some ⟨.sh, d⟩)) = .ok (.val false d) e := rfl
theorem r_kvar2  : kVar i e (some (some ⟨.own, d⟩)) = .ok (.pl i) e := rfl
theorem r_kvar3  : kVar i e (some (some ⟨.mu, d⟩)) = .ok (.pl i) e := rfl
theorem r_lit  : evE F (.lit d) e = .ok (.val false d) e := rfl
theorem r_gl {z : Str} : evE F (.gl z d) e = .ok (.val false d) e := rfl
theorem r_un  : evE F (.un p a) e = (evE F a e).bind (kUn p) := rfl
theorem r_bi  : evE F (.bi p a b) e = (evE F a e).bind (kBi F p b) := rfl
theorem r_cm  : evE F (.cm p a b) e = (evE F a e).bind (kBi F p b) := rfl
theorem r_chn  : evE F (.chn p q a b c) e = (evE F a e).bind (kCh F p q b c) := rfl
theorem r_kch3t {y : Ans} : kCh3 F q y c (.val f (.bool true)) e = (evE F c e).bind (kBi2 q y) := rfl
theorem r_kch3f {y : Ans} : kCh3 F q y c (.val f (.bool false)) e = .ok (.val false (.bool false)) e := rfl
theorem r_and  : evE F (.and es) e = evAnd F es e := rfl
theorem r_or  : evE F (.or es) e = evOr F es e := rfl
theorem r_and1  : evAnd F [a] e = evE F a e := rfl
theorem r_and2  : evAnd F (a :: b :: es) e = (evE F a e).bind (kAn F (b :: es)) := rfl
theorem r_or1  : evOr F [a] e = evE F a e := rfl
theorem r_or2  : evOr F (a :: b :: es) e = (evE F a e).bind (kOr F (b :: es)) := rfl
theorem r_kan2t  : kAn2 F es e (some (.bool true)) = evAnd F es e := rfl
theorem r_kan2f  : kAn2 F es e (some (.bool false)) = .ok (.val false (.bool false)) e := rfl
theorem r_kor2t  : kOr2 F es e (some (.bool true)) = .ok (.val false (.bool true)) e := rfl
theorem r_kor2f  : kOr2 F es e (some (.bool false)) = evOr F es e := rfl
theorem r_not  : evE F (.not a) e = (evE F a e).bind kNo := rfl
theorem r_kno2  : kNo2 e (some (.bool f)) = .ok (.val false (.bool (!f))) e := rfl
theorem r_ite {t : IT} : evE F (.ite t a b) e = (evT F t e).bind (kIt F a b) := rfl
theorem r_tup  : evE F (.tup es) e = (evEs F es e).bind kTu := rfl
theorem r_lst  : evE F (.lst es) e = (evEs F es e).bind kLs := rfl
theorem r_ktu2 {ds : List D} : kTu2 (some (ds, e)) = if ds.length ≤ sizeLine then .ok (.val false (.tuple ds)) e else .no := rfl
theorem r_kls2 {ds : List D} : kLs2 (some (ds, e)) = if ds.length ≤ sizeLine then .ok (.val true (.list ds)) e else .no := rfl
theorem r_dic {ks : List D} : evE F (.dic ks es) e = (evEs F es e).bind (kDi ks) := rfl
theorem r_kdi2 {ks ds : List D} : kDi2 ks (some (ds, e)) = .ok (.val true (.dict (zipDic ks ds []))) e := rfl
theorem r_dnewk  : evE F (.dnew false) e = .ok (.val true (.dict [])) e := rfl
theorem r_dnewt  : evE F (.dnew true) e = .ok (.val true (.dict [(.none, .none)])) e := rfl
theorem r_ix  : evE F (.ix a b) e = (evE F a e).bind (kIx F b) := rfl
theorem r_kix3  : kIx3 e (some dx) (some dy) = kIx4 e (pIx dx dy) := rfl
theorem r_kix4  : kIx4 e (some d) = .ok (.val false d) e := rfl
theorem r_sl {lo hi : Option IE} : evE F (.sl a lo hi) e = (evE F a e).bind (kSl F lo hi) := rfl
theorem r_ksl4l {l h : Option Int} {ds : List D} : kSl4 e l h (some (.list ds)) = .ok (.val true (.list (cutD ds l h))) e := rfl
theorem r_ksl4t {l h : Option Int} {ds : List D} : kSl4 e l h (some (.tuple ds)) = .ok (.val false (.tuple (cutD ds l h))) e := rfl
theorem r_fn  : evE F (.fn p es) e = (evEs F es e).bind (kFn p) := rfl
theorem r_isI {t : Kd} : evE F (.isI t a) e = (evE F a e).bind (kIs t) := rfl
theorem r_kis2 {t : Kd} : kIs2 t e (some d) = .ok (.val false (.bool (kindOf t d))) e := rfl
theorem r_call {dv : List D} : evE F (.call k es dv) e = (evEs F es e).bind (kCl F k dv) := rfl
theorem r_kcl2 {as : List Ans} {g : Fn} : kCl2 as e (some g) = callA g as e := rfl
theorem r_calla {as : List Ans} {g : Fn} : callA g as e = kCa2 g e (argA 0 g.modes as e) := rfl
theorem r_kca2 {g : Fn} {ds : List D} {al : List (Nat × Nat)} {le : List Nat} : kCa2 g e (some (ds, al, le)) = if noMix al le = true then kCa3 al le e (g.sem ds) else .no := rfl
theorem r_kca3 {ds : List D} {al : List (Nat × Nat)} {le : List Nat} : kCa3 al le e (.ok f d ds) = kCa4 f d al le (putMs al ds e) := rfl
theorem r_kca4 {al : List (Nat × Nat)} {le : List Nat} : kCa4 f d al le (some e) = if isSc d && al.isEmpty then .ok (.val false d) e else kCa5 f d (shareAll le e) := rfl
theorem r_kca5  : kCa5 f d (some e) = .ok (.val f d) e := rfl
theorem r_arg0  : argA j [] [] e = some ([], [], []) := rfl
theorem r_arg {m : Bool} {ms : List Bool} {y : Ans} {as : List Ans} : argA j (m :: ms) (y :: as) e = kAr j m y e (argA (j + 1) ms as e) := rfl
theorem r_kar1 {ds : List D} {al : List (Nat × Nat)} {le : List Nat} : kAr j false (.val f d) e (some (ds, al, le)) = some (d :: ds, al, le) := rfl
theorem r_kar2 {ds : List D} {al : List (Nat × Nat)} {le : List Nat} : kAr j false (.pl i) e (some (ds, al, le)) = kAr2 i ds al le e[i]? := rfl
theorem r_kar3 {ds : List D} {al : List (Nat × Nat)} {le : List Nat} : kAr j true (.pl i) e (some (ds, al, le)) = kAr3 j i ds al le e[i]? := rfl
theorem r_kar4 {ds : List D} {al : List (Nat × Nat)} {le : List Nat} {s : Sl} : kAr2 i ds al le (some (some s)) = some (s.d :: ds, al, i :: le) := rfl
theorem r_kar5 {ds : List D} {al : List (Nat × Nat)} {le : List Nat} : kAr3 j i ds al le (some (some ⟨.mu, d⟩)) = if al.any (fun p => p.1 == i) = true then none else some (d :: ds, (i, j) :: al, le) := rfl
theorem r_kar6 {ds : List D} {al : List (Nat × Nat)} {le : List Nat} : kAr3 j i ds al le (some (some ⟨.own, d⟩)) = if al.any (fun p => p.1 == i) = true then none else some (d :: ds, (i, j) :: al, le) := rfl
theorem r_nomix0 {al : List (Nat × Nat)} : noMix al [] = true := rfl
theorem r_nomix1 {le : List Nat} : noMix [] le = true := by induction le with | nil => rfl | cons a b h => simpa [noMix] using h
theorem r_pm0  : putMs [] [] e = some e := rfl
theorem r_pm1 {pr : Nat × Nat} {ps : List (Nat × Nat)} {ds : List D} : putMs (pr :: ps) (d :: ds) e = kPm ps pr.1 d ds e e[pr.1]? := rfl
theorem r_kpm {ps : List (Nat × Nat)} {ds : List D} {s : Sl} : kPm ps i d ds e (some (some s)) = putMs ps ds (e.set i (some ⟨s.o, d⟩)) := rfl
theorem r_sh0  : shareAll [] e = some e := rfl
theorem r_sh1 {is : List Nat} : shareAll (i :: is) e = kSh i is e e[i]? := rfl
theorem r_ksh1 {is : List Nat} : kSh i is e (some (some ⟨.sh, d⟩)) = shareAll is (e.set i (some ⟨.sh, d⟩)) := rfl
theorem r_ksh2 {is : List Nat} : kSh i is e (some (some ⟨.own, d⟩)) = shareAll is (e.set i (some ⟨.sh, d⟩)) := rfl
theorem r_fz_v  : fzA (.val f d) e = some (d, e) := rfl
theorem r_fz_p  : fzA (.pl i) e = kFz i e e[i]? := rfl
theorem r_kfz1  : kFz i e (some (some ⟨.own, d⟩)) = some (d, e.set i (some ⟨.sh, d⟩)) := rfl
theorem r_kfz2  : kFz i e (some (some ⟨.sh, d⟩)) = some (d, e) := rfl
theorem r_fzs0  : fzAs [] e = some ([], e) := rfl
theorem r_fzs1 {y : Ans} {as : List Ans} : fzAs (y :: as) e = kFs as (fzA y e) := rfl
theorem r_kfs {as : List Ans} : kFs as (some (d, e)) = kFs3 d (fzAs as e) := rfl
theorem r_kfs3 {ds : List D} : kFs3 d (some (ds, e)) = some (d :: ds, e) := rfl
theorem r_isL  : isL e i = kIsL e[i]? := rfl
theorem r_kisl1 {ds : List D} : kIsL (some (some ⟨.own, .list ds⟩)) = true := rfl
theorem r_kisl2 {ds : List D} : kIsL (some (some ⟨.mu, .list ds⟩)) = true := rfl
theorem r_isO  : isOwn e i = kIsO e[i]? := rfl
theorem r_kiso1  : kIsO (some (some ⟨.own, d⟩)) = true := rfl
theorem r_kiso2  : kIsO (some (some ⟨.mu, d⟩)) = true := rfl
theorem r_mt {m : Mt} : evE F (.mt m i es) e = if isL e i = true then (evEs F es e).bind (kMt m i) else .no := rfl
theorem r_kmt2 {m : Mt} {ds : List D} : kMt2 m i (some (ds, e)) = kMt3 m i ds e e[i]? := rfl
theorem r_kmt31 {m : Mt} {ds : List D} : kMt3 m i ds e (some (some ⟨.own, d⟩)) = kMt4 i .own e (mtd m d ds) := rfl
theorem r_kmt32 {m : Mt} {ds : List D} : kMt3 m i ds e (some (some ⟨.mu, d⟩)) = kMt4 i .mu e (mtd m d ds) := rfl
theorem r_kmt4 {o : O} {r : D} : kMt4 i o e (some (d, r)) = .ok (.val false r) (e.set i (some ⟨o, d⟩)) := rfl
theorem r_es0  : evEs F [] e = .ok [] e := rfl
theorem r_es1  : evEs F (a :: es) e = (evE F a e).bind (kEs F es) := rfl
theorem r_o0  : evO F none e = .ok none e := rfl
theorem r_o1  : evO F (some a) e = (evE F a e).bind kO := rfl
theorem r_ko2 {z : Int} : kO2 e (some (.int z)) = .ok (some z) e := rfl
theorem r_tv  : evT F (.v a) e = (evE F a e).bind kTv := rfl
theorem r_ktv2  : kTv2 e (some d) = kTv3 e (truthD d) := rfl
theorem r_ktv3  : kTv3 e (some f) = .ok f e := rfl
theorem r_tcm  : evT F (.cm p a b) e = (evE F (.cm p a b) e).bind kTb := evT_cm
theorem r_tchn  : evT F (.chn p q a b c) e = (evE F (.chn p q a b c) e).bind kTb := evT_chn
theorem r_ktb {g : Bool} : kTb (.val f (.bool g)) e = .ok g e := rfl
theorem r_tnot {t : IT} : evT F (.not t) e = (evT F t e).bind kTn := rfl
theorem r_tand {ts : List IT} : evT F (.and ts) e = evTA F ts e := rfl
theorem r_tor {ts : List IT} : evT F (.or ts) e = evTO F ts e := rfl
theorem r_ta0  : evTA F [] e = .ok true e := rfl
theorem r_ta1 {t : IT} {ts : List IT} : evTA F (t :: ts) e = (evT F t e).bind (kTA F ts) := rfl
theorem r_to0  : evTO F [] e = .ok false e := rfl
theorem r_to1 {t : IT} {ts : List IT} : evTO F (t :: ts) e = (evT F t e).bind (kTO F ts) := rfl
theorem r_c0  : evC F [] e = .ok true e := rfl
theorem r_c1 {t : IT} {ts : List IT} : evC F (t :: ts) e = (evT F t e).bind (kTC F ts) := rfl
theorem r_seq  : evI F (.seq a) e = (evE F a e).bind kSq := rfl
theorem r_ksq2  : kSq2 (some (d, e)) = kSq3 e (seqD d) := rfl
theorem r_ksq3 {ds : List D} : kSq3 e (some ds) = .ok ds e := rfl
theorem r_rng  : evI F (.rng a) e = (evE F a e).bind kRg := rfl
theorem r_krg2 {z : Int} : kRg2 e (some (.int z)) = kSq3 e (rngD 0 z) := rfl
theorem r_rr  : evI F (.rng2 a b) e = (evE F a e).bind (kRr F b) := rfl
theorem r_krr3 {z y : Int} : kRr3 e (some (.int z)) (some (.int y)) = kSq3 e (rngD z y) := rfl
theorem r_enum  : evI F (.enum a) e = (evE F a e).bind kEn := rfl
theorem r_ken2 {ds : List D} : kEn2 (some (.list ds, e)) = .ok (enumD ds) e := rfl
theorem r_ken3 {ds : List D} : kEn2 (some (.tuple ds, e)) = .ok (enumD ds) e := rfl
theorem r_zip  : evI F (.zip a b) e = (evE F a e).bind (kZi F b) := rfl
theorem r_kzi4 {y : Ans} : kZi4 y (some (d, e)) = kZi3 d (fzA y e) := rfl
theorem r_kzi3l {xs ys : List D} : kZi3 (.list xs) (some (.list ys, e)) = .ok (zipD xs ys) e := rfl
theorem r_kzi3t {xs ys : List D} : kZi3 (.tuple xs) (some (.tuple ys, e)) = .ok (zipD xs ys) e := rfl
theorem r_kzi3m {xs ys : List D} : kZi3 (.list xs) (some (.tuple ys, e)) = .ok (zipD xs ys) e := rfl
theorem r_seqdl {ds : List D} : seqD (.list ds) = some ds := rfl
theorem r_seqdt {ds : List D} : seqD (.tuple ds) = some ds := rfl
theorem r_set  : evS F (.set i a) e = kSe i (evE F a e) := rfl
theorem r_kse1  : kSe i (.ok (.val true d) e) = kNx (stN i ⟨.own, d⟩ e) := rfl
theorem r_kse2  : kSe i (.ok (.val false d) e) = kNx (stN i ⟨.sh, d⟩ e) := rfl
theorem r_kse3  : kSe i (.ok (.pl j) e) = kSe2 i (fzA (.pl j) e) := rfl
theorem r_kse4  : kSe2 i (some (d, e)) = kNx (stN i ⟨.sh, d⟩ e) := rfl
theorem r_knx  : kNx (some e) = .nx e := rfl
theorem r_st {s : Sl} : stN i s e = kSt i s e e[i]? := rfl
theorem r_kst1 {s : Sl} : kSt i s e (some (some ⟨.sh, d⟩)) = some (e.set i (some s)) := rfl
theorem r_kst2 {s : Sl} : kSt i s e (some (some ⟨.own, d⟩)) = some (e.set i (some s)) := rfl
theorem r_kst3 {s : Sl} : kSt i s e (some none) = some (e.set i (some s)) := rfl
theorem r_sts0  : stNs [] [] e = some e := rfl
theorem r_unp {is : List Nat} : evS F (.unp is a) e = kUp is (evE F a e) := rfl
theorem r_kup {is : List Nat} {y : Ans} : kUp is (.ok y e) = kUp2 is (fzA y e) := rfl
theorem r_kup2 {is : List Nat} {ds : List D} : kUp2 is (some (.tuple ds, e)) = kNx (stNs is ds e) := rfl
theorem r_kup2l {is : List Nat} {ds : List D} : kUp2 is (some (.list ds, e)) = kNx (stNs is ds e) := rfl
theorem r_exp  : evS F (.exp a) e = kEx (evE F a e) := rfl
theorem r_kex {y : Ans} : kEx (.ok y e) = .nx e := rfl
theorem r_ret  : evS F (.ret a) e = kRt (evE F a e) := rfl
theorem r_krt1  : kRt (.ok (.val f d) e) = .rt f d e := rfl
theorem r_krt2  : kRt (.ok (.pl j) e) = kRt2 j e e[j]? := rfl
theorem r_krt3  : kRt2 j e (some (some ⟨.own, d⟩)) = .rt true d (e.set j none) := rfl
theorem r_retn  : evS F .retN e = .rt false .none e := rfl
theorem r_iff {t : IT} {ss rr : List IS} : evS F (.iff t ss rr) e = kIf F ss rr (evT F t e) := rfl
theorem r_kif1 {ss rr : List IS} : kIf F ss rr (.ok true e) = evSs F ss e := rfl
theorem r_kif2 {ss rr : List IS} : kIf F ss rr (.ok false e) = evSs F rr e := rfl
theorem r_forr {pt : Pt} {sr : Sr} {ss : List IS} : evS F (.forr pt sr ss) e = kFo (stepF F pt ss) (evI F sr e) := rfl
theorem r_kfo {st : D → En → Ou} {ds : List D} : kFo st (.ok ds e) = forL st ds e := rfl
theorem r_step {pt : Pt} {ss : List IS} : stepF F pt ss d e = kSp F ss (stPt pt d e) := rfl
theorem r_ksp {ss : List IS} : kSp F ss (some e) = evSs F ss e := rfl
theorem r_stp1  : stPt (.nm i) d e = stN i ⟨.sh, d⟩ e := rfl
theorem r_stp2 {is : List Nat} {ds : List D} : stPt (.tp is) (.tuple ds) e = stNs is ds e := rfl
theorem r_stp2l {is : List Nat} {ds : List D} : stPt (.tp is) (.list ds) e = stNs is ds e := rfl
theorem r_stepc {el : IE} {pt : Pt} {cs : List IT} {own : List Nat} : stepC F el pt cs own d e = kCp F el cs (stPt pt d (wipeE e own)) := rfl
theorem r_kcp {el : IE} {cs : List IT} : kCp F el cs (some e) = (evC F cs e).bind (kCp2 F el) := rfl
theorem r_kcp4  : kCp4 (some (d, e)) = .ok (some d) e := rfl
theorem r_whl {n : Nat} {t : IT} {ss : List IS} : evS F (.whl n t ss) e = whlL (evT F t) (evSs F ss) n e := rfl
theorem r_ixs  : evS F (.ixset i a b) e = kXs F i a (evE F b e) := rfl
theorem r_kxs {y : Ans} : kXs F i a (.ok y e) = if isOwn e i = true then kXs2 i y (evE F a e) else .no := rfl
theorem r_kxs2 {y z : Ans} : kXs2 i z (.ok y e) = kXs6 i y (fzA z e) := rfl
theorem r_kxs6 {y : Ans} : kXs6 i y (some (d, e)) = kXs3 i d (fzA y e) := rfl
theorem r_kxs3  : kXs3 i dx (some (d, e)) = kXs4 i dx d e e[i]? := rfl
theorem r_kxs41  : kXs4 i dx dy e (some (some ⟨.own, d⟩)) = kXs5 i .own e (ixSet d dy dx) := rfl
theorem r_kxs42  : kXs4 i dx dy e (some (some ⟨.mu, d⟩)) = kXs5 i .mu e (ixSet d dy dx) := rfl
theorem r_kxs5 {o : O} : kXs5 i o e (some d) = .nx (e.set i (some ⟨o, d⟩)) := rfl
theorem r_pass  : evS F .pass e = .nx e := rfl
theorem r_doc  : evS F .doc e = .nx e := rfl
theorem r_brk  : evS F .brk e = .bk e := rfl
theorem r_cont  : evS F .cont e = .ct e := rfl
theorem r_ss0  : evSs F [] e = .nx e := rfl
theorem r_ss1 {s : IS} {ss : List IS} : evSs F (s :: ss) e = kSs F ss (evS F s e) := rfl
theorem r_kss1 {ss : List IS} : kSs F ss (.nx e) = evSs F ss e := rfl
theorem r_kss2 {ss : List IS} : kSs F ss (.rt f d e) = .rt f d e := rfl
theorem r_kss3 {ss : List IS} : kSs F ss (.bk e) = .bk e := rfl
theorem r_kss4 {ss : List IS} : kSs F ss (.ct e) = .ct e := rfl
theorem r_krn1 {ms : List Bool} : kRn ms (.nx e) = kRn2 false .none (lastMs ms 0 e) := rfl
theorem r_krn2 {ms : List Bool} : kRn ms (.rt f d e) = kRn2 f d (lastMs ms 0 e) := rfl
theorem r_krn3 {ds : List D} : kRn2 f d (some ds) = .ok f d ds := rfl
theorem r_lm0  : lastMs [] i e = some [] := rfl
theorem r_lm1 {ms : List Bool} : lastMs (false :: ms) i e = lastMs ms (i + 1) e := rfl
theorem r_lm2 {ms : List Bool} : lastMs (true :: ms) i e = kLm e[i]? (lastMs ms (i + 1) e) := rfl
theorem r_klm {ds : List D} : kLm (some (some ⟨.mu, d⟩)) (some ds) = some (d :: ds) := rfl
theorem p_add {y z : Int} : prim .add [.int y, .int z] = some (false, .int (y + z)) := rfl
theorem p_sub {y z : Int} : prim .sub [.int y, .int z] = some (false, .int (y - z)) := rfl
theorem p_neg {y : Int} : prim .neg [.int y] = some (false, .int (-y)) := rfl
theorem p_lt {y z : Int} : prim .lt [.int y, .int z] = some (false, .bool (decide (y < z))) := rfl
theorem p_le {y z : Int} : prim .le [.int y, .int z] = some (false, .bool (decide (y ≤ z))) := rfl
theorem p_gt {y z : Int} : prim .gt [.int y, .int z] = some (false, .bool (decide (z < y))) := rfl
theorem p_ge {y z : Int} : prim .ge [.int y, .int z] = some (false, .bool (decide (z ≤ y))) := rfl
theorem p_abs {y : Int} : prim .abs [.int y] = some (false, .int (if y < 0 then -y else y)) := rfl
theorem p_min {y z : Int} : prim .min2 [.int y, .int z] = some (false, .int (if z < y then z else y)) := rfl
theorem p_max {y z : Int} : prim .max2 [.int y, .int z] = some (false, .int (if z > y then z else y)) := rfl
theorem p_lenl {ds : List D} : prim .len [.list ds] = some (false, .int ds.length) := rfl
theorem p_lent {ds : List D} : prim .len [.tuple ds] = some (false, .int ds.length) := rfl
theorem p_tupl {ds : List D} : prim .tuple [.list ds] = some (false, .tuple ds) := rfl
theorem p_tupt {ds : List D} : prim .tuple [.tuple ds] = some (false, .tuple ds) := rfl
theorem p_lstl {ds : List D} : prim .list [.list ds] = some (true, .list ds) := rfl
theorem p_lstt {ds : List D} : prim .list [.tuple ds] = some (true, .list ds) := rfl
theorem p_revl {ds : List D} : prim .rev [.list ds] = some (true, .list ds.reverse) := rfl
theorem p_revt {ds : List D} : prim .rev [.tuple ds] = some (false, .tuple ds.reverse) := rfl
theorem p_inti {y : Int} : prim .int [.int y] = some (false, .int y) := rfl
theorem p_isN0  : prim .isN [.none, .none] = some (false, .bool true) := rfl
theorem p_notN0  : prim .notN [.none, .none] = some (false, .bool false) := rfl
theorem sc_none  : isSc .none = true := rfl
theorem sc_bool  : isSc (.bool f) = true := rfl
theorem sc_int {z : Int} : isSc (.int z) = true := rfl
theorem sc_str {z : Str} : isSc (.str z) = true := rfl
theorem sc_list {ds : List D} : isSc (.list ds) = false := rfl
theorem sc_tup {ds : List D} : isSc (.tuple ds) = false := rfl
theorem sc_dict {ds : List (D × D)} : isSc (.dict ds) = false := rfl
theorem t_bool  : truthD (.bool f) = some f := rfl
theorem m_rev {ds : List D} : mtd .reverse (.list ds) [] = some (.list ds.reverse, .none) := rfl
theorem m_clr {ds : List D} : mtd .clear (.list ds) [] = some (.list [], .none) := rfl
theorem ix_l {ds : List D} {z : Int} : pIx (.list ds) (.int z) = atD ds z := rfl
theorem ix_t {ds : List D} {z : Int} : pIx (.tuple ds) (.int z) = atD ds z := rfl
end
theorem sl_small {n : Nat} (h : n ≤ 1000) : (n ≤ sizeLine) = True := eq_true (Nat.le_trans h (by decide))
theorem slt_small {n : Nat} (h : n ≤ 1000) : (n < sizeLine) = True := eq_true (Nat.lt_of_le_of_lt h (by decide))
theorem ss_app {F : List Fn} : ∀ {xs ys : List IS} {e e1 : En}, evSs F xs e = .nx e1 → evSs F (xs ++ ys) e = evSs F ys e1
  | [], ys, e, e1, h => by
    cases h
    rfl
  | x :: xs, ys, e, e1, h => by
    simp only [List.cons_append, r_ss1] at h ⊢
    cases hx : evS F x e with
    | nx e2 =>
      rw [hx] at h
      exact ss_app (xs := xs) h
    | _ => rw [hx] at h; cases h
theorem ss_split {F : List Fn} {b : List IS} {e e1 : En} (n : Nat) (h : evSs F (b.take n) e = .nx e1) : evSs F b e = evSs F (b.drop n) e1 := by
  have := ss_app (ys := b.drop n) h
  rwa [List.take_append_drop] at this
theorem kst_any {i : Nat} {s : Sl} {e : En} {y : Option Sl} (h : ShN y) : kSt i s e (some y) = some (e.set i (some s)) := by
  rcases h with rfl | ⟨d, rfl⟩ <;> rfl
/-- a slot that may be stored anew -/
def StN (y : Option Sl) : Prop := y = none ∨ ∃ o d, y = some ⟨o, d⟩ ∧ o ≠ .mu
theorem stn0 : StN none := .inl rfl
theorem stn_sh {d : D} : StN (some ⟨.sh, d⟩) := .inr ⟨_, d, rfl, by decide⟩
theorem stn_own {d : D} : StN (some ⟨.own, d⟩) := .inr ⟨_, d, rfl, by decide⟩
theorem kst_st {i : Nat} {s : Sl} {e : En} {y : Option Sl} (h : StN y) : kSt i s e (some y) = some (e.set i (some s)) := by
  rcases h with rfl | ⟨o, d, rfl, h⟩
  · rfl
  · cases o
    · rfl
    · rfl
    · exact absurd rfl h
theorem p_mod {y z : Int} (h : 0 < z) : prim .mod [.int y, .int z] = some (false, .int (y % z)) := if_pos h
theorem p_fdiv {y z : Int} (h : 0 < z) (h2 : z < 1073741824) : prim .fdiv [.int y, .int z] = some (false, .int (y / z)) := if_pos ⟨h, h2⟩
theorem p_mul1 {y z : Int} (h : -18446744073709551616 < y) (h2 : y < 18446744073709551616) : prim .mul [.int y, .int z] = some (false, .int (y * z)) := by
  show (if okMul y z = true then io (y * z) else none) = _
  rw [if_pos]
  · rfl
  · unfold okMul
    rw [decide_eq_true (show -(2 ^ 64) < y by omega), decide_eq_true (show y < 2 ^ 64 by omega)]
    rfl
theorem p_mul2 {y z : Int} (h : -18446744073709551616 < z) (h2 : z < 18446744073709551616) : prim .mul [.int y, .int z] = some (false, .int (y * z)) := by
  show (if okMul y z = true then io (y * z) else none) = _
  rw [if_pos]
  · rfl
  · unfold okMul
    rw [decide_eq_true (show -(2 ^ 64) < z by omega), decide_eq_true (show z < 2 ^ 64 by omega)]
    simp
theorem p_pow {y z : Int} (h : 0 ≤ z) (h2 : z ≤ 1000000) (h3 : -18446744073709551616 < y) (h4 : y < 18446744073709551616) : prim .pow [.int y, .int z] = some (false, .int (y ^ z.toNat)) :=
  if_pos ⟨h, h2, by omega⟩
theorem p_eq {x y : D} (h1 : SeqAt.shaped x = true) (h2 : SeqAt.shaped y = true) : prim .eq [x, y] = some (false, .bool (PyData.eqv x y)) := by
  show (if (SeqAt.shaped x && SeqAt.shaped y) = true then bo (PyData.eqv x y) else none) = _
  rw [h1, h2]
  rfl
theorem p_ne {x y : D} (h1 : SeqAt.shaped x = true) (h2 : SeqAt.shaped y = true) : prim .ne [x, y] = some (false, .bool (!PyData.eqv x y)) := by
  show (if (SeqAt.shaped x && SeqAt.shaped y) = true then bo (!PyData.eqv x y) else none) = _
  rw [h1, h2]
  rfl
theorem p_catl {xs ys : List D} (h : xs.length + ys.length ≤ sizeLine) : prim .add [.list xs, .list ys] = some (true, .list (xs ++ ys)) := if_pos h
theorem p_catt {xs ys : List D} (h : xs.length + ys.length ≤ sizeLine) : prim .add [.tuple xs, .tuple ys] = some (false, .tuple (xs ++ ys)) := if_pos h
theorem m_app {xs : List D} {y : D} (h : xs.length < sizeLine) : mtd .append (.list xs) [y] = some (.list (xs ++ [y]), .none) := if_pos h
theorem m_ext {xs ys : List D} (h : xs.length + ys.length ≤ sizeLine) : mtd .extend (.list xs) [.list ys] = some (.list (xs ++ ys), .none) := if_pos h
theorem rng0 {z : Int} (h0 : 0 ≤ z) (h : z < 4611686018427387904) : rngD 0 z = some ((List.range z.toNat).map fun (k : Nat) => .int (k : Int)) := by
  unfold rngD
  rw [if_pos ⟨by decide, by decide, by omega, h⟩, Int.sub_zero]
  congr 2
  funext k
  rw [Int.zero_add]
theorem sts1 {e : En} {i : Nat} {is : List Nat} {d : D} {ds : List D} : stNs (i :: is) (d :: ds) e = (stN i ⟨.sh, d⟩ e).bind (stNs is ds) := by
  simp only [stNs]
  cases stN i ⟨.sh, d⟩ e <;> rfl
theorem obind_some {α β : Type} {x : α} {f : α → Option β} : (some x).bind f = f x := rfl
theorem runF_eq {F : List Fn} {modes : List Bool} {n : Nat} {body : List IS} {ds : List D} (h : ds.length = modes.length) (h2 : modes.length ≤ n) : runF F modes n body ds = kRn modes (evSs F body (startE modes ds n)) := by
  unfold runF
  rw [if_pos ⟨h, h2⟩]
  cases evSs F body (startE modes ds n) <;> rfl
theorem whl_step {c : En → Rs Bool} {b : En → Ou} {n : Nat} {e : En} : whlL c b (n + 1) e = kWc c b n (c e) := by
  simp only [whlL]
  cases c e with
  | no => rfl
  | ex _ _ _ => rfl
  | ok t e1 =>
    cases t
    · rfl
    · show (match b e1 with | .nx e2 => _ | .ct e2 => _ | .bk e2 => _ | r => _) = kWh c b n (b e1)
      cases b e1 <;> rfl
end PD
local macro_rules | `(tactic| dsimp! only [$ts,*] $[$loc:location]?) => `(tactic| simp -implicitDefEqProofs only [_root_.PD.r_rd_v, _root_.PD.r_rd_p, _root_.PD.r_krd, _root_.PD.r_rds0, _root_.PD.r_rds, _root_.PD.r_kco, _root_.PD.r_pr, _root_.PD.r_kpr, _root_.PD.r_kpr2, _root_.PD.r_var, _root_.PD.r_kvar1, _root_.PD.r_kvar2, _root_.PD.r_kvar3, _root_.PD.r_lit, _root_.PD.r_gl, _root_.PD.r_un, _root_.PD.r_bi, _root_.PD.r_cm, _root_.PD.r_chn, _root_.PD.r_kch3t, _root_.PD.r_kch3f, _root_.PD.r_and, _root_.PD.r_or, _root_.PD.r_and1, _root_.PD.r_and2, _root_.PD.r_or1, _root_.PD.r_or2, _root_.PD.r_kan2t, _root_.PD.r_kan2f, _root_.PD.r_kor2t, _root_.PD.r_kor2f, _root_.PD.r_not, _root_.PD.r_kno2, _root_.PD.r_ite, _root_.PD.r_tup, _root_.PD.r_lst, _root_.PD.r_ktu2, _root_.PD.r_kls2, _root_.PD.r_dic, _root_.PD.r_kdi2, _root_.PD.r_dnewk, _root_.PD.r_dnewt, _root_.PD.r_ix, _root_.PD.r_kix3, _root_.PD.r_kix4, _root_.PD.r_sl, _root_.PD.r_ksl4l, _root_.PD.r_ksl4t, _root_.PD.r_fn, _root_.PD.r_isI, _root_.PD.r_kis2, _root_.PD.r_call, _root_.PD.r_kcl2, _root_.PD.r_calla, _root_.PD.r_kca2, _root_.PD.r_kca3, _root_.PD.r_kca4, _root_.PD.r_kca5, _root_.PD.r_arg0, _root_.PD.r_arg, _root_.PD.r_kar1, _root_.PD.r_kar2, _root_.PD.r_kar3, _root_.PD.r_kar4, _root_.PD.r_kar5, _root_.PD.r_kar6, _root_.PD.r_nomix0, _root_.PD.r_nomix1, _root_.PD.r_pm0, _root_.PD.r_pm1, _root_.PD.r_kpm, _root_.PD.r_sh0, _root_.PD.r_sh1, _root_.PD.r_ksh1, _root_.PD.r_ksh2, _root_.PD.r_fz_v, _root_.PD.r_fz_p, _root_.PD.r_kfz1, _root_.PD.r_kfz2, _root_.PD.r_fzs0, _root_.PD.r_fzs1, _root_.PD.r_kfs, _root_.PD.r_kfs3, _root_.PD.r_isL, _root_.PD.r_kisl1, _root_.PD.r_kisl2, _root_.PD.r_isO, _root_.PD.r_kiso1, _root_.PD.r_kiso2, _root_.PD.r_mt, _root_.PD.r_kmt2, _root_.PD.r_kmt31, _root_.PD.r_kmt32, _root_.PD.r_kmt4, _root_.PD.r_es0, _root_.PD.r_es1, _root_.PD.r_o0, _root_.PD.r_o1, _root_.PD.r_ko2, _root_.PD.r_tv, _root_.PD.r_ktv2, _root_.PD.r_ktv3, _root_.PD.r_tcm, _root_.PD.r_tchn, _root_.PD.r_ktb, _root_.PD.r_tnot, _root_.PD.r_tand, _root_.PD.r_tor, _root_.PD.r_ta0, _root_.PD.r_ta1, _root_.PD.r_to0, _root_.PD.r_to1, _root_.PD.r_c0, _root_.PD.r_c1, _root_.PD.r_seq, _root_.PD.r_ksq2, _root_.PD.r_ksq3, _root_.PD.r_rng, _root_.PD.r_krg2, _root_.PD.r_rr, _root_.PD.r_krr3, _root_.PD.r_enum, _root_.PD.r_ken2, _root_.PD.r_ken3, _root_.PD.r_zip, _root_.PD.r_kzi4, _root_.PD.r_kzi3l, _root_.PD.r_kzi3t, _root_.PD.r_kzi3m, _root_.PD.r_seqdl, _root_.PD.r_seqdt, _root_.PD.r_set, _root_.PD.r_kse1, _root_.PD.r_kse2, _root_.PD.r_kse3, _root_.PD.r_kse4, _root_.PD.r_knx, _root_.PD.r_st, _root_.PD.r_kst1, _root_.PD.r_kst2, _root_.PD.r_kst3, _root_.PD.r_sts0, _root_.PD.r_unp, _root_.PD.r_kup, _root_.PD.r_kup2, _root_.PD.r_kup2l, _root_.PD.r_exp, _root_.PD.r_kex, _root_.PD.r_ret, _root_.PD.r_krt1, _root_.PD.r_krt2, _root_.PD.r_krt3, _root_.PD.r_retn, _root_.PD.r_iff, _root_.PD.r_kif1, _root_.PD.r_kif2, _root_.PD.r_forr, _root_.PD.r_kfo, _root_.PD.r_step, _root_.PD.r_ksp, _root_.PD.r_stp1, _root_.PD.r_stp2, _root_.PD.r_stp2l, _root_.PD.r_stepc, _root_.PD.r_kcp, _root_.PD.r_kcp4, _root_.PD.r_whl, _root_.PD.r_ixs, _root_.PD.r_kxs, _root_.PD.r_kxs2, _root_.PD.r_kxs6, _root_.PD.r_kxs3, _root_.PD.r_kxs41, _root_.PD.r_kxs42, _root_.PD.r_kxs5, _root_.PD.r_pass, _root_.PD.r_doc, _root_.PD.r_brk, _root_.PD.r_cont, _root_.PD.r_ss0, _root_.PD.r_ss1, _root_.PD.r_kss1, _root_.PD.r_kss2, _root_.PD.r_kss3, _root_.PD.r_kss4, _root_.PD.r_krn1, _root_.PD.r_krn2, _root_.PD.r_krn3, _root_.PD.r_lm0, _root_.PD.r_lm1, _root_.PD.r_lm2, _root_.PD.r_klm, _root_.PD.p_add, _root_.PD.p_sub, _root_.PD.p_neg, _root_.PD.p_lt, _root_.PD.p_le, _root_.PD.p_gt, _root_.PD.p_ge, _root_.PD.p_abs, _root_.PD.p_min, _root_.PD.p_max, _root_.PD.p_lenl, _root_.PD.p_lent, _root_.PD.p_tupl, _root_.PD.p_tupt, _root_.PD.p_lstl, _root_.PD.p_lstt, _root_.PD.p_revl, _root_.PD.p_revt, _root_.PD.p_inti, _root_.PD.p_isN0, _root_.PD.p_notN0, _root_.PD.sc_none, _root_.PD.sc_bool, _root_.PD.sc_int, _root_.PD.sc_str, _root_.PD.sc_list, _root_.PD.sc_tup, _root_.PD.sc_dict, _root_.PD.t_bool, _root_.PD.m_rev, _root_.PD.m_clr, _root_.PD.ix_l, _root_.PD.ix_t, _root_.PD.kBi2, _root_.PD.kBi, _root_.PD.kUn, _root_.PD.kCh2, _root_.PD.kCh, _root_.PD.kAn, _root_.PD.kOr, _root_.PD.kNo, _root_.PD.kIt, _root_.PD.kTu, _root_.PD.kLs, _root_.PD.kDi, _root_.PD.kIx2, _root_.PD.kIx, _root_.PD.kSl3, _root_.PD.kSl2, _root_.PD.kSl, _root_.PD.kFn, _root_.PD.kIs, _root_.PD.kCl, _root_.PD.kMt, _root_.PD.kEs2, _root_.PD.kEs, _root_.PD.kO, _root_.PD.kTv, _root_.PD.kTn, _root_.PD.kTA, _root_.PD.kTO, _root_.PD.kTC, _root_.PD.kSq, _root_.PD.kRg, _root_.PD.kRr2, _root_.PD.kRr, _root_.PD.kEn, _root_.PD.kZi2, _root_.PD.kZi, _root_.PD.kCp3, _root_.PD.kCp2, _root_.PD.sl_small, _root_.PD.slt_small, _root_.PD.kst_any, _root_.PD.kst_st, _root_.PD.p_mod, _root_.PD.p_fdiv, _root_.PD.p_mul1, _root_.PD.p_mul2, _root_.PD.p_pow, _root_.PD.p_eq, _root_.PD.p_ne, _root_.PD.p_catl, _root_.PD.p_catt, _root_.PD.m_app, _root_.PD.m_ext, _root_.PD.rng0, _root_.PD.sts1, _root_.PD.obind_some, _root_.PD.rsbind_ok, List.getElem?_cons_zero, List.getElem?_cons_succ, List.set_cons_zero, List.set_cons_succ, List.map_nil, List.append_nil, List.nil_append, List.cons_append, if_true, if_false, ite_true, ite_false, Bool.false_eq_true, reduceIte, List.length_cons, List.length_nil, List.any_nil, List.any_cons, Bool.and_true, Bool.true_and, Bool.and_false, Bool.false_and, Bool.not_true, Bool.not_false, Bool.or_false, Bool.or_true, Bool.true_or, Bool.false_or, List.isEmpty_nil, List.isEmpty_cons, _root_.PD.wipeE, _root_.PD.startE, Nat.zero_add, Nat.reduceAdd, Nat.reduceSub, Nat.reduceLeDiff, Nat.le_refl, List.replicate_succ, List.replicate_zero, List.zipWith_cons_cons, List.zipWith_nil_left, List.zipWith_nil_right, Nat.reduceBEq, Nat.reduceEqDiff, decide_true, decide_false, Int.reduceLT, Int.reduceLE, Int.reduceNeg, Int.reduceToNat, Nat.reduceLT, List.take_succ_cons, List.take_zero, List.drop_succ_cons, List.drop_zero, eq_self, Int.reduceEq, $ts,*] $[$loc:location]?)

/-! PM1: the pen that draws, rooms. -/
namespace CM
open PySem PD
def penD (cs : List Int) (a l : Int) : D := .dict [(.str "cells", .list (cs.map .int)), (.str "at", .int a), (.str "left", .int l)]
theorem kne3 : decide (("at" : Str) = "left") = false := by decide +kernel
theorem kne4 : decide (("left" : Str) = "at") = false := by decide +kernel
def Pen (b : Int) (d : D) : Prop := ∃ (cs : List Int) (a l : Int), d = penD cs a l ∧ 0 ≤ a ∧ a ≤ b ∧ 0 ≤ l ∧ cs.length ≤ 63
theorem Pen.mono {b c : Int} {d : D} (h : Pen b d) (hb : b ≤ c) : Pen c d := by
  obtain ⟨cs, a, l, h1, h2, h3, h4⟩ := h
  exact ⟨cs, a, l, h1, h2, by omega, h4⟩
theorem Pen.sc {b : Int} {d : D} (h : Pen b d) : isSc d = false := by
  obtain ⟨cs, a, l, rfl, _⟩ := h
  rfl
theorem atD_int {cs : List Int} {i : Int} (h0 : 0 ≤ i) (h1 : i < cs.length) : ∃ z, atD (cs.map .int) i = some (.int z) ∧ z ∈ cs := by
  unfold atD
  rw [if_pos h0, List.getElem?_map, List.getElem?_eq_getElem (by omega)]
  exact ⟨_, rfl, List.getElem_mem _⟩
def prodI (ns : List Int) : Int := ns.foldl (· * ·) 1
theorem size_sem {ns : List Int} (h : ∀ n ∈ ns, 0 < n ∧ n < 1000000) : f__law_size.sem [.tuple (ns.map .int)] = .ok false (.int (prodI ns)) [] := by
  rw [e__law_size, runF_eq rfl (by decide)]
  unfold b__law_size
  dsimp! only []
  have loop : ∀ (ms : List Int) (z : Int) (y : Option Sl), (∀ n ∈ ms, 0 < n ∧ n < 1000000) → (y = none ∨ ∃ d, y = some ⟨.sh, d⟩) → ∃ y', forL (stepF [] (.nm 2) [.set 1 (.bi .mul (.var 1) (.var 2))]) (ms.map .int) [some ⟨.sh, .tuple (ns.map .int)⟩, some ⟨.sh, .int z⟩, y] = .nx [some ⟨.sh, .tuple (ns.map .int)⟩, some ⟨.sh, .int (ms.foldl (· * ·) z)⟩, y'] := by
    intro ms
    induction ms with
    | nil => exact fun z y _ _ => ⟨y, rfl⟩
    | cons m ms ih =>
      intro z y hm hy
      have h1 := hm m List.mem_cons_self
      have h2 : -18446744073709551616 < m := by omega
      have h3 : m < 18446744073709551616 := by omega
      obtain ⟨y', e⟩ := ih (z * m) (some ⟨.sh, .int m⟩) (fun n hn => hm n (List.mem_cons_of_mem _ hn)) (.inr ⟨_, rfl⟩)
      refine ⟨y', ?_⟩
      rcases hy with rfl | ⟨d, rfl⟩ <;> (simp only [List.map_cons, forL]; dsimp! only [h2, h3, e, List.foldl_cons])
  obtain ⟨y', e⟩ := loop ns 1 none h (.inl rfl)
  dsimp! only [e]
  rfl
end CM

/-! PM2: rooms and their standings, plainly. -/
namespace CM
open PySem PD
def tupI (ns : List Int) : D := .tuple (ns.map .int)
/-- worths of a rank, last box first -/
def digs : List Int → Int → List Int
  | [], _ => []
  | m :: ms, r => r % m :: digs ms (r / m)
def stn (room : List Int) (r : Int) : List Int := (digs room.reverse r).reverse
theorem digs_len : ∀ (R : List Int) (r : Int), (digs R r).length = R.length
  | [], _ => rfl
  | m :: R, r => by simp only [digs, List.length_cons, digs_len R]
theorem stn_len (room : List Int) (r : Int) : (stn room r).length = room.length := by
  unfold stn
  rw [List.length_reverse, digs_len, List.length_reverse]
theorem stn_snoc (room : List Int) (m r : Int) : stn (room ++ [m]) r = stn room (r / m) ++ [r % m] := by
  unfold stn
  rw [List.reverse_append]
  show (digs (m :: room.reverse) r).reverse = _
  rw [digs, List.reverse_cons]
theorem prodI_from (ns : List Int) : ∀ z : Int, ns.foldl (· * ·) z = z * prodI ns := by
  unfold prodI
  induction ns with
  | nil => intro z; simp
  | cons n ns ih =>
    intro z
    simp only [List.foldl_cons]
    rw [ih (z * n), ih (1 * n), Int.one_mul, Int.mul_assoc]
theorem prodI_snoc (ns : List Int) (m : Int) : prodI (ns ++ [m]) = prodI ns * m := by
  unfold prodI
  rw [List.foldl_append]
  rfl
theorem prodI_cons (ns : List Int) (m : Int) : prodI (m :: ns) = m * prodI ns := by
  show (m :: ns).foldl (· * ·) 1 = _
  rw [List.foldl_cons, prodI_from, Int.one_mul]
theorem prodI_pos : ∀ {ns : List Int}, (∀ n ∈ ns, 0 < n) → 0 < prodI ns
  | [], _ => by decide
  | n :: ns, h => by
    rw [prodI_cons]
    exact Int.mul_pos (h n List.mem_cons_self) (prodI_pos fun x hx => h x (List.mem_cons_of_mem _ hx))
/-- induction from the end -/
theorem snoc_ind {P : List Int → Prop} (h0 : P []) (hs : ∀ ns m, P ns → P (ns ++ [m])) : ∀ ns, P ns := by
  intro ns
  have : ∀ R : List Int, P R.reverse := by
    intro R
    induction R with
    | nil => exact h0
    | cons m R ih =>
      rw [List.reverse_cons]
      exact hs _ _ ih
  have := this ns.reverse
  rwa [List.reverse_reverse] at this
def allS (room : List Int) : List (List Int) := (List.range (prodI room).toNat).map fun (k : Nat) => stn room (k : Int)
def exts (S : List (List Int)) (m : Int) : List (List Int) := S.flatMap fun o => (List.range m.toNat).map fun (w : Nat) => o ++ [(w : Int)]
theorem range_mul (p m : Nat) : List.range (p * m) = (List.range p).flatMap fun q => (List.range m).map fun w => q * m + w := by
  induction p with
  | zero => simp
  | succ p ih =>
    rw [Nat.succ_mul, List.range_add, ih, List.range_succ, List.flatMap_append]
    simp
theorem all_snoc {room : List Int} {m : Int} (hr : ∀ n ∈ room, 0 < n) (hm : 0 < m) : allS (room ++ [m]) = exts (allS room) m := by
  have hp := prodI_pos hr
  unfold allS exts
  rw [prodI_snoc]
  have e : (prodI room * m).toNat = (prodI room).toNat * m.toNat := by
    have h1 : ((prodI room).toNat : Int) = prodI room := Int.toNat_of_nonneg (by omega)
    have h2 : (m.toNat : Int) = m := Int.toNat_of_nonneg (by omega)
    apply Int.ofNat.inj
    show ((prodI room * m).toNat : Int) = (((prodI room).toNat * m.toNat : Nat) : Int)
    rw [Int.natCast_mul, h1, h2, Int.toNat_of_nonneg (Int.mul_nonneg (by omega) (by omega))]
  rw [e, range_mul, List.map_flatMap, List.flatMap_map]
  congr 1
  funext q
  rw [List.map_map]
  refine List.map_congr_left fun w hw => ?_
  have hw' : w < m.toNat := List.mem_range.mp hw
  show stn (room ++ [m]) ((q * m.toNat + w : Nat) : Int) = stn room (q : Int) ++ [(w : Int)]
  rw [stn_snoc]
  have h2 : (m.toNat : Int) = m := Int.toNat_of_nonneg (by omega)
  have e1 : ((q * m.toNat + w : Nat) : Int) = (w : Int) + (q : Int) * m := by
    rw [Int.natCast_add, Int.natCast_mul, h2, Int.add_comm]
  rw [e1, Int.add_mul_ediv_right _ _ (by omega), Int.add_mul_emod_self_right, Int.ediv_eq_zero_of_lt (by omega) (by omega), Int.emod_eq_of_lt (by omega) (by omega), Int.zero_add]
/-- a worth for each box -/
def InRoom : List Int → List Int → Prop
  | [], [] => True
  | n :: ns, w :: ws => 0 ≤ w ∧ w < n ∧ InRoom ns ws
  | _, _ => False
theorem inRoom_app : ∀ {a b c d : List Int}, InRoom a b → InRoom c d → InRoom (a ++ c) (b ++ d)
  | [], [], _, _, _, h => h
  | _ :: _, _ :: _, _, _, ⟨h1, h2, h3⟩, h => ⟨h1, h2, inRoom_app h3 h⟩
theorem InRoom.len : ∀ {a b : List Int}, InRoom a b → b.length = a.length
  | [], [], _ => rfl
  | _ :: _, _ :: _, ⟨_, _, h⟩ => by rw [List.length_cons, List.length_cons, InRoom.len h]
theorem InRoom.at : ∀ {a b : List Int}, InRoom a b → ∀ (i : Nat) (n w : Int), a[i]? = some n → b[i]? = some w → 0 ≤ w ∧ w < n
  | _ :: _, _ :: _, ⟨h1, h2, h3⟩, 0, n, w, e1, e2 => by
    simp at e1 e2
    subst e1 e2
    exact ⟨h1, h2⟩
  | _ :: _, _ :: _, ⟨h1, h2, h3⟩, i + 1, n, w, e1, e2 => InRoom.at h3 i n w (by simpa using e1) (by simpa using e2)
  | [], _, _, i, n, w, e1, e2 => by simp at e1
theorem InRoom.set : ∀ {a b : List Int}, InRoom a b → ∀ (i : Nat) (n w : Int), a[i]? = some n → 0 ≤ w → w < n → InRoom a (b.set i w)
  | _ :: _, _ :: _, ⟨h1, h2, h3⟩, 0, n, w, e, h4, h5 => by
    simp at e
    subst e
    exact ⟨h4, h5, h3⟩
  | _ :: _, _ :: _, ⟨h1, h2, h3⟩, i + 1, n, w, e, h4, h5 => ⟨h1, h2, InRoom.set h3 i n w (by simpa using e) h4 h5⟩
  | [], [], _, i, n, w, e, _, _ => by simp at e
theorem stn_in : ∀ (room : List Int), (∀ n ∈ room, 0 < n) → ∀ r, InRoom room (stn room r) := by
  refine snoc_ind (fun _ _ => trivial) fun ns m ih h r => ?_
  rw [stn_snoc]
  have hm := h m (by simp)
  exact inRoom_app (ih (fun n hn => h n (List.mem_append_left _ hn)) _) ⟨Int.emod_nonneg _ (by omega), Int.emod_lt_of_pos _ hm, trivial⟩
def numI : Int → List Int → List Int → Int
  | z, n :: ns, w :: ws => numI (z * n + w) ns ws
  | z, _, _ => z
theorem numI_snoc : ∀ {a b : List Int} (z n w : Int), b.length = a.length → numI z (a ++ [n]) (b ++ [w]) = numI z a b * n + w
  | [], [], z, n, w, _ => rfl
  | x :: a, y :: b, z, n, w, h => by
    simp only [List.cons_append, numI]
    exact numI_snoc _ _ _ (by simpa using h)
  | [], _ :: _, _, _, _, h => by simp at h
  | _ :: _, [], _, _, _, h => by simp at h
theorem num_stn : ∀ (room : List Int), (∀ n ∈ room, 0 < n) → ∀ r, 0 ≤ r → r < prodI room → numI 0 room (stn room r) = r := by
  refine snoc_ind (fun _ r h0 h1 => ?_) fun ns m ih h r h0 h1 => ?_
  · have : prodI [] = 1 := rfl
    show (0 : Int) = r
    omega
  · have hm := h m (by simp)
    rw [stn_snoc, numI_snoc _ _ _ (stn_len _ _), ih (fun n hn => h n (List.mem_append_left _ hn)) _ (Int.ediv_nonneg h0 (by omega)) ?_]
    · rw [Int.mul_comm]
      exact Int.mul_ediv_add_emod r m
    · rw [prodI_snoc] at h1
      exact Int.ediv_lt_of_lt_mul hm h1
end CM

/-! PM3: what is of good shape for ==; the defs about rooms. -/
namespace CM
open PySem PD
def Shp (k : Nat) (d : D) : Prop := d.canLay0 = true ∧ d.depth ≤ k
theorem shp_all {k : Nat} : ∀ {ds : List D}, (∀ d ∈ ds, Shp k d) → PyData.canLayAll0 ds = true ∧ PyData.depthAll ds ≤ k
  | [], _ => ⟨rfl, Nat.zero_le _⟩
  | d :: ds, h => by
    obtain ⟨h1, h2⟩ := h d List.mem_cons_self
    obtain ⟨h3, h4⟩ := shp_all fun x hx => h x (List.mem_cons_of_mem _ hx)
    refine ⟨by rw [PyData.canLayAll0, h1, h3]; rfl, ?_⟩
    rw [PyData.depthAll]
    omega
theorem shp_int {k : Nat} {i : Int} (h : 1 ≤ k) : Shp k (.int i) := ⟨rfl, by rw [PyData.depth]; omega⟩
theorem shp_list {k : Nat} {ds : List D} (h : ∀ d ∈ ds, Shp k d) : Shp (k + 1) (.list ds) := by
  obtain ⟨h1, h2⟩ := shp_all h
  refine ⟨by rw [PyData.canLay0]; exact h1, ?_⟩
  rw [PyData.depth]
  omega
theorem shp_tup {k : Nat} {ds : List D} (h : ∀ d ∈ ds, Shp k d) : Shp (k + 1) (.tuple ds) := by
  obtain ⟨h1, h2⟩ := shp_all h
  refine ⟨by rw [PyData.canLay0]; exact h1, ?_⟩
  rw [PyData.depth]
  omega
theorem Shp.ok {k : Nat} {d : D} (h : Shp k d) (hk : k ≤ 64) : SeqAt.shaped d = true := by
  unfold SeqAt.shaped
  rw [h.1, decide_eq_true (Nat.le_trans h.2 hk)]
  rfl
theorem shp_tupI {k : Nat} {ns : List Int} (h : 1 ≤ k) : Shp (k + 1) (tupI ns) := shp_tup fun d hd => by
  obtain ⟨n, _, rfl⟩ := List.mem_map.mp hd
  exact shp_int h
theorem sh_int {i : Int} : SeqAt.shaped (.int i) = true := (shp_int (k := 1) (Nat.le_refl 1)).ok (by decide)
theorem sh_tupI {ns : List Int} : SeqAt.shaped (tupI ns) = true := (shp_tupI (k := 1) (Nat.le_refl 1)).ok (by decide)
theorem eqv_int {i j : Int} : PyData.eqv (.int i) (.int j) = decide (i = j) := by
  rw [PyData.eqv]
  by_cases h : i = j
  · subst h
    simp
  · rw [decide_eq_false h]
    exact beq_eq_false_iff_ne.mpr h
theorem eqvAll_int : ∀ {ns ms : List Int}, PyData.eqvAll (ns.map .int) (ms.map .int) = decide (ns = ms)
  | [], [] => by simp [PyData.eqvAll]
  | [], _ :: _ => by simp [PyData.eqvAll]
  | _ :: _, [] => by simp [PyData.eqvAll]
  | n :: ns, m :: ms => by
    rw [List.map_cons, List.map_cons, PyData.eqvAll, eqv_int, eqvAll_int]
    by_cases h : n = m
    · subst h
      simp
    · simp [h]
theorem eqv_tupI {ns ms : List Int} : PyData.eqv (tupI ns) (tupI ms) = decide (ns = ms) := by
  unfold tupI
  rw [PyData.eqv]
  exact eqvAll_int
theorem intsOf_map : ∀ ns : List Int, intsOf (ns.map .int) = some ns
  | [] => rfl
  | n :: ns => by
    rw [List.map_cons, intsOf, intsOf_map ns]
theorem p_ltt {ns ms : List Int} : prim .lt [tupI ns, tupI ms] = some (false, .bool (HT.lexLt ns ms)) := by
  show pLt (.tuple (ns.map .int)) (.tuple (ms.map .int)) = _
  show (match intsOf (ns.map .int), intsOf (ms.map .int) with | some ns, some ms => bo (HT.lexLt ns ms) | _, _ => none) = _
  rw [intsOf_map, intsOf_map]
  rfl
theorem isBools_map : ∀ bs : List Bool, isBools (bs.map .bool) = some bs
  | [] => rfl
  | b :: bs => by
    rw [List.map_cons, isBools, isBools_map bs]
theorem p_all {bs : List Bool} : prim .all [.list (bs.map .bool)] = some (false, .bool (bs.all id)) := by
  show (match isBools (bs.map .bool) with | some bs => bo (bs.all id) | none => none) = _
  rw [isBools_map]
  rfl
theorem ti_sc {ns : List Int} : isSc (tupI ns) = false := rfl
theorem ti_seq {ns : List Int} : seqD (tupI ns) = some (ns.map .int) := rfl
theorem ti_ix {ns : List Int} {z : Int} : pIx (tupI ns) (.int z) = atD (ns.map .int) z := rfl
theorem ti_len {ns : List Int} : prim .len [tupI ns] = some (false, .int ns.length) := by
  show io (ns.map PyData.int).length = _
  rw [List.length_map]
  rfl
theorem ti_rev {ns : List Int} : prim .rev [tupI ns] = some (false, tupI ns.reverse) := by
  unfold tupI
  rw [List.map_reverse]
  rfl
theorem ti_kt {ns : List Int} : kindOf .tuple (tupI ns) = true := rfl
theorem ti_ki {i : Int} : kindOf .int (.int i) = true := rfl
theorem ti_kb {i : Int} : kindOf .bool (.int i) = false := rfl
theorem ti_kl {ds : List D} : kindOf .list (.list ds) = true := rfl
theorem ti_zip {ns ms : List Int} {e : En} : kZi3 (tupI ns) (some (tupI ms, e)) = .ok ((ns.zip ms).map fun p => .tuple [.int p.1, .int p.2]) e := by
  show Rs.ok (zipD (ns.map .int) (ms.map .int)) e = _
  congr 1
  unfold zipD
  induction ns generalizing ms with
  | nil => rfl
  | cons n ns ih =>
    cases ms with
    | nil => rfl
    | cons m ms =>
      simp only [List.map_cons, List.zipWith_cons_cons, List.zip_cons_cons]
      rw [ih]
theorem ti_tup {ns : List Int} : prim .tuple [.list (ns.map .int)] = some (false, tupI ns) := rfl
theorem sl_eq : sizeLine = 16777216 := sizeLine_eq
/-- a room: two to four worths a box, not too many standings -/
structure Room (most : Int) (ns : List Int) : Prop where
  ne : ns ≠ []
  len : ns.length ≤ 8
  two : ∀ n ∈ ns, 2 ≤ n ∧ n ≤ 4
  prod : prodI ns ≤ most
theorem Room.pos {most : Int} {ns : List Int} (h : Room most ns) : ∀ n ∈ ns, 0 < n := fun n hn => by
  have := h.two n hn
  omega
end CM
local macro_rules | `(tactic| simp! only [$ts,*] $[$loc:location]?) => `(tactic| simp -implicitDefEqProofs only [_root_.PD.r_rd_v, _root_.PD.r_rd_p, _root_.PD.r_krd, _root_.PD.r_rds0, _root_.PD.r_rds, _root_.PD.r_kco, _root_.PD.r_pr, _root_.PD.r_kpr, _root_.PD.r_kpr2, _root_.PD.r_var, _root_.PD.r_kvar1, _root_.PD.r_kvar2, _root_.PD.r_kvar3, _root_.PD.r_lit, _root_.PD.r_gl, _root_.PD.r_un, _root_.PD.r_bi, _root_.PD.r_cm, _root_.PD.r_chn, _root_.PD.r_kch3t, _root_.PD.r_kch3f, _root_.PD.r_and, _root_.PD.r_or, _root_.PD.r_and1, _root_.PD.r_and2, _root_.PD.r_or1, _root_.PD.r_or2, _root_.PD.r_kan2t, _root_.PD.r_kan2f, _root_.PD.r_kor2t, _root_.PD.r_kor2f, _root_.PD.r_not, _root_.PD.r_kno2, _root_.PD.r_ite, _root_.PD.r_tup, _root_.PD.r_lst, _root_.PD.r_ktu2, _root_.PD.r_kls2, _root_.PD.r_dic, _root_.PD.r_kdi2, _root_.PD.r_dnewk, _root_.PD.r_dnewt, _root_.PD.r_ix, _root_.PD.r_kix3, _root_.PD.r_kix4, _root_.PD.r_sl, _root_.PD.r_ksl4l, _root_.PD.r_ksl4t, _root_.PD.r_fn, _root_.PD.r_isI, _root_.PD.r_kis2, _root_.PD.r_call, _root_.PD.r_kcl2, _root_.PD.r_calla, _root_.PD.r_kca2, _root_.PD.r_kca3, _root_.PD.r_kca4, _root_.PD.r_kca5, _root_.PD.r_arg0, _root_.PD.r_arg, _root_.PD.r_kar1, _root_.PD.r_kar2, _root_.PD.r_kar3, _root_.PD.r_kar4, _root_.PD.r_kar5, _root_.PD.r_kar6, _root_.PD.r_nomix0, _root_.PD.r_nomix1, _root_.PD.r_pm0, _root_.PD.r_pm1, _root_.PD.r_kpm, _root_.PD.r_sh0, _root_.PD.r_sh1, _root_.PD.r_ksh1, _root_.PD.r_ksh2, _root_.PD.r_fz_v, _root_.PD.r_fz_p, _root_.PD.r_kfz1, _root_.PD.r_kfz2, _root_.PD.r_fzs0, _root_.PD.r_fzs1, _root_.PD.r_kfs, _root_.PD.r_kfs3, _root_.PD.r_isL, _root_.PD.r_kisl1, _root_.PD.r_kisl2, _root_.PD.r_isO, _root_.PD.r_kiso1, _root_.PD.r_kiso2, _root_.PD.r_mt, _root_.PD.r_kmt2, _root_.PD.r_kmt31, _root_.PD.r_kmt32, _root_.PD.r_kmt4, _root_.PD.r_es0, _root_.PD.r_es1, _root_.PD.r_o0, _root_.PD.r_o1, _root_.PD.r_ko2, _root_.PD.r_tv, _root_.PD.r_ktv2, _root_.PD.r_ktv3, _root_.PD.r_tcm, _root_.PD.r_tchn, _root_.PD.r_ktb, _root_.PD.r_tnot, _root_.PD.r_tand, _root_.PD.r_tor, _root_.PD.r_ta0, _root_.PD.r_ta1, _root_.PD.r_to0, _root_.PD.r_to1, _root_.PD.r_c0, _root_.PD.r_c1, _root_.PD.r_seq, _root_.PD.r_ksq2, _root_.PD.r_ksq3, _root_.PD.r_rng, _root_.PD.r_krg2, _root_.PD.r_rr, _root_.PD.r_krr3, _root_.PD.r_enum, _root_.PD.r_ken2, _root_.PD.r_ken3, _root_.PD.r_zip, _root_.PD.r_kzi4, _root_.PD.r_kzi3l, _root_.PD.r_kzi3t, _root_.PD.r_kzi3m, _root_.PD.r_seqdl, _root_.PD.r_seqdt, _root_.PD.r_set, _root_.PD.r_kse1, _root_.PD.r_kse2, _root_.PD.r_kse3, _root_.PD.r_kse4, _root_.PD.r_knx, _root_.PD.r_st, _root_.PD.r_kst1, _root_.PD.r_kst2, _root_.PD.r_kst3, _root_.PD.r_sts0, _root_.PD.r_unp, _root_.PD.r_kup, _root_.PD.r_kup2, _root_.PD.r_kup2l, _root_.PD.r_exp, _root_.PD.r_kex, _root_.PD.r_ret, _root_.PD.r_krt1, _root_.PD.r_krt2, _root_.PD.r_krt3, _root_.PD.r_retn, _root_.PD.r_iff, _root_.PD.r_kif1, _root_.PD.r_kif2, _root_.PD.r_forr, _root_.PD.r_kfo, _root_.PD.r_step, _root_.PD.r_ksp, _root_.PD.r_stp1, _root_.PD.r_stp2, _root_.PD.r_stp2l, _root_.PD.r_stepc, _root_.PD.r_kcp, _root_.PD.r_kcp4, _root_.PD.r_whl, _root_.PD.r_ixs, _root_.PD.r_kxs, _root_.PD.r_kxs2, _root_.PD.r_kxs6, _root_.PD.r_kxs3, _root_.PD.r_kxs41, _root_.PD.r_kxs42, _root_.PD.r_kxs5, _root_.PD.r_pass, _root_.PD.r_doc, _root_.PD.r_brk, _root_.PD.r_cont, _root_.PD.r_ss0, _root_.PD.r_ss1, _root_.PD.r_kss1, _root_.PD.r_kss2, _root_.PD.r_kss3, _root_.PD.r_kss4, _root_.PD.r_krn1, _root_.PD.r_krn2, _root_.PD.r_krn3, _root_.PD.r_lm0, _root_.PD.r_lm1, _root_.PD.r_lm2, _root_.PD.r_klm, _root_.PD.p_add, _root_.PD.p_sub, _root_.PD.p_neg, _root_.PD.p_lt, _root_.PD.p_le, _root_.PD.p_gt, _root_.PD.p_ge, _root_.PD.p_abs, _root_.PD.p_min, _root_.PD.p_max, _root_.PD.p_lenl, _root_.PD.p_lent, _root_.PD.p_tupl, _root_.PD.p_tupt, _root_.PD.p_lstl, _root_.PD.p_lstt, _root_.PD.p_revl, _root_.PD.p_revt, _root_.PD.p_inti, _root_.PD.p_isN0, _root_.PD.p_notN0, _root_.PD.sc_none, _root_.PD.sc_bool, _root_.PD.sc_int, _root_.PD.sc_str, _root_.PD.sc_list, _root_.PD.sc_tup, _root_.PD.sc_dict, _root_.PD.t_bool, _root_.PD.m_rev, _root_.PD.m_clr, _root_.PD.ix_l, _root_.PD.ix_t, _root_.PD.kBi2, _root_.PD.kBi, _root_.PD.kUn, _root_.PD.kCh2, _root_.PD.kCh, _root_.PD.kAn, _root_.PD.kOr, _root_.PD.kNo, _root_.PD.kIt, _root_.PD.kTu, _root_.PD.kLs, _root_.PD.kDi, _root_.PD.kIx2, _root_.PD.kIx, _root_.PD.kSl3, _root_.PD.kSl2, _root_.PD.kSl, _root_.PD.kFn, _root_.PD.kIs, _root_.PD.kCl, _root_.PD.kMt, _root_.PD.kEs2, _root_.PD.kEs, _root_.PD.kO, _root_.PD.kTv, _root_.PD.kTn, _root_.PD.kTA, _root_.PD.kTO, _root_.PD.kTC, _root_.PD.kSq, _root_.PD.kRg, _root_.PD.kRr2, _root_.PD.kRr, _root_.PD.kEn, _root_.PD.kZi2, _root_.PD.kZi, _root_.PD.kCp3, _root_.PD.kCp2, _root_.PD.sl_small, _root_.PD.slt_small, _root_.PD.kst_any, _root_.PD.kst_st, _root_.PD.p_mod, _root_.PD.p_fdiv, _root_.PD.p_mul1, _root_.PD.p_mul2, _root_.PD.p_pow, _root_.PD.p_eq, _root_.PD.p_ne, _root_.PD.p_catl, _root_.PD.p_catt, _root_.PD.m_app, _root_.PD.m_ext, _root_.PD.rng0, _root_.PD.sts1, _root_.PD.obind_some, _root_.PD.rsbind_ok, List.getElem?_cons_zero, List.getElem?_cons_succ, List.set_cons_zero, List.set_cons_succ, List.map_nil, List.append_nil, List.nil_append, List.cons_append, if_true, if_false, ite_true, ite_false, Bool.false_eq_true, reduceIte, List.length_cons, List.length_nil, List.any_nil, List.any_cons, Bool.and_true, Bool.true_and, Bool.and_false, Bool.false_and, Bool.not_true, Bool.not_false, Bool.or_false, Bool.or_true, Bool.true_or, Bool.false_or, List.isEmpty_nil, List.isEmpty_cons, _root_.PD.wipeE, _root_.PD.startE, Nat.zero_add, Nat.reduceAdd, Nat.reduceSub, Nat.reduceLeDiff, Nat.le_refl, List.replicate_succ, List.replicate_zero, List.zipWith_cons_cons, List.zipWith_nil_left, List.zipWith_nil_right, Nat.reduceBEq, Nat.reduceEqDiff, decide_true, decide_false, Int.reduceLT, Int.reduceLE, Int.reduceNeg, Int.reduceToNat, Nat.reduceLT, List.take_succ_cons, List.take_zero, List.drop_succ_cons, List.drop_zero, eq_self, Int.reduceEq, _root_.CM.ti_sc, _root_.CM.ti_seq, _root_.CM.ti_ix, _root_.CM.ti_len, _root_.CM.ti_rev, _root_.CM.ti_kt, _root_.CM.ti_ki, _root_.CM.ti_kb, _root_.CM.ti_kl, _root_.CM.ti_zip, _root_.CM.ti_tup, _root_.CM.p_ltt, _root_.CM.p_all, _root_.CM.sh_int, _root_.CM.sh_tupI, _root_.CM.eqv_int, _root_.CM.eqv_tupI, $ts,*] $[$loc:location]?)

/-! PM4: standings, numbers, changes (the program's own defs on good rooms). -/
namespace CM
open PySem PD
def tupL (S : List (List Int)) : List D := S.map tupI
theorem exts_take {S : List (List Int)} {m : Int} {i : Nat} {o : List Int} (h : S[i]? = some o) : exts (S.take (i + 1)) m = exts (S.take i) m ++ (List.range m.toNat).map fun (w : Nat) => o ++ [(w : Int)] := by
  unfold exts
  rw [List.take_add_one, h]
  simp
theorem exts_len (S : List (List Int)) (m : Int) : (exts S m).length = S.length * m.toNat := by
  unfold exts
  induction S with
  | nil => simp
  | cons o S ih =>
    rw [List.flatMap_cons, List.length_append, ih, List.length_map, List.length_range, List.length_cons, Nat.succ_mul, Nat.add_comm]
theorem inR_len (room : List Int) : ∀ o ∈ allS room, o.length = room.length := fun o ho => by
  unfold allS at ho
  obtain ⟨k, _, rfl⟩ := List.mem_map.mp ho
  exact stn_len _ _
theorem allS_len (room : List Int) : (allS room).length = (prodI room).toNat := by
  unfold allS
  rw [List.length_map, List.length_range]
theorem prodI_take {room : List Int} (h : ∀ n ∈ room, 0 < n) (i : Nat) : prodI (room.take i) ≤ prodI room ∧ 0 < prodI (room.take i) := by
  have h1 : 0 < prodI (room.take i) := prodI_pos fun n hn => h n (List.mem_of_mem_take hn)
  have h2 : 0 < prodI (room.drop i) := prodI_pos fun n hn => h n (List.mem_of_mem_drop hn)
  have e : prodI room = prodI (room.take i) * prodI (room.drop i) := by
    conv => lhs; rw [← List.take_append_drop i room]
    show (room.take i ++ room.drop i).foldl (· * ·) 1 = _
    rw [List.foldl_append, prodI_from]
    rfl
  refine ⟨?_, h1⟩
  rw [e]
  have := Int.mul_le_mul_of_nonneg_left (show (1 : Int) ≤ prodI (room.drop i) by omega) (show 0 ≤ prodI (room.take i) by omega)
  omega
end CM

/-! PM5: number, changed, is a standing, all standings. -/
namespace CM
open PySem PD
theorem slA {xs : List D} {z : Int} (h0 : 0 ≤ z) (h1 : z ≤ xs.length) : cutD xs none (some z) = xs.take z.toNat := by
  unfold cutD
  have e1 : HT.sIx xs.length 0 none = 0 := rfl
  have e2 : HT.sIx xs.length xs.length (some z) = z.toNat := by
    show (if z < 0 then (z + (xs.length : Int)).toNat else min z.toNat xs.length) = _
    rw [if_neg (by omega)]
    omega
  rw [e1, e2, List.drop_zero, Nat.sub_zero]
theorem slB {xs : List D} {z : Int} (h0 : 0 ≤ z) (h1 : z ≤ xs.length) : cutD xs (some z) none = xs.drop z.toNat := by
  unfold cutD
  have e1 : HT.sIx xs.length xs.length none = xs.length := rfl
  have e2 : HT.sIx xs.length 0 (some z) = z.toNat := by
    show (if z < 0 then (z + (xs.length : Int)).toNat else min z.toNat xs.length) = _
    rw [if_neg (by omega)]
    omega
  rw [e1, e2]
  exact List.take_of_length_le (by rw [List.length_drop]; exact Nat.le_refl _)
theorem changed_sem {ws : List Int} {i u : Int} (h0 : 0 ≤ i) (h1 : i < ws.length) (h2 : ws.length ≤ 1000) : f_changed.sem [tupI ws, .int i, .int u] = .ok false (tupI (ws.set i.toNat u)) [] := by
  rw [e_changed, runF_eq rfl (by decide)]
  unfold b_changed
  have ea : cutD (ws.map PyData.int) none (some i) = (ws.take i.toNat).map .int := by
    rw [slA h0 (by rw [List.length_map]; omega), List.map_take]
  have eb : cutD (ws.map PyData.int) (some (i + 1)) none = (ws.drop (i + 1).toNat).map .int := by
    rw [slB (by omega) (by rw [List.length_map]; omega), List.map_drop]
  have ec : prim .add [.tuple ((ws.take i.toNat).map .int), .tuple [.int u]] = some (false, tupI (ws.take i.toNat ++ [u])) := by
    have := p_catt (xs := (ws.take i.toNat).map PyData.int) (ys := [.int u]) (by rw [List.length_map, List.length_take, sl_eq]; show _ + 1 ≤ _; omega)
    unfold tupI
    rw [List.map_append]
    exact this
  have ed : prim .add [tupI (ws.take i.toNat ++ [u]), .tuple ((ws.drop (i + 1).toNat).map .int)] = some (false, tupI (ws.set i.toNat u)) := by
    have := p_catt (xs := (ws.take i.toNat ++ [u]).map PyData.int) (ys := (ws.drop (i + 1).toNat).map PyData.int) (by rw [List.length_map, List.length_map, List.length_append, List.length_take, List.length_drop, sl_eq]; show _ + 1 + _ ≤ _; omega)
    rw [← List.map_append] at this
    have e : (ws.take i.toNat ++ [u]) ++ ws.drop (i + 1).toNat = ws.set i.toNat u := by
      rw [List.set_eq_take_append_cons_drop, if_pos (by omega), List.append_assoc]
      have : (i + 1).toNat = i.toNat + 1 := by omega
      rw [this]
      rfl
    rw [e] at this
    exact this
  simp! only [show tupI ws = .tuple (ws.map .int) from rfl, ea, eb, ec, ed]
def inB (room ws : List Int) : Bool := (ws.zip room).all fun p => decide (0 ≤ p.1) && decide (p.1 < p.2)
end CM

/-! PM6: comprehensions that change things outside. -/
namespace PD
open PySem
theorem back_wipe (e0 e : En) (own : List Nat) : backE e0 e own = backE e0 (wipeE e own) own := by
  refine List.ext_getElem? fun j => ?_
  rw [back_at, back_at, wipe_len]
  by_cases h : j ∈ own
  · rw [if_pos h, if_pos h]
  · rw [if_neg h, if_neg h, wipe_get, if_neg h]
theorem comp_st {α : Type} {step : D → En → Rs (Option D)} {own : List Nat} {h : α → D} {A : List α} (I : Nat → En → List D → Prop)
    (hs : ∀ (i : Nat) (a : α) (e : En) (ds : List D), A[i]? = some a → I i (wipeE e own) ds → ∃ e' r, step (h a) e = .ok r e' ∧ I (i + 1) (wipeE e' own) (ds ++ r.toList)) :
    ∀ (xs : List α) (i : Nat) (e : En) (ds : List D), A.drop i = xs → i + xs.length = A.length → I i (wipeE e own) ds → ∃ e' es, compL step (xs.map h) e = .ok es e' ∧ I A.length (wipeE e' own) (ds ++ es)
  | [], i, e, ds, _, hl, hI => ⟨e, [], rfl, by
    simp only [List.length_nil, Nat.add_zero] at hl
    subst hl
    rw [List.append_nil]
    exact hI⟩
  | x :: xs, i, e, ds, hd, hl, hI => by
    have hx : A[i]? = some x := by
      have := congrArg (·[0]?) hd
      simpa using this
    obtain ⟨e1, r, h1, h2⟩ := hs i x e ds hx hI
    obtain ⟨e2, es, h3, h4⟩ := comp_st I hs xs (i + 1) e1 (ds ++ r.toList) (by have := congrArg (List.drop 1) hd; simpa using this) (by simp only [List.length_cons] at hl; omega) h2
    refine ⟨e2, r.toList ++ es, ?_, by rw [← List.append_assoc]; exact h4⟩
    simp only [List.map_cons, compL, h1, rsbind_ok, h3]
    cases r <;> rfl
theorem evE_comp_st {α : Type} {F : List Fn} {el : IE} {pt : Pt} {src : Sr} {cs : List IT} {own : List Nat} {e e1 : En} {A : List α} {h : α → D} (I : Nat → En → List D → Prop) (hi : evI F src e = .ok (A.map h) e1) (ho : ownSh e1 own = true) (hl : A.length ≤ sizeLine) (h0 : I 0 (wipeE e1 own) [])
    (hs : ∀ (i : Nat) (a : α) (e : En) (ds : List D), A[i]? = some a → I i (wipeE e own) ds → ∃ e' r, stepC F el pt cs own (h a) e = .ok r e' ∧ I (i + 1) (wipeE e' own) (ds ++ r.toList)) :
    ∃ W ds, evE F (.comp el pt src cs own) e = .ok (.val true (.list ds)) (backE e1 W own) ∧ I A.length W ds := by
  obtain ⟨e', es, h1, h2⟩ := comp_st (step := stepC F el pt cs own) (h := h) (A := A) I hs A 0 e1 [] rfl (by omega) h0
  refine ⟨wipeE e' own, es, ?_, by simpa using h2⟩
  rw [evE_comp, hi, rsbind_ok, ho, decide_eq_true (show (A.map h).length ≤ sizeLine by rw [List.length_map]; exact hl)]
  simp only [Bool.and_self, if_true, h1, rsbind_ok, back_wipe e1 e' own]
end PD

/-! PM7: drawn standings. -/
namespace CM
open PySem PD
end CM

/-! PM8: drawn givens. -/
namespace CM
open PySem PD
def pairD (p : Int × Int) : D := .tuple [.int p.1, .int p.2]
def givD (g : List (Int × Int)) : D := .tuple (g.map pairD)
/-- boxes below i, rising, with worths of the room -/
structure GivB (room : List Int) (i : Nat) (g : List (Int × Int)) : Prop where
  box : ∀ p ∈ g, 0 ≤ p.1 ∧ p.1 < (i : Int)
  worth : ∀ p ∈ g, ∃ n, room[p.1.toNat]? = some n ∧ 0 ≤ p.2 ∧ p.2 < n
  rise : g.Pairwise fun p q => p.1 < q.1
theorem GivB.len {room : List Int} {i : Nat} {g : List (Int × Int)} (h : GivB room i g) : g.length ≤ i := by
  have : ∀ (g : List (Int × Int)) (lo : Int), (∀ p ∈ g, lo ≤ p.1 ∧ p.1 < (i : Int)) → g.Pairwise (fun p q => p.1 < q.1) → lo ≤ (i : Int) → (g.length : Int) ≤ (i : Int) - lo := by
    intro g
    induction g with
    | nil => intro lo _ _ h; show (0 : Int) ≤ _; omega
    | cons p g ih =>
      intro lo hb hp hlo
      have h1 := hb p List.mem_cons_self
      rw [List.pairwise_cons] at hp
      have := ih (p.1 + 1) (fun q hq => ⟨by have := hp.1 q hq; omega, (hb q (List.mem_cons_of_mem _ hq)).2⟩) hp.2 (by omega)
      rw [List.length_cons]
      omega
  have := this g 0 h.box h.rise (by omega)
  omega
end CM

/-! PM9: what keeps a given. -/
namespace CM
open PySem PD
/-- the worth at the box of each -/
def keepB (ws : List Int) (g : List (Int × Int)) : Bool := g.all fun p => decide (ws[p.1.toNat]? = some p.2)
theorem giv_at {room ws : List Int} {i : Nat} {g : List (Int × Int)} (hw : InRoom room ws) (G : GivB room i g) {p : Int × Int} (hp : p ∈ g) : ∃ u, atD (ws.map .int) p.1 = some (.int u) ∧ ws[p.1.toNat]? = some u := by
  obtain ⟨n, hn, _⟩ := G.worth p hp
  have h0 := (G.box p hp).1
  have hi : p.1.toNat < room.length := (List.getElem?_eq_some_iff.mp hn).1
  have e : ws[p.1.toNat]? = some (ws[p.1.toNat]'(by rw [hw.len]; exact hi)) := List.getElem?_eq_getElem _
  refine ⟨_, ?_, e⟩
  unfold atD
  rw [if_pos h0, List.getElem?_map, e]
  rfl
theorem gi_seq {g : List (Int × Int)} : seqD (givD g) = some (g.map pairD) := rfl
theorem keeps_sem {room ws : List Int} {i : Nat} {g : List (Int × Int)} (hw : InRoom room ws) (G : GivB room i g) (hi : i ≤ 1000) : f_keeps.sem [tupI ws, givD g] = .ok false (.bool (keepB ws g)) [] := by
  rw [e_keeps, runF_eq rfl (by decide)]
  unfold b_keeps
  have hl := G.len
  have hc : evE [] (.comp (.cm .eq (.ix (.var 0) (.var 2)) (.var 3)) (.tp [2, 3]) (.seq (.var 1)) [] [2, 3]) [some ⟨.sh, tupI ws⟩, some ⟨.sh, givD g⟩, none, none] =
      .ok (.val true (.list ((g.map fun p => decide (ws[p.1.toNat]? = some p.2)).map .bool))) [some ⟨.sh, tupI ws⟩, some ⟨.sh, givD g⟩, none, none] := by
    have := evE_comp_map (F := []) (el := .cm .eq (.ix (.var 0) (.var 2)) (.var 3)) (pt := .tp [2, 3]) (src := .seq (.var 1)) (cs := []) (own := [2, 3]) (e := [some ⟨.sh, tupI ws⟩, some ⟨.sh, givD g⟩, none, none]) (e1 := [some ⟨.sh, tupI ws⟩, some ⟨.sh, givD g⟩, none, none])
      (A := g) (h := pairD) (g := fun p => some (.bool (decide (ws[p.1.toNat]? = some p.2)))) (by simp! only [gi_seq]) rfl (by rw [sl_eq]; omega) (fun p hp e he => by
        obtain ⟨u, h1, h2⟩ := giv_at hw G hp
        rw [r_stepc, he, h2]
        unfold pairD
        simp! only [h1, Option.some.injEq]
        exact ⟨_, rfl, rfl⟩)
    rw [fm_map] at this
    rw [this, List.map_map]
    rfl
  simp! only [hc]
  unfold keepB
  rw [List.all_map]
  rfl
end CM

/-! PM10: the law's own look at what keeps a given. -/
namespace CM
open PySem PD
theorem sh_nil : SeqAt.shaped (.list []) = true := by decide
theorem eqv_nil {ds : List D} : PyData.eqv (.list ds) (.list []) = ds.isEmpty := by
  rw [PyData.eqv]
  cases ds <;> rfl
end CM

/-! PM11: a standing drawn near a given. -/
namespace CM
open PySem PD
theorem atD_room {ws : List Int} {i : Int} (h0 : 0 ≤ i) (h1 : i < ws.length) : ∃ u, atD (ws.map PyData.int) i = some (.int u) ∧ ws[i.toNat]? = some u := by
  have e : ws[i.toNat]? = some (ws[i.toNat]'(by omega)) := List.getElem?_eq_getElem (by omega)
  refine ⟨_, ?_, e⟩
  unfold atD
  rw [if_pos h0, List.getElem?_map, e]
  rfl
end CM

/-! PM12: the standings that keep a given. -/
namespace CM
open PySem PD
theorem all_in {room : List Int} (h : ∀ n ∈ room, 0 < n) : ∀ o ∈ allS room, InRoom room o := fun o ho => by
  unfold allS at ho
  obtain ⟨k, _, rfl⟩ := List.mem_map.mp ho
  exact stn_in room h _
theorem fm_filter {α : Type} (p : α → Bool) (k : α → D) : ∀ g : List α, (g.filterMap fun x => if p x = true then some (k x) else none) = (g.filter p).map k
  | [] => rfl
  | x :: g => by
    have ih := fm_filter p k g
    by_cases h : p x = true
    · rw [List.filterMap_cons, List.filter_cons, if_pos h, if_pos h, List.map_cons, ← ih]
    · rw [List.filterMap_cons, List.filter_cons, if_neg h, if_neg h, ← ih]
end CM

/-! PM0b: plain laws about walks over one's own lists. -/
namespace PD
open PySem
end PD

/-! PM13: rows of standings, plainly. -/
namespace CM
open PySem PD
theorem shp_rowsC {S : List (List Int)} : SeqAt.shaped (.list (tupL S)) = true := (shp_list (k := 2) fun d hd => by
  obtain ⟨o, _, rfl⟩ := List.mem_map.mp hd
  exact shp_tupI (Nat.le_refl 1)).ok (by decide)
theorem at_allC {room : List Int} {i : Int} (h0 : 0 ≤ i) (h1 : i < prodI room) : atD (tupL (allS room)) i = some (tupI (stn room i)) := by
  unfold atD tupL allS
  rw [if_pos h0, List.getElem?_map, List.getElem?_map, List.getElem?_range (by omega)]
  show some (tupI (stn room (i.toNat : Int))) = _
  rw [Int.toNat_of_nonneg h0]
end CM

/-! PM14: is_given of any thing. -/
namespace CM
open PySem PD
def wholeB : D → Bool
  | .int _ => true
  | _ => false
def boxB (room : List Int) : D → Bool
  | .int b => decide (0 ≤ b) && decide (b < (room.length : Int))
  | _ => false
def worthB (n : Int) : D → Bool
  | .int w => decide (0 ≤ w) && decide (w < n)
  | _ => false
theorem law_whole_sem (d : D) : f__law_is_whole.sem [d] = .ok false (.bool (wholeB d)) [] := by
  rw [e__law_is_whole, runF_eq rfl (by decide)]
  unfold b__law_is_whole
  cases h1 : kindOf .int d with
  | false =>
    simp! only [h1]
    cases d <;> first | rfl | exact absurd (show true = false from h1) Bool.noConfusion
  | true =>
    cases h2 : kindOf .bool d with
    | false =>
      simp! only [h1, h2]
      cases d <;> first | rfl | exact absurd (show false = true from h1) Bool.false_ne_true | exact absurd (show true = false from h2) Bool.noConfusion | exact absurd (show false = true from h2) Bool.noConfusion
    | true =>
      simp! only [h1, h2]
      cases d <;> first | rfl | exact absurd (show false = true from h1) Bool.false_ne_true | exact absurd (show true = false from h2) Bool.noConfusion | exact absurd (show false = true from h2) Bool.noConfusion
theorem whole_sem (d : D) : f_is_whole.sem [d] = .ok false (.bool (wholeB d)) [] := law_whole_sem d
theorem worth_sem {room : List Int} {b n : Int} (h0 : 0 ≤ b) (hb : room[b.toNat]? = some n) (d : D) : f_is_worth.sem [tupI room, .int b, d] = .ok false (.bool (worthB n d)) [] := by
  rw [e_is_worth, runF_eq rfl (by decide)]
  unfold b_is_worth
  have hw := whole_sem d
  have ha : atD (room.map .int) b = some (.int n) := by
    unfold atD
    rw [if_pos h0, List.getElem?_map, hb]
    rfl
  cases d with
  | int w =>
    by_cases h : 0 ≤ w
    · simp! only [m_is_whole, hw, wholeB, worthB, h, ha]
    · simp! only [m_is_whole, hw, wholeB, worthB, h, ha]
  | _ => simp! only [m_is_whole, hw, wholeB, worthB]
/-- an entry of a given, behind a box: its box -/
def goodE (room : List Int) (last : Int) : D → Option Int
  | .tuple [.int b, .int w] => match room[b.toNat]? with
    | some n => if last < b ∧ 0 ≤ b ∧ 0 ≤ w ∧ w < n then some b else none
    | none => none
  | _ => none
def goodG (room : List Int) : Int → List D → Bool
  | _, [] => true
  | last, d :: r => match goodE room last d with
    | some b => goodG room b r
    | none => false
def goodD (room : List Int) : D → Bool
  | .tuple ds => goodG room (-1) ds
  | _ => false
theorem worthB_of {n : Int} {d : D} (h : worthB n d = true) : ∃ w, d = .int w ∧ 0 ≤ w ∧ w < n := by
  cases d with
  | int w =>
    unfold worthB at h
    rw [Bool.and_eq_true, decide_eq_true_eq, decide_eq_true_eq] at h
    exact ⟨w, rfl, h.1, h.2⟩
  | _ => cases h
theorem kt_false {d : D} (h : ∀ ds, d ≠ .tuple ds) : kindOf .tuple d = false ∧ (∀ room, goodD room d = false) := by
  cases d <;> first | exact ⟨rfl, fun _ => rfl⟩ | exact absurd rfl (h _)
end CM

/-! PM15: the law's own look whether a thing is a given. -/
namespace CM
open PySem PD
end CM

/-! PM16: drawn wishes and books. -/
namespace CM
open PySem PD
/-- a wish: a given, a box, the better and the worse worth -/
structure Wi where
  g : List (Int × Int)
  b : Int
  x : Int
  y : Int
  deriving DecidableEq
def wishD (w : Wi) : D := .tuple [.tuple (w.g.map pairD), .int w.b, .int w.x, .int w.y]
structure WishB (room : List Int) (w : Wi) : Prop where
  giv : GivB room room.length w.g
  b0 : 0 ≤ w.b
  n : ∃ n, room[w.b.toNat]? = some n ∧ 0 ≤ w.x ∧ w.x < n ∧ 0 ≤ w.y ∧ w.y < n
  ne : w.x ≠ w.y
  ap : ∀ p ∈ w.g, p.1 ≠ w.b
def bookD (B : List Wi) : D := .tuple (B.map wishD)
theorem WishB.drop {room : List Int} {w : Wi} (h : WishB room w) : WishB room ⟨w.g.drop 1, w.b, w.x, w.y⟩ :=
  ⟨⟨fun p hp => h.giv.box p (List.mem_of_mem_drop hp), fun p hp => h.giv.worth p (List.mem_of_mem_drop hp), h.giv.rise.sublist (List.drop_sublist _ _)⟩, h.b0, h.n, h.ne, fun p hp => h.ap p (List.mem_of_mem_drop hp)⟩
theorem WishB.turn {room : List Int} {w : Wi} (h : WishB room w) : WishB room ⟨w.g, w.b, w.y, w.x⟩ := by
  obtain ⟨n, h1, h2, h3, h4, h5⟩ := h.n
  exact ⟨h.giv, h.b0, ⟨n, h1, h4, h5, h2, h3⟩, Ne.symm h.ne, h.ap⟩
end CM

/-! PM17: is_wish and is_book of any thing. -/
namespace CM
open PySem PD
def inG : D → Int → Bool
  | .tuple ds, b => ds.any fun d => match d with
    | .tuple [.int c, _] => decide (c = b)
    | _ => false
  | _, _ => false
def wishOK (room : List Int) : D → Bool
  | .tuple [g, .int b, .int x, .int y] => goodD room g && (boxB room (.int b) && (!inG g b && ((match room[b.toNat]? with
    | some n => worthB n (.int x) && worthB n (.int y)
    | none => false) && !decide (x = y))))
  | _ => false
theorem at4_1 {a b c d : D} : atD [a, b, c, d] 1 = some b := rfl
def bookOK (room : List Int) : D → Bool
  | .tuple ds => decide (ds.length ≤ 600) && ds.all (wishOK room)
  | _ => false
end CM

/-! PM18: books turned; wishes told alike. -/
namespace CM
open PySem PD
theorem room_at {room : List Int} {b n : Int} (h0 : 0 ≤ b) (hn : room[b.toNat]? = some n) : atD (room.map .int) b = some (.int n) := by
  unfold atD
  rw [if_pos h0, List.getElem?_map, hn]
  rfl
theorem cat_t {xs ys : List D} (h : xs.length + ys.length ≤ 100000) : prim .add [.tuple xs, .tuple ys] = some (false, .tuple (xs ++ ys)) := p_catt (by rw [sl_eq]; omega)
theorem nb11 : prim .notB [.bool true, .bool true] = some (false, .bool false) := rfl
theorem ib11 : prim .isB [.bool true, .bool true] = some (false, .bool true) := rfl
theorem sc_t {ds : List D} : isSc (.tuple ds) = false := rfl
theorem sc_w {w : Wi} : isSc (wishD w) = false := rfl
theorem sq_t {ds : List D} : seqD (.tuple ds) = some ds := rfl
theorem tup_l {ds : List D} : prim .tuple [.list ds] = some (false, .tuple ds) := rfl
theorem kt_t {ds : List D} : kindOf .tuple (.tuple ds) = true := rfl
def turnW (w : Wi) : Wi := ⟨w.g, w.b, w.y, w.x⟩
theorem turned_sem {B : List Wi} (hl : B.length ≤ 100000) : f_turned.sem [.tuple (B.map wishD)] = .ok false (.tuple ((B.map turnW).map wishD)) [] := by
  rw [e_turned, runF_eq rfl (by decide)]
  unfold b_turned
  have hc : evE [] (.comp (.tup [(.var 1), (.var 2), (.var 4), (.var 3)]) (.tp [1, 2, 3, 4]) (.seq (.var 0)) [] [1, 2, 3, 4]) [some ⟨.sh, .tuple (B.map wishD)⟩, none, none, none, none] =
      .ok (.val true (.list ((B.map turnW).map wishD))) [some ⟨.sh, .tuple (B.map wishD)⟩, none, none, none, none] := by
    have := evE_comp_map (F := []) (el := .tup [(.var 1), (.var 2), (.var 4), (.var 3)]) (pt := .tp [1, 2, 3, 4]) (src := .seq (.var 0)) (cs := []) (own := [1, 2, 3, 4]) (e := [some ⟨.sh, .tuple (B.map wishD)⟩, none, none, none, none]) (e1 := [some ⟨.sh, .tuple (B.map wishD)⟩, none, none, none, none])
      (A := B) (h := wishD) (g := fun w => some (wishD (turnW w))) (by simp! only [sq_t]) rfl (by rw [sl_eq]; omega) (fun w hw e he => by
        rw [r_stepc, he]
        unfold wishD turnW
        simp! only []
        exact ⟨_, rfl, rfl⟩)
    rw [fm_map] at this
    rw [this, List.map_map]
    rfl
  simp! only [hc, tup_l]
end CM

/-! PM19: what a wish betters; why. -/
namespace CM
open PySem PD
/-- to which standing a wish betters one -/
def goalW (w : Wi) (ws : List Int) : Option (List Int) := if ws[w.b.toNat]? = some w.y ∧ keepB ws w.g = true then some (ws.set w.b.toNat w.x) else none
def optD : Option (List Int) → D
  | some ws => tupI ws
  | none => .none
theorem st_at {room ws : List Int} {w : Wi} (hw : InRoom room ws) (h : WishB room w) : ∃ u, atD (ws.map .int) w.b = some (.int u) ∧ ws[w.b.toNat]? = some u ∧ w.b < (ws.length : Int) := by
  obtain ⟨n, hn, _⟩ := h.n
  have hi : w.b.toNat < room.length := (List.getElem?_eq_some_iff.mp hn).1
  have h0 := h.b0
  have e : ws[w.b.toNat]? = some (ws[w.b.toNat]'(by rw [hw.len]; exact hi)) := List.getElem?_eq_getElem _
  refine ⟨_, ?_, e, by rw [hw.len]; omega⟩
  unfold atD
  rw [if_pos h0, List.getElem?_map, e]
  rfl
theorem goalW_in {room ws : List Int} {w : Wi} (hw : InRoom room ws) (h : WishB room w) {vs : List Int} (e : goalW w ws = some vs) : InRoom room vs := by
  unfold goalW at e
  split at e
  · cases e
    obtain ⟨n, hn, h1, h2, _⟩ := h.n
    exact hw.set w.b.toNat n w.x hn h1 h2
  · cases e
theorem bettered_sem {room ws : List Int} {w : Wi} (hrl : room.length ≤ 100) (hw : InRoom room ws) (h : WishB room w) : f_bettered_by.sem [wishD w, tupI ws] = .ok false (optD (goalW w ws)) [] := by
  rw [e_bettered_by, runF_eq rfl (by decide)]
  unfold b_bettered_by wishD
  obtain ⟨u, h1, h2, h3⟩ := st_at hw h
  have hwl := hw.len
  have hk := keeps_sem hw h.giv (by omega)
  have hch := changed_sem (ws := ws) (u := w.x) h.b0 h3 (by omega)
  unfold givD at hk
  by_cases hu : u = w.y
  · cases hkk : keepB ws w.g with
    | true =>
      have hgo : goalW w ws = some (ws.set w.b.toNat w.x) := by
        unfold goalW
        rw [if_pos ⟨by rw [h2, hu], hkk⟩]
      rw [hkk] at hk
      rw [hgo]
      simp! only [h1, hu, m_keeps, hk, m_changed, hch]
      rfl
    | false =>
      have hgo : goalW w ws = none := by
        unfold goalW
        rw [if_neg (by rw [hkk]; intro z; exact absurd z.2 Bool.false_ne_true)]
      rw [hkk] at hk
      rw [hgo]
      simp! only [h1, hu, m_keeps, hk]
      rfl
  · have hgo : goalW w ws = none := by
      unfold goalW
      rw [if_neg (by rw [h2]; intro z; exact hu (Option.some.inj z.1))]
    rw [hgo]
    simp! only [h1, hu]
    rfl
/-- the number of the first that is so -/
def firstW (one : List Int) (other : List Int) : Nat → List Wi → Option Nat
  | _, [] => none
  | i, w :: B => if goalW w one = some other then some i else firstW one other (i + 1) B
def natD : Option Nat → D
  | some i => .int (i : Int)
  | none => .none
theorem enum_eq {ds : List D} : enumD ds = (List.range' 0 ds.length).zipWith (fun (k : Nat) d => PyData.tuple [.int (k : Int), d]) ds := by
  unfold enumD
  rw [List.range_eq_range']
end CM

/-! PM20: the law's own look whether a thing is a wish. -/
namespace CM
open PySem PD
end CM

/-! PM21: odd things. -/
namespace CM
open PySem PD
def deepN : Nat → D
  | 0 => .tuple [.int 0]
  | n + 1 => .tuple [deepN n]
theorem cat_l {xs ys : List D} (h : xs.length + ys.length ≤ 100000) : prim .add [.list xs, .list ys] = some (true, .list (xs ++ ys)) := p_catl (by rw [sl_eq]; omega)
end CM

/-! PM22: dicts with tuple keys that hold a truth; sorted lists of what is in them. -/
namespace CM
open PySem PD
theorem keyEqs_ints : ∀ {xs ys : List Int}, keyEqs (xs.map .int) (ys.map .int) = decide (xs = ys)
  | [], [] => by simp [keyEqs]
  | [], _ :: _ => by simp [keyEqs]
  | _ :: _, [] => by simp [keyEqs]
  | x :: xs, y :: ys => by
    rw [List.map_cons, List.map_cons, keyEqs, keyEqs_ints]
    by_cases h : x = y
    · subst h
      simp
    · simp [h]
theorem keyEq_tupI {xs ys : List Int} : keyEq (tupI xs) (tupI ys) = decide (xs = ys) := keyEqs_ints
/-- a dict of these keys -/
def setD (ks : List (List Int)) : D := .dict ((.none, .none) :: ks.map fun k => (tupI k, .bool true))
/-- a key more -/
def addK (ks : List (List Int)) (k : List Int) : List (List Int) := if ks.contains k = true then ks else ks ++ [k]
theorem any_keys {ks : List (List Int)} {k : List Int} : ((ks.map fun k => (tupI k, PyData.bool true)).any fun kv => keyEq kv.1 (tupI k)) = ks.contains k := by
  rw [List.any_map, List.contains_eq_any_beq]
  congr 1
  funext x
  show keyEq (tupI x) (tupI k) = (k == x)
  rw [keyEq_tupI]
  by_cases h : x = k
  · subst h
    simp
  · rw [decide_eq_false h]
    exact (beq_eq_false_iff_ne.mpr (Ne.symm h)).symm
theorem set_put {ks : List (List Int)} {k : List Int} (hl : ks.length < 1000) : ixSet (setD ks) (tupI k) (.bool true) = some (setD (addK ks k)) := by
  have hk : keyOf ((.none, .none) :: ks.map fun k => (tupI k, PyData.bool true)) (tupI k) = true := by
    show (k.map PyData.int).all keyAt = true
    rw [List.all_map]
    exact List.all_eq_true.mpr fun _ _ => rfl
  show (if keyOf ((.none, .none) :: ks.map fun k => (tupI k, PyData.bool true)) (tupI k) = true ∧ ((PyData.none, PyData.none) :: ks.map fun k => (tupI k, PyData.bool true)).length < sizeLine then some (PyData.dict (dSet ((.none, .none) :: ks.map fun k => (tupI k, PyData.bool true)) (tupI k) (.bool true))) else none) = _
  rw [if_pos ⟨hk, by rw [List.length_cons, List.length_map, sl_eq]; omega⟩]
  have hn : keyEq .none (tupI k) = false := rfl
  unfold dSet setD addK
  rw [List.any_cons, hn, Bool.false_or, any_keys]
  by_cases h : ks.contains k = true
  · rw [if_pos h, if_pos h, List.map_cons]
    congr 3
    rw [List.map_map]
    refine List.map_congr_left fun x hx => ?_
    show (if keyEq (tupI x) (tupI k) = true then (tupI x, PyData.bool true) else (tupI x, PyData.bool true)) = _
    split <;> rfl
  · rw [if_neg h, if_neg h, List.map_append]
    rfl
theorem set_list {ks : List (List Int)} : prim .list [setD ks] = some (true, .list (ks.map tupI)) := by
  show some (true, PyData.list ((ks.map fun k => (tupI k, PyData.bool true)).map (·.1))) = _
  rw [List.map_map]
  rfl
theorem mem_addK {ks : List (List Int)} {k x : List Int} : x ∈ addK ks k ↔ x ∈ ks ∨ x = k := by
  unfold addK
  by_cases h : ks.contains k = true
  · rw [if_pos h]
    refine ⟨.inl, fun q => q.elim id fun e => ?_⟩
    rw [e]
    exact List.contains_iff_mem.mp h
  · rw [if_neg h, List.mem_append, List.mem_singleton]
theorem tups_map : ∀ {ks : List (List Int)}, (∀ k ∈ ks, k ≠ []) → tupsOf (ks.map tupI) = some ks
  | [], _ => rfl
  | k :: ks, h => by
    show (match intsOf (k.map .int), tupsOf (ks.map tupI) with | some (n :: ns), some ms => some ((n :: ns) :: ms) | _, _ => none) = _
    rw [intsOf_map, tups_map fun x hx => h x (List.mem_cons_of_mem _ hx)]
    cases k with
    | nil => exact absurd rfl (h [] List.mem_cons_self)
    | cons n ns => rfl
theorem sort_tups {ks : List (List Int)} (h : ∀ k ∈ ks, k ≠ []) : prim .sorted [.list (ks.map tupI)] = some (true, .list ((srtS HT.lexLt ks).map tupI)) := by
  show (sortD (ks.map tupI)).map (fun ys => (true, PyData.list ys)) = _
  unfold sortD
  cases ks with
  | nil => rfl
  | cons k ks =>
    have e : intsOf ((k :: ks).map tupI) = none := rfl
    rw [e, tups_map h]
    rfl
/-- insertion, plainly -/
theorem ins_perm {α : Type} {lt : α → α → Bool} (x : α) : ∀ l : List α, (insS lt x l).Perm (x :: l)
  | [] => .refl _
  | y :: r => by
    unfold insS
    split
    · exact .refl _
    · exact ((ins_perm x r).cons y).trans (.swap x y r)
theorem srt_perm {α : Type} {lt : α → α → Bool} : ∀ l : List α, (srtS lt l).Perm l
  | [] => .refl _
  | x :: r => (ins_perm x _).trans ((srt_perm r).cons x)
theorem lt_asym : ∀ xs ys : List Int, HT.lexLt xs ys = true → HT.lexLt ys xs = false
  | [], [], h => by rw [HT.lexLt_nil_nil] at h; cases h
  | [], y :: ys, _ => HT.lexLt_cons_nil y ys
  | x :: xs, [], h => by rw [HT.lexLt_cons_nil] at h; cases h
  | x :: xs, y :: ys, h => by
    rw [HT.lexLt_cons] at h ⊢
    by_cases e : x = y
    · subst e
      rw [if_pos rfl] at h ⊢
      exact lt_asym xs ys h
    · rw [if_neg e] at h
      rw [if_neg (Ne.symm e)]
      have := of_decide_eq_true h
      exact decide_eq_false (by omega)
theorem lt_tr : ∀ xs ys zs : List Int, HT.lexLt ys xs = false → HT.lexLt zs ys = false → HT.lexLt zs xs = false
  | [], [], zs, _, h => h
  | [], y :: ys, zs, h, h2 => by
    cases zs with
    | nil => exact HT.lexLt_nil_nil
    | cons z zs => exact HT.lexLt_cons_nil z zs
  | x :: xs, [], zs, h, _ => by rw [HT.lexLt_nil_cons] at h; cases h
  | x :: xs, y :: ys, [], _, h => by rw [HT.lexLt_nil_cons] at h; cases h
  | x :: xs, y :: ys, z :: zs, h1, h2 => by
    rw [HT.lexLt_cons] at h1 h2 ⊢
    by_cases e : z = x
    · rw [if_pos e]
      by_cases e1 : y = x
      · rw [if_pos e1] at h1
        rw [if_pos (e.trans e1.symm)] at h2
        exact lt_tr xs ys zs h1 h2
      · rw [if_neg e1] at h1
        have a := of_decide_eq_false h1
        rw [if_neg (fun q => e1 (q.symm.trans e))] at h2
        have b := of_decide_eq_false h2
        omega
    · rw [if_neg e]
      by_cases e1 : y = x
      · rw [if_neg (fun q => e (q.trans e1))] at h2
        have b := of_decide_eq_false h2
        exact decide_eq_false (by omega)
      · rw [if_neg e1] at h1
        have a := of_decide_eq_false h1
        by_cases e2 : z = y
        · exact decide_eq_false (by omega)
        · rw [if_neg e2] at h2
          have b := of_decide_eq_false h2
          exact decide_eq_false (by omega)
theorem lt_anti : ∀ xs ys : List Int, HT.lexLt xs ys = false → HT.lexLt ys xs = false → xs = ys
  | [], [], _, _ => rfl
  | [], y :: ys, h, _ => by rw [HT.lexLt_nil_cons] at h; cases h
  | x :: xs, [], _, h => by rw [HT.lexLt_nil_cons] at h; cases h
  | x :: xs, y :: ys, h1, h2 => by
    rw [HT.lexLt_cons] at h1 h2
    by_cases e : x = y
    · subst e
      rw [if_pos rfl] at h1 h2
      rw [lt_anti xs ys h1 h2]
    · rw [if_neg e] at h1
      rw [if_neg (Ne.symm e)] at h2
      have a := of_decide_eq_false h1
      have b := of_decide_eq_false h2
      omega
theorem ins_sorted (x : List Int) : ∀ l : List (List Int), l.Pairwise (fun x y => HT.lexLt y x = false) → (insS HT.lexLt x l).Pairwise (fun x y => HT.lexLt y x = false)
  | [], _ => List.pairwise_singleton _ _
  | y :: r, h => by
    rw [List.pairwise_cons] at h
    unfold insS
    split
    · rename_i q
      refine List.pairwise_cons.mpr ⟨fun z hz => ?_, List.pairwise_cons.mpr h⟩
      rcases List.mem_cons.mp hz with rfl | hz
      · exact lt_asym _ _ q
      · exact lt_tr _ _ _ (lt_asym _ _ q) (h.1 z hz)
    · rename_i q
      refine List.pairwise_cons.mpr ⟨fun z hz => ?_, ins_sorted x r h.2⟩
      rcases List.mem_cons.mp ((ins_perm x r).mem_iff.mp hz) with rfl | hz
      · exact Bool.eq_false_iff.mpr q
      · exact h.1 z hz
theorem srt_sorted : ∀ l : List (List Int), (srtS HT.lexLt l).Pairwise (fun x y => HT.lexLt y x = false)
  | [] => .nil
  | x :: r => ins_sorted x _ (srt_sorted r)
end CM

/-! PM23: x or y, things lent, ranges as lists; betterings. -/
namespace PD
open PySem
def kOT2 (F : List Fn) (b : IE) (x : Ans) (e : En) : Option D → Rs Ans
  | some d => match truthD d with
    | some true => .ok x e
    | some false => evE F b e
    | none => .no
  | none => .no
def kOT (F : List Fn) (b : IE) (x : Ans) (e : En) : Rs Ans := kOT2 F b x e (rdA x e)
def kClT2 (as : List Ans) (dv : List D) (e : En) : Option Fn → Rs Ans
  | some f => callT f as dv e
  | none => .no
def kClT (F : List Fn) (k : Nat) (dv : List D) (as : List Ans) (e : En) : Rs Ans := kClT2 as dv e F[k]?
def kRgl3 (t : Bool) (e : En) : Option (List D) → Rs Ans
  | some xs => .ok (.val t (if t = true then .list xs else .tuple xs)) e
  | none => .no
def kRgl2 (t : Bool) (e : En) : Option D → Rs Ans
  | some (.int j) => if j ≤ 16777216 then kRgl3 t e (rngD 0 j) else .no
  | _ => .no
def kRgl (t : Bool) (x : Ans) (e : En) : Rs Ans := kRgl2 t e (rdA x e)
section
variable {F : List Fn} {e : En} {a b : IE} {k : Nat} {d : D} {f t : Bool} {es : List IE} {dv : List D}
theorem r_ort : evE F (.orT a b) e = (evE F a e).bind (kOT F b) := by
  conv => lhs; unfold evE
  rfl
theorem r_ort_t {x : Ans} (h : truthD d = some true) : kOT2 F b x e (some d) = .ok x e := by
  simp only [kOT2, h]
theorem r_ort_f {x : Ans} (h : truthD d = some false) : kOT2 F b x e (some d) = evE F b e := by
  simp only [kOT2, h]
theorem r_kot {x : Ans} : kOT F b x e = kOT2 F b x e (rdA x e) := rfl
theorem r_rgl : evE F (.rgl t a) e = (evE F a e).bind (kRgl t) := by
  conv => lhs; unfold evE
  rfl
theorem r_krgl {x : Ans} : kRgl t x e = kRgl2 t e (rdA x e) := rfl
theorem r_krgl2 {j : Int} (h : j ≤ 16777216) : kRgl2 t e (some (.int j)) = kRgl3 t e (rngD 0 j) := by
  show (if j ≤ 16777216 then _ else _) = _
  rw [if_pos h]
theorem r_krgl3t {xs : List D} : kRgl3 true e (some xs) = .ok (.val true (.list xs)) e := rfl
end
end PD
namespace CM
open PySem PD
theorem nn_none : prim .notN [.none, .none] = some (false, .bool false) := rfl
theorem any_int {b : Int} : ∀ {hs : List Int}, ((hs.map PyData.int).any fun z => PyData.eqv z (.int b)) = hs.contains b
  | [] => rfl
  | x :: hs => by
    rw [List.map_cons, List.any_cons, any_int, List.contains_cons, eqv_int]
    congr 1
    by_cases h : x = b
    · subst h
      simp
    · rw [decide_eq_false h]
      exact (beq_eq_false_iff_ne.mpr (Ne.symm h)).symm
theorem shp_intl {hs : List Int} : SeqAt.shaped (.list (hs.map .int)) = true := (shp_list (k := 1) fun d hd => by
    obtain ⟨w, _, rfl⟩ := List.mem_map.mp hd
    exact shp_int (Nat.le_refl 1)).ok (by decide)
theorem nin_l {b : Int} {hs : List Int} : prim .notin [.int b, .list (hs.map .int)] = some (false, .bool (!hs.contains b)) := by
  show (pIn (.int b) (.list (hs.map .int))).map _ = _
  show (if (SeqAt.shaped (.int b) && SeqAt.shaped (.list (hs.map .int))) = true then some ((hs.map PyData.int).any fun z => PyData.eqv z (.int b)) else none).map _ = _
  rw [shp_intl, sh_int, Bool.and_self, if_pos rfl, any_int]
  rfl
/-- the standings that are a bettering away, one for each, in the order of the book -/
def betK (hs ws : List Int) : List Wi → List (List Int) → List (List Int)
  | [], ks => ks
  | w :: B, ks => betK hs ws B (match goalW w ws with
    | some vs => if hs.contains w.b = true then ks else addK ks vs
    | none => ks)
theorem betK_mem {hs ws : List Int} : ∀ {B : List Wi} {ks : List (List Int)} {k : List Int}, k ∈ betK hs ws B ks ↔ k ∈ ks ∨ ∃ w ∈ B, goalW w ws = some k ∧ hs.contains w.b = false
  | [], ks, k => by simp [betK]
  | w :: B, ks, k => by
    rw [betK, betK_mem]
    have key : k ∈ (match goalW w ws with
      | some vs => if hs.contains w.b = true then ks else addK ks vs
      | none => ks) ↔ k ∈ ks ∨ (goalW w ws = some k ∧ hs.contains w.b = false) := by
      cases hg : goalW w ws with
      | none => simp
      | some vs =>
        cases hc : hs.contains w.b with
        | true => simp
        | false =>
          simp only [Bool.false_eq_true, if_false, mem_addK, and_true]
          constructor
          · rintro (h | h)
            · exact .inl h
            · exact .inr (congrArg some h.symm)
          · rintro (h | h)
            · exact .inl h
            · exact .inr (Option.some.inj h).symm
    rw [key]
    constructor
    · rintro ((h | h) | ⟨u, hu, h⟩)
      · exact .inl h
      · exact .inr ⟨w, List.mem_cons_self, h⟩
      · exact .inr ⟨u, List.mem_cons_of_mem _ hu, h⟩
    · rintro (h | ⟨u, hu, h⟩)
      · exact .inl (.inl h)
      · rcases List.mem_cons.mp hu with rfl | hu
        · exact .inl (.inr h)
        · exact .inr ⟨u, hu, h⟩
theorem addK_le {ks : List (List Int)} {k : List Int} : (addK ks k).length ≤ ks.length + 1 := by
  unfold addK
  split
  · omega
  · rw [List.length_append]
    exact Nat.le_refl _
theorem betK_len {hs ws : List Int} : ∀ {B : List Wi} {ks : List (List Int)}, (betK hs ws B ks).length ≤ ks.length + B.length
  | [], ks => Nat.le_refl _
  | w :: B, ks => by
    rw [betK]
    refine Nat.le_trans betK_len ?_
    rw [List.length_cons]
    split
    · rename_i vs _
      split
      · omega
      · have := addK_le (ks := ks) (k := vs)
        omega
    · omega
def betS (hs ws : List Int) (B : List Wi) : List (List Int) := srtS HT.lexLt (betK hs ws B [])
theorem betS_mem {hs ws : List Int} {B : List Wi} {k : List Int} : k ∈ betS hs ws B ↔ ∃ w ∈ B, goalW w ws = some k ∧ hs.contains w.b = false := by
  unfold betS
  rw [(srt_perm _).mem_iff, betK_mem]
  simp
theorem betS_len {hs ws : List Int} {B : List Wi} : (betS hs ws B).length ≤ B.length := by
  unfold betS
  rw [(srt_perm _).length_eq]
  have := betK_len (hs := hs) (ws := ws) (B := B) (ks := [])
  simpa using this
theorem bet_in {room hs ws : List Int} {B : List Wi} (W : InRoom room ws) (hB : ∀ w ∈ B, WishB room w) {k : List Int} (hk : k ∈ betS hs ws B) : InRoom room k ∧ k ≠ [] := by
  obtain ⟨w, hw, hg, _⟩ := betS_mem.mp hk
  have h1 := goalW_in W (hB w hw) hg
  refine ⟨h1, fun z => ?_⟩
  subst z
  obtain ⟨n, hn, _⟩ := (hB w hw).n
  have h2 := h1.len
  have h3 := (List.getElem?_eq_some_iff.mp hn).1
  rw [← h2] at h3
  simp at h3
theorem sort_bet {room hs ws : List Int} {B : List Wi} (W : InRoom room ws) (hB : ∀ w ∈ B, WishB room w) : prim .sorted [.list ((betK hs ws B []).map tupI)] = some (true, .list ((betS hs ws B).map tupI)) := by
  refine sort_tups fun k hk => ?_
  refine (bet_in W hB (hs := hs) (k := k) ?_).2
  unfold betS
  exact (srt_perm _).mem_iff.mpr hk
theorem betterings_sem {room ws hs : List Int} {B : List Wi} {hd : D} (hrl : room.length ≤ 100) (W : InRoom room ws) (hB : ∀ w ∈ B, WishB room w) (hl : B.length < 900) (hh : hd = .tuple (hs.map .int) ∨ (hd = .none ∧ hs = [])) :
    f_betterings.sem [tupI room, .tuple (B.map wishD), tupI ws, hd] = .ok true (.list ((betS hs ws B).map tupI)) [] := by
  rw [e_betterings, runF_eq rfl (by decide)]
  unfold b_betterings
  have hor : evE [f_bettered_by] (.orT (.var 3) (.tup [])) [some ⟨.sh, tupI room⟩, some ⟨.sh, .tuple (B.map wishD)⟩, some ⟨.sh, tupI ws⟩, some ⟨.sh, hd⟩, none, none, none, none] = .ok (.val false (.tuple (hs.map .int))) [some ⟨.sh, tupI room⟩, some ⟨.sh, .tuple (B.map wishD)⟩, some ⟨.sh, tupI ws⟩, some ⟨.sh, hd⟩, none, none, none, none] := by
    rcases hh with rfl | ⟨rfl, rfl⟩
    · cases hs with
      | nil => dsimp! only [r_ort, r_kot, r_ort_f (show truthD (.tuple []) = some false from rfl)]
      | cons h hs => dsimp! only [r_ort, r_kot, r_ort_t (show truthD (.tuple (List.map PyData.int (h :: hs))) = some true from rfl)]
    · dsimp! only [r_ort, r_kot, r_ort_f (show truthD .none = some false from rfl)]
  have hli : prim .list [.tuple (hs.map .int)] = some (true, .list (hs.map .int)) := rfl
  simp! only [hor, hli, sq_t]
  have loop : ∀ (R : List Wi) (ks : List (List Int)) (y6 y7 : Option Sl), (∀ w ∈ R, WishB room w) → ks.length + R.length < 1000 → ShN y6 → ShN y7 → ∃ z6 z7, forL (stepF [f_bettered_by] (.nm 6) [
    .set 7 (.call 0 [(.var 6), (.var 2)] []),
    .iff (.and [(.cm .notN (.var 7) (.lit .none)), (.cm .notin (.ix (.var 6) (.lit (.int 1))) (.var 4))]) [
      .ixset 5 (.var 7) (.lit (.bool true))] []]) (R.map wishD) [some ⟨.sh, tupI room⟩, some ⟨.sh, .tuple (B.map wishD)⟩, some ⟨.sh, tupI ws⟩, some ⟨.sh, hd⟩, some ⟨.own, .list (hs.map .int)⟩, some ⟨.own, setD ks⟩, y6, y7] =
      .nx [some ⟨.sh, tupI room⟩, some ⟨.sh, .tuple (B.map wishD)⟩, some ⟨.sh, tupI ws⟩, some ⟨.sh, hd⟩, some ⟨.own, .list (hs.map .int)⟩, some ⟨.own, setD (betK hs ws R ks)⟩, z6, z7] := by
    intro R
    induction R with
    | nil => exact fun ks y6 y7 _ _ _ _ => ⟨y6, y7, rfl⟩
    | cons w R ih =>
      intro ks y6 y7 hR hlen s6 s7
      have hw := hR w List.mem_cons_self
      have hR' : ∀ u ∈ R, WishB room u := fun u hu => hR u (List.mem_cons_of_mem _ hu)
      simp only [List.length_cons] at hlen
      have hg := bettered_sem hrl W hw
      have hni := nin_l (b := w.b) (hs := hs)
      rw [betK]
      simp only [List.map_cons, forL]
      generalize hS : stepF _ _ _ _ _ = S'
      cases hgo : goalW w ws with
      | none =>
        rw [hgo] at hg
        unfold wishD at hS hg
        simp! only [s6, s7, m_bettered_by, hg, optD, nn_none] at hS
        subst hS
        exact ih ks _ _ hR' (by omega) shn1 shn1
      | some vs =>
        rw [hgo] at hg
        have hput : ixSet (setD ks) (tupI vs) (.bool true) = some (setD (addK ks vs)) := set_put (by omega)
        have hnt : prim .notN [tupI vs, .none] = some (false, .bool true) := rfl
        unfold wishD at hS hg
        cases hc : hs.contains w.b with
        | true =>
          rw [hc] at hni
          simp! only [s6, s7, m_bettered_by, hg, optD, hnt, ix_t, at4_1, hni] at hS
          subst hS
          exact ih ks _ _ hR' (by omega) shn1 shn1
        | false =>
          rw [hc] at hni
          simp! only [s6, s7, m_bettered_by, hg, optD, hnt, ix_t, at4_1, hni, hput] at hS
          subst hS
          exact ih (addK ks vs) _ _ hR' (by have := addK_le (ks := ks) (k := vs); omega) shn1 shn1
  obtain ⟨z6, z7, e⟩ := loop B [] none none hB (by show 0 + _ < _; omega) shn0 shn0
  have hd2 : (setD [] : D) = .dict [(.none, .none)] := rfl
  rw [hd2] at e
  simp! only [e, set_list, sort_bet W hB]
end CM

/-! PM24: the second pen; its rooms. -/
namespace CM
open PySem PD
def penS (cs : List Int) (a l : Int) : D := .dict [(.str "script", .list (cs.map .int)), (.str "at", .int a), (.str "left", .int l)]
theorem sne1 : decide (("script" : Str) = "at") = false := by decide +kernel
theorem sne2 : decide (("script" : Str) = "left") = false := by decide +kernel
theorem pns_cells (cs : List Int) (a l : Int) : pIx (penS cs a l) (.str "script") = some (.list (cs.map .int)) := by
  simp [pIx, penS, keyOf, isT, keyAt, dGet, keyEq]
theorem pns_at (cs : List Int) (a l : Int) : pIx (penS cs a l) (.str "at") = some (.int a) := by
  simp [pIx, penS, keyOf, isT, keyAt, dGet, keyEq, sne1]
theorem pns_left (cs : List Int) (a l : Int) : pIx (penS cs a l) (.str "left") = some (.int l) := by
  simp [pIx, penS, keyOf, isT, keyAt, dGet, keyEq, sne2, kne3]
theorem pns_set_at (cs : List Int) (a l b : Int) : ixSet (penS cs a l) (.str "at") (.int b) = some (penS cs b l) := by
  have : (3 : Nat) < sizeLine := by decide
  simp [ixSet, penS, keyOf, isT, keyAt, dSet, keyEq, sne1, kne4, this]
theorem pns_set_left (cs : List Int) (a l b : Int) : ixSet (penS cs a l) (.str "left") (.int b) = some (penS cs a b) := by
  have : (3 : Nat) < sizeLine := by decide
  simp [ixSet, penS, keyOf, isT, keyAt, dSet, keyEq, sne2, kne3, this]
def Pn (b : Int) (d : D) : Prop := ∃ (cs : List Int) (a l : Int), d = penS cs a l ∧ 0 ≤ a ∧ a ≤ b ∧ 0 ≤ l
theorem Pn.mono {b c : Int} {d : D} (h : Pn b d) (hb : b ≤ c) : Pn c d := by
  obtain ⟨cs, a, l, h1, h2, h3, h4⟩ := h
  exact ⟨cs, a, l, h1, h2, by omega, h4⟩
theorem Pn.sc {b : Int} {d : D} (h : Pn b d) : isSc d = false := by
  obtain ⟨cs, a, l, rfl, _⟩ := h
  rfl
theorem pens_sem {ns : List Int} : ∃ d, f__law_pen_v2.sem [.list (ns.map .int)] = .ok true d [] ∧ Pn 0 d := by
  rw [e__law_pen_v2, runF_eq rfl (by decide)]
  unfold b__law_pen_v2
  dsimp! only []
  refine ⟨_, rfl, ns, 0, 0, ?_, by decide, by decide, by decide⟩
  simp [zipDic, dSet, keyEq, penS, sne1, sne2, kne3]
theorem take_sem {b m : Int} {d : D} (h : Pn b d) (hb : b < 10000000) (hm : 0 < m) (hm2 : m < 1073741824) :
    ∃ v d', f__law_take.sem [d, .int m] = .ok false (.int v) [d'] ∧ Pn (b + 1) d' ∧ 0 ≤ v ∧ v < m := by
  obtain ⟨cs, a, l, rfl, h0, h1, h2⟩ := h
  rw [e__law_take]
  rw [runF_eq rfl (by decide)]
  by_cases hl : 0 < l
  · unfold b__law_take
    dsimp! only [pns_left, pns_set_left, hl, hm, hm2]
    refine ⟨_, _, rfl, ⟨cs, a, l / m, rfl, h0, by omega, Int.ediv_nonneg h2 (by omega)⟩, Int.emod_nonneg _ (by omega), Int.emod_lt_of_pos _ hm⟩
  · have hc : ∃ c : Int, evSs [] (b__law_take.take 5) (startE [true, false] [penS cs a l, .int m] 6) = .nx [some ⟨.mu, penS cs (a + 1) l⟩, some ⟨.sh, .int m⟩, none, some ⟨.sh, .int a⟩, some ⟨.sh, .int c⟩, none] := by
      unfold b__law_take
      by_cases hz : 0 < ((cs.map PyData.int).length : Int)
      · have hz' : 0 < (cs.length : Int) := by rwa [List.length_map] at hz
        obtain ⟨z, e1, _⟩ := atD_int (cs := cs) (i := a % (cs.length : Int)) (Int.emod_nonneg _ (by omega)) (Int.emod_lt_of_pos _ hz')
        dsimp! only [pns_left, pns_at, pns_cells, pns_set_at, hl, hz, hz', List.length_map, e1, ix_l]
        exact ⟨_, rfl⟩
      · dsimp! only [pns_left, pns_at, pns_cells, pns_set_at, hl, hz]
        exact ⟨_, rfl⟩
    obtain ⟨c, hc⟩ := hc
    rw [ss_split 5 hc]
    have hab : 0 ≤ (if c < 0 then -c else c) := by split <;> omega
    by_cases hd : a < (cs.length : Int) ∧ 1000000000000000000 ≤ (if c < 0 then -c else c)
    · unfold b__law_take
      dsimp! only [pns_left, pns_at, pns_cells, pns_set_at, pns_set_left, hd.1, hd.2, List.length_map, hm, hm2, Int.reducePow]
      exact ⟨_, _, rfl, ⟨cs, a + 1, _, rfl, by omega, by omega, Int.ediv_nonneg hab (by omega)⟩, Int.emod_nonneg _ (by omega), Int.emod_lt_of_pos _ hm⟩
    · have ht : evSs [] (b__law_take.drop 5 |>.take 1) [some ⟨.mu, penS cs (a + 1) l⟩, some ⟨.sh, .int m⟩, none, some ⟨.sh, .int a⟩, some ⟨.sh, .int c⟩, none] = .nx [some ⟨.mu, penS cs (a + 1) l⟩, some ⟨.sh, .int m⟩, none, some ⟨.sh, .int a⟩, some ⟨.sh, .int c⟩, none] := by
        unfold b__law_take
        by_cases h5 : a < (cs.length : Int)
        · have h6 : ¬ 1000000000000000000 ≤ (if c < 0 then -c else c) := fun q => hd ⟨h5, q⟩
          dsimp! only [pns_left, pns_at, pns_cells, pns_set_at, pns_set_left, h5, h6, List.length_map, hm, hm2, Int.reducePow]
        · dsimp! only [pns_left, pns_at, pns_cells, pns_set_at, pns_set_left, h5, List.length_map, hm, hm2, Int.reducePow]
      rw [ss_split 1 ht]
      unfold b__law_take
      dsimp! only []
      have haa : 7919 * a * a ≤ 7919 * 10000000 * 10000000 := Int.mul_le_mul (Int.mul_le_mul_of_nonneg_left (by omega) (by omega)) (by omega) h0 (by omega)
      have haa0 : 0 ≤ 7919 * a * a := Int.mul_nonneg (Int.mul_nonneg (by omega) h0) h0
      have ha1 : -18446744073709551616 < a := by omega
      have ha2 : a < 18446744073709551616 := by omega
      have hm1 : ∀ (z P : Int), 0 < P → P < 18446744073709551616 → -18446744073709551616 < z % P ∧ z % P < 18446744073709551616 := fun z P h1 h2 => by
        have := Int.emod_nonneg z (show P ≠ 0 by omega)
        have := Int.emod_lt_of_pos z h1
        omega
      have q1 : ∀ z : Int, -18446744073709551616 < z % 2147483647 ∧ z % 2147483647 < 18446744073709551616 := fun z => hm1 z _ (by decide) (by decide)
      dsimp! only [ha1, ha2, (q1 _).1, (q1 _).2, hm]
      exact ⟨_, _, rfl, ⟨cs, a + 1, l, rfl, by omega, by omega, h2⟩, Int.emod_nonneg _ (by omega), Int.emod_lt_of_pos _ hm⟩
end CM

/-! PM25: drawn rooms, givens, wishes of the second pen. -/
namespace PD
open PySem
def kPar3 : Option En → Ou
  | some e3 => .nx e3
  | none => .no
def kPar2 (i j : Nat) : Option (List D × En) → Ou
  | some ([d1, d2], e2) => kPar3 (stNs [i, j] [d1, d2] e2)
  | _ => .no
def kPar (i j : Nat) : Rs (List Ans) → Ou
  | .ok xs e1 => kPar2 i j (fzAs xs e1)
  | .ex c d e1 => .ex c d e1
  | .no => .no
section
variable {F : List Fn} {e : En} {a b : IE} {i j : Nat}
theorem r_par : evS F (.par i j a b) e = kPar i j (evEs F [a, b] e) := by
  conv => lhs; unfold evS
  rfl
theorem r_kpar {xs : List Ans} : kPar i j (.ok xs e) = kPar2 i j (fzAs xs e) := rfl
theorem r_kpar2 {x y : D} : kPar2 i j (some ([x, y], e)) = kPar3 (stNs [i, j] [x, y] e) := rfl
theorem r_kpar3 : kPar3 (some e) = .nx e := rfl
end
end PD
namespace CM
open PySem PD
theorem room_c2 {r : Int} (h0 : 0 ≤ r) (h1 : r < 7) : ∃ ws, atD [.tuple [.int 2], .tuple [.int 4, .int 2], .tuple [.int 2, .int 2, .int 2, .int 2], .tuple [.int 4, .int 4], .tuple [.int 2, .int 2, .int 2, .int 2, .int 2, .int 2], .tuple [.int 4, .int 4, .int 4], .tuple [.int 3, .int 2, .int 4, .int 2]] r = some (tupI ws) ∧ Room 64 ws := by
  rcases (by omega : r = 0 ∨ r = 1 ∨ r = 2 ∨ r = 3 ∨ r = 4 ∨ r = 5 ∨ r = 6) with rfl | rfl | rfl | rfl | rfl | rfl | rfl
  · exact ⟨[2], rfl, ⟨by decide, by decide, by decide, by decide⟩⟩
  · exact ⟨[4, 2], rfl, ⟨by decide, by decide, by decide, by decide⟩⟩
  · exact ⟨[2, 2, 2, 2], rfl, ⟨by decide, by decide, by decide, by decide⟩⟩
  · exact ⟨[4, 4], rfl, ⟨by decide, by decide, by decide, by decide⟩⟩
  · exact ⟨[2, 2, 2, 2, 2, 2], rfl, ⟨by decide, by decide, by decide, by decide⟩⟩
  · exact ⟨[4, 4, 4], rfl, ⟨by decide, by decide, by decide, by decide⟩⟩
  · exact ⟨[3, 2, 4, 2], rfl, ⟨by decide, by decide, by decide, by decide⟩⟩
theorem Room.mono {a b : Int} {ns : List Int} (h : Room a ns) (hb : a ≤ b) : Room b ns := ⟨h.ne, h.len, h.two, Int.le_trans h.prod hb⟩
theorem size_room {most : Int} {ns : List Int} (h : Room most ns) : f__law_size.sem [tupI ns] = .ok false (.int (prodI ns)) [] := size_sem fun n hn => by
  have := h.two n hn
  omega
theorem given2_sem {b most apart : Int} {d : D} {room : List Int} (hp : Pn b d) (hb : b < 9000000) (R : Room most room) :
    ∃ g d', f__law_given_v2.sem [d, tupI room, .int apart] = .ok false (givD g) [d'] ∧ Pn (b + 20) d' ∧ GivB room room.length g ∧ ∀ p ∈ g, p.1 ≠ apart := by
  rw [e__law_given_v2, runF_eq rfl (by decide)]
  have hrl := R.len
  have hrne : 0 < room.length := List.length_pos_iff.mpr R.ne
  obtain ⟨rare, d1, e1, p1, v0, v1⟩ := take_sem hp (by omega) (show (0 : Int) < 3 by decide) (by decide)
  have hr0 : (0 : Int) ≤ (room.length : Int) := by omega
  have hr1 : (room.length : Int) < 4611686018427387904 := by omega
  unfold b__law_given_v2
  simp! only [m__law_take, e1, hr0, hr1]
  generalize hL : forL _ _ _ = L
  have hI := forL_use hL (fun i e => ∃ d' g y5, e = [some ⟨.mu, d'⟩, some ⟨.sh, tupI room⟩, some ⟨.sh, .int apart⟩, some ⟨.sh, .int (1 + rare)⟩, some ⟨.own, .list (g.map pairD)⟩, y5] ∧ Pn (b + 1 + 2 * (i : Int)) d' ∧ GivB room i g ∧ (∀ p ∈ g, p.1 ≠ apart) ∧ ShN y5)
    ⟨d1, [], none, rfl, p1.mono (by omega), ⟨fun p hp => absurd hp List.not_mem_nil, fun p hp => absurd hp List.not_mem_nil, .nil⟩, fun p hp => absurd hp List.not_mem_nil, shn0⟩ (by
    intro i x e hx hI
    obtain ⟨d3, g, y5, rfl, p3, G, ha, s5⟩ := hI
    obtain ⟨rfl, hi0⟩ := rng_at hx
    have hi : i < room.length := by rwa [Int.toNat_natCast] at hi0
    have hn : room[i]? = some (room[i]'hi) := List.getElem?_eq_getElem _
    have h2 := R.two _ (List.getElem_mem hi)
    have hn1 := room_at (room := room) (b := (i : Int)) (n := room[i]'hi) (by omega) (by rw [Int.toNat_natCast]; exact hn)
    obtain ⟨u, d4, e4, p4, u0, u1⟩ := take_sem p3 (by omega) (show (0 : Int) < 1 + (1 + rare) by omega) (by omega)
    obtain ⟨w, d5, e5, p5, w0, w1⟩ := take_sem p4 (by omega) (show (0 : Int) < room[i]'hi by omega) (by omega)
    have p7 : Pn (b + 1 + 2 * ((i + 1 : Nat) : Int)) d5 := p5.mono (by omega)
    have p8 : Pn (b + 1 + 2 * ((i + 1 : Nat) : Int)) d4 := p4.mono (by omega)
    have hgl := G.len
    have happ : mtd .append (.list (g.map pairD)) [.tuple [.int (i : Int), .int w]] = some (.list ((g ++ [((i : Int), w)]).map pairD), .none) := by
      rw [m_app (by rw [List.length_map, sl_eq]; omega), List.map_append]
      rfl
    have G1 : GivB room (i + 1) g := ⟨fun p hp => by have := G.box p hp; omega, G.worth, G.rise⟩
    generalize hS : stepF _ _ _ _ _ = S
    by_cases hu : u = 0
    · have hud : decide (u = 0) = true := decide_eq_true hu
      by_cases hk : (i : Int) = apart
      · have hkd : decide ((i : Int) = apart) = true := decide_eq_true hk
        simp! only [s5, m__law_take, e4, hud, hkd] at hS
        subst hS
        exact ⟨_, rfl, d4, g, _, rfl, p8, G1, ha, shn1⟩
      · have hkd : decide ((i : Int) = apart) = false := decide_eq_false hk
        simp! only [s5, m__law_take, e4, hud, hkd, hn1, e5, happ] at hS
        subst hS
        refine ⟨_, rfl, d5, g ++ [((i : Int), w)], _, rfl, p7, ⟨fun p hp => ?_, fun p hp => ?_, ?_⟩, fun p hp => ?_, shn1⟩
        · rcases List.mem_append.mp hp with h | h
          · exact G1.box p h
          · rw [List.mem_singleton.mp h]
            exact ⟨by show 0 ≤ (i : Int); omega, by show (i : Int) < _; omega⟩
        · rcases List.mem_append.mp hp with h | h
          · exact G.worth p h
          · rw [List.mem_singleton.mp h]
            exact ⟨_, by show room[((i : Int)).toNat]? = _; rw [Int.toNat_natCast]; exact hn, w0, w1⟩
        · refine List.pairwise_append.mpr ⟨G.rise, List.pairwise_singleton _ _, fun p hp q hq => ?_⟩
          rw [List.mem_singleton.mp hq]
          exact (G.box p hp).2
        · rcases List.mem_append.mp hp with h | h
          · exact ha p h
          · rw [List.mem_singleton.mp h]
            exact hk
    · have hud : decide (u = 0) = false := decide_eq_false hu
      simp! only [s5, m__law_take, e4, hud] at hS
      subst hS
      exact ⟨_, rfl, d4, g, _, rfl, p8, G1, ha, shn1⟩)
  obtain ⟨e', rfl, d3, g, y5, rfl, p3, G, ha, _⟩ := hI
  rw [List.length_map, List.length_range, Int.toNat_natCast] at p3 G
  simp! only [tup_l]
  exact ⟨g, d3, rfl, p3.mono (by omega), G, ha⟩
theorem mod_ne {n y v : Int} (hn : 2 ≤ n) (y0 : 0 ≤ y) (y1 : y < n) (v0 : 0 ≤ v) (v1 : v < n - 1) : (y + 1 + v) % n ≠ y := by
  intro q
  by_cases hh : y + 1 + v < n
  · rw [Int.emod_eq_of_lt (by omega) hh] at q
    omega
  · have : (y + 1 + v) % n = y + 1 + v - n := by
      rw [← Int.sub_emod_right, Int.emod_eq_of_lt (by omega) (by omega)]
    omega
theorem wish2_sem {b most way : Int} {d : D} {room : List Int} (hp : Pn b d) (hb : b < 8000000) (R : Room most room) :
    ∃ w d', f__law_wish_v2.sem [d, tupI room, .int way] = .ok false (wishD w) [d'] ∧ Pn (b + 23) d' ∧ WishB room w := by
  rw [e__law_wish_v2, runF_eq rfl (by decide)]
  have hrl := R.len
  have hrne : 0 < room.length := List.length_pos_iff.mpr R.ne
  obtain ⟨bx, d1, e1, p1, l0, l1⟩ := take_sem hp (by omega) (show (0 : Int) < (room.length : Int) by omega) (by omega)
  obtain ⟨n, en, en2⟩ := atD_room (ws := room) l0 l1
  have hn := R.two n (List.mem_of_getElem? en2)
  obtain ⟨y, d2, e2, p2, y0, y1⟩ := take_sem p1 (by omega) (show (0 : Int) < n by omega) (by omega)
  obtain ⟨v, d3, e3, p3, v0, v1⟩ := take_sem p2 (by omega) (show (0 : Int) < n - 1 by omega) (by omega)
  obtain ⟨g, d4, e4, p4, G, hap⟩ := given2_sem (apart := bx) p3 (by omega) R
  have hn0 : 0 < n := by omega
  have hx0 : 0 ≤ (y + 1 + v) % n := Int.emod_nonneg _ (by omega)
  have hx1 : (y + 1 + v) % n < n := Int.emod_lt_of_pos _ hn0
  have hne : (y + 1 + v) % n ≠ y := mod_ne hn.1 y0 y1 v0 v1
  have fin : ∀ x z : Int, 0 ≤ x → x < n → 0 ≤ z → z < n → x ≠ z → WishB room ⟨g, bx, x, z⟩ := fun x z a b c d e => ⟨G, l0, ⟨n, en2, a, b, c, d⟩, e, hap⟩
  unfold b__law_wish_v2
  generalize hX : (y + 1 + v) % n = x at hx0 hx1 hne
  by_cases hw : way = 1
  · by_cases hlt : x < y
    · have hwd : decide (way = 1) = true := decide_eq_true hw
      simp! only [r_par, r_kpar, r_kpar2, r_kpar3, m__law_take, e1, en, e2, e3, hn0, hX, hwd, hlt, m__law_given_v2, e4, show isSc (givD g) = false from rfl]
      exact ⟨⟨g, bx, y, x⟩, d4, rfl, p4.mono (by omega), fin _ _ y0 y1 hx0 hx1 (Ne.symm hne)⟩
    · have hwd : decide (way = 1) = true := decide_eq_true hw
      simp! only [r_par, r_kpar, r_kpar2, r_kpar3, m__law_take, e1, en, e2, e3, hn0, hX, hwd, hlt, m__law_given_v2, e4, show isSc (givD g) = false from rfl]
      exact ⟨⟨g, bx, x, y⟩, d4, rfl, p4.mono (by omega), fin _ _ hx0 hx1 y0 y1 hne⟩
  · have hwd : decide (way = 1) = false := decide_eq_false hw
    simp! only [m__law_take, e1, en, e2, e3, hn0, hX, hwd, m__law_given_v2, e4, show isSc (givD g) = false from rfl]
    exact ⟨⟨g, bx, x, y⟩, d4, rfl, p4.mono (by omega), fin _ _ hx0 hx1 y0 y1 hne⟩
end CM

/-! PM26: standings, some givens, turned lists, wider rooms of the second pen. -/
namespace CM
open PySem PD
theorem standing2_sem {b most : Int} {d : D} {room : List Int} (hp : Pn b d) (hb : b < 9000000) (R : Room most room) :
    ∃ ws d', f__law_standing_v2.sem [d, tupI room] = .ok false (tupI ws) [d'] ∧ Pn (b + 9) d' ∧ InRoom room ws := by
  rw [e__law_standing_v2, runF_eq rfl (by decide)]
  have hrl := R.len
  have hc : ∃ W ds, evE [f__law_take] (.comp (.call 0 [(.var 0), (.var 2)] []) (.nm 2) (.seq (.var 1)) [] [2]) [some ⟨.mu, d⟩, some ⟨.sh, tupI room⟩, none] =
      .ok (.val true (.list ds)) (backE [some ⟨.mu, d⟩, some ⟨.sh, tupI room⟩, none] W [2]) ∧ ∃ d' ws, W = [some ⟨.mu, d'⟩, some ⟨.sh, tupI room⟩, none] ∧ Pn (b + (room.length : Int)) d' ∧ ds = ws.map .int ∧ InRoom (room.take room.length) ws := by
    refine evE_comp_st (F := [f__law_take]) (el := .call 0 [(.var 0), (.var 2)] []) (pt := .nm 2) (src := .seq (.var 1)) (cs := []) (own := [2]) (e := [some ⟨.mu, d⟩, some ⟨.sh, tupI room⟩, none]) (e1 := [some ⟨.mu, d⟩, some ⟨.sh, tupI room⟩, none]) (A := room) (h := .int) (fun i W ds => ∃ d' ws, W = [some ⟨.mu, d'⟩, some ⟨.sh, tupI room⟩, none] ∧ Pn (b + (i : Int)) d' ∧ ds = ws.map .int ∧ InRoom (room.take i) ws) (by simp! only []) rfl (by rw [sl_eq]; omega) ⟨d, [], rfl, hp.mono (by omega), rfl, trivial⟩ ?_
    intro i n e ds hn hI
    obtain ⟨d2, ws, hW, p2, rfl, hin⟩ := hI
    have hi : i < room.length := (List.getElem?_eq_some_iff.mp hn).1
    have h2 := R.two n (List.mem_of_getElem? hn)
    obtain ⟨v, d3, e3, p3, u0, u1⟩ := take_sem p2 (by omega) (show (0 : Int) < n by omega) (by omega)
    rw [r_stepc, hW]
    dsimp! only [m__law_take, e3]
    refine ⟨_, _, rfl, d3, ws ++ [v], rfl, p3.mono (by omega), by rw [List.map_append]; rfl, ?_⟩
    rw [List.take_add_one, hn]
    exact inRoom_app hin ⟨u0, u1, trivial⟩
  obtain ⟨W, ds, hc, d2, ws, rfl, p2, rfl, hin⟩ := hc
  rw [List.take_length] at hin
  unfold b__law_standing_v2
  simp! only [hc, backE, tup_l]
  exact ⟨ws, d2, rfl, p2.mono (by omega), hin⟩
theorem turned2_sem {b : Int} {d : D} {L : List Int} (hp : Pn b d) (hb : b < 9000000) (hl : L.length ≤ 1000) :
    ∃ (L' : List Int) (d' : D), f__law_turned.sem [d, .list (L.map .int)] = .ok true (.list (L'.map .int)) [d'] ∧ Pn (b + (L.length : Int)) d' ∧ L'.Perm L := by
  rw [e__law_turned, runF_eq rfl (by decide)]
  unfold b__law_turned
  simp! only []
  generalize hL : forL _ _ _ = LL
  have hI := forL_use hL (fun i e => ∃ d' A y3, e = [some ⟨.mu, d'⟩, some ⟨.sh, .list (L.map .int)⟩, some ⟨.own, .list ((A : List Int).map .int)⟩, y3] ∧ Pn (b + (i : Int)) d' ∧ A.Perm (L.take i) ∧ ShN y3)
    ⟨d, [], none, rfl, hp.mono (by omega), .refl _, shn0⟩ (by
    intro i x e hx hI
    obtain ⟨d1, A, y3, rfl, p1, pm, s3⟩ := hI
    obtain ⟨n, hn, rfl⟩ := map_at hx
    have hi : i < L.length := (List.getElem?_eq_some_iff.mp hn).1
    have hAl : A.length = i := by
      rw [pm.length_eq, List.length_take]
      omega
    obtain ⟨v, d2, e2, p2, v0, v1⟩ := take_sem p1 (by omega) (show (0 : Int) < (A.length : Int) + 1 by omega) (by omega)
    have hins : mtd .insert (.list (A.map .int)) [.int v, .int n] = some (.list ((A.take v.toNat ++ [n] ++ A.drop v.toNat).map .int), .none) := by
      show (if (A.map PyData.int).length < sizeLine ∧ 0 ≤ v ∧ v < 2 ^ 63 then some (PyData.list ((A.map PyData.int).take v.toNat ++ [.int n] ++ (A.map PyData.int).drop v.toNat), PyData.none) else none) = _
      rw [if_pos ⟨by rw [List.length_map, sl_eq]; omega, v0, by omega⟩, List.map_append, List.map_append, List.map_take, List.map_drop]
      rfl
    generalize hS : stepF _ _ _ _ _ = S
    simp! only [s3, List.length_map, m__law_take, e2, hins] at hS
    subst hS
    refine ⟨_, rfl, d2, A.take v.toNat ++ [n] ++ A.drop v.toNat, _, rfl, p2.mono (by omega), ?_, shn1⟩
    rw [List.take_add_one, hn]
    have h1 : (A.take v.toNat ++ [n] ++ A.drop v.toNat).Perm (n :: A) := by
      rw [List.append_assoc]
      refine (List.perm_middle (a := n) (l₁ := A.take v.toNat) (l₂ := A.drop v.toNat)).trans ?_
      rw [List.take_append_drop]
    refine h1.trans ((pm.cons n).trans ?_)
    exact (List.perm_append_singleton n (L.take i)).symm)
  obtain ⟨e', rfl, d2, A, y3, rfl, p2, pm, _⟩ := hI
  rw [List.length_map] at p2 pm
  rw [List.take_length] at pm
  simp! only []
  exact ⟨A, d2, rfl, p2, pm⟩
/-- a room no less in any box -/
def Wd (room room2 : List Int) : Prop := room.length ≤ room2.length ∧ ∀ i n : _, room[(i : Nat)]? = some (n : Int) → ∃ n2, room2[i]? = some n2 ∧ n ≤ n2
theorem Wd.giv {room room2 : List Int} {g : List (Int × Int)} (h : Wd room room2) (G : GivB room room.length g) : GivB room2 room2.length g :=
  ⟨fun p hp => by have := G.box p hp; have := h.1; omega, fun p hp => by
    obtain ⟨n, hn, h0, h1⟩ := G.worth p hp
    obtain ⟨n2, hn2, hle⟩ := h.2 _ _ hn
    exact ⟨n2, hn2, h0, by omega⟩, G.rise⟩
theorem Wd.wish {room room2 : List Int} {w : Wi} (h : Wd room room2) (W : WishB room w) : WishB room2 w := by
  obtain ⟨n, hn, h0, h1, h2, h3⟩ := W.n
  obtain ⟨n2, hn2, hle⟩ := h.2 _ _ hn
  exact ⟨h.giv W.giv, W.b0, ⟨n2, hn2, h0, by omega, h2, by omega⟩, W.ne, W.ap⟩
end CM

/-! PM27: all standings, the snake, full rows. -/
namespace CM
open PySem PD
def allBody : List IS := [
    .set 1 (.comp (.bi .add (.ix (.var 1) (.bi .fdiv (.var 3) (.var 2))) (.tup [(.bi .mod (.var 3) (.var 2))])) (.nm 3) (.rng (.bi .mul (.fn .len [(.var 1)]) (.var 2))) [] [3])]
theorem all2_loop {x : D} {room : List Int} (hpos : ∀ n ∈ room, 0 < n ∧ n < 1000) (hpr : prodI room ≤ 1000) (hl : room.length ≤ 100) : ∃ y2, forL (stepF [] (.nm 2) allBody) (room.map .int) [some ⟨.sh, x⟩, some ⟨.own, .list (tupL (allS []))⟩, none, none] = .nx [some ⟨.sh, x⟩, some ⟨.own, .list (tupL (allS room))⟩, y2, none] := by
  generalize hL : forL _ _ _ = L
  have hp : ∀ n ∈ room, 0 < n := fun n hn => (hpos n hn).1
  have hI := forL_use hL (fun i e => ∃ y2, e = [some ⟨.sh, x⟩, some ⟨.own, .list (tupL (allS (room.take i)))⟩, y2, none] ∧ ShN y2) ⟨none, rfl, shn0⟩ (by
    intro i z e hx hI
    obtain ⟨y2, rfl, s2⟩ := hI
    obtain ⟨m, eo, rfl⟩ := map_at hx
    have hm := hpos m (List.mem_of_getElem? eo)
    have hp1 := prodI_take hp i
    have hp2 := prodI_take hp (i + 1)
    have hps := prodI_pos (fun n hn => hp n (List.mem_of_mem_take hn) : ∀ n ∈ room.take i, 0 < n)
    have e2 : room.take i ++ [m] = room.take (i + 1) := by
      rw [List.take_add_one, eo]
      rfl
    have e3 : prodI (room.take i) * m = prodI (room.take (i + 1)) := by
      rw [← e2, prodI_snoc]
    have hlen : ((tupL (allS (room.take i))).length : Int) = prodI (room.take i) := by
      unfold tupL
      rw [List.length_map, allS_len]
      omega
    have hm0 : 0 < m := hm.1
    have hmb : m < 1073741824 := by omega
    have hmul : prim .mul [.int (prodI (room.take i)), .int m] = some (false, .int (prodI (room.take (i + 1)))) := by
      have : prim .mul [.int (prodI (room.take i)), .int m] = some (false, .int (prodI (room.take i) * m)) := p_mul1 (by omega) (by omega)
      rw [this, e3]
    have hq0 : 0 ≤ prodI (room.take (i + 1)) := by
      rw [← e3]
      exact Int.mul_nonneg (by omega) (by omega)
    have hq1 : prodI (room.take (i + 1)) < 4611686018427387904 := by omega
    have hc : evE [] (.comp (.bi .add (.ix (.var 1) (.bi .fdiv (.var 3) (.var 2))) (.tup [(.bi .mod (.var 3) (.var 2))])) (.nm 3) (.rng (.bi .mul (.fn .len [(.var 1)]) (.var 2))) [] [3]) [some ⟨.sh, x⟩, some ⟨.own, .list (tupL (allS (room.take i)))⟩, some ⟨.sh, .int m⟩, none] =
        .ok (.val true (.list (tupL (allS (room.take (i + 1)))))) [some ⟨.sh, x⟩, some ⟨.own, .list (tupL (allS (room.take i)))⟩, some ⟨.sh, .int m⟩, none] := by
      have := evE_comp_map (F := []) (el := .bi .add (.ix (.var 1) (.bi .fdiv (.var 3) (.var 2))) (.tup [(.bi .mod (.var 3) (.var 2))])) (pt := .nm 3) (src := .rng (.bi .mul (.fn .len [(.var 1)]) (.var 2))) (cs := []) (own := [3]) (e := [some ⟨.sh, x⟩, some ⟨.own, .list (tupL (allS (room.take i)))⟩, some ⟨.sh, .int m⟩, none]) (e1 := [some ⟨.sh, x⟩, some ⟨.own, .list (tupL (allS (room.take i)))⟩, some ⟨.sh, .int m⟩, none])
        (A := List.range (prodI (room.take (i + 1))).toNat) (h := fun (k : Nat) => PyData.int (k : Int)) (g := fun (k : Nat) => some (tupI (stn (room.take (i + 1)) (k : Int)))) (by simp! only [hlen, hmul, hq0, hq1]) rfl (by rw [sl_eq, List.length_range]; omega) (fun k hk e he => by
          have hk' := List.mem_range.mp hk
          have h1 : 0 ≤ (k : Int) / m := Int.ediv_nonneg (by omega) (by omega)
          have h2 : (k : Int) / m < prodI (room.take i) := Int.ediv_lt_of_lt_mul hm0 (by rw [e3]; omega)
          have h3 := at_allC (room := room.take i) h1 h2
          have h4 : prim .add [tupI (stn (room.take i) ((k : Int) / m)), .tuple [.int ((k : Int) % m)]] = some (false, tupI (stn (room.take (i + 1)) (k : Int))) := by
            rw [← e2, stn_snoc]
            have := cat_t (xs := (stn (room.take i) ((k : Int) / m)).map PyData.int) (ys := [.int ((k : Int) % m)]) (by rw [List.length_map, stn_len, List.length_take]; show _ + 1 ≤ _; omega)
            unfold tupI
            rw [List.map_append]
            exact this
          rw [r_stepc, he]
          simp! only [hm0, hmb, ix_l, h3, h4]
          exact ⟨_, rfl, rfl⟩)
      rw [fm_map] at this
      have et : tupL (allS (room.take (i + 1))) = (List.range (prodI (room.take (i + 1))).toNat).map fun (k : Nat) => tupI (stn (room.take (i + 1)) (k : Int)) := by
        unfold tupL allS
        rw [List.map_map]
        rfl
      rw [this, et]
    generalize hS : stepF _ _ _ _ _ = S'
    unfold allBody at hS
    simp! only [s2, hc] at hS
    subst hS
    exact ⟨_, rfl, _, rfl, shn1⟩)
  obtain ⟨e', rfl, y2, rfl, _⟩ := hI
  rw [List.length_map, List.take_length]
  exact ⟨y2, rfl⟩
theorem all2_sem {x : D} {room : List Int} (hx : x = tupI room ∨ x = .list (room.map .int)) (hpos : ∀ n ∈ room, 0 < n ∧ n < 1000) (hpr : prodI room ≤ 1000) (hl : room.length ≤ 100) : f__law_all_v2.sem [x] = .ok true (.list (tupL (allS room))) [] := by
  rw [e__law_all_v2, runF_eq rfl (by decide)]
  obtain ⟨y2, h⟩ := all2_loop (x := x) hpos hpr hl
  have h0 : tupL (allS []) = [.tuple []] := rfl
  rw [h0] at h
  unfold allBody at h
  unfold b__law_all_v2
  rcases hx with rfl | rfl
  · simp! only [h]
  · simp! only [h]
/-! the snake -/
theorem exts_perm {S T : List (List Int)} {m : Int} (h : S.Perm T) : (exts S m).Perm (exts T m) := h.flatMap_right _
theorem allS_nodup {room : List Int} (hp : ∀ n ∈ room, 0 < n) : (allS room).Nodup := by
  unfold allS
  show List.Pairwise (· ≠ ·) _
  rw [List.pairwise_map]
  refine List.Pairwise.imp_of_mem (fun {a b} ha hb h => ?_) List.pairwise_lt_range
  intro z
  have h1 := List.mem_range.mp ha
  have h2 := List.mem_range.mp hb
  have e1 := num_stn room hp (a : Int) (by omega) (by omega)
  have e2 := num_stn room hp (b : Int) (by omega) (by omega)
  rw [z, e2] at e1
  omega
theorem snake_sem {most : Int} {room : List Int} (R : Room most room) (hm : most ≤ 1000) : ∃ S : List (List Int), f__law_snake.sem [tupI room] = .ok false (.list (S.map tupI)) [] ∧ S.Perm (allS room) := by
  rw [e__law_snake, runF_eq rfl (by decide)]
  unfold b__law_snake
  simp! only []
  generalize hL : forL _ _ _ = L
  have hI := forL_use hL (fun i e => ∃ S o y2 y3 y4 y5, e = [some ⟨.sh, tupI room⟩, some ⟨o, .list ((S : List (List Int)).map tupI)⟩, y2, y3, y4, y5, none] ∧ S.Perm (allS (room.take i)) ∧ (o = .own ∨ o = .sh) ∧ (0 < i → o = .sh) ∧ ShN y2 ∧ StN y3 ∧ ShN y4 ∧ StN y5)
    ⟨[[]], .own, none, none, none, none, rfl, .refl _, .inl rfl, fun h => absurd h (Nat.lt_irrefl 0), shn0, stn0, shn0, stn0⟩ (by
    intro i z e hx hI
    obtain ⟨S, o, y2, y3, y4, y5, rfl, pm, ho, _, s2, s3, s4, s5⟩ := hI
    obtain ⟨m, eo, rfl⟩ := map_at hx
    have h2 := R.two m (List.mem_of_getElem? eo)
    have hp := prodI_take R.pos i
    have hpr := R.prod
    have hrl := R.len
    have hSl : (S.length : Int) ≤ 1000 := by
      rw [pm.length_eq, allS_len]
      omega
    have hin : ∀ k ∈ S, k.length ≤ 8 := fun k hk => by
      have h1 := inR_len _ k (pm.mem_iff.mp hk)
      rw [h1, List.length_take]
      omega
    have hm0 : 0 ≤ m := by omega
    have hmb : m < 4611686018427387904 := by omega
    have e2 : room.take i ++ [m] = room.take (i + 1) := by
      rw [List.take_add_one, eo]
      rfl
    have hr0 : (0 : Int) ≤ ((S.map tupI).length : Int) := by omega
    have hr1 : ((S.map tupI).length : Int) < 4611686018427387904 := by
      rw [List.length_map]
      omega
    have inner : ∃ e', forL (stepF [] (.nm 4) [
      .set 5 (.comp (.bi .add (.ix (.var 1) (.var 4)) (.tup [(.var 6)])) (.nm 6) (.rng (.var 2)) [] [6]),
      .exp (.mt .extend 3 [(.ix (.lst [(.var 5), (.un .rev (.var 5))]) (.bi .mod (.var 4) (.lit (.int 2))))])]) ((List.range ((S.map tupI).length : Int).toNat).map fun (k : Nat) => PyData.int (k : Int)) [some ⟨.sh, tupI room⟩, some ⟨o, .list (S.map tupI)⟩, some ⟨.sh, .int m⟩, some ⟨.own, .list []⟩, y4, y5, none] = .nx e' ∧
        ∃ T y4 y5, e' = [some ⟨.sh, tupI room⟩, some ⟨o, .list (S.map tupI)⟩, some ⟨.sh, .int m⟩, some ⟨.own, .list ((T : List (List Int)).map tupI)⟩, y4, y5, none] ∧ T.Perm (exts S m) ∧ ShN y4 ∧ StN y5 := by
      generalize hL : forL _ _ _ = L
      have hI := forL_use hL (fun j e => ∃ T y4 y5, e = [some ⟨.sh, tupI room⟩, some ⟨o, .list (S.map tupI)⟩, some ⟨.sh, .int m⟩, some ⟨.own, .list ((T : List (List Int)).map tupI)⟩, y4, y5, none] ∧ T.Perm (exts (S.take j) m) ∧ ShN y4 ∧ StN y5) ⟨[], y4, y5, rfl, .refl _, s4, s5⟩ (by
        intro j z e hx hI
        obtain ⟨T, y4, y5, rfl, pmT, s4, s5⟩ := hI
        obtain ⟨rfl, hj0⟩ := rng_at hx
        have hj : j < S.length := by
          rwa [Int.toNat_natCast, List.length_map] at hj0
        have hk1 : S[j]? = some S[j] := List.getElem?_eq_getElem hj
        have hkl := hin _ (List.getElem_mem hj)
        have hTl : T.length ≤ 4000 := by
          rw [pmT.length_eq, exts_len, List.length_take]
          have : min j S.length * m.toNat ≤ 1000 * 4 := Nat.mul_le_mul (by omega) (by omega)
          omega
        generalize hkk : S[j] = k at hk1 hkl
        have hat : atD (S.map tupI) (j : Int) = some (tupI k) := by
          unfold atD
          rw [if_pos (by omega), Int.toNat_natCast, List.getElem?_map, hk1]
          rfl
        have hc : evE [] (.comp (.bi .add (.ix (.var 1) (.var 4)) (.tup [(.var 6)])) (.nm 6) (.rng (.var 2)) [] [6]) [some ⟨.sh, tupI room⟩, some ⟨o, .list (S.map tupI)⟩, some ⟨.sh, .int m⟩, some ⟨.own, .list (T.map tupI)⟩, some ⟨.sh, .int (j : Int)⟩, y5, none] =
            .ok (.val true (.list (((List.range m.toNat).map fun (w : Nat) => k ++ [(w : Int)]).map tupI))) [some ⟨.sh, tupI room⟩, some ⟨o, .list (S.map tupI)⟩, some ⟨.sh, .int m⟩, some ⟨.own, .list (T.map tupI)⟩, some ⟨.sh, .int (j : Int)⟩, y5, none] := by
          have := evE_comp_map (F := []) (el := .bi .add (.ix (.var 1) (.var 4)) (.tup [(.var 6)])) (pt := .nm 6) (src := .rng (.var 2)) (cs := []) (own := [6]) (e := [some ⟨.sh, tupI room⟩, some ⟨o, .list (S.map tupI)⟩, some ⟨.sh, .int m⟩, some ⟨.own, .list (T.map tupI)⟩, some ⟨.sh, .int (j : Int)⟩, y5, none]) (e1 := [some ⟨.sh, tupI room⟩, some ⟨o, .list (S.map tupI)⟩, some ⟨.sh, .int m⟩, some ⟨.own, .list (T.map tupI)⟩, some ⟨.sh, .int (j : Int)⟩, y5, none])
            (A := List.range m.toNat) (h := fun (w : Nat) => PyData.int (w : Int)) (g := fun (w : Nat) => some (tupI (k ++ [(w : Int)]))) (by simp! only [hm0, hmb]) rfl (by rw [sl_eq, List.length_range]; omega) (fun w hw e he => by
              have h4 : prim .add [tupI k, .tuple [.int (w : Int)]] = some (false, tupI (k ++ [(w : Int)])) := by
                have := cat_t (xs := k.map PyData.int) (ys := [.int (w : Int)]) (by rw [List.length_map]; show _ + 1 ≤ _; omega)
                unfold tupI
                rw [List.map_append]
                exact this
              rw [r_stepc, he]
              rcases ho with rfl | rfl <;> (simp! only [ix_l, hat, h4]; exact ⟨_, rfl, rfl⟩))
          rw [fm_map] at this
          rw [this, List.map_map]
          rfl
        generalize hB : ((List.range m.toNat).map fun (w : Nat) => k ++ [(w : Int)]) = B at hc
        have hBl : B.length ≤ 4 := by
          rw [← hB, List.length_map, List.length_range]
          omega
        have hex : exts (S.take (j + 1)) m = exts (S.take j) m ++ B := by
          rw [exts_take hk1, hB]
        have hsel : ∃ C : List (List Int), atD [PyData.list (B.map tupI), .list (B.map tupI).reverse] ((j : Int) % 2) = some (.list (C.map tupI)) ∧ C.Perm B := by
          rcases (by omega : (j : Int) % 2 = 0 ∨ (j : Int) % 2 = 1) with h | h
          · rw [h]
            exact ⟨B, rfl, .refl _⟩
          · rw [h]
            exact ⟨B.reverse, by rw [List.map_reverse]; rfl, List.reverse_perm B⟩
        obtain ⟨C, hC, pmC⟩ := hsel
        have hext : mtd .extend (.list (T.map tupI)) [.list (C.map tupI)] = some (.list ((T ++ C).map tupI), .none) := by
          rw [m_ext (by rw [List.length_map, List.length_map, pmC.length_eq, sl_eq]; omega), List.map_append]
        have hrv : prim .rev [.list (B.map tupI)] = some (true, .list (B.map tupI).reverse) := rfl
        generalize hS : stepF _ _ _ _ _ = S'
        simp! only [s4, s5, hc, hrv, ix_l, hC, hext] at hS
        subst hS
        refine ⟨_, rfl, T ++ C, _, _, rfl, ?_, shn1, stn_sh⟩
        rw [hex]
        exact pmT.append pmC)
      obtain ⟨e', rfl, T, y4, y5, rfl, pmT, s4, s5⟩ := hI
      rw [List.length_map, List.length_range, Int.toNat_natCast, List.length_map, List.take_length] at pmT
      exact ⟨_, rfl, T, y4, y5, rfl, pmT, s4, s5⟩
    obtain ⟨e', hin2, T, z4, z5, rfl, pmT, t4, t5⟩ := inner
    have hfin : T.Perm (allS (room.take (i + 1))) := by
      rw [← e2, all_snoc (fun n hn => R.pos n (List.mem_of_mem_take hn)) (by omega)]
      exact pmT.trans (exts_perm pm)
    generalize hS : stepF _ _ _ _ _ = S'
    rcases ho with rfl | rfl
    · simp! only [s2, s3, hr0, hr1, hin2] at hS
      subst hS
      exact ⟨_, rfl, T, .sh, _, _, _, _, rfl, hfin, .inr rfl, fun _ => rfl, shn1, stn_sh, t4, t5⟩
    · simp! only [s2, s3, hr0, hr1, hin2] at hS
      subst hS
      exact ⟨_, rfl, T, .sh, _, _, _, _, rfl, hfin, .inr rfl, fun _ => rfl, shn1, stn_sh, t4, t5⟩)
  obtain ⟨e', rfl, S, o, y2, y3, y4, y5, rfl, pm, _, ho, _⟩ := hI
  rw [List.length_map] at pm ho
  rw [List.take_length] at pm
  obtain rfl := ho (List.length_pos_iff.mpr R.ne)
  simp! only []
  exact ⟨S, rfl, pm⟩
end CM

/-! PM28: full rows, the book along the snake. -/
namespace CM
open PySem PD
theorem getD_of {l : List Int} {i : Nat} {u : Int} (h : l[i]? = some u) : l.getD i 0 = u := by
  rw [List.getD_eq_getElem?_getD, h]
  rfl
/-- the row from one to other, by the box b -/
def rowW (one other : List Int) (b : Nat) : Wi := ⟨((List.range one.length).filter fun k => decide (k ≠ b)).map fun (k : Nat) => ((k : Int), one.getD k 0), (b : Int), other.getD b 0, one.getD b 0⟩
theorem rowW_ok {room one other : List Int} {b : Nat} (W : InRoom room one) (V : InRoom room other) (hb : b < room.length) (hne : one[b]? ≠ other[b]?) : WishB room (rowW one other b) := by
  have hol := W.len
  have hvl := V.len
  have hn : room[b]? = some (room[b]'hb) := List.getElem?_eq_getElem _
  have e1 : one[b]? = some (one[b]'(by omega)) := List.getElem?_eq_getElem _
  have e2 : other[b]? = some (other[b]'(by omega)) := List.getElem?_eq_getElem _
  have h1 := W.at b _ _ hn e1
  have h2 := V.at b _ _ hn e2
  have g1 := getD_of e1
  have g2 := getD_of e2
  refine ⟨⟨fun p hp => ?_, fun p hp => ?_, ?_⟩, by show 0 ≤ (b : Int); omega, ⟨room[b]'hb, by show room[((b : Int)).toNat]? = _; rw [Int.toNat_natCast]; exact hn, ?_⟩, ?_, fun p hp => ?_⟩
  · obtain ⟨k, hk, rfl⟩ := List.mem_map.mp hp
    have := List.mem_range.mp (List.mem_filter.mp hk).1
    exact ⟨by show 0 ≤ (k : Int); omega, by show (k : Int) < _; omega⟩
  · obtain ⟨k, hk, rfl⟩ := List.mem_map.mp hp
    have hk' := List.mem_range.mp (List.mem_filter.mp hk).1
    have f1 : room[k]? = some (room[k]'(by omega)) := List.getElem?_eq_getElem _
    have f2 : one[k]? = some (one[k]'(by omega)) := List.getElem?_eq_getElem _
    have f3 := W.at k _ _ f1 f2
    refine ⟨_, by show room[((k : Int)).toNat]? = _; rw [Int.toNat_natCast]; exact f1, ?_⟩
    show 0 ≤ one.getD k 0 ∧ one.getD k 0 < _
    rw [getD_of f2]
    exact f3
  · show List.Pairwise _ (List.map _ _)
    rw [List.pairwise_map]
    refine List.Pairwise.filter _ ?_
    exact List.pairwise_lt_range.imp fun {a c} h => by show (a : Int) < (c : Int); omega
  · show 0 ≤ other.getD b 0 ∧ other.getD b 0 < _ ∧ 0 ≤ one.getD b 0 ∧ one.getD b 0 < _
    rw [g1, g2]
    exact ⟨h2.1, h2.2, h1.1, h1.2⟩
  · show other.getD b 0 ≠ one.getD b 0
    rw [g1, g2]
    intro z
    rw [e1, e2, z] at hne
    exact hne rfl
  · obtain ⟨k, hk, rfl⟩ := List.mem_map.mp hp
    have := of_decide_eq_true (List.mem_filter.mp hk).2
    show (k : Int) ≠ (b : Int)
    omega
theorem full_sem {room one other : List Int} (hrl : room.length ≤ 100) (W : InRoom room one) (V : InRoom room other) (hne : one ≠ other) : ∃ w, f__law_full.sem [tupI one, tupI other] = .ok false (wishD w) [] ∧ WishB room w := by
  rw [e__law_full, runF_eq rfl (by decide)]
  have hol := W.len
  have hvl := V.len
  have hr0 : (0 : Int) ≤ (one.length : Int) := by omega
  have hr1 : (one.length : Int) < 4611686018427387904 := by omega
  have hc1 : evE [] (.comp (.var 3) (.nm 3) (.rng (.fn .len [(.var 0)])) [(.cm .ne (.ix (.var 0) (.var 3)) (.ix (.var 1) (.var 3)))] [3]) [some ⟨.sh, tupI one⟩, some ⟨.sh, tupI other⟩, none, none, none] =
      .ok (.val true (.list (((List.range one.length).filter fun j => decide (one[j]? ≠ other[j]?)).map fun (j : Nat) => PyData.int (j : Int)))) [some ⟨.sh, tupI one⟩, some ⟨.sh, tupI other⟩, none, none, none] := by
    have := evE_comp_map (F := []) (el := .var 3) (pt := .nm 3) (src := .rng (.fn .len [(.var 0)])) (cs := [(.cm .ne (.ix (.var 0) (.var 3)) (.ix (.var 1) (.var 3)))]) (own := [3]) (e := [some ⟨.sh, tupI one⟩, some ⟨.sh, tupI other⟩, none, none, none]) (e1 := [some ⟨.sh, tupI one⟩, some ⟨.sh, tupI other⟩, none, none, none])
      (A := List.range ((one.length : Int)).toNat) (h := fun (j : Nat) => PyData.int (j : Int)) (g := fun (j : Nat) => if decide (one[j]? ≠ other[j]?) = true then some (PyData.int (j : Int)) else none) (by simp! only [hr0, hr1]) rfl (by rw [sl_eq, List.length_range]; omega) (fun j hj e he => by
        have hj' : j < one.length := by
          have := List.mem_range.mp hj
          rwa [Int.toNat_natCast] at this
        obtain ⟨u, hu1, hu2⟩ := atD_room (ws := one) (i := (j : Int)) (by omega) (by omega)
        obtain ⟨v, hv1, hv2⟩ := atD_room (ws := other) (i := (j : Int)) (by omega) (by omega)
        rw [Int.toNat_natCast] at hu2 hv2
        rw [r_stepc, he, hu2, hv2]
        by_cases huv : u = v
        · have hd : decide (u = v) = true := decide_eq_true huv
          have hd2 : decide (some u ≠ some v) = false := decide_eq_false fun z => z (congrArg some huv)
          rw [hd2]
          simp! only [hu1, hv1, hd]
          exact ⟨_, rfl, rfl⟩
        · have hd : decide (u = v) = false := decide_eq_false huv
          have hd2 : decide (some u ≠ some v) = true := decide_eq_true fun z => huv (Option.some.inj z)
          rw [hd2]
          simp! only [hu1, hv1, hd]
          exact ⟨_, rfl, rfl⟩)
    rw [fm_filter (fun (j : Nat) => decide (one[j]? ≠ other[j]?)) (fun (j : Nat) => PyData.int (j : Int)), Int.toNat_natCast] at this
    exact this
  have hex : ∃ b rest, ((List.range one.length).filter fun j => decide (one[j]? ≠ other[j]?)) = b :: rest := by
    cases hc : ((List.range one.length).filter fun j => decide (one[j]? ≠ other[j]?)) with
    | cons b rest => exact ⟨b, rest, rfl⟩
    | nil =>
      exfalso
      refine hne (List.ext_getElem? fun j => ?_)
      by_cases hj : j < one.length
      · have := List.filter_eq_nil_iff.mp hc j (List.mem_range.mpr hj)
        exact Classical.byContradiction fun z => this (decide_eq_true z)
      · rw [List.getElem?_eq_none (by omega), List.getElem?_eq_none (by omega)]
  obtain ⟨b, rest, hb⟩ := hex
  have hbm : b ∈ ((List.range one.length).filter fun j => decide (one[j]? ≠ other[j]?)) := by rw [hb]; exact List.mem_cons_self
  have hbl := List.mem_range.mp (List.mem_filter.mp hbm).1
  have hbn := of_decide_eq_true (List.mem_filter.mp hbm).2
  have hhead : atD ((((List.range one.length).filter fun j => decide (one[j]? ≠ other[j]?)).map fun (j : Nat) => PyData.int (j : Int))) 0 = some (.int (b : Int)) := by
    rw [hb]
    rfl
  have hc2 : evE [] (.comp (.tup [(.var 3), (.ix (.var 0) (.var 3))]) (.nm 3) (.rng (.fn .len [(.var 0)])) [(.cm .ne (.var 3) (.var 2))] [3]) [some ⟨.sh, tupI one⟩, some ⟨.sh, tupI other⟩, some ⟨.sh, .int (b : Int)⟩, none, none] =
      .ok (.val true (.list ((rowW one other b).g.map pairD))) [some ⟨.sh, tupI one⟩, some ⟨.sh, tupI other⟩, some ⟨.sh, .int (b : Int)⟩, none, none] := by
    have := evE_comp_map (F := []) (el := .tup [(.var 3), (.ix (.var 0) (.var 3))]) (pt := .nm 3) (src := .rng (.fn .len [(.var 0)])) (cs := [(.cm .ne (.var 3) (.var 2))]) (own := [3]) (e := [some ⟨.sh, tupI one⟩, some ⟨.sh, tupI other⟩, some ⟨.sh, .int (b : Int)⟩, none, none]) (e1 := [some ⟨.sh, tupI one⟩, some ⟨.sh, tupI other⟩, some ⟨.sh, .int (b : Int)⟩, none, none])
      (A := List.range ((one.length : Int)).toNat) (h := fun (j : Nat) => PyData.int (j : Int)) (g := fun (j : Nat) => if decide (j ≠ b) = true then some (pairD ((j : Int), one.getD j 0)) else none) (by simp! only [hr0, hr1]) rfl (by rw [sl_eq, List.length_range]; omega) (fun j hj e he => by
        have hj' : j < one.length := by
          have := List.mem_range.mp hj
          rwa [Int.toNat_natCast] at this
        obtain ⟨u, hu1, hu2⟩ := atD_room (ws := one) (i := (j : Int)) (by omega) (by omega)
        rw [Int.toNat_natCast] at hu2
        rw [r_stepc, he, getD_of hu2]
        by_cases hjb : j = b
        · have hd : decide ((j : Int) = (b : Int)) = true := decide_eq_true (by omega)
          have hd2 : decide (j ≠ b) = false := decide_eq_false fun z => z hjb
          rw [hd2]
          simp! only [hu1, hd]
          exact ⟨_, rfl, rfl⟩
        · have hd : decide ((j : Int) = (b : Int)) = false := decide_eq_false (by omega)
          have hd2 : decide (j ≠ b) = true := decide_eq_true hjb
          rw [hd2]
          simp! only [hu1, hd]
          exact ⟨_, rfl, rfl⟩)
    rw [fm_filter (fun (j : Nat) => decide (j ≠ b)) (fun (j : Nat) => pairD ((j : Int), one.getD j 0)), Int.toNat_natCast] at this
    rw [this]
    show Rs.ok (Ans.val true (.list _)) _ = Rs.ok (Ans.val true (.list ((((List.range one.length).filter fun k => decide (k ≠ b)).map fun (k : Nat) => ((k : Int), one.getD k 0)).map pairD))) _
    rw [List.map_map]
    rfl
  obtain ⟨u, hu1, hu2⟩ := atD_room (ws := one) (i := (b : Int)) (by omega) (by omega)
  obtain ⟨v, hv1, hv2⟩ := atD_room (ws := other) (i := (b : Int)) (by omega) (by omega)
  rw [Int.toNat_natCast] at hu2 hv2
  refine ⟨rowW one other b, ?_, rowW_ok W V (by omega) hbn⟩
  have hw : wishD (rowW one other b) = .tuple [.tuple ((rowW one other b).g.map pairD), .int (b : Int), .int v, .int u] := by
    show PyData.tuple [.tuple _, .int (b : Int), .int (other.getD b 0), .int (one.getD b 0)] = _
    rw [getD_of hu2, getD_of hv2]
  rw [hw]
  unfold b__law_full
  generalize (rowW one other b).g.map pairD = GG at hc2
  simp! only [hc1, ix_l, hhead, hc2, tup_l, hu1, hv1]
def rowRest : List IS := b__law_row_book.drop 2
theorem rows_at {S : List (List Int)} {i : Nat} {k : List Int} (h : S[i]? = some k) : atD (S.map tupI) (i : Int) = some (tupI k) := by
  unfold atD
  rw [if_pos (by omega), Int.toNat_natCast, List.getElem?_map, h]
  rfl
abbrev FR4 (sn : Fn) : List Fn := [sn, f__law_take, f__law_full, f__law_wish_v2]
theorem row_rest {sn : Fn} {b : Int} {d : D} {room : List Int} {T : List (List Int)} {o : O} (ho : o = .own ∨ o = .sh) (hp : Pn b d) (hb : b < 7000000) (R : Room 256 room) (pm : T.Perm (allS room)) :
    ∃ (B : List Wi) (d' : D) (e' : En), evSs (FR4 sn) rowRest [some ⟨.mu, d⟩, some ⟨.sh, tupI room⟩, some ⟨o, .list (T.map tupI)⟩, none, none, none, none] = .rt false (.tuple (B.map wishD)) e' ∧ lastMs [true, false] 0 e' = some [d'] ∧ Pn (b + 40) d' ∧ B.length ≤ 300 ∧ ∀ w ∈ B, WishB room w := by
  have hrl := R.len
  have hin : ∀ k ∈ T, InRoom room k := fun k hk => all_in R.pos k (pm.mem_iff.mp hk)
  have hnd : T.Nodup := pm.nodup_iff.mpr (allS_nodup R.pos)
  have hTl : (T.length : Int) = prodI room := by
    rw [pm.length_eq, allS_len]
    have := prodI_pos R.pos
    omega
  have hpr := R.prod
  have h2 : 2 ≤ prodI room := by
    cases room with
    | nil => exact absurd rfl R.ne
    | cons n ns =>
      rw [prodI_cons]
      have := R.two n List.mem_cons_self
      have hq := prodI_pos (fun m hm => R.pos m (List.mem_cons_of_mem _ hm) : ∀ m ∈ ns, 0 < m)
      have := Int.mul_le_mul (show (2 : Int) ≤ n by omega) (show (1 : Int) ≤ prodI ns by omega) (by decide) (by omega)
      omega
  have hn0 : (0 : Int) ≤ (T.length : Int) - 1 := by omega
  have hn1 : (T.length : Int) - 1 < 4611686018427387904 := by omega
  have hfull : ∀ i j : Nat, i < T.length → j < T.length → i ≠ j → ∃ x y w, T[i]? = some x ∧ T[j]? = some y ∧ f__law_full.sem [tupI x, tupI y] = .ok false (wishD w) [] ∧ WishB room w := fun i j hi hj hij => by
    obtain ⟨w, h1, h2⟩ := full_sem (by omega) (hin _ (List.getElem_mem hi)) (hin _ (List.getElem_mem hj)) (fun z => by
      have hpw := List.pairwise_iff_getElem.mp hnd
      rcases Nat.lt_trichotomy i j with h | h | h
      · exact hpw i j hi hj h z
      · exact hij h
      · exact hpw j i hj hi h z.symm)
    exact ⟨_, _, w, List.getElem?_eq_getElem hi, List.getElem?_eq_getElem hj, h1, h2⟩
  have hcm : ∃ W ds, evE (FR4 sn) (.comp (.call 2 [(.ix (.var 2) (.var 4)), (.ix (.var 2) (.bi .add (.var 4) (.lit (.int 1))))] []) (.nm 4) (.rng (.bi .sub (.fn .len [(.var 2)]) (.lit (.int 1)))) [] [4]) [some ⟨.mu, d⟩, some ⟨.sh, tupI room⟩, some ⟨o, .list (T.map tupI)⟩, none, none, none, none] =
      .ok (.val true (.list ds)) (backE [some ⟨.mu, d⟩, some ⟨.sh, tupI room⟩, some ⟨o, .list (T.map tupI)⟩, none, none, none, none] W [4]) ∧ W = [some ⟨.mu, d⟩, some ⟨.sh, tupI room⟩, some ⟨o, .list (T.map tupI)⟩, none, none, none, none] ∧ ∃ B : List Wi, ds = B.map wishD ∧ (B.length : Int) = (T.length : Int) - 1 ∧ ∀ w ∈ B, WishB room w := by
    have := evE_comp_st (F := FR4 sn) (el := .call 2 [(.ix (.var 2) (.var 4)), (.ix (.var 2) (.bi .add (.var 4) (.lit (.int 1))))] []) (pt := .nm 4) (src := .rng (.bi .sub (.fn .len [(.var 2)]) (.lit (.int 1)))) (cs := []) (own := [4]) (e := [some ⟨.mu, d⟩, some ⟨.sh, tupI room⟩, some ⟨o, .list (T.map tupI)⟩, none, none, none, none]) (e1 := [some ⟨.mu, d⟩, some ⟨.sh, tupI room⟩, some ⟨o, .list (T.map tupI)⟩, none, none, none, none])
      (A := List.range ((T.length : Int) - 1).toNat) (h := fun (j : Nat) => PyData.int (j : Int)) (fun j W ds => W = [some ⟨.mu, d⟩, some ⟨.sh, tupI room⟩, some ⟨o, .list (T.map tupI)⟩, none, none, none, none] ∧ ∃ B : List Wi, ds = B.map wishD ∧ B.length = j ∧ ∀ w ∈ B, WishB room w) (by rcases ho with rfl | rfl <;> simp! only [List.length_map, hn0, hn1]) rfl (by rw [sl_eq, List.length_range]; omega) ⟨rfl, [], rfl, rfl, fun w hw => absurd hw List.not_mem_nil⟩ (by
        intro j a e ds ha hI
        obtain ⟨hW, B, rfl, hBl, hB⟩ := hI
        have hj : a = j ∧ j + 1 < T.length := by
          have h1 := (List.getElem?_eq_some_iff.mp ha).1
          rw [List.length_range] at h1
          rw [List.getElem?_range h1] at ha
          exact ⟨(Option.some.inj ha).symm, by omega⟩
        obtain ⟨rfl, hj⟩ := hj
        obtain ⟨x, y, w, e1, e2, hf, hw⟩ := hfull a (a + 1) (by omega) hj (by omega)
        have a1 := rows_at e1
        have a2 : atD (T.map tupI) ((a : Int) + 1) = some (tupI y) := rows_at e2
        rw [r_stepc, hW]
        have fin : ∃ B' : List Wi, B.map wishD ++ (some (wishD w)).toList = B'.map wishD ∧ B'.length = a + 1 ∧ ∀ u ∈ B', WishB room u := by
          refine ⟨B ++ [w], by rw [List.map_append]; rfl, by rw [List.length_append, hBl]; rfl, fun v hv => ?_⟩
          rcases List.mem_append.mp hv with h | h
          · exact hB v h
          · rw [List.mem_singleton.mp h]
            exact hw
        rcases ho with rfl | rfl
        · simp! only [ix_l, a1, a2, m__law_full, hf, sc_w]
          exact ⟨_, _, rfl, rfl, fin⟩
        · simp! only [ix_l, a1, a2, m__law_full, hf, sc_w]
          exact ⟨_, _, rfl, rfl, fin⟩)
    obtain ⟨W, ds, h1, h2, B, h3, h4, h5⟩ := this
    exact ⟨W, ds, h1, h2, B, h3, by rw [h4, List.length_range]; omega, h5⟩
  obtain ⟨W, ds, hc, rfl, B, rfl, hBl, hB⟩ := hcm
  have hlB : prim .len [.list (B.map wishD)] = some (false, .int (B.length : Int)) := by
    show some (false, PyData.int ((B.map wishD).length : Int)) = _
    rw [List.length_map]
  obtain ⟨at_, d2, e2, p2, a0, a1⟩ := take_sem hp (by omega) (show (0 : Int) < (B.length : Int) by omega) (by omega)
  obtain ⟨way, d3, e3, p3, w0, w1⟩ := take_sem p2 (by omega) (show (0 : Int) < 4 by decide) (by decide)
  have ca : cutD (B.map wishD) none (some at_) = (B.take at_.toNat).map wishD := by
    rw [slA a0 (by rw [List.length_map]; omega), List.map_take]
  have cb : cutD (B.map wishD) (some (at_ + 1)) none = (B.drop (at_ + 1).toNat).map wishD := by
    rw [slB (by omega) (by rw [List.length_map]; omega), List.map_drop]
  have cc : prim .add [.list ((B.take at_.toNat).map wishD), .list ((B.drop (at_ + 1).toNat).map wishD)] = some (true, .list ((B.take at_.toNat ++ B.drop (at_ + 1).toNat).map wishD)) := by
    rw [List.map_append]
    exact cat_l (by rw [List.length_map, List.length_map, List.length_take, List.length_drop]; omega)
  obtain ⟨x, y, w, f1, f2, hf, hw⟩ := hfull (at_ + 1).toNat at_.toNat (by omega) (by omega) (by omega)
  have x1 : atD (T.map tupI) (at_ + 1) = some (tupI x) := by
    have := rows_at f1
    rwa [Int.toNat_of_nonneg (by omega)] at this
  have x2 : atD (T.map tupI) at_ = some (tupI y) := by
    have := rows_at f2
    rwa [Int.toNat_of_nonneg (by omega)] at this
  have cset : ixSet (.list (B.map wishD)) (.int at_) (wishD w) = some (.list ((B.set at_.toNat w).map wishD)) := by
    show (if 0 ≤ at_ ∧ at_ < ((B.map wishD).length : Int) then some (PyData.list ((B.map wishD).set at_.toNat (wishD w))) else none) = _
    rw [if_pos ⟨a0, by rw [List.length_map]; exact a1⟩, List.map_set]
  obtain ⟨v, d4, e4, p4, hv⟩ := wish2_sem (way := 0) p3 (by omega) R
  have cins : mtd .insert (.list (B.map wishD)) [.int at_, wishD v] = some (.list ((B.take at_.toNat ++ [v] ++ B.drop at_.toNat).map wishD), .none) := by
    show (if (B.map wishD).length < sizeLine ∧ 0 ≤ at_ ∧ at_ < 2 ^ 63 then some (PyData.list ((B.map wishD).take at_.toNat ++ [wishD v] ++ (B.map wishD).drop at_.toNat), PyData.none) else none) = _
    rw [if_pos ⟨by rw [List.length_map, sl_eq]; omega, a0, by omega⟩, List.map_append, List.map_append, List.map_take, List.map_drop]
    rfl
  unfold rowRest b__law_row_book
  rcases (by omega : way = 0 ∨ way = 1 ∨ way = 2 ∨ way = 3) with rfl | rfl | rfl | rfl
  · rcases ho with rfl | rfl
    · refine ⟨B.take at_.toNat ++ B.drop (at_ + 1).toNat, d3, ?_⟩
      simp! only [hc, backE, hlB, m__law_take, e2, e3, ca, cb, cc, tup_l, lastMs, m__law_full, hf, sc_w, ix_l, x1, x2, cset, m__law_wish_v2, e4, cins]
      exact ⟨_, rfl, rfl, p3.mono (by omega), by rw [List.length_append, List.length_take, List.length_drop]; omega, fun u hu => (List.mem_append.mp hu).elim (fun h => hB u (List.mem_of_mem_take h)) fun h => hB u (List.mem_of_mem_drop h)⟩
    · refine ⟨B.take at_.toNat ++ B.drop (at_ + 1).toNat, d3, ?_⟩
      simp! only [hc, backE, hlB, m__law_take, e2, e3, ca, cb, cc, tup_l, lastMs, m__law_full, hf, sc_w, ix_l, x1, x2, cset, m__law_wish_v2, e4, cins]
      exact ⟨_, rfl, rfl, p3.mono (by omega), by rw [List.length_append, List.length_take, List.length_drop]; omega, fun u hu => (List.mem_append.mp hu).elim (fun h => hB u (List.mem_of_mem_take h)) fun h => hB u (List.mem_of_mem_drop h)⟩
  · rcases ho with rfl | rfl
    · refine ⟨B.set at_.toNat w, d3, ?_⟩
      simp! only [hc, backE, hlB, m__law_take, e2, e3, ca, cb, cc, tup_l, lastMs, m__law_full, hf, sc_w, ix_l, x1, x2, cset, m__law_wish_v2, e4, cins]
      exact ⟨_, rfl, rfl, p3.mono (by omega), by rw [List.length_set]; omega, fun u hu => (List.mem_or_eq_of_mem_set hu).elim (hB u) fun h => h ▸ hw⟩
    · refine ⟨B.set at_.toNat w, d3, ?_⟩
      simp! only [hc, backE, hlB, m__law_take, e2, e3, ca, cb, cc, tup_l, lastMs, m__law_full, hf, sc_w, ix_l, x1, x2, cset, m__law_wish_v2, e4, cins]
      exact ⟨_, rfl, rfl, p3.mono (by omega), by rw [List.length_set]; omega, fun u hu => (List.mem_or_eq_of_mem_set hu).elim (hB u) fun h => h ▸ hw⟩
  · rcases ho with rfl | rfl
    · refine ⟨B.take at_.toNat ++ [v] ++ B.drop at_.toNat, d4, ?_⟩
      simp! only [hc, backE, hlB, m__law_take, e2, e3, ca, cb, cc, tup_l, lastMs, m__law_full, hf, sc_w, ix_l, x1, x2, cset, m__law_wish_v2, e4, cins]
      exact ⟨_, rfl, rfl, p4.mono (by omega), by rw [List.length_append, List.length_append, List.length_take, List.length_drop]; show _ + 1 + _ ≤ _; omega, fun u hu => (List.mem_append.mp hu).elim (fun h => (List.mem_append.mp h).elim (fun h => hB u (List.mem_of_mem_take h)) fun h => List.mem_singleton.mp h ▸ hv) fun h => hB u (List.mem_of_mem_drop h)⟩
    · refine ⟨B.take at_.toNat ++ [v] ++ B.drop at_.toNat, d4, ?_⟩
      simp! only [hc, backE, hlB, m__law_take, e2, e3, ca, cb, cc, tup_l, lastMs, m__law_full, hf, sc_w, ix_l, x1, x2, cset, m__law_wish_v2, e4, cins]
      exact ⟨_, rfl, rfl, p4.mono (by omega), by rw [List.length_append, List.length_append, List.length_take, List.length_drop]; show _ + 1 + _ ≤ _; omega, fun u hu => (List.mem_append.mp hu).elim (fun h => (List.mem_append.mp h).elim (fun h => hB u (List.mem_of_mem_take h)) fun h => List.mem_singleton.mp h ▸ hv) fun h => hB u (List.mem_of_mem_drop h)⟩
  · rcases ho with rfl | rfl
    · refine ⟨B, d3, ?_⟩
      simp! only [hc, backE, hlB, m__law_take, e2, e3, ca, cb, cc, tup_l, lastMs, m__law_full, hf, sc_w, ix_l, x1, x2, cset, m__law_wish_v2, e4, cins]
      exact ⟨_, rfl, rfl, p3.mono (by omega), by omega, hB⟩
    · refine ⟨B, d3, ?_⟩
      simp! only [hc, backE, hlB, m__law_take, e2, e3, ca, cb, cc, tup_l, lastMs, m__law_full, hf, sc_w, ix_l, x1, x2, cset, m__law_wish_v2, e4, cins]
      exact ⟨_, rfl, rfl, p3.mono (by omega), by omega, hB⟩
theorem row_book_gen {sn : Fn} (hsm : sn.modes = [false]) {b : Int} {d : D} {room : List Int} (hsn : ∃ (fr : Bool) (S : List (List Int)), sn.sem [tupI room] = .ok fr (.list (S.map tupI)) [] ∧ S.Perm (allS room)) (hp : Pn b d) (hb : b < 6000000) (R : Room 256 room) :
    ∃ (B : List Wi) (d' : D), runF [sn, f__law_take, f__law_full, f__law_wish_v2] [true, false] 7 b__law_row_book [d, tupI room] = .ok false (.tuple (B.map wishD)) [d'] ∧ Pn (b + 41) d' ∧ B.length ≤ 300 ∧ ∀ w ∈ B, WishB room w := by
  rw [runF_eq rfl (by decide)]
  obtain ⟨fr, S, hS, pm⟩ := hsn
  obtain ⟨u, d1, e1, p1, u0, u1⟩ := take_sem hp (by omega) (show (0 : Int) < 2 by decide) (by decide)
  have hrv : prim .rev [.list (S.map tupI)] = some (true, .list (S.reverse.map tupI)) := by
    rw [List.map_reverse]
    rfl
  have done : ∀ (o : O) (T : List (List Int)), (o = .own ∨ o = .sh) → T.Perm (allS room) → evSs (FR4 sn) (b__law_row_book.take 2) (startE [true, false] [d, tupI room] 7) = .nx [some ⟨.mu, d1⟩, some ⟨.sh, tupI room⟩, some ⟨o, .list (T.map tupI)⟩, none, none, none, none] →
      ∃ (B : List Wi) (d' : D), kRn [true, false] (evSs (FR4 sn) b__law_row_book (startE [true, false] [d, tupI room] 7)) = .ok false (.tuple (B.map wishD)) [d'] ∧ Pn (b + 41) d' ∧ B.length ≤ 300 ∧ ∀ w ∈ B, WishB room w := by
    intro o T ho pmT h1
    rw [ss_split 2 h1]
    obtain ⟨B, d', e', h2, h3, h4, h5, h6⟩ := row_rest (sn := sn) ho p1 (by omega) R pmT
    refine ⟨B, d', ?_, h4.mono (by omega), h5, h6⟩
    show kRn [true, false] (evSs (FR4 sn) rowRest _) = _
    rw [h2]
    show (match lastMs [true, false] 0 e' with | some ms => FR.ok false (.tuple (B.map wishD)) ms | none => .no) = _
    rw [h3]
  by_cases hu : u = 0
  · have hd : decide (u = 0) = true := decide_eq_true hu
    refine done .own S.reverse (.inl rfl) ((List.reverse_perm S).trans pm) ?_
    unfold b__law_row_book
    cases fr <;> simp! only [hsm, hS, m__law_take, e1, hd, hrv]
  · have hd : decide (u = 0) = false := decide_eq_false hu
    cases fr with
    | true =>
      refine done .own S (.inl rfl) pm ?_
      unfold b__law_row_book
      simp! only [hsm, hS, m__law_take, e1, hd]
    | false =>
      refine done .sh S (.inr rfl) pm ?_
      unfold b__law_row_book
      simp! only [hsm, hS, m__law_take, e1, hd]
theorem row_book_sem {b : Int} {d : D} {room : List Int} (hp : Pn b d) (hb : b < 6000000) (R : Room 256 room) :
    ∃ (B : List Wi) (d' : D), f__law_row_book.sem [d, tupI room] = .ok false (.tuple (B.map wishD)) [d'] ∧ Pn (b + 41) d' ∧ B.length ≤ 300 ∧ ∀ w ∈ B, WishB room w := by
  rw [e__law_row_book]
  obtain ⟨S, hS, pm⟩ := snake_sem R (by decide)
  exact row_book_gen rfl ⟨false, S, hS, pm⟩ hp hb R
end CM

/-! PM29: the ranked book, the book of the second pen. -/
namespace CM
open PySem PD
def ltI : Int → Int → Bool := fun i j => decide (i < j)
theorem insI (x : Int) : ∀ l : List Int, l.Pairwise (· ≤ ·) → (insS ltI x l).Pairwise (· ≤ ·)
  | [], _ => List.pairwise_singleton _ _
  | y :: r, h => by
    rw [List.pairwise_cons] at h
    unfold insS
    split
    · rename_i q
      have q' : x < y := of_decide_eq_true q
      refine List.pairwise_cons.mpr ⟨fun z hz => ?_, List.pairwise_cons.mpr h⟩
      rcases List.mem_cons.mp hz with rfl | hz
      · omega
      · have := h.1 z hz
        omega
    · rename_i q
      have q' : ¬ x < y := fun z => q (decide_eq_true z)
      refine List.pairwise_cons.mpr ⟨fun z hz => ?_, insI x r h.2⟩
      rcases List.mem_cons.mp ((ins_perm x r).mem_iff.mp hz) with rfl | hz
      · omega
      · exact h.1 z hz
theorem srtI_sorted : ∀ l : List Int, (srtS ltI l).Pairwise (· ≤ ·)
  | [] => .nil
  | x :: r => insI x _ (srtI_sorted r)
theorem srtI_up {l : List Int} (h : l.Nodup) : (srtS ltI l).Pairwise (· < ·) := by
  have h1 : (srtS ltI l).Nodup := (srt_perm l).nodup_iff.mpr h
  have h2 := srtI_sorted l
  exact (h2.and h1).imp fun {a b} ⟨x, y⟩ => by
    have : a ≠ b := y
    omega
theorem sort_ints (l : List Int) : prim .sorted [.list (l.map .int)] = some (true, .list ((srtS ltI l).map .int)) := by
  show (sortD (l.map .int)).map (fun ys => (true, PyData.list ys)) = _
  unfold sortD
  rw [intsOf_map]
  rfl
theorem size_listsem {ns : List Int} (h : ∀ n ∈ ns, 0 < n ∧ n < 1000000) : f__law_size.sem [.list (ns.map .int)] = .ok false (.int (prodI ns)) [] := by
  rw [e__law_size, runF_eq rfl (by decide)]
  unfold b__law_size
  dsimp! only []
  have loop : ∀ (ms : List Int) (z : Int) (y : Option Sl), (∀ n ∈ ms, 0 < n ∧ n < 1000000) → (y = none ∨ ∃ d, y = some ⟨.sh, d⟩) → ∃ y', forL (stepF [] (.nm 2) [.set 1 (.bi .mul (.var 1) (.var 2))]) (ms.map .int) [some ⟨.sh, .list (ns.map .int)⟩, some ⟨.sh, .int z⟩, y] = .nx [some ⟨.sh, .list (ns.map .int)⟩, some ⟨.sh, .int (ms.foldl (· * ·) z)⟩, y'] := by
    intro ms
    induction ms with
    | nil => exact fun z y _ _ => ⟨y, rfl⟩
    | cons m ms ih =>
      intro z y hm hy
      have h1 := hm m List.mem_cons_self
      have h2 : -18446744073709551616 < m := by omega
      have h3 : m < 18446744073709551616 := by omega
      obtain ⟨y', e⟩ := ih (z * m) (some ⟨.sh, .int m⟩) (fun n hn => hm n (List.mem_cons_of_mem _ hn)) (.inr ⟨_, rfl⟩)
      refine ⟨y', ?_⟩
      rcases hy with rfl | ⟨d, rfl⟩ <;> (simp only [List.map_cons, forL]; dsimp! only [h2, h3, e, List.foldl_cons])
  obtain ⟨y', e⟩ := loop ns 1 none h (.inl rfl)
  dsimp! only [e]
  rfl
abbrev FRK : List Fn := [f__law_turned, f__law_take, f__law_size, f__law_all_v2]
def ER (d : D) (room L : List Int) (B : List Wi) (y4 y5 y6 y8 y9 y10 : Option Sl) : En := [some ⟨.mu, d⟩, some ⟨.sh, tupI room⟩, some ⟨.own, .list (L.map .int)⟩, some ⟨.own, .list (B.map wishD)⟩, y4, y5, y6, none, y8, y9, y10, none, none]
def atR (room : List Int) (p : Int) : Int := room.getD p.toNat 0
theorem atR_at {room : List Int} {p : Int} (h0 : 0 ≤ p) (h1 : p < (room.length : Int)) : atD (room.map PyData.int) p = some (.int (atR room p)) ∧ room[p.toNat]? = some (atR room p) := by
  obtain ⟨u, h2, h3⟩ := atD_room (ws := room) h0 h1
  unfold atR
  rw [getD_of h3]
  exact ⟨h2, h3⟩
theorem compP {d : D} {room L P : List Int} {B : List Wi} {y4 y5 y8 y9 y10 : Option Sl} {o : O} (ho : o = .own ∨ o = .sh) (hP : ∀ p ∈ P, 0 ≤ p ∧ p < (room.length : Int)) (hl : P.length ≤ 100) :
    evE FRK (.comp (.ix (.var 1) (.var 7)) (.nm 7) (.seq (.var 6)) [] [7]) (ER d room L B y4 y5 (some ⟨o, .list (P.map .int)⟩) y8 y9 y10) = .ok (.val true (.list ((P.map (atR room)).map .int))) (ER d room L B y4 y5 (some ⟨.sh, .list (P.map .int)⟩) y8 y9 y10) := by
  have := evE_comp_map (F := FRK) (el := .ix (.var 1) (.var 7)) (pt := .nm 7) (src := .seq (.var 6)) (cs := []) (own := [7]) (e := ER d room L B y4 y5 (some ⟨o, .list (P.map .int)⟩) y8 y9 y10) (e1 := ER d room L B y4 y5 (some ⟨.sh, .list (P.map .int)⟩) y8 y9 y10)
    (A := P) (h := .int) (g := fun p => some (.int (atR room p))) (by unfold ER; rcases ho with rfl | rfl <;> simp! only []) rfl (by rw [sl_eq]; omega) (fun p hp e he => by
      have h1 := (atR_at (hP p hp).1 (hP p hp).2).1
      rw [r_stepc, he]
      unfold ER
      simp! only [h1]
      exact ⟨_, rfl, rfl⟩)
  rw [fm_map] at this
  rw [this, List.map_map]
  rfl
theorem zip_pairs : ∀ (P ws : List Int), zipD (P.map .int) (ws.map .int) = (P.zip ws).map pairD
  | [], ws => by cases ws <;> rfl
  | p :: P, [] => rfl
  | p :: P, w :: ws => by
    have := zip_pairs P ws
    unfold zipD at this ⊢
    rw [List.map_cons, List.map_cons, List.zipWith_cons_cons, this]
    rfl
theorem givB_nil {room : List Int} {i : Nat} : GivB room i [] := ⟨fun p hp => absurd hp List.not_mem_nil, fun p hp => absurd hp List.not_mem_nil, .nil⟩
theorem zip_giv {room : List Int} : ∀ {P ws : List Int}, InRoom (P.map (atR room)) ws → (∀ p ∈ P, 0 ≤ p ∧ p < (room.length : Int)) → P.Pairwise (· < ·) → GivB room room.length (P.zip ws)
  | [], ws, _, _, _ => by
    rw [List.zip_nil_left]
    exact givB_nil
  | p :: P, [], _, _, _ => givB_nil
  | p :: P, w :: ws, ⟨h1, h2, h3⟩, hP, hu => by
    have hp := hP p List.mem_cons_self
    rw [List.pairwise_cons] at hu
    have G := zip_giv h3 (fun q hq => hP q (List.mem_cons_of_mem _ hq)) hu.2
    refine ⟨fun q hq => ?_, fun q hq => ?_, ?_⟩
    · rcases List.mem_cons.mp hq with rfl | hq
      · exact hp
      · exact G.box q hq
    · rcases List.mem_cons.mp hq with rfl | hq
      · exact ⟨_, (atR_at hp.1 hp.2).2, h1, h2⟩
      · exact G.worth q hq
    · refine List.pairwise_cons.mpr ⟨fun q hq => ?_, G.rise⟩
      obtain ⟨a, b⟩ := q
      exact hu.1 a (List.of_mem_zip hq).1
def caseBody : List IS := [
      .set 9 (.call 0 [(.var 0), (.rgl true (.ix (.var 1) (.var 5)))] []),
      .set 10 (.fn .tuple [(.comp (.tup [(.var 7), (.var 11)]) (.tp [7, 11]) (.zip (.var 6) (.var 8)) [] [7, 11])]),
      .exp (.mt .extend 3 [(.comp (.tup [(.var 10), (.var 5), (.ix (.var 9) (.bi .add (.var 12) (.lit (.int 1)))), (.ix (.var 9) (.var 12))]) (.nm 12) (.rng (.bi .sub (.ix (.var 1) (.var 5)) (.lit (.int 1)))) [] [12])])]
theorem case_step {b : Int} {d : D} {room L P ws : List Int} {B : List Wi} {bx : Int} {y4 y8 y9 y10 : Option Sl} (R : Room 256 room) (hp : Pn b d) (hb : b < 8000000) (hP : ∀ p ∈ P, 0 ≤ p ∧ p < (room.length : Int)) (hup : P.Pairwise (· < ·)) (hne : ∀ p ∈ P, p ≠ bx) (hPl : P.length ≤ 8)
    (b0 : 0 ≤ bx) (b1 : bx < (room.length : Int)) (W : InRoom (P.map (atR room)) ws) (hB : ∀ w ∈ B, WishB room w) (hBl : B.length ≤ 1000) (s8 : ShN y8) (s9 : StN y9) (s10 : ShN y10) :
    ∃ d' B' y8' y9' y10', stepF FRK (.nm 8) caseBody (tupI ws) (ER d room L B y4 (some ⟨.sh, .int bx⟩) (some ⟨.sh, .list (P.map .int)⟩) y8 y9 y10) = .nx (ER d' room L B' y4 (some ⟨.sh, .int bx⟩) (some ⟨.sh, .list (P.map .int)⟩) y8' y9' y10') ∧ Pn (b + 4) d' ∧ (∀ w ∈ B', WishB room w) ∧ B'.length ≤ B.length + 3 ∧ ShN y8' ∧ StN y9' ∧ ShN y10' := by
  have hrl := R.len
  obtain ⟨a1, a2⟩ := atR_at b0 b1
  have hm := R.two _ (List.mem_of_getElem? a2)
  have hm0 : 0 ≤ atR room bx := by omega
  have hm1 : atR room bx ≤ 16777216 := by omega
  have hm2 : atR room bx < 4611686018427387904 := by omega
  have hrg : ((List.range (atR room bx).toNat).map fun (k : Nat) => PyData.int (k : Int)) = ((List.range (atR room bx).toNat).map fun (k : Nat) => (k : Int)).map .int := by
    rw [List.map_map]
    rfl
  obtain ⟨Q, d1, e1, p1, pmQ⟩ := turned2_sem (L := (List.range (atR room bx).toNat).map fun (k : Nat) => (k : Int)) hp (by omega) (by rw [List.length_map, List.length_range]; omega)
  rw [← hrg] at e1
  have hQl : (Q.length : Int) = atR room bx := by
    rw [pmQ.length_eq, List.length_map, List.length_range]
    omega
  have hQn : Q.Nodup := by
    refine pmQ.nodup_iff.mpr ?_
    show List.Pairwise _ _
    rw [List.pairwise_map]
    exact List.pairwise_lt_range.imp fun {a c} h => by omega
  have hQin : ∀ q ∈ Q, 0 ≤ q ∧ q < atR room bx := fun q hq => by
    obtain ⟨k, hk, rfl⟩ := List.mem_map.mp (pmQ.mem_iff.mp hq)
    have := List.mem_range.mp hk
    omega
  have G := zip_giv W hP hup
  have hgap : ∀ p ∈ P.zip ws, p.1 ≠ bx := fun p hp => by
    obtain ⟨x, y⟩ := p
    exact hne x (List.of_mem_zip hp).1
  have hzl : (P.zip ws).length ≤ 8 := by
    rw [List.length_zip]
    omega
  have hc1 : ∀ (y9 y10 : Option Sl), evE FRK (.comp (.tup [(.var 7), (.var 11)]) (.tp [7, 11]) (.zip (.var 6) (.var 8)) [] [7, 11]) (ER d1 room L B y4 (some ⟨.sh, .int bx⟩) (some ⟨.sh, .list (P.map .int)⟩) (some ⟨.sh, tupI ws⟩) y9 y10) =
      .ok (.val true (.list ((P.zip ws).map pairD))) (ER d1 room L B y4 (some ⟨.sh, .int bx⟩) (some ⟨.sh, .list (P.map .int)⟩) (some ⟨.sh, tupI ws⟩) y9 y10) := by
    intro y9 y10
    have := evE_comp_map (F := FRK) (el := .tup [(.var 7), (.var 11)]) (pt := .tp [7, 11]) (src := .zip (.var 6) (.var 8)) (cs := []) (own := [7, 11]) (e := ER d1 room L B y4 (some ⟨.sh, .int bx⟩) (some ⟨.sh, .list (P.map .int)⟩) (some ⟨.sh, tupI ws⟩) y9 y10) (e1 := ER d1 room L B y4 (some ⟨.sh, .int bx⟩) (some ⟨.sh, .list (P.map .int)⟩) (some ⟨.sh, tupI ws⟩) y9 y10)
      (A := P.zip ws) (h := pairD) (g := fun p => some (pairD p)) (by unfold ER; simp! only [show tupI ws = .tuple (ws.map .int) from rfl, zip_pairs]) rfl (by rw [sl_eq]; omega) (fun p hp e he => by
        rw [r_stepc, he]
        unfold ER pairD
        simp! only []
        exact ⟨_, rfl, rfl⟩)
    rw [fm_map] at this
    exact this
  have hQat : ∀ j : Nat, (j : Int) < (Q.length : Int) → ∃ q, atD (Q.map PyData.int) (j : Int) = some (.int q) ∧ Q[j]? = some q ∧ 0 ≤ q ∧ q < atR room bx := fun j hj => by
    obtain ⟨q, h1, h2⟩ := atD_room (ws := Q) (i := (j : Int)) (by omega) hj
    rw [Int.toNat_natCast] at h2
    exact ⟨q, h1, h2, hQin q (List.mem_of_getElem? h2)⟩
  have hwj : ∀ (j : Nat) (q r : Int), Q[j]? = some q → Q[j + 1]? = some r → WishB room ⟨P.zip ws, bx, r, q⟩ := fun j q r hq hr => by
    have q1 := hQin q (List.mem_of_getElem? hq)
    have r1 := hQin r (List.mem_of_getElem? hr)
    refine ⟨G, b0, ⟨atR room bx, a2, r1.1, r1.2, q1.1, q1.2⟩, ?_, hgap⟩
    intro z
    have z' : r = q := z
    subst z'
    have hpw := List.pairwise_iff_getElem.mp hQn
    obtain ⟨i1, i2⟩ := List.getElem?_eq_some_iff.mp hq
    obtain ⟨i3, i4⟩ := List.getElem?_eq_some_iff.mp hr
    exact hpw j (j + 1) i1 i3 (by omega) (i2.trans i4.symm)
  have hn0 : 0 ≤ atR room bx - 1 := by omega
  have hn1 : atR room bx - 1 < 4611686018427387904 := by omega
  have hc2 : ∃ W ds, evE FRK (.comp (.tup [(.var 10), (.var 5), (.ix (.var 9) (.bi .add (.var 12) (.lit (.int 1)))), (.ix (.var 9) (.var 12))]) (.nm 12) (.rng (.bi .sub (.ix (.var 1) (.var 5)) (.lit (.int 1)))) [] [12]) (ER d1 room L B y4 (some ⟨.sh, .int bx⟩) (some ⟨.sh, .list (P.map .int)⟩) (some ⟨.sh, tupI ws⟩) (some ⟨.own, .list (Q.map .int)⟩) (some ⟨.sh, .tuple ((P.zip ws).map pairD)⟩)) =
      .ok (.val true (.list ds)) (backE (ER d1 room L B y4 (some ⟨.sh, .int bx⟩) (some ⟨.sh, .list (P.map .int)⟩) (some ⟨.sh, tupI ws⟩) (some ⟨.own, .list (Q.map .int)⟩) (some ⟨.sh, .tuple ((P.zip ws).map pairD)⟩)) W [12]) ∧ W = ER d1 room L B y4 (some ⟨.sh, .int bx⟩) (some ⟨.sh, .list (P.map .int)⟩) (some ⟨.sh, tupI ws⟩) (some ⟨.own, .list (Q.map .int)⟩) (some ⟨.sh, .tuple ((P.zip ws).map pairD)⟩) ∧ ∃ C : List Wi, ds = C.map wishD ∧ C.length ≤ 3 ∧ ∀ w ∈ C, WishB room w := by
    have := evE_comp_st (F := FRK) (el := .tup [(.var 10), (.var 5), (.ix (.var 9) (.bi .add (.var 12) (.lit (.int 1)))), (.ix (.var 9) (.var 12))]) (pt := .nm 12) (src := .rng (.bi .sub (.ix (.var 1) (.var 5)) (.lit (.int 1)))) (cs := []) (own := [12]) (e := ER d1 room L B y4 (some ⟨.sh, .int bx⟩) (some ⟨.sh, .list (P.map .int)⟩) (some ⟨.sh, tupI ws⟩) (some ⟨.own, .list (Q.map .int)⟩) (some ⟨.sh, .tuple ((P.zip ws).map pairD)⟩)) (e1 := ER d1 room L B y4 (some ⟨.sh, .int bx⟩) (some ⟨.sh, .list (P.map .int)⟩) (some ⟨.sh, tupI ws⟩) (some ⟨.own, .list (Q.map .int)⟩) (some ⟨.sh, .tuple ((P.zip ws).map pairD)⟩))
      (A := List.range (atR room bx - 1).toNat) (h := fun (j : Nat) => PyData.int (j : Int)) (fun j W ds => W = ER d1 room L B y4 (some ⟨.sh, .int bx⟩) (some ⟨.sh, .list (P.map .int)⟩) (some ⟨.sh, tupI ws⟩) (some ⟨.own, .list (Q.map .int)⟩) (some ⟨.sh, .tuple ((P.zip ws).map pairD)⟩) ∧ ∃ C : List Wi, ds = C.map wishD ∧ C.length = j ∧ ∀ w ∈ C, WishB room w) (by unfold ER; simp! only [a1, hn0, hn1]) rfl (by rw [sl_eq, List.length_range]; omega) ⟨rfl, [], rfl, rfl, fun w hw => absurd hw List.not_mem_nil⟩ (by
        intro j a e ds ha hI
        obtain ⟨hW, C, rfl, hCl, hC⟩ := hI
        have hj : a = j ∧ (j : Int) + 1 < atR room bx := by
          have h1 := (List.getElem?_eq_some_iff.mp ha).1
          rw [List.length_range] at h1
          rw [List.getElem?_range h1] at ha
          exact ⟨(Option.some.inj ha).symm, by omega⟩
        obtain ⟨rfl, hj⟩ := hj
        obtain ⟨q, h1, h2, _⟩ := hQat a (by omega)
        obtain ⟨r, h3, h4, _⟩ := hQat (a + 1) (by omega)
        have h3' : atD (Q.map PyData.int) ((a : Int) + 1) = some (.int r) := h3
        have hw := hwj a q r h2 h4
        rw [r_stepc, hW]
        unfold ER
        simp! only [ix_l, h1, h3']
        refine ⟨_, some (wishD ⟨P.zip ws, bx, r, q⟩), rfl, rfl, C ++ [⟨P.zip ws, bx, r, q⟩], by rw [List.map_append]; rfl, by rw [List.length_append, hCl]; rfl, fun v hv => ?_⟩
        rcases List.mem_append.mp hv with h | h
        · exact hC v h
        · rw [List.mem_singleton.mp h]
          exact hw)
    obtain ⟨W, ds, h1, h2, C, h3, h4, h5⟩ := this
    exact ⟨W, ds, h1, h2, C, h3, by rw [h4, List.length_range]; omega, h5⟩
  obtain ⟨Wv, ds, hc2, rfl, C, rfl, hCl, hC⟩ := hc2
  have hext : mtd .extend (.list (B.map wishD)) [.list (C.map wishD)] = some (.list ((B ++ C).map wishD), .none) := by
    rw [m_ext (by rw [List.length_map, List.length_map, sl_eq]; omega), List.map_append]
  have hc1' := hc1 (some ⟨.own, .list (Q.map .int)⟩) y10
  refine ⟨d1, B ++ C, some ⟨.sh, tupI ws⟩, some ⟨.own, .list (Q.map .int)⟩, some ⟨.sh, .tuple ((P.zip ws).map pairD)⟩, ?_, p1.mono (by rw [List.length_map, List.length_range]; omega), fun w hw => (List.mem_append.mp hw).elim (hB w) (hC w), by rw [List.length_append]; omega, shn1, stn_own, shn1⟩
  generalize (P.zip ws).map pairD = Z at hc1' hc2
  unfold caseBody ER at *
  simp! only [s8, s9, s10, a1, hm0, hm1, hm2, r_rgl, r_krgl, r_krgl2, r_krgl3t, m__law_turned, e1, hc1', tup_l, hc2, backE, hext]
theorem prodI_two {ns : List Int} (h : ∀ n ∈ ns, 0 < n ∧ n ≤ 4) (hl : ns.length ≤ 2) : prodI ns ≤ 16 ∧ 0 < prodI ns := by
  rcases ns with _ | ⟨a, _ | ⟨c, _ | ⟨e, r⟩⟩⟩
  · decide
  · have := h a (by simp)
    rw [prodI_cons]
    show a * 1 ≤ 16 ∧ 0 < a * 1
    omega
  · have h1 := h a (by simp)
    have h2 := h c (by simp)
    rw [prodI_cons, prodI_cons]
    have h3 : a * c ≤ 4 * 4 := Int.mul_le_mul h1.2 h2.2 (by omega) (by omega)
    have h4 : 0 < a * c := Int.mul_pos h1.1 h2.1
    show a * (c * 1) ≤ 16 ∧ 0 < a * (c * 1)
    rw [Int.mul_one]
    omega
  · simp only [List.length_cons] at hl
    omega
theorem rank_inner {b : Int} {d : D} {room L P : List Int} {B : List Wi} {bx : Int} {y4 y8 y9 y10 : Option Sl} {o : O} (ho : o = .own ∨ o = .sh) (R : Room 256 room) (hp : Pn b d) (hb : b < 7000000) (hP : ∀ p ∈ P, 0 ≤ p ∧ p < (room.length : Int)) (hup : P.Pairwise (· < ·)) (hne : ∀ p ∈ P, p ≠ bx) (hPl : P.length ≤ 2)
    (b0 : 0 ≤ bx) (b1 : bx < (room.length : Int)) (hB : ∀ w ∈ B, WishB room w) (hBl : B.length ≤ 900) (s8 : ShN y8) (s9 : StN y9) (s10 : ShN y10) :
    ∃ d' B' y8' y9' y10', evS FRK (.forr (.nm 8) (.seq (.call 3 [(.comp (.ix (.var 1) (.var 7)) (.nm 7) (.seq (.var 6)) [] [7])] [])) caseBody) (ER d room L B y4 (some ⟨.sh, .int bx⟩) (some ⟨o, .list (P.map .int)⟩) y8 y9 y10) = .nx (ER d' room L B' y4 (some ⟨.sh, .int bx⟩) (some ⟨.sh, .list (P.map .int)⟩) y8' y9' y10') ∧ Pn (b + 64) d' ∧ (∀ w ∈ B', WishB room w) ∧ B'.length ≤ B.length + 48 ∧ ShN y8' ∧ StN y9' ∧ ShN y10' := by
  have hcp := compP (d := d) (room := room) (L := L) (B := B) (y4 := y4) (y5 := some ⟨.sh, .int bx⟩) (y8 := y8) (y9 := y9) (y10 := y10) ho hP (by omega)
  have hrp : ∀ n ∈ P.map (atR room), 0 < n ∧ n ≤ 4 := fun n hn => by
    obtain ⟨p, hp, rfl⟩ := List.mem_map.mp hn
    have := R.two _ (List.mem_of_getElem? (atR_at (hP p hp).1 (hP p hp).2).2)
    omega
  have hpr := prodI_two hrp (by rw [List.length_map]; exact hPl)
  have hall := all2_sem (x := .list ((P.map (atR room)).map .int)) (room := P.map (atR room)) (.inr rfl) (fun n hn => by have := hrp n hn; omega) (by omega) (by rw [List.length_map]; omega)
  have hev : evI FRK (.seq (.call 3 [(.comp (.ix (.var 1) (.var 7)) (.nm 7) (.seq (.var 6)) [] [7])] [])) (ER d room L B y4 (some ⟨.sh, .int bx⟩) (some ⟨o, .list (P.map .int)⟩) y8 y9 y10) = .ok (tupL (allS (P.map (atR room)))) (ER d room L B y4 (some ⟨.sh, .int bx⟩) (some ⟨.sh, .list (P.map .int)⟩) y8 y9 y10) := by
    simp! only [hcp, m__law_all_v2, hall]
  have hcnt : ((allS (P.map (atR room))).length : Int) ≤ 16 := by
    rw [allS_len]
    omega
  rw [r_forr, hev, r_kfo]
  generalize hL : forL _ _ _ = LL
  have hI := forL_use hL (fun i e => ∃ d' B' y8 y9 y10, e = ER d' room L B' y4 (some ⟨.sh, .int bx⟩) (some ⟨.sh, .list (P.map .int)⟩) y8 y9 y10 ∧ Pn (b + 4 * (i : Int)) d' ∧ (∀ w ∈ B', WishB room w) ∧ B'.length ≤ B.length + 3 * i ∧ ShN y8 ∧ StN y9 ∧ ShN y10) ⟨d, B, y8, y9, y10, rfl, hp.mono (by omega), hB, by omega, s8, s9, s10⟩ (by
    intro i x e hx hI
    obtain ⟨d1, B1, y8, y9, y10, rfl, p1, hB1, hB1l, s8, s9, s10⟩ := hI
    have hi : i < (allS (P.map (atR room))).length := by
      have := (List.getElem?_eq_some_iff.mp hx).1
      unfold tupL at this
      rwa [List.length_map] at this
    unfold tupL at hx
    obtain ⟨ws, hws, rfl⟩ := map_at hx
    have W := all_in (room := P.map (atR room)) (fun n hn => (hrp n hn).1) ws (List.mem_of_getElem? hws)
    obtain ⟨d2, B2, z8, z9, z10, h1, p2, hB2, hB2l, t8, t9, t10⟩ := case_step (L := L) (y4 := y4) R p1 (by omega) hP hup hne (by omega) b0 b1 W hB1 (by omega) s8 s9 s10
    exact ⟨_, h1, d2, B2, z8, z9, z10, rfl, p2.mono (by omega), hB2, by omega, t8, t9, t10⟩)
  obtain ⟨e', rfl, d', B', y8, y9, y10, rfl, p', hB', hBl', t8, t9, t10⟩ := hI
  have hlen : (tupL (allS (P.map (atR room)))).length = (allS (P.map (atR room))).length := by
    unfold tupL
    rw [List.length_map]
  rw [hlen] at p' hBl'
  exact ⟨d', B', y8, y9, y10, rfl, p'.mono (by omega), hB', by omega, t8, t9, t10⟩
theorem slT2 {xs : List D} {z : Int} (h0 : 0 ≤ z) : cutD xs none (some z) = xs.take z.toNat := by
  unfold cutD
  have e1 : HT.sIx xs.length 0 none = 0 := rfl
  have e2 : HT.sIx xs.length xs.length (some z) = min z.toNat xs.length := by
    show (if z < 0 then (z + (xs.length : Int)).toNat else min z.toNat xs.length) = _
    rw [if_neg (by omega)]
  rw [e1, e2, List.drop_zero, Nat.sub_zero]
  by_cases h : z.toNat ≤ xs.length
  · rw [Nat.min_eq_left h]
  · rw [Nat.min_eq_right (by omega), List.take_of_length_le (Nat.le_refl _), List.take_of_length_le (by omega)]
def boxBody : List IS := [
    .set 5 (.ix (.var 2) (.var 4)),
    .set 6 (.fn .sorted [(.sl (.call 0 [(.var 0), (.sl (.var 2) none (some (.var 4)))] []) none (some (.call 1 [(.var 0), (.lit (.int 3))] [])))]),
    .iff (.cm .gt (.call 2 [(.comp (.ix (.var 1) (.var 7)) (.nm 7) (.seq (.var 6)) [] [7])] []) (.lit (.int 9))) [
      .set 6 (.sl (.var 6) none (some (.lit (.int 1))))] [],
    .forr (.nm 8) (.seq (.call 3 [(.comp (.ix (.var 1) (.var 7)) (.nm 7) (.seq (.var 6)) [] [7])] [])) caseBody]
theorem box_step {b : Int} {d : D} {room L : List Int} {B : List Wi} {k : Nat} {y4 y5 y6 y8 y9 y10 : Option Sl} (R : Room 256 room) (hp : Pn b d) (hb : b < 6000000) (hLn : L.Nodup) (hL : ∀ p ∈ L, 0 ≤ p ∧ p < (room.length : Int)) (hLl : L.length ≤ 8) (hk : k < L.length)
    (hB : ∀ w ∈ B, WishB room w) (hBl : B.length ≤ 900) (s4 : ShN y4) (s5 : ShN y5) (s6 : StN y6) (s8 : ShN y8) (s9 : StN y9) (s10 : ShN y10) :
    ∃ d' B' y4' y5' y6' y8' y9' y10', stepF FRK (.nm 4) boxBody (.int (k : Int)) (ER d room L B y4 y5 y6 y8 y9 y10) = .nx (ER d' room L B' y4' y5' y6' y8' y9' y10') ∧ Pn (b + 80) d' ∧ (∀ w ∈ B', WishB room w) ∧ B'.length ≤ B.length + 48 ∧ ShN y4' ∧ ShN y5' ∧ StN y6' ∧ ShN y8' ∧ StN y9' ∧ ShN y10' := by
  have hk1 : L[k]? = some L[k] := List.getElem?_eq_getElem hk
  obtain ⟨bx, hb1, hb2⟩ := atD_room (ws := L) (i := (k : Int)) (by omega) (by omega)
  rw [Int.toNat_natCast] at hb2
  have hbm := List.mem_of_getElem? hb2
  obtain ⟨L1, d1, e1, p1, pm1⟩ := turned2_sem (L := L.take k) hp (by omega) (by rw [List.length_take]; omega)
  have hL1l : L1.length ≤ 8 := by
    rw [pm1.length_eq, List.length_take]
    omega
  obtain ⟨c, d2, e2, p2, c0, c1⟩ := take_sem p1 (by rw [List.length_take]; omega) (show (0 : Int) < 3 by decide) (by decide)
  have ck1 : cutD (L.map PyData.int) none (some (k : Int)) = (L.take k).map .int := by
    rw [slT2 (by omega), Int.toNat_natCast, List.map_take]
  have ck2 : cutD (L1.map PyData.int) none (some c) = (L1.take c.toNat).map .int := by
    rw [slT2 c0, List.map_take]
  have hso := sort_ints (L1.take c.toNat)
  have hnd1 : (L1.take c.toNat).Nodup := (pm1.nodup_iff.mpr (hLn.sublist (List.take_sublist _ _))).sublist (List.take_sublist _ _)
  have hup0 := srtI_up hnd1
  have hmem0 : ∀ p ∈ srtS ltI (L1.take c.toNat), p ∈ L.take k := fun p hp => pm1.mem_iff.mp (List.mem_of_mem_take ((srt_perm _).mem_iff.mp hp))
  have hlen0 : (srtS ltI (L1.take c.toNat)).length ≤ 2 := by
    rw [(srt_perm _).length_eq, List.length_take]
    omega
  have hne0 : ∀ p ∈ srtS ltI (L1.take c.toNat), p ≠ bx := fun p hp => by
    obtain ⟨i, hi1, hi2⟩ := List.mem_take_iff_getElem.mp (hmem0 p hp)
    intro z
    obtain ⟨j1, j2⟩ := List.getElem?_eq_some_iff.mp hb2
    have hpw := List.pairwise_iff_getElem.mp hLn
    exact hpw i k (by omega) hk (by omega) (by rw [hi2, j2, z])
  have hin0 : ∀ p ∈ srtS ltI (L1.take c.toNat), 0 ≤ p ∧ p < (room.length : Int) := fun p hp => hL p (List.mem_of_mem_take (hmem0 p hp))
  generalize srtS ltI (L1.take c.toNat) = P0 at hso hup0 hlen0 hne0 hin0
  have p3 : Pn (b + 9) d2 := p2.mono (by rw [List.length_take]; omega)
  have hcp := compP (d := d2) (room := room) (L := L) (B := B) (P := P0) (y4 := some ⟨.sh, .int (k : Int)⟩) (y5 := some ⟨.sh, .int bx⟩) (y8 := y8) (y9 := y9) (y10 := y10) (o := .own) (.inl rfl) hin0 (by omega)
  have hsz : f__law_size.sem [.list ((P0.map (atR room)).map .int)] = .ok false (.int (prodI (P0.map (atR room)))) [] := size_listsem fun n hn => by
    obtain ⟨p, hp, rfl⟩ := List.mem_map.mp hn
    have := R.two _ (List.mem_of_getElem? (atR_at (hin0 p hp).1 (hin0 p hp).2).2)
    omega
  have ck3 : cutD (P0.map PyData.int) none (some 1) = (P0.take 1).map .int := by
    rw [slT2 (by decide), List.map_take]
    rfl
  by_cases h9 : 9 < prodI (P0.map (atR room))
  · obtain ⟨d', B', z8, z9, z10, hin, p', hB', hBl', t8, t9, t10⟩ := rank_inner (L := L) (P := P0.take 1) (y4 := some ⟨.sh, .int (k : Int)⟩) (o := .own) (.inl rfl) R p3 (by omega) (fun p hp => hin0 p (List.mem_of_mem_take hp)) (hup0.sublist (List.take_sublist _ _)) (fun p hp => hne0 p (List.mem_of_mem_take hp)) (by rw [List.length_take]; omega) (hL bx hbm).1 (hL bx hbm).2 hB hBl s8 s9 s10
    refine ⟨d', B', some ⟨.sh, .int (k : Int)⟩, some ⟨.sh, .int bx⟩, some ⟨.sh, .list ((P0.take 1).map .int)⟩, z8, z9, z10, ?_, p'.mono (by omega), hB', hBl', shn1, shn1, stn_sh, t8, t9, t10⟩
    unfold boxBody
    generalize hcb : caseBody = cb at hin
    unfold ER at *
    simp! only [s4, s5, s6, hb1, m__law_turned, ck1, e1, m__law_take, e2, ck2, hso, hcp, m__law_size, hsz, h9, ck3, - r_forr, hin]
  · obtain ⟨d', B', z8, z9, z10, hin, p', hB', hBl', t8, t9, t10⟩ := rank_inner (L := L) (P := P0) (y4 := some ⟨.sh, .int (k : Int)⟩) (o := .sh) (.inr rfl) R p3 (by omega) hin0 hup0 hne0 hlen0 (hL bx hbm).1 (hL bx hbm).2 hB hBl s8 s9 s10
    refine ⟨d', B', some ⟨.sh, .int (k : Int)⟩, some ⟨.sh, .int bx⟩, some ⟨.sh, .list (P0.map .int)⟩, z8, z9, z10, ?_, p'.mono (by omega), hB', hBl', shn1, shn1, stn_sh, t8, t9, t10⟩
    unfold boxBody
    generalize hcb : caseBody = cb at hin
    unfold ER at *
    simp! only [s4, s5, s6, hb1, m__law_turned, ck1, e1, m__law_take, e2, ck2, hso, hcp, m__law_size, hsz, h9, - r_forr, hin]
end CM

/-! PM30: the ranked book, any book of the second pen. -/
namespace CM
open PySem PD
theorem ranked_sem {b : Int} {d : D} {room : List Int} (hp : Pn b d) (hb : b < 5000000) (R : Room 256 room) :
    ∃ (B : List Wi) (d' : D), f__law_ranked.sem [d, tupI room] = .ok false (.tuple (B.map wishD)) [d'] ∧ Pn (b + 700) d' ∧ B.length ≤ 400 ∧ ∀ w ∈ B, WishB room w := by
  rw [e__law_ranked, runF_eq rfl (by decide)]
  have hrl := R.len
  have hr0 : (0 : Int) ≤ (room.length : Int) := by omega
  have hr1 : (room.length : Int) < 4611686018427387904 := by omega
  have hr2 : (room.length : Int) ≤ 16777216 := by omega
  have hrg : ((List.range ((room.length : Int)).toNat).map fun (k : Nat) => PyData.int (k : Int)) = ((List.range room.length).map fun (k : Nat) => (k : Int)).map .int := by
    rw [List.map_map, Int.toNat_natCast]
    rfl
  obtain ⟨L, d1, e1, p1, pmL⟩ := turned2_sem (L := (List.range room.length).map fun (k : Nat) => (k : Int)) hp (by omega) (by rw [List.length_map, List.length_range]; omega)
  rw [← hrg] at e1
  have hLl : L.length = room.length := by
    rw [pmL.length_eq, List.length_map, List.length_range]
  have hLn : L.Nodup := by
    refine pmL.nodup_iff.mpr ?_
    show List.Pairwise _ _
    rw [List.pairwise_map]
    exact List.pairwise_lt_range.imp fun {a c} h => by omega
  have hLin : ∀ q ∈ L, 0 ≤ q ∧ q < (room.length : Int) := fun q hq => by
    obtain ⟨k, hk, rfl⟩ := List.mem_map.mp (pmL.mem_iff.mp hq)
    have := List.mem_range.mp hk
    omega
  have hl0 : (0 : Int) ≤ ((L.map PyData.int).length : Int) := by omega
  have hl1 : ((L.map PyData.int).length : Int) < 4611686018427387904 := by
    rw [List.length_map]
    omega
  have h1 : evSs FRK (b__law_ranked.take 2) (startE [true, false] [d, tupI room] 13) = .nx (ER d1 room L [] none none none none none none) := by
    unfold b__law_ranked ER
    simp! only [r_rgl, r_krgl, r_krgl2, r_krgl3t, hr0, hr1, hr2, m__law_turned, e1]
  rw [ss_split 2 h1]
  have h2 : ∃ e', evSs FRK (b__law_ranked.drop 2 |>.take 1) (ER d1 room L [] none none none none none none) = .nx e' ∧ ∃ d' B y4 y5 y6 y8 y9 y10, e' = ER d' room L B y4 y5 y6 y8 y9 y10 ∧ Pn (b + 8 + 80 * (L.length : Int)) d' ∧ (∀ w ∈ B, WishB room w) ∧ B.length ≤ 48 * L.length := by
    unfold b__law_ranked
    show ∃ e', evSs FRK [.forr (.nm 4) (.rng (.fn .len [(.var 2)])) boxBody] _ = .nx e' ∧ _
    have hev : evI FRK (.rng (.fn .len [(.var 2)])) (ER d1 room L [] none none none none none none) = .ok ((List.range L.length).map fun (k : Nat) => PyData.int (k : Int)) (ER d1 room L [] none none none none none none) := by
      unfold ER
      simp! only [hl0, hl1]
      rw [List.length_map, Int.toNat_natCast]
    have hss : ∀ (s : IS) (e : En), evSs FRK [s] e = evS FRK s e := fun s e => by
      show (match evS FRK s e with
        | .nx e1 => evSs FRK [] e1
        | r => r) = _
      cases evS FRK s e <;> rfl
    rw [hss, r_forr, hev, r_kfo]
    generalize hL : forL _ _ _ = LL
    have hI := forL_use hL (fun i e => ∃ d' B y4 y5 y6 y8 y9 y10, e = ER d' room L B y4 y5 y6 y8 y9 y10 ∧ Pn (b + 8 + 80 * (i : Int)) d' ∧ (∀ w ∈ B, WishB room w) ∧ B.length ≤ 48 * i ∧ ShN y4 ∧ ShN y5 ∧ StN y6 ∧ ShN y8 ∧ StN y9 ∧ ShN y10) ⟨d1, [], none, none, none, none, none, none, rfl, p1.mono (by rw [List.length_map, List.length_range]; omega), fun w hw => absurd hw List.not_mem_nil, Nat.le_refl 0, shn0, shn0, stn0, shn0, stn0, shn0⟩ (by
      intro i x e hx hI
      obtain ⟨d2, B, y4, y5, y6, y8, y9, y10, rfl, p2, hB, hBl, s4, s5, s6, s8, s9, s10⟩ := hI
      obtain ⟨rfl, hi⟩ := rng_at hx
      obtain ⟨d3, B3, z4, z5, z6, z8, z9, z10, h3, p3, hB3, hB3l, t⟩ := box_step (k := i) R p2 (by omega) hLn hLin (by omega) hi hB (by omega) s4 s5 s6 s8 s9 s10
      exact ⟨_, h3, d3, B3, z4, z5, z6, z8, z9, z10, rfl, p3.mono (by omega), hB3, by omega, t⟩)
    obtain ⟨e', rfl, d', B, y4, y5, y6, y8, y9, y10, rfl, p', hB, hBl, _⟩ := hI
    rw [List.length_map, List.length_range] at p' hBl
    exact ⟨_, rfl, d', B, y4, y5, y6, y8, y9, y10, rfl, p', hB, hBl⟩
  obtain ⟨e', h2, d', B, y4, y5, y6, y8, y9, y10, rfl, p', hB, hBl⟩ := h2
  rw [ss_split 1 h2]
  refine ⟨B, d', ?_, p'.mono (by omega), by omega, hB⟩
  unfold b__law_ranked ER
  simp! only [tup_l, lastMs]
theorem book2_gen {rb : Fn} (hrm : rb.modes = [true, false]) {b : Int} {d : D} {room : List Int} (hrb : ∀ {b : Int} {d : D}, Pn b d → b < 6000000 → ∃ (B : List Wi) (d' : D), rb.sem [d, tupI room] = .ok false (.tuple (B.map wishD)) [d'] ∧ Pn (b + 41) d' ∧ B.length ≤ 300 ∧ ∀ w ∈ B, WishB room w) (hp : Pn b d) (hb : b < 4000000) (R : Room 256 room) :
    ∃ (B : List Wi) (d' : D), runF [f__law_take, rb, f__law_ranked, f__law_wish_v2] [true, false] 5 b__law_book_v2 [d, tupI room] = .ok false (.tuple (B.map wishD)) [d'] ∧ Pn (b + 800) d' ∧ B.length ≤ 500 ∧ ∀ w ∈ B, WishB room w := by
  rw [runF_eq rfl (by decide)]
  obtain ⟨way, d1, e1, p1, w0, w1⟩ := take_sem hp (by omega) (show (0 : Int) < 7 by decide) (by decide)
  unfold b__law_book_v2
  rcases (by omega : way = 6 ∨ way = 5 ∨ way = 4 ∨ way = 3 ∨ way < 3) with rfl | rfl | rfl | rfl | hw
  · simp! only [m__law_take, e1]
    exact ⟨[], d1, rfl, p1.mono (by omega), by decide, fun w hw => absurd hw List.not_mem_nil⟩
  · obtain ⟨B, d2, e2, p2, hl, hB⟩ := hrb p1 (by omega)
    simp! only [m__law_take, e1, hrm, e2, sc_t]
    exact ⟨B, d2, rfl, p2.mono (by omega), by omega, hB⟩
  · obtain ⟨B, d2, e2, p2, hl, hB⟩ := ranked_sem p1 (by omega) R
    have hli : prim .list [.tuple (B.map wishD)] = some (true, .list (B.map wishD)) := rfl
    by_cases hB0 : 0 < (B.length : Int)
    · obtain ⟨v, d3, e3, p3, hv⟩ := wish2_sem (way := 0) p2 (by omega) R
      obtain ⟨j, d4, e4, p4, j0, j1⟩ := take_sem p3 (by omega) hB0 (by omega)
      have cset : ixSet (.list (B.map wishD)) (.int j) (wishD v) = some (.list ((B.set j.toNat v).map wishD)) := by
        show (if 0 ≤ j ∧ j < ((B.map wishD).length : Int) then some (PyData.list ((B.map wishD).set j.toNat (wishD v))) else none) = _
        rw [if_pos ⟨j0, by rw [List.length_map]; exact j1⟩, List.map_set]
      simp! only [m__law_take, e1, m__law_ranked, e2, sc_t, hli, List.length_map, hB0, m__law_wish_v2, e3, sc_w, e4, cset, tup_l]
      exact ⟨B.set j.toNat v, d4, rfl, p4.mono (by omega), by rw [List.length_set]; omega, fun u hu => (List.mem_or_eq_of_mem_set hu).elim (hB u) fun h => h ▸ hv⟩
    · simp! only [m__law_take, e1, m__law_ranked, e2, sc_t, hli, List.length_map, hB0, tup_l]
      exact ⟨B, d2, rfl, p2.mono (by omega), by omega, hB⟩
  · obtain ⟨B, d2, e2, p2, hl, hB⟩ := ranked_sem p1 (by omega) R
    have hli : prim .list [.tuple (B.map wishD)] = some (true, .list (B.map wishD)) := rfl
    simp! only [m__law_take, e1, m__law_ranked, e2, sc_t, hli, tup_l]
    exact ⟨B, d2, rfl, p2.mono (by omega), by omega, hB⟩
  · obtain ⟨r, d2, e2, p2, r0, r1⟩ := take_sem p1 (by omega) (show (0 : Int) < 14 by decide) (by decide)
    have n0 : 0 ≤ 1 + r := by omega
    have n1 : 1 + r < 4611686018427387904 := by omega
    have h6 : decide (way = 6) = false := decide_eq_false (by omega)
    have h5 : decide (way = 5) = false := decide_eq_false (by omega)
    have h2 : ¬ 2 < way := by omega
    have hc : ∃ W ds, evE [f__law_take, rb, f__law_ranked, f__law_wish_v2] (.comp (.call 3 [(.var 0), (.var 1), (.var 2)] []) (.nm 4) (.rng (.bi .add (.lit (.int 1)) (.call 0 [(.var 0), (.lit (.int 14))] []))) [] [4]) [some ⟨.mu, d1⟩, some ⟨.sh, tupI room⟩, some ⟨.sh, .int way⟩, none, none] =
        .ok (.val true (.list ds)) (backE [some ⟨.mu, d2⟩, some ⟨.sh, tupI room⟩, some ⟨.sh, .int way⟩, none, none] W [4]) ∧ ∃ (d' : D) (B : List Wi), W = [some ⟨.mu, d'⟩, some ⟨.sh, tupI room⟩, some ⟨.sh, .int way⟩, none, none] ∧ Pn (b + 2 + 23 * 14) d' ∧ ds = B.map wishD ∧ B.length ≤ 14 ∧ ∀ w ∈ B, WishB room w := by
      have := evE_comp_st (F := [f__law_take, rb, f__law_ranked, f__law_wish_v2]) (el := .call 3 [(.var 0), (.var 1), (.var 2)] []) (pt := .nm 4) (src := .rng (.bi .add (.lit (.int 1)) (.call 0 [(.var 0), (.lit (.int 14))] []))) (cs := []) (own := [4]) (e := [some ⟨.mu, d1⟩, some ⟨.sh, tupI room⟩, some ⟨.sh, .int way⟩, none, none]) (e1 := [some ⟨.mu, d2⟩, some ⟨.sh, tupI room⟩, some ⟨.sh, .int way⟩, none, none])
        (A := List.range (1 + r).toNat) (h := fun (k : Nat) => PyData.int (k : Int)) (fun j W ds => ∃ (d' : D) (B : List Wi), W = [some ⟨.mu, d'⟩, some ⟨.sh, tupI room⟩, some ⟨.sh, .int way⟩, none, none] ∧ Pn (b + 2 + 23 * (j : Int)) d' ∧ ds = B.map wishD ∧ B.length = j ∧ ∀ w ∈ B, WishB room w) (by simp! only [m__law_take, e2, n0, n1]) rfl (by rw [sl_eq, List.length_range]; omega) ⟨d2, [], rfl, p2.mono (by omega), rfl, rfl, fun w hw => absurd hw List.not_mem_nil⟩ (by
          intro j a e ds ha hI
          obtain ⟨d3, B, hW, p3, rfl, hBl, hB⟩ := hI
          have hj : j < (1 + r).toNat := by
            have := (List.getElem?_eq_some_iff.mp ha).1
            rwa [List.length_range] at this
          obtain ⟨w, d4, e4, p4, hw⟩ := wish2_sem (way := way) p3 (by omega) R
          rw [r_stepc, hW]
          simp! only [m__law_wish_v2, e4, sc_w]
          refine ⟨_, _, rfl, d4, B ++ [w], rfl, p4.mono (by omega), by rw [List.map_append]; rfl, by rw [List.length_append, hBl]; rfl, fun u hu => ?_⟩
          rcases List.mem_append.mp hu with h | h
          · exact hB u h
          · rw [List.mem_singleton.mp h]
            exact hw)
      obtain ⟨W, ds, h1, d', B, h2, h3, h4, h5, h6⟩ := this
      rw [List.length_range] at h3 h5
      exact ⟨W, ds, h1, d', B, h2, h3.mono (by omega), h4, by omega, h6⟩
    obtain ⟨W, ds, hc, d3, B, rfl, p3, rfl, hBl, hB⟩ := hc
    obtain ⟨u, d4, e4, p4, u0, u1⟩ := take_sem p3 (by omega) (show (0 : Int) < 2 by decide) (by decide)
    have ck : cutD (B.map wishD) none (some u) = (B.take u.toNat).map wishD := by
      rw [slT2 u0, List.map_take]
    have cc : prim .add [.list (B.map wishD), .list ((B.take u.toNat).map wishD)] = some (true, .list ((B ++ B.take u.toNat).map wishD)) := by
      rw [List.map_append]
      exact cat_l (by rw [List.length_map, List.length_map, List.length_take]; omega)
    simp! only [m__law_take, e1, h6, h5, h2, hc, backE, e4, ck, cc, tup_l]
    refine ⟨B ++ B.take u.toNat, d4, rfl, p4.mono (by omega), by rw [List.length_append, List.length_take]; omega, fun v hv => ?_⟩
    rcases List.mem_append.mp hv with h | h
    · exact hB v h
    · exact hB v (List.mem_of_mem_take h)
theorem book2_sem {b : Int} {d : D} {room : List Int} (hp : Pn b d) (hb : b < 4000000) (R : Room 256 room) :
    ∃ (B : List Wi) (d' : D), f__law_book_v2.sem [d, tupI room] = .ok false (.tuple (B.map wishD)) [d'] ∧ Pn (b + 800) d' ∧ B.length ≤ 500 ∧ ∀ w ∈ B, WishB room w := by
  rw [e__law_book_v2]
  exact book2_gen rfl (fun hp hb => row_book_sem hp hb R) hp hb R
end CM

/-! PM31: steps, what keeps a given, by the second pen's laws. -/
namespace CM
open PySem PD
/-- the boxes of a given that a standing does not keep -/
def offL (ws : List Int) (g : List (Int × Int)) : List D := g.filterMap fun p => if ws[p.1.toNat]? = some p.2 then none else some (.int p.1)
def stepsBody : List IS := [
    .iff (.and [(.cm .notin (.var 5) (.var 2)), (.cm .eq (.ix (.var 1) (.var 5)) (.var 7))]) [
      .iff (.cm .eq (.comp (.var 8) (.tp [8, 9]) (.seq (.var 4)) [(.cm .ne (.ix (.var 1) (.var 8)) (.var 9))] [8, 9]) (.lst [])) [
        .ixset 3 (.bi .add (.bi .add (.sl (.var 1) none (some (.var 5))) (.tup [(.var 6)])) (.sl (.var 1) (some (.bi .add (.var 5) (.lit (.int 1)))) none)) (.lit (.bool true))] []] []]
end CM

/-! PM32: more rules; dicts with standings as keys. -/
namespace CM
open PySem PD
def kAug4 (i : Nat) (e : En) : Option (Bool × D) → Ou
  | some (false, .int r) => match stN i ⟨.sh, .int r⟩ e with
    | some e2 => .nx e2
    | none => .no
  | _ => .no
def kAug3 (i : Nat) (p : Pr) (x : D) (e : En) : Option D → Ou
  | some dy => kAug4 i e (prim p [x, dy])
  | none => .no
def kAug2 (i : Nat) (p : Pr) (x : D) : Rs Ans → Ou
  | .ok y e1 => kAug3 i p x e1 (rdA y e1)
  | .ex c d e1 => .ex c d e1
  | .no => .no
def kAug (F : List Fn) (i : Nat) (p : Pr) (a : IE) (e : En) : Option (Option Sl) → Ou
  | some (some ⟨.sh, x⟩) => kAug2 i p x (evE F a e)
  | _ => .no
def kDo5 (t : Bool) (e : En) : Option (List (D × D)) → Rs Ans
  | some ps => .ok (.val true (mkDic t ps)) e
  | none => .no
def kDo4 (t : Bool) (dk : D) : Option (D × En) → Rs Ans
  | some (dv, e) => kDo5 t e (pairsD t [.tuple [dk, dv]])
  | none => .no
def kDo3 (t : Bool) (y : Ans) : Option (D × En) → Rs Ans
  | some (dk, e) => kDo4 t dk (fzA y e)
  | none => .no
def kDo2 (t : Bool) (x y : Ans) (e : En) : Rs Ans := kDo3 t y (fzA x e)
def kDo (F : List Fn) (t : Bool) (b : IE) (x : Ans) (e : En) : Rs Ans := (evE F b e).bind (kDo2 t x)
def kMr3 (p : Pr) (x : Ans) : Option (List D × En) → Rs Ans
  | some (ds, e) => prA p (x :: ds.map (Ans.val false)) e
  | none => .no
def kMr2 (p : Pr) (x : Ans) (as : List Ans) (e : En) : Rs Ans := kMr3 p x (fzAs as e)
def kMr (F : List Fn) (p : Pr) (i : Nat) (es : List IE) (e : En) : Option (Option Sl) → Rs Ans
  | some (some s) => if rcvB p s.d = true then (evEs F es e).bind (kMr2 p (PD.slA i s)) else .no
  | _ => .no
section
variable {F : List Fn} {e : En} {a b : IE} {p : Pr} {es : List IE} {i : Nat} {d x dy dk dv : D} {r : Int} {y z : Ans} {t : Bool} {ps : List (D × D)} {ds : List D}
theorem r_aug : evS F (.aug i p a) e = kAug F i p a e e[i]? := by
  simp only [evS]
  cases e[i]? with
  | none => rfl
  | some s =>
    cases s with
    | none => rfl
    | some s =>
      obtain ⟨o, d⟩ := s
      cases o with
      | own => rfl
      | mu => rfl
      | sh =>
        simp only [kAug]
        cases evE F a e with
        | no => rfl
        | ex c d e1 => rfl
        | ok y e1 =>
          simp only [kAug2]
          cases rdA y e1 with
          | none => rfl
          | some dy => simp only [kAug3, kAug4] <;> rfl
theorem r_kaug : kAug F i p a e (some (some ⟨.sh, x⟩)) = kAug2 i p x (evE F a e) := rfl
theorem r_kaug2 : kAug2 i p x (.ok y e) = kAug3 i p x e (rdA y e) := rfl
theorem r_kaug3 : kAug3 i p x e (some dy) = kAug4 i e (prim p [x, dy]) := rfl
theorem r_kaug4 : kAug4 i e (some (false, .int r)) = kNx (stN i ⟨.sh, .int r⟩ e) := by
  simp only [kAug4]
  cases stN i ⟨.sh, .int r⟩ e <;> rfl
theorem r_dic1 : evE F (.dic1 t a b) e = (evE F a e).bind (kDo F t b) := by
  simp only [evE] <;> rfl
theorem r_kdo {x : Ans} : kDo F t b x e = (evE F b e).bind (kDo2 t x) := rfl
theorem r_kdo2 {x : Ans} : kDo2 t x y e = kDo3 t y (fzA x e) := rfl
theorem r_kdo3 : kDo3 t y (some (dk, e)) = kDo4 t dk (fzA y e) := rfl
theorem r_kdo4 : kDo4 t dk (some (dv, e)) = kDo5 t e (pairsD t [.tuple [dk, dv]]) := rfl
theorem r_kdo5 : kDo5 t e (some ps) = .ok (.val true (mkDic t ps)) e := rfl
theorem r_mr : evE F (.mr p i es) e = kMr F p i es e e[i]? := by
  simp only [evE]
  cases e[i]? with
  | none => rfl
  | some s =>
    cases s with
    | none => rfl
    | some s =>
      simp only [kMr] <;> rfl
theorem r_kmr {s : Sl} : kMr F p i es e (some (some s)) = if rcvB p s.d = true then (evEs F es e).bind (kMr2 p (PD.slA i s)) else .no := rfl
theorem r_kmr2 {x : Ans} {as : List Ans} : kMr2 p x as e = kMr3 p x (fzAs as e) := rfl
theorem r_kmr3 {x : Ans} : kMr3 p x (some (ds, e)) = prA p (x :: ds.map (Ans.val false)) e := rfl
theorem r_kmr3b : PD.slA i ⟨.sh, d⟩ = .val false d := rfl
theorem r_kmr3c : PD.slA i ⟨.own, d⟩ = .pl i := rfl
theorem r_rcv1 {k : List (D × D)} : rcvB .get1 (.dict k) = true := rfl
theorem r_rcv2 {k : List (D × D)} : rcvB .get2 (.dict k) = true := rfl
theorem r_rcv3 {k : List D} : rcvB .index (.list k) = true := rfl
theorem r_rcv4 {k : List D} : rcvB .count (.list k) = true := rfl
end
def kAi6 : Option En → Ou
  | some e3 => .nx e3
  | none => .no
def kAi5 (i : Nat) (j : Int) (e : En) : Option (Bool × D) → Ou
  | some (false, .int r) => kAi6 (ptI e i j r)
  | _ => .no
def kAi4 (i : Nat) (p : Pr) (j x : Int) (e : En) : Option D → Ou
  | some (.int c) => kAi5 i j e (prim p [.int x, .int c])
  | _ => .no
def kAi3 (i : Nat) (p : Pr) (j x : Int) : Rs Ans → Ou
  | .ok z e2 => kAi4 i p j x e2 (rdA z e2)
  | .ex c d e2 => .ex c d e2
  | .no => .no
def kAi2 (F : List Fn) (i : Nat) (p : Pr) (a : IE) (j : Int) (e : En) : Option Int → Ou
  | some x => kAi3 i p j x (evE F a e)
  | none => .no
def kAi (F : List Fn) (i : Nat) (p : Pr) (a : IE) : Rs Ans → Ou
  | .ok (.val false (.int j)) e1 => kAi2 F i p a j e1 (gtI e1 i j)
  | .ok _ _ => .no
  | .ex c d e2 => .ex c d e2
  | .no => .no
section
variable {F : List Fn} {e : En} {a b k : IE} {p : Pr} {i : Nat} {j x c r : Int} {z : Ans}
theorem r_augi : evS F (.augi i p k a) e = if isOwn e i = true then kAi F i p a (evE F k e) else .no := by
  simp only [evS]
  split
  · cases evE F k e with
    | no => rfl
    | ex c d e1 => rfl
    | ok y e1 =>
      cases y with
      | pl _ => rfl
      | val f d => cases f <;> cases d <;> rfl
  · rfl
theorem r_kai : kAi F i p a (.ok (.val false (.int j)) e) = kAi2 F i p a j e (gtI e i j) := rfl
theorem r_kai2 : kAi2 F i p a j e (some x) = kAi3 i p j x (evE F a e) := rfl
theorem r_kai3 : kAi3 i p j x (.ok z e) = kAi4 i p j x e (rdA z e) := rfl
theorem r_kai4 : kAi4 i p j x e (some (.int c)) = kAi5 i j e (prim p [.int x, .int c]) := rfl
theorem r_kai5 : kAi5 i j e (some (false, .int r)) = kAi6 (ptI e i j r) := rfl
theorem r_kai6 {e3 : En} : kAi6 (some e3) = .nx e3 := rfl
end
/-! dicts with standings as keys -/
abbrev Kvs := List (List Int × D)
def dicT (kvs : Kvs) : D := .dict ((.none, .none) :: kvs.map fun p => (tupI p.1, p.2))
def hasK (kvs : Kvs) (k : List Int) : Bool := kvs.any fun p => decide (p.1 = k)
def getK : Kvs → List Int → Option D
  | [], _ => none
  | p :: r, k => if p.1 = k then some p.2 else getK r k
def putP (kvs : Kvs) (k : List Int) (v : D) : Kvs := if hasK kvs k = true then kvs.map (fun p => if p.1 = k then (p.1, v) else p) else kvs ++ [(k, v)]
theorem key_tup {kvs : List (D × D)} {k : List Int} : keyOf ((.none, .none) :: kvs) (tupI k) = true := by
  show (k.map PyData.int).all keyAt = true
  rw [List.all_map]
  exact List.all_eq_true.mpr fun _ _ => rfl
theorem dget_none {kvs : List (D × D)} {k : List Int} : dGet ((.none, .none) :: kvs) (tupI k) = dGet kvs (tupI k) := rfl
theorem dget_map {k : List Int} : ∀ {kvs : Kvs}, dGet (kvs.map fun p => (tupI p.1, p.2)) (tupI k) = getK kvs k
  | [] => rfl
  | p :: r => by
    rw [List.map_cons, dGet, getK, keyEq_tupI, dget_map]
    by_cases h : p.1 = k
    · rw [if_pos (decide_eq_true h), if_pos h]
    · rw [if_neg (by simp [h]), if_neg h]
theorem getK_some {k : List Int} : ∀ {kvs : Kvs}, (getK kvs k).isSome = hasK kvs k
  | [] => rfl
  | p :: r => by
    rw [getK]
    unfold hasK
    rw [List.any_cons]
    by_cases h : p.1 = k
    · rw [if_pos h, decide_eq_true h]
      rfl
    · rw [if_neg h, decide_eq_false h, Bool.false_or]
      exact getK_some
theorem dic_in {kvs : Kvs} {k : List Int} : prim .isin [tupI k, dicT kvs] = some (false, .bool (hasK kvs k)) := by
  show (if keyOf _ (tupI k) = true then some (dGet ((.none, .none) :: kvs.map fun p => (tupI p.1, p.2)) (tupI k)).isSome else none).map _ = _
  rw [key_tup, if_pos rfl, dget_none, dget_map, getK_some]
  rfl
theorem dic_notin {kvs : Kvs} {k : List Int} : prim .notin [tupI k, dicT kvs] = some (false, .bool (!hasK kvs k)) := by
  show (if keyOf _ (tupI k) = true then some (dGet ((.none, .none) :: kvs.map fun p => (tupI p.1, p.2)) (tupI k)).isSome else none).map _ = _
  rw [key_tup, if_pos rfl, dget_none, dget_map, getK_some]
  rfl
theorem dic_get {kvs : Kvs} {k : List Int} {v : D} (h : getK kvs k = some v) : pIx (dicT kvs) (tupI k) = some v := by
  show (if keyOf _ (tupI k) = true then dGet ((.none, .none) :: kvs.map fun p => (tupI p.1, p.2)) (tupI k) else none) = _
  rw [key_tup, if_pos rfl, dget_none, dget_map, h]
theorem any_hasK {kvs : Kvs} {k : List Int} : ((kvs.map fun p => (tupI p.1, p.2)).any fun kv => keyEq kv.1 (tupI k)) = hasK kvs k := by
  unfold hasK
  rw [List.any_map]
  congr 1
  funext p
  exact keyEq_tupI
theorem dic_put {kvs : Kvs} {k : List Int} {v : D} (hl : kvs.length < 100000) : ixSet (dicT kvs) (tupI k) v = some (dicT (putP kvs k v)) := by
  show (if keyOf _ (tupI k) = true ∧ ((PyData.none, PyData.none) :: kvs.map fun p => (tupI p.1, p.2)).length < sizeLine then some (PyData.dict (dSet ((.none, .none) :: kvs.map fun p => (tupI p.1, p.2)) (tupI k) v)) else none) = _
  rw [if_pos ⟨key_tup, by rw [List.length_cons, List.length_map, sl_eq]; omega⟩]
  have hn : keyEq .none (tupI k) = false := rfl
  unfold dSet dicT putP
  rw [List.any_cons, hn, Bool.false_or, any_hasK]
  by_cases h : hasK kvs k = true
  · rw [if_pos h, if_pos h, List.map_cons]
    congr 3
    rw [List.map_map, List.map_map]
    refine List.map_congr_left fun x hx => ?_
    show (if keyEq (tupI x.1) (tupI k) = true then (tupI x.1, v) else (tupI x.1, x.2)) = _
    rw [keyEq_tupI]
    by_cases e : x.1 = k
    · simp [e]
    · simp [e]
  · rw [if_neg h, if_neg h, List.map_append]
    rfl
theorem dic_list {kvs : Kvs} : prim .list [dicT kvs] = some (true, .list ((kvs.map (·.1)).map tupI)) := by
  show some (true, PyData.list ((kvs.map fun p => (tupI p.1, p.2)).map (·.1))) = _
  rw [List.map_map, List.map_map]
  rfl
theorem hasK_mem {kvs : Kvs} {k : List Int} : hasK kvs k = true ↔ k ∈ kvs.map (·.1) := by
  unfold hasK
  rw [List.any_eq_true, List.mem_map]
  constructor
  · rintro ⟨p, hp, h⟩
    exact ⟨p, hp, by simpa using h⟩
  · rintro ⟨p, hp, h⟩
    exact ⟨p, hp, by simpa using h⟩
theorem putP_new {kvs : Kvs} {k : List Int} {v : D} (h : hasK kvs k = false) : putP kvs k v = kvs ++ [(k, v)] := by
  unfold putP
  rw [h]
  rfl
end CM
local macro_rules | `(tactic| simp_arith only [$ts,*] $[$loc:location]?) => `(tactic| simp -implicitDefEqProofs only [_root_.PD.r_rd_v, _root_.PD.r_rd_p, _root_.PD.r_krd, _root_.PD.r_rds0, _root_.PD.r_rds, _root_.PD.r_kco, _root_.PD.r_pr, _root_.PD.r_kpr, _root_.PD.r_kpr2, _root_.PD.r_var, _root_.PD.r_kvar1, _root_.PD.r_kvar2, _root_.PD.r_kvar3, _root_.PD.r_lit, _root_.PD.r_gl, _root_.PD.r_un, _root_.PD.r_bi, _root_.PD.r_cm, _root_.PD.r_chn, _root_.PD.r_kch3t, _root_.PD.r_kch3f, _root_.PD.r_and, _root_.PD.r_or, _root_.PD.r_and1, _root_.PD.r_and2, _root_.PD.r_or1, _root_.PD.r_or2, _root_.PD.r_kan2t, _root_.PD.r_kan2f, _root_.PD.r_kor2t, _root_.PD.r_kor2f, _root_.PD.r_not, _root_.PD.r_kno2, _root_.PD.r_ite, _root_.PD.r_tup, _root_.PD.r_lst, _root_.PD.r_ktu2, _root_.PD.r_kls2, _root_.PD.r_dic, _root_.PD.r_kdi2, _root_.PD.r_dnewk, _root_.PD.r_dnewt, _root_.PD.r_ix, _root_.PD.r_kix3, _root_.PD.r_kix4, _root_.PD.r_sl, _root_.PD.r_ksl4l, _root_.PD.r_ksl4t, _root_.PD.r_fn, _root_.PD.r_isI, _root_.PD.r_kis2, _root_.PD.r_call, _root_.PD.r_kcl2, _root_.PD.r_calla, _root_.PD.r_kca2, _root_.PD.r_kca3, _root_.PD.r_kca4, _root_.PD.r_kca5, _root_.PD.r_arg0, _root_.PD.r_arg, _root_.PD.r_kar1, _root_.PD.r_kar2, _root_.PD.r_kar3, _root_.PD.r_kar4, _root_.PD.r_kar5, _root_.PD.r_kar6, _root_.PD.r_nomix0, _root_.PD.r_nomix1, _root_.PD.r_pm0, _root_.PD.r_pm1, _root_.PD.r_kpm, _root_.PD.r_sh0, _root_.PD.r_sh1, _root_.PD.r_ksh1, _root_.PD.r_ksh2, _root_.PD.r_fz_v, _root_.PD.r_fz_p, _root_.PD.r_kfz1, _root_.PD.r_kfz2, _root_.PD.r_fzs0, _root_.PD.r_fzs1, _root_.PD.r_kfs, _root_.PD.r_kfs3, _root_.PD.r_isL, _root_.PD.r_kisl1, _root_.PD.r_kisl2, _root_.PD.r_isO, _root_.PD.r_kiso1, _root_.PD.r_kiso2, _root_.PD.r_mt, _root_.PD.r_kmt2, _root_.PD.r_kmt31, _root_.PD.r_kmt32, _root_.PD.r_kmt4, _root_.PD.r_es0, _root_.PD.r_es1, _root_.PD.r_o0, _root_.PD.r_o1, _root_.PD.r_ko2, _root_.PD.r_tv, _root_.PD.r_ktv2, _root_.PD.r_ktv3, _root_.PD.r_tcm, _root_.PD.r_tchn, _root_.PD.r_ktb, _root_.PD.r_tnot, _root_.PD.r_tand, _root_.PD.r_tor, _root_.PD.r_ta0, _root_.PD.r_ta1, _root_.PD.r_to0, _root_.PD.r_to1, _root_.PD.r_c0, _root_.PD.r_c1, _root_.PD.r_seq, _root_.PD.r_ksq2, _root_.PD.r_ksq3, _root_.PD.r_rng, _root_.PD.r_krg2, _root_.PD.r_rr, _root_.PD.r_krr3, _root_.PD.r_enum, _root_.PD.r_ken2, _root_.PD.r_ken3, _root_.PD.r_zip, _root_.PD.r_kzi4, _root_.PD.r_kzi3l, _root_.PD.r_kzi3t, _root_.PD.r_kzi3m, _root_.PD.r_seqdl, _root_.PD.r_seqdt, _root_.PD.r_set, _root_.PD.r_kse1, _root_.PD.r_kse2, _root_.PD.r_kse3, _root_.PD.r_kse4, _root_.PD.r_knx, _root_.PD.r_st, _root_.PD.r_kst1, _root_.PD.r_kst2, _root_.PD.r_kst3, _root_.PD.r_sts0, _root_.PD.r_unp, _root_.PD.r_kup, _root_.PD.r_kup2, _root_.PD.r_kup2l, _root_.PD.r_exp, _root_.PD.r_kex, _root_.PD.r_ret, _root_.PD.r_krt1, _root_.PD.r_krt2, _root_.PD.r_krt3, _root_.PD.r_retn, _root_.PD.r_iff, _root_.PD.r_kif1, _root_.PD.r_kif2, _root_.PD.r_forr, _root_.PD.r_kfo, _root_.PD.r_step, _root_.PD.r_ksp, _root_.PD.r_stp1, _root_.PD.r_stp2, _root_.PD.r_stp2l, _root_.PD.r_stepc, _root_.PD.r_kcp, _root_.PD.r_kcp4, _root_.PD.r_whl, _root_.PD.r_ixs, _root_.PD.r_kxs, _root_.PD.r_kxs2, _root_.PD.r_kxs6, _root_.PD.r_kxs3, _root_.PD.r_kxs41, _root_.PD.r_kxs42, _root_.PD.r_kxs5, _root_.PD.r_pass, _root_.PD.r_doc, _root_.PD.r_brk, _root_.PD.r_cont, _root_.PD.r_ss0, _root_.PD.r_ss1, _root_.PD.r_kss1, _root_.PD.r_kss2, _root_.PD.r_kss3, _root_.PD.r_kss4, _root_.PD.r_krn1, _root_.PD.r_krn2, _root_.PD.r_krn3, _root_.PD.r_lm0, _root_.PD.r_lm1, _root_.PD.r_lm2, _root_.PD.r_klm, _root_.PD.p_add, _root_.PD.p_sub, _root_.PD.p_neg, _root_.PD.p_lt, _root_.PD.p_le, _root_.PD.p_gt, _root_.PD.p_ge, _root_.PD.p_abs, _root_.PD.p_min, _root_.PD.p_max, _root_.PD.p_lenl, _root_.PD.p_lent, _root_.PD.p_tupl, _root_.PD.p_tupt, _root_.PD.p_lstl, _root_.PD.p_lstt, _root_.PD.p_revl, _root_.PD.p_revt, _root_.PD.p_inti, _root_.PD.p_isN0, _root_.PD.p_notN0, _root_.PD.sc_none, _root_.PD.sc_bool, _root_.PD.sc_int, _root_.PD.sc_str, _root_.PD.sc_list, _root_.PD.sc_tup, _root_.PD.sc_dict, _root_.PD.t_bool, _root_.PD.m_rev, _root_.PD.m_clr, _root_.PD.ix_l, _root_.PD.ix_t, _root_.PD.kBi2, _root_.PD.kBi, _root_.PD.kUn, _root_.PD.kCh2, _root_.PD.kCh, _root_.PD.kAn, _root_.PD.kOr, _root_.PD.kNo, _root_.PD.kIt, _root_.PD.kTu, _root_.PD.kLs, _root_.PD.kDi, _root_.PD.kIx2, _root_.PD.kIx, _root_.PD.kSl3, _root_.PD.kSl2, _root_.PD.kSl, _root_.PD.kFn, _root_.PD.kIs, _root_.PD.kCl, _root_.PD.kMt, _root_.PD.kEs2, _root_.PD.kEs, _root_.PD.kO, _root_.PD.kTv, _root_.PD.kTn, _root_.PD.kTA, _root_.PD.kTO, _root_.PD.kTC, _root_.PD.kSq, _root_.PD.kRg, _root_.PD.kRr2, _root_.PD.kRr, _root_.PD.kEn, _root_.PD.kZi2, _root_.PD.kZi, _root_.PD.kCp3, _root_.PD.kCp2, _root_.PD.sl_small, _root_.PD.slt_small, _root_.PD.kst_any, _root_.PD.kst_st, _root_.PD.p_mod, _root_.PD.p_fdiv, _root_.PD.p_mul1, _root_.PD.p_mul2, _root_.PD.p_pow, _root_.PD.p_eq, _root_.PD.p_ne, _root_.PD.p_catl, _root_.PD.p_catt, _root_.PD.m_app, _root_.PD.m_ext, _root_.PD.rng0, _root_.PD.sts1, _root_.PD.obind_some, _root_.PD.rsbind_ok, List.getElem?_cons_zero, List.getElem?_cons_succ, List.set_cons_zero, List.set_cons_succ, List.map_nil, List.append_nil, List.nil_append, List.cons_append, if_true, if_false, ite_true, ite_false, Bool.false_eq_true, reduceIte, List.length_cons, List.length_nil, List.any_nil, List.any_cons, Bool.and_true, Bool.true_and, Bool.and_false, Bool.false_and, Bool.not_true, Bool.not_false, Bool.or_false, Bool.or_true, Bool.true_or, Bool.false_or, List.isEmpty_nil, List.isEmpty_cons, _root_.PD.wipeE, _root_.PD.startE, Nat.zero_add, Nat.reduceAdd, Nat.reduceSub, Nat.reduceLeDiff, Nat.le_refl, List.replicate_succ, List.replicate_zero, List.zipWith_cons_cons, List.zipWith_nil_left, List.zipWith_nil_right, Nat.reduceBEq, Nat.reduceEqDiff, decide_true, decide_false, Int.reduceLT, Int.reduceLE, Int.reduceNeg, Int.reduceToNat, Nat.reduceLT, List.take_succ_cons, List.take_zero, List.drop_succ_cons, List.drop_zero, eq_self, Int.reduceEq, _root_.CM.ti_sc, _root_.CM.ti_seq, _root_.CM.ti_ix, _root_.CM.ti_len, _root_.CM.ti_rev, _root_.CM.ti_kt, _root_.CM.ti_ki, _root_.CM.ti_kb, _root_.CM.ti_kl, _root_.CM.ti_zip, _root_.CM.ti_tup, _root_.CM.p_ltt, _root_.CM.p_all, _root_.CM.sh_int, _root_.CM.sh_tupI, _root_.CM.eqv_int, _root_.CM.eqv_tupI, _root_.CM.r_aug, _root_.CM.r_kaug, _root_.CM.r_kaug2, _root_.CM.r_kaug3, _root_.CM.r_kaug4, _root_.CM.r_dic1, _root_.CM.r_kdo, _root_.CM.r_kdo2, _root_.CM.r_kdo3, _root_.CM.r_kdo4, _root_.CM.r_kdo5, _root_.CM.r_mr, _root_.CM.r_kmr, _root_.CM.r_kmr2, _root_.CM.r_kmr3, _root_.CM.r_kmr3b, _root_.CM.r_kmr3c, _root_.CM.r_rcv1, _root_.CM.r_rcv2, _root_.CM.r_rcv3, _root_.CM.r_rcv4, _root_.CM.r_augi, _root_.CM.r_kai, _root_.CM.r_kai2, _root_.CM.r_kai3, _root_.CM.r_kai4, _root_.CM.r_kai5, _root_.CM.r_kai6, List.map_cons, $ts,*] $[$loc:location]?)

/-! PM33: what is reached, plainly: going on by what was found first, and by what was found last. -/
namespace CM
open PySem PD
/-! the standings, counted -/
theorem stn_num : ∀ (room : List Int), (∀ n ∈ room, 0 < n) → ∀ ws, InRoom room ws → stn room (numI 0 room ws) = ws ∧ 0 ≤ numI 0 room ws ∧ numI 0 room ws < prodI room := by
  refine snoc_ind (fun _ ws h => ?_) fun ns m ih h ws hw => ?_
  · cases ws with
    | nil => exact ⟨rfl, by decide, by decide⟩
    | cons _ _ => exact h.elim
  · have hl := hw.len
    rw [List.length_append] at hl
    have hne : ws ≠ [] := by
      intro z
      subst z
      simp at hl
    obtain ⟨us, u, rfl⟩ : ∃ us u, ws = us ++ [u] := ⟨ws.dropLast, ws.getLast hne, (List.dropLast_concat_getLast hne).symm⟩
    have hul : us.length = ns.length := by
      rw [List.length_append] at hl
      simpa using hl
    have split : ∀ {a b : List Int} {n w : Int}, b.length = a.length → InRoom (a ++ [n]) (b ++ [w]) → InRoom a b ∧ 0 ≤ w ∧ w < n := by
      intro a
      induction a with
      | nil =>
        intro b n w hb hh
        cases b with
        | nil => exact ⟨trivial, hh.1, hh.2.1⟩
        | cons _ _ => simp at hb
      | cons x a iha =>
        intro b n w hb hh
        cases b with
        | nil => simp at hb
        | cons y b =>
          obtain ⟨h1, h2, h3⟩ := hh
          obtain ⟨h4, h5, h6⟩ := iha (by simpa using hb) h3
          exact ⟨⟨h1, h2, h4⟩, h5, h6⟩
    obtain ⟨h1, h2, h3⟩ := split hul hw
    obtain ⟨i1, i2, i3⟩ := ih (fun n hn => h n (List.mem_append_left _ hn)) us h1
    rw [numI_snoc _ _ _ hul, stn_snoc, prodI_snoc]
    have hm := h m (by simp)
    have e1 : (numI 0 ns us * m + u) / m = numI 0 ns us := by
      rw [Int.add_comm, Int.add_mul_ediv_right _ _ (by omega), Int.ediv_eq_zero_of_lt h2 h3, Int.zero_add]
    have e2 : (numI 0 ns us * m + u) % m = u := by
      rw [Int.add_comm, Int.add_mul_emod_self_right, Int.emod_eq_of_lt h2 h3]
    rw [e1, e2, i1]
    have h4 : 0 ≤ numI 0 ns us * m := Int.mul_nonneg i2 (by omega)
    have h5 : (numI 0 ns us + 1) * m ≤ prodI ns * m := Int.mul_le_mul_of_nonneg_right (by omega) (by omega)
    rw [Int.add_mul, Int.one_mul] at h5
    exact ⟨rfl, by omega, by omega⟩
theorem in_all {room ws : List Int} (hp : ∀ n ∈ room, 0 < n) (h : InRoom room ws) : ws ∈ allS room := by
  obtain ⟨h1, h2, h3⟩ := stn_num room hp ws h
  unfold allS
  refine List.mem_map.mpr ⟨(numI 0 room ws).toNat, List.mem_range.mpr (by omega), ?_⟩
  rw [Int.toNat_of_nonneg h2, h1]
theorem len_sub {α : Type} [DecidableEq α] : ∀ {l m : List α}, l.Nodup → (∀ x ∈ l, x ∈ m) → l.length ≤ m.length
  | [], m, _, _ => Nat.zero_le _
  | x :: l, m, h, hs => by
    rw [List.nodup_cons] at h
    have hx := hs x List.mem_cons_self
    have := len_sub (m := m.erase x) h.2 fun y hy => by
      refine (List.mem_erase_of_ne ?_).mpr (hs y (List.mem_cons_of_mem _ hy))
      intro e
      subst e
      exact h.1 hy
    rw [List.length_erase_of_mem hx] at this
    have : 0 < m.length := List.length_pos_of_mem hx
    rw [List.length_cons]
    omega
theorem room_few {room : List Int} {l : List (List Int)} (R : Room 256 room) (h : l.Nodup) (hs : ∀ x ∈ l, InRoom room x) : l.length ≤ 256 := by
  have h1 := len_sub (m := allS room) h fun x hx => in_all R.pos (hs x hx)
  rw [allS_len] at h1
  have := R.prod
  omega
/-! loops by a measure -/
theorem whl_run {c : En → Rs Bool} {b : En → Ou} (I : Nat → En → Prop) (Fin : En → Prop) (hs : ∀ k e, I k e → (∃ e1, c e = .ok false e1 ∧ Fin e1) ∨ ∃ e1 e2, c e = .ok true e1 ∧ b e1 = .nx e2 ∧ ∃ j, j < k ∧ I j e2) : ∀ (k n : Nat) (e : En), I k e → k < n → ∃ e', whlL c b n e = .nx e' ∧ Fin e' := by
  intro k
  induction k using Nat.strongRecOn with
  | _ k ih =>
    intro n e hI hn
    cases n with
    | zero => omega
    | succ n =>
      rw [whl_step]
      rcases hs k e hI with ⟨e1, h1, h2⟩ | ⟨e1, e2, h1, h2, j, hj, hI2⟩
      · rw [h1]
        exact ⟨e1, rfl, h2⟩
      · rw [h1]
        show ∃ e', kWh c b n (b e1) = .nx e' ∧ Fin e'
        rw [h2]
        exact ih j hj n e2 hI2 (by omega)
/-! what is come to in one step or more -/
inductive Rch (f : List Int → List (List Int)) (a : List Int) : List Int → Prop
  | base {b : List Int} : b ∈ f a → Rch f a b
  | step {b c : List Int} : Rch f a b → c ∈ f b → Rch f a c
theorem Rch.trans {f : List Int → List (List Int)} {a b c : List Int} (h : Rch f a b) (g : Rch f b c) : Rch f a c := by
  induction g with
  | base h1 => exact .step h h1
  | step _ h1 ih => exact .step ih h1
/-! found first, gone on from first -/
abbrev BS := Kvs × List (List Int)
def addB (u one : List Int) (s : BS) (t : List Int) : BS := if hasK s.1 t = true then s else (s.1 ++ [(t, tupI u)], if t = one then s.2 else s.2 ++ [t])
def bfsO (f : List Int → List (List Int)) (one : List Int) : Nat → Nat → BS → Option BS
  | 0, _, _ => none
  | n + 1, i, s => match s.2[i]? with
    | none => some s
    | some u => bfsO f one n (i + 1) ((f u).foldl (addB u one) s)
/-- what holds of the state throughout -/
structure Bs (room one : List Int) (s : BS) : Prop where
  kin : ∀ p ∈ s.1, InRoom room p.1
  knd : (s.1.map (·.1)).Nodup
  w : s.2 = one :: (s.1.map (·.1)).filter fun k => decide (k ≠ one)
theorem Bs.start {room one : List Int} : Bs room one ([], [one]) := ⟨fun p h => (by cases h), .nil, rfl⟩
theorem Bs.add {room one u t : List Int} {s : BS} (h : Bs room one s) (ht : InRoom room t) : Bs room one (addB u one s t) := by
  unfold addB
  split
  · exact h
  · rename_i hk
    refine ⟨fun p hp => ?_, ?_, ?_⟩
    · rcases List.mem_append.mp hp with hp | hp
      · exact h.kin p hp
      · rw [List.mem_singleton.mp hp]
        exact ht
    · rw [List.map_append]
      refine List.nodup_append.mpr ⟨h.knd, by simp, fun a ha b hb e => ?_⟩
      rw [List.map_cons, List.map_nil, List.mem_singleton] at hb
      rw [hb] at e
      rw [e] at ha
      exact hk (hasK_mem.mpr ha)
    · rw [List.map_append, List.filter_append]
      by_cases e : t = one
      · rw [if_pos e, h.w]
        simp [e]
      · rw [if_neg e, h.w]
        simp [e]
theorem Bs.adds {room one u : List Int} : ∀ {l : List (List Int)} {s : BS}, Bs room one s → (∀ t ∈ l, InRoom room t) → Bs room one (l.foldl (addB u one) s)
  | [], _, h, _ => h
  | t :: l, s, h, hl => Bs.adds (l := l) (h.add (hl t List.mem_cons_self)) fun x hx => hl x (List.mem_cons_of_mem _ hx)
theorem Bs.few {room one : List Int} {s : BS} (R : Room 256 room) (h : Bs room one s) : s.1.length ≤ 256 ∧ s.2.length ≤ 257 := by
  have h1 : (s.1.map (·.1)).length ≤ 256 := room_few R h.knd fun x hx => by
    obtain ⟨p, hp, rfl⟩ := List.mem_map.mp hx
    exact h.kin p hp
  rw [List.length_map] at h1
  refine ⟨h1, ?_⟩
  rw [h.w, List.length_cons]
  have := List.length_filter_le (fun k => decide (k ≠ one)) (s.1.map (·.1))
  rw [List.length_map] at this
  omega
theorem Bs.win {room one : List Int} {s : BS} (h : Bs room one s) (h1 : InRoom room one) : ∀ x ∈ s.2, InRoom room x := fun x hx => by
  rw [h.w] at hx
  rcases List.mem_cons.mp hx with rfl | hx
  · exact h1
  · obtain ⟨p, hp, rfl⟩ := List.mem_map.mp (List.mem_filter.mp hx).1
    exact h.kin p hp
theorem addB_w {u one : List Int} : ∀ {l : List (List Int)} {s : BS}, ∃ r, (l.foldl (addB u one) s).2 = s.2 ++ r
  | [], s => ⟨[], by simp⟩
  | t :: l, s => by
    obtain ⟨r, h⟩ := addB_w (u := u) (one := one) (l := l) (s := addB u one s t)
    rw [List.foldl_cons, h]
    unfold addB
    split
    · exact ⟨r, rfl⟩
    · split
      · exact ⟨r, rfl⟩
      · exact ⟨t :: r, by simp⟩
theorem addB_all {u one : List Int} : ∀ {l : List (List Int)} {s : BS} {t : List Int}, hasK (l.foldl (addB u one) s).1 t = true ↔ hasK s.1 t = true ∨ t ∈ l
  | [], s, t => by simp
  | x :: l, s, t => by
    rw [List.foldl_cons, addB_all]
    unfold addB
    split
    · rename_i hk
      constructor
      · rintro (h | h)
        · exact .inl h
        · exact .inr (List.mem_cons_of_mem _ h)
      · rintro (h | h)
        · exact .inl h
        · rcases List.mem_cons.mp h with rfl | h
          · exact .inl hk
          · exact .inr h
    · have e : hasK (s.1 ++ [(x, tupI u)]) t = true ↔ hasK s.1 t = true ∨ t = x := by
        rw [hasK_mem, hasK_mem, List.map_append, List.mem_append]
        simp
      rw [e]
      constructor
      · rintro ((h | h) | h)
        · exact .inl h
        · exact .inr (h ▸ List.mem_cons_self)
        · exact .inr (List.mem_cons_of_mem _ h)
      · rintro (h | h)
        · exact .inl (.inl h)
        · rcases List.mem_cons.mp h with rfl | h
          · exact .inl (.inr rfl)
          · exact .inr h
theorem bfs_some {room one : List Int} {f : List Int → List (List Int)} (R : Room 256 room) (h1 : InRoom room one) (hf : ∀ u, InRoom room u → ∀ t ∈ f u, InRoom room t) : ∀ (n i : Nat) (s : BS), Bs room one s → i ≤ s.2.length → 258 ≤ n + i → ∃ s', bfsO f one n i s = some s'
  | 0, i, s, hb, hi, hn => by
    have := (hb.few R).2
    omega
  | n + 1, i, s, hb, hi, hn => by
    rw [bfsO]
    cases hu : s.2[i]? with
    | none => exact ⟨s, rfl⟩
    | some u =>
      have hin := hb.win h1 u (List.mem_of_getElem? hu)
      obtain ⟨r, hr⟩ := addB_w (u := u) (one := one) (l := f u) (s := s)
      refine bfs_some R h1 hf n (i + 1) _ (hb.adds (hf u hin)) ?_ (by omega)
      rw [hr, List.length_append]
      have := (List.getElem?_eq_some_iff.mp hu).1
      omega
theorem bfs_ind {f : List Int → List (List Int)} {one : List Int} (P : Nat → BS → Prop) (hs : ∀ i s u, P i s → s.2[i]? = some u → P (i + 1) ((f u).foldl (addB u one) s)) : ∀ (n i : Nat) (s s' : BS), bfsO f one n i s = some s' → P i s → ∃ j, P j s' ∧ s'.2[j]? = none
  | 0, i, s, s', h, _ => by cases h
  | n + 1, i, s, s', h, hP => by
    rw [bfsO] at h
    cases hu : s.2[i]? with
    | none =>
      rw [hu] at h
      cases h
      exact ⟨i, hP, hu⟩
    | some u =>
      rw [hu] at h
      exact bfs_ind P hs n (i + 1) _ s' h (hs i s u hP hu)
/-- what stands there at the end: all that is come to -/
theorem bfs_spec {room one : List Int} {f : List Int → List (List Int)} (h1 : InRoom room one) (hf : ∀ u, InRoom room u → ∀ t ∈ f u, InRoom room t) {n : Nat} {s' : BS} (h : bfsO f one n 0 ([], [one]) = some s') :
    Bs room one s' ∧ ∀ t, hasK s'.1 t = true ↔ Rch f one t := by
  obtain ⟨j, ⟨hb, hsnd, hcl⟩, hj⟩ := bfs_ind (fun i s => Bs room one s ∧ (∀ t, hasK s.1 t = true → Rch f one t) ∧ ∀ k u, k < i → s.2[k]? = some u → ∀ t ∈ f u, hasK s.1 t = true) (fun i s u ⟨hb, hsnd, hcl⟩ hu => by
    have hin := hb.win h1 u (List.mem_of_getElem? hu)
    have hlt := (List.getElem?_eq_some_iff.mp hu).1
    refine ⟨hb.adds (hf u hin), fun t ht => ?_, fun k v hk hv t ht => ?_⟩
    · rcases addB_all.mp ht with hq | hq
      · exact hsnd t hq
      · have hu2 := List.mem_of_getElem? hu
        rw [hb.w] at hu2
        rcases List.mem_cons.mp hu2 with eu | hu2
        · rw [eu] at hq
          exact .base hq
        · exact .step (hsnd u (hasK_mem.mpr (List.mem_filter.mp hu2).1)) hq
    · obtain ⟨r, hr⟩ := addB_w (u := u) (one := one) (l := f u) (s := s)
      rw [hr] at hv
      rw [addB_all]
      by_cases e : k = i
      · subst e
        rw [List.getElem?_append_left hlt, hu] at hv
        cases hv
        exact .inr ht
      · rw [List.getElem?_append_left (by omega)] at hv
        exact .inl (hcl k v (by omega) hv t ht)) n 0 _ s' h ⟨Bs.start, fun t h => (by cases h), fun k u hk => (by omega)⟩
  refine ⟨hb, fun t => ⟨hsnd t, fun ht => ?_⟩⟩
  have all : ∀ u, u ∈ s'.2 → ∀ t ∈ f u, hasK s'.1 t = true := fun u hu t ht => by
    obtain ⟨k, hk, e⟩ := List.getElem_of_mem hu
    have hjl := List.getElem?_eq_none_iff.mp hj
    exact hcl k u (by omega) (by rw [List.getElem?_eq_getElem hk, e]) t ht
  induction ht with
  | base h => exact all one (by rw [hb.w]; exact List.mem_cons_self) _ h
  | step hr h ih =>
    refine all _ ?_ _ h
    rename_i b c
    rw [hb.w]
    by_cases e : b = one
    · rw [e]
      exact List.mem_cons_self
    · exact List.mem_cons_of_mem _ (List.mem_filter.mpr ⟨hasK_mem.mp ih, by simp [e]⟩)
/-! found last, gone on from first -/
def addL (s : List (List Int) × List (List Int)) (t : List Int) : List (List Int) × List (List Int) := if s.1.contains t = true then s else (s.1 ++ [t], s.2 ++ [t])
def dfsO (f : List Int → List (List Int)) : Nat → List (List Int) × List (List Int) → Option (List (List Int))
  | 0, _ => none
  | n + 1, s => match s.2.getLast? with
    | none => some s.1
    | some u => dfsO f n ((f u).foldl addL (s.1, s.2.dropLast))
theorem addL_spec : ∀ {l : List (List Int)} {s : List (List Int) × List (List Int)}, ∃ r, l.foldl addL s = (s.1 ++ r, s.2 ++ r) ∧ (∀ x ∈ r, x ∈ l) ∧ (∀ x ∈ l, x ∈ s.1 ++ r) ∧ (s.1.Nodup → (s.1 ++ r).Nodup)
  | [], s => ⟨[], (by simp), fun x h => (by cases h), fun x h => (by cases h), fun h => (by simpa using h)⟩
  | t :: l, s => by
    obtain ⟨r, h1, h2, h3, h4⟩ := addL_spec (l := l) (s := addL s t)
    rw [List.foldl_cons, h1]
    unfold addL at h3 h4 ⊢
    split at h3
    · rename_i hc
      rw [if_pos hc] at h4 ⊢
      refine ⟨r, rfl, fun x hx => List.mem_cons_of_mem _ (h2 x hx), fun x hx => ?_, h4⟩
      rcases List.mem_cons.mp hx with rfl | hx
      · exact List.mem_append_left _ (List.contains_iff_mem.mp hc)
      · exact h3 x hx
    · rename_i hc
      rw [if_neg hc] at h4 ⊢
      refine ⟨t :: r, by simp, fun x hx => ?_, fun x hx => ?_, fun hn => ?_⟩
      · rcases List.mem_cons.mp hx with rfl | hx
        · exact List.mem_cons_self
        · exact List.mem_cons_of_mem _ (h2 x hx)
      · rcases List.mem_cons.mp hx with rfl | hx
        · simp
        · have := h3 x hx
          simpa using this
      · have := h4 (List.nodup_append.mpr ⟨hn, by simp, fun a ha b hb e => by
          rw [List.mem_singleton.mp hb] at e
          rw [e] at ha
          exact hc (List.contains_iff_mem.mpr ha)⟩)
        simpa using this
/-- what holds throughout -/
theorem split_last {α : Type} {l : List α} {u : α} (h : l.getLast? = some u) : l = l.dropLast ++ [u] := by
  have hne : l ≠ [] := by
    intro z
    rw [z] at h
    cases h
  rw [List.getLast?_eq_some_getLast hne] at h
  cases h
  exact (List.dropLast_concat_getLast hne).symm
structure Ds (f : List Int → List (List Int)) (room one : List Int) (s : List (List Int) × List (List Int)) : Prop where
  kin : ∀ x ∈ s.1, InRoom room x
  knd : s.1.Nodup
  o1 : one ∈ s.1
  wk : ∀ x ∈ s.2, x ∈ s.1
  snd : ∀ x ∈ s.1, x = one ∨ Rch f one x
  cl : ∀ x ∈ s.1, x ∈ s.2 ∨ ∀ t ∈ f x, t ∈ s.1
theorem Ds.next {f : List Int → List (List Int)} {room one : List Int} {s : List (List Int) × List (List Int)} (hf : ∀ u, InRoom room u → ∀ t ∈ f u, InRoom room t) (h : Ds f room one s) {u : List Int} (hu : s.2.getLast? = some u) : Ds f room one ((f u).foldl addL (s.1, s.2.dropLast)) := by
  obtain ⟨r, h1, h2, h3, h4⟩ := addL_spec (l := f u) (s := (s.1, s.2.dropLast))
  have hus := List.mem_of_getLast? hu
  have huk := h.wk u hus
  have hui := h.kin u huk
  have hsp : s.2 = s.2.dropLast ++ [u] := split_last hu
  rw [h1]
  refine ⟨fun x hx => ?_, h4 h.knd, List.mem_append_left _ h.o1, fun x hx => ?_, fun x hx => ?_, fun x hx => ?_⟩
  · rcases List.mem_append.mp hx with hx | hx
    · exact h.kin x hx
    · exact hf u hui x (h2 x hx)
  · rcases List.mem_append.mp hx with hx | hx
    · exact List.mem_append_left _ (h.wk x (List.dropLast_subset _ hx))
    · exact List.mem_append_right _ hx
  · rcases List.mem_append.mp hx with hx | hx
    · exact h.snd x hx
    · have h5 := h2 x hx
      rcases h.snd u huk with e | hr
      · rw [e] at h5
        exact .inr (.base h5)
      · exact .inr (.step hr (h2 x hx))
  · rcases List.mem_append.mp hx with hx | hx
    · rcases h.cl x hx with hw | hc
      · rw [hsp] at hw
        rcases List.mem_append.mp hw with hw | hw
        · exact .inl (List.mem_append_left _ hw)
        · rw [List.mem_singleton.mp hw]
          exact .inr fun t ht => h3 t ht
      · exact .inr fun t ht => List.mem_append_left _ (hc t ht)
    · exact .inl (List.mem_append_right _ hx)
theorem Ds.start {f : List Int → List (List Int)} {room one : List Int} (h : InRoom room one) : Ds f room one ([one], [one]) :=
  ⟨fun x hx => by rw [List.mem_singleton.mp hx]; exact h, by simp, by simp, fun x hx => hx, fun x hx => .inl (List.mem_singleton.mp hx), fun x hx => .inl hx⟩
end CM

/-! PM34: what is found from a standing. -/
namespace CM
open PySem PD
theorem whl_use {c : En → Rs Bool} {b : En → Ou} {n : Nat} {e : En} {L : Ou} (h : whlL c b n e = L) (I : Nat → En → Prop) (Fin : En → Prop) (k : Nat) (h0 : I k e) (hk : k < n) (hs : ∀ k e, I k e → (∃ e1, c e = .ok false e1 ∧ Fin e1) ∨ ∃ e1 e2, c e = .ok true e1 ∧ b e1 = .nx e2 ∧ ∃ j, j < k ∧ I j e2) : ∃ e', L = .nx e' ∧ Fin e' := by
  obtain ⟨e', h1, h2⟩ := whl_run I Fin hs k n e h0 hk
  exact ⟨e', h.symm.trans h1, h2⟩
def kW (Fin : En → Prop) (Q : En → Prop) : Rs Bool → Prop
  | .ok false e => Fin e
  | .ok true e => Q e
  | _ => False
theorem kw_f {Fin Q : En → Prop} {e : En} : kW Fin Q (.ok false e) = Fin e := rfl
theorem kw_t {Fin Q : En → Prop} {e : En} : kW Fin Q (.ok true e) = Q e := rfl
theorem whl_by {c : En → Rs Bool} {b : En → Ou} {n : Nat} {e : En} {L : Ou} (h : whlL c b n e = L) (I : Nat → En → Prop) (Fin : En → Prop) (k : Nat) (h0 : I k e) (hk : k < n) (hs : ∀ k e, I k e → kW Fin (fun e1 => ∃ e2, b e1 = .nx e2 ∧ ∃ j, j < k ∧ I j e2) (c e)) : ∃ e', L = .nx e' ∧ Fin e' := by
  refine whl_use h I Fin k h0 hk fun k e hI => ?_
  have := hs k e hI
  cases hc : c e with
  | no => rw [hc] at this; exact this.elim
  | ex _ _ _ => rw [hc] at this; exact this.elim
  | ok t e1 =>
    rw [hc] at this
    cases t with
    | false => exact .inl ⟨e1, rfl, this⟩
    | true =>
      obtain ⟨e2, h1, h2⟩ := this
      exact .inr ⟨e1, e2, rfl, h1, h2⟩
theorem at_nat {α : Type} {g : α → D} {xs : List α} {i : Nat} {x : α} (h : xs[i]? = some x) : atD (xs.map g) (i : Int) = some (g x) := by
  unfold atD
  rw [if_pos (by omega)]
  show (xs.map g)[i]? = _
  rw [List.getElem?_map, h]
  rfl
theorem len_map {α : Type} {g : α → D} {xs : List α} : prim .len [.list (xs.map g)] = some (false, .int xs.length) := by
  show some (false, PyData.int ((xs.map g).length : Nat)) = _
  rw [List.length_map]
def foundBody : List IS := [
      .iff (.cm .notin (.var 7) (.var 4)) [
        .ixset 4 (.var 7) (.ix (.var 5) (.var 6)),
        .iff (.cm .ne (.var 7) (.var 2)) [
          .exp (.mt .append 5 [(.var 7)])] []] []]
theorem found_in {room one u : List Int} {bk hd : D} {i : Nat} : ∀ (l : List (List Int)) (s : BS) (y7 : Option Sl), s.1.length + l.length ≤ 90000 → s.2.length + l.length ≤ 90000 → s.2[i]? = some u → ShN y7 →
    ∃ z7, forL (stepF [f_betterings] (.nm 7) foundBody) (l.map tupI) [some ⟨.sh, tupI room⟩, some ⟨.sh, bk⟩, some ⟨.sh, tupI one⟩, some ⟨.sh, hd⟩, some ⟨.own, dicT s.1⟩, some ⟨.own, .list (s.2.map tupI)⟩, some ⟨.sh, .int (i : Int)⟩, y7] =
      .nx [some ⟨.sh, tupI room⟩, some ⟨.sh, bk⟩, some ⟨.sh, tupI one⟩, some ⟨.sh, hd⟩, some ⟨.own, dicT (l.foldl (addB u one) s).1⟩, some ⟨.own, .list ((l.foldl (addB u one) s).2.map tupI)⟩, some ⟨.sh, .int (i : Int)⟩, z7] ∧ ShN z7
  | [], s, y7, _, _, _, sh => ⟨y7, rfl, sh⟩
  | t :: l, s, y7, hl1, hl2, hu, sh => by
    simp only [List.length_cons] at hl1 hl2
    have hat := at_nat (g := tupI) hu
    have hni := dic_notin (kvs := s.1) (k := t)
    simp only [List.map_cons, List.foldl_cons, forL]
    generalize hS : stepF _ _ _ _ _ = S
    unfold foundBody at hS
    cases hk : hasK s.1 t with
    | true =>
      rw [hk] at hni
      have ea : addB u one s t = s := by
        unfold addB
        rw [if_pos hk]
      rw [ea]
      simp_arith only [sh, hni] at hS
      subst hS
      exact found_in l s _ (by omega) (by omega) hu shn1
    | false =>
      rw [hk] at hni
      have hput : ixSet (dicT s.1) (tupI t) (tupI u) = some (dicT (s.1 ++ [(t, tupI u)])) := by
        rw [dic_put (by omega), putP_new hk]
      by_cases e : t = one
      · have ea : addB u one s t = (s.1 ++ [(t, tupI u)], s.2) := by
          unfold addB
          rw [if_neg (by simp [hk]), if_pos e]
        have ed : decide (t = one) = true := decide_eq_true e
        rw [ea]
        simp_arith only [sh, hni, ix_l, hat, hput, ed] at hS
        subst hS
        exact found_in l (s.1 ++ [(t, tupI u)], s.2) _ (by simp only [List.length_append, List.length_cons, List.length_nil]; omega) (by simp only; omega) hu shn1
      · have ea : addB u one s t = (s.1 ++ [(t, tupI u)], s.2 ++ [t]) := by
          unfold addB
          rw [if_neg (by simp [hk]), if_neg e]
        have ed : decide (t = one) = false := decide_eq_false e
        have happ : mtd .append (.list (s.2.map tupI)) [tupI t] = some (.list ((s.2 ++ [t]).map tupI), .none) := by
          rw [m_app (by rw [List.length_map, sl_eq]; omega), List.map_append]
          rfl
        rw [ea]
        simp_arith only [sh, hni, ix_l, hat, hput, ed, happ] at hS
        subst hS
        exact found_in l (s.1 ++ [(t, tupI u)], s.2 ++ [t]) _ (by simp only [List.length_append, List.length_cons, List.length_nil]; omega) (by simp only [List.length_append, List.length_cons, List.length_nil]; omega) (by simp only; rw [List.getElem?_append_left (List.getElem?_eq_some_iff.mp hu).1]; exact hu) shn1
theorem found_sem {room one hs : List Int} {B : List Wi} {hd : D} (R : Room 256 room) (W : InRoom room one) (hB : ∀ w ∈ B, WishB room w) (hl : B.length < 900) (hh : hd = .tuple (hs.map .int) ∨ (hd = .none ∧ hs = [])) :
    ∃ s, bfsO (fun u => betS hs u B) one 300 0 ([], [one]) = some s ∧ f_found_from.sem [tupI room, .tuple (B.map wishD), tupI one, hd] = .ok true (dicT s.1) [] := by
  have hrl := R.len
  have hf : ∀ u, InRoom room u → ∀ t ∈ betS hs u B, InRoom room t := fun u hu t ht => (bet_in hu hB ht).1
  obtain ⟨sF, hF⟩ := bfs_some R W hf 300 0 ([], [one]) Bs.start (Nat.zero_le _) (by omega)
  refine ⟨sF, hF, ?_⟩
  rw [e_found_from, runF_eq rfl (by decide)]
  unfold b_found_from
  simp_arith only []
  generalize hL : whlL _ _ _ _ = L
  obtain ⟨e', rfl, y7, i, rfl, _⟩ := whl_by hL (fun k e => ∃ s i y7, e = [some ⟨.sh, tupI room⟩, some ⟨.sh, .tuple (B.map wishD)⟩, some ⟨.sh, tupI one⟩, some ⟨.sh, hd⟩, some ⟨.own, dicT s.1⟩, some ⟨.own, .list (s.2.map tupI)⟩, some ⟨.sh, .int ((i : Nat) : Int)⟩, y7] ∧ ShN y7 ∧ Bs room one s ∧ bfsO (fun u => betS hs u B) one k i s = some sF)
    (fun e => ∃ y7 i, e = [some ⟨.sh, tupI room⟩, some ⟨.sh, .tuple (B.map wishD)⟩, some ⟨.sh, tupI one⟩, some ⟨.sh, hd⟩, some ⟨.own, dicT sF.1⟩, some ⟨.own, .list (sF.2.map tupI)⟩, some ⟨.sh, .int ((i : Nat) : Int)⟩, y7] ∧ ShN y7) 300 ⟨([], [one]), 0, none, rfl, shn0, Bs.start, hF⟩ (by omega) (by
    intro k e hI
    obtain ⟨s, i, y7, rfl, sh, hb, hk⟩ := hI
    have hlen := len_map (g := tupI) (xs := s.2)
    cases k with
    | zero => cases hk
    | succ k =>
      rw [bfsO] at hk
      cases hu : s.2[i]? with
      | none =>
        rw [hu] at hk
        have hge := List.getElem?_eq_none_iff.mp hu
        have hdd : decide ((i : Int) < (s.2.length : Int)) = false := decide_eq_false (by omega)
        cases hk
        simp_arith only [hlen, hdd, kw_f]
        exact ⟨y7, i, rfl, sh⟩
      | some u =>
        rw [hu] at hk
        have hlt := (List.getElem?_eq_some_iff.mp hu).1
        have hdd : decide ((i : Int) < (s.2.length : Int)) = true := decide_eq_true (by omega)
        have hui := hb.win W u (List.mem_of_getElem? hu)
        have hbt := betterings_sem (hs := hs) (by omega) hui hB hl hh
        have hat := at_nat (g := tupI) hu
        have hfew := hb.few R
        have hbl := betS_len (hs := hs) (ws := u) (B := B)
        obtain ⟨z7, hin, shz⟩ := found_in (room := room) (one := one) (bk := .tuple (B.map wishD)) (hd := hd) (betS hs u B) s y7 (by omega) (by omega) hu sh
        unfold foundBody at hin
        simp_arith only [hlen, hdd, kw_t, ix_l, hat, m_betterings, hbt, hin]
        exact ⟨_, rfl, k, by omega, ((betS hs u B).foldl (addB u one) s), i + 1, z7, rfl, shz, hb.adds (hf u hui), hk⟩)
  simp_arith only []
end CM

namespace CM
open PySem PD
end CM

/-! PM35: names put to another name; the snake of one's own; what is reached by the law's own walk; words. -/
namespace PD
open PySem
def kMov (i j : Nat) (e : En) : Option (Option Sl) → Ou
  | some (some ⟨.own, d⟩) => kNx (stN i ⟨.own, d⟩ (e.set j none))
  | _ => .no
section
variable {F : List Fn} {e : En} {i j : Nat} {d : D}
end
end PD
namespace CM
open PySem PD
/-! rooms of any greatest number of standings -/
theorem room2g_sem {b most : Int} {d : D} (hp : Pn b d) (hb : b < 9000000) (h4 : 4 ≤ most) (h64 : most ≤ 64) :
    ∃ ns d', f__law_room_v2.sem [d, .int most] = .ok false (tupI ns) [d'] ∧ Pn (b + 20) d' ∧ Room most ns := by
  rw [e__law_room_v2, runF_eq rfl (by decide)]
  have hd256 : decide (most = 256) = false := decide_eq_false (by omega)
  obtain ⟨r, d1, e1, p1, r0, r1⟩ := take_sem hp (by omega) (show (0 : Int) < 7 by decide) (by decide)
  obtain ⟨ws, ha, R⟩ := room_c2 r0 r1
  have hs := size_room R
  have rest : ∀ (d2 : D) (y2 : Option Sl), Pn (b + 2) d2 → ∃ ns d', kRn [true, false] (evSs [f__law_take, f__law_size] (b__law_room_v2.drop 4) [some ⟨.mu, d2⟩, some ⟨.sh, .int most⟩, y2, some ⟨.sh, tupI ws⟩, none, none]) = .ok false (tupI ns) [d'] ∧ Pn (b + 20) d' ∧ Room most ns := by
    intro d2 y2 p2
    obtain ⟨v, d3, e3, p3, v0, v1⟩ := take_sem p2 (by omega) (show (0 : Int) < 5 by decide) (by decide)
    have hv0 : 0 ≤ 1 + v := by omega
    have hv1 : 1 + v < 4611686018427387904 := by omega
    unfold b__law_room_v2
    simp! only [m__law_take, e3, hv0, hv1]
    generalize hL : forL _ _ _ = L
    have hI := forL_use hL (fun i e => ∃ ns d' y4 y5, e = [some ⟨.mu, d'⟩, some ⟨.sh, .int most⟩, y2, some ⟨.sh, tupI ns⟩, y4, y5] ∧ Pn (b + 3 + (i : Int)) d' ∧ ns.length ≤ i ∧ (0 < i → ns ≠ []) ∧ (∀ n ∈ ns, 2 ≤ n ∧ n ≤ 4) ∧ prodI ns ≤ most ∧ ShN y4 ∧ ShN y5)
        ⟨[], d3, none, none, rfl, p3.mono (by omega), Nat.le_refl 0, fun h => absurd h (Nat.lt_irrefl 0), fun n hn => absurd hn List.not_mem_nil, (by show (1 : Int) ≤ most; omega), shn0, shn0⟩ (by
      intro i x e hx hI
      obtain ⟨ns, d4, y4, y5, rfl, p4, hl, hne, h2, hpr, s4, s5⟩ := hI
      obtain ⟨rfl, hi⟩ := rng_at hx
      obtain ⟨z, d5, e5, p5, z0, z1⟩ := take_sem p4 (by omega) (show (0 : Int) < 3 by decide) (by decide)
      have hz1 : -18446744073709551616 < 2 + z := by omega
      have hz2 : 2 + z < 18446744073709551616 := by omega
      have hs : f__law_size.sem [tupI ns] = .ok false (.int (prodI ns)) [] := size_sem fun n hn => by
        have := h2 n hn
        omega
      have p6 : Pn (b + 3 + ((i + 1 : Nat) : Int)) d5 := p5.mono (by omega)
      generalize hS : stepF _ _ _ _ _ = S
      by_cases hc : prodI ns * (2 + z) ≤ most
      · have hcat : prim .add [tupI ns, .tuple [.int (2 + z)]] = some (false, tupI (ns ++ [2 + z])) := by
          have := cat_t (xs := ns.map PyData.int) (ys := [.int (2 + z)]) (by rw [List.length_map]; show _ + 1 ≤ _; omega)
          unfold tupI
          rw [List.map_append]
          exact this
        simp! only [s4, s5, m__law_take, e5, m__law_size, hs, hz1, hz2, hc, hcat] at hS
        subst hS
        refine ⟨_, rfl, ns ++ [2 + z], d5, _, _, rfl, p6, by rw [List.length_append]; show ns.length + 1 ≤ i + 1; omega, fun _ h => by simp at h, fun n hn => ?_, by rw [prodI_snoc]; exact hc, shn1, shn1⟩
        rcases List.mem_append.mp hn with h | h
        · exact h2 n h
        · rw [List.mem_singleton.mp h]
          omega
      · simp! only [s4, s5, m__law_take, e5, m__law_size, hs, hz1, hz2, hc] at hS
        subst hS
        refine ⟨_, rfl, ns, d5, _, _, rfl, p6, by omega, fun _ hn => ?_, h2, hpr, shn1, shn1⟩
        subst hn
        exact hc (by show 1 * (2 + z) ≤ most; omega))
    obtain ⟨e', rfl, ns, d4, y4, y5, rfl, p4, hl, hne, h2, hpr, s4, s5⟩ := hI
    simp! only []
    rw [List.length_map, List.length_range] at p4 hl hne
    exact ⟨ns, d4, rfl, p4.mono (by omega), hne (by omega), by omega, h2, by omega⟩
  by_cases hle : prodI ws ≤ most
  · obtain ⟨u, d2, e2, p2, u0, u1⟩ := take_sem p1 (by omega) (show (0 : Int) < 2 by decide) (by decide)
    by_cases hu : u = 0
    · have hd : decide (u = 0) = true := decide_eq_true hu
      unfold b__law_room_v2
      simp! only [hd256, m__law_take, e1, e2, ix_l, ha, m__law_size, hs, hle, hd]
      exact ⟨ws, d2, rfl, p2.mono (by omega), ⟨R.ne, R.len, R.two, hle⟩⟩
    · have hd : decide (u = 0) = false := decide_eq_false hu
      have h1 : ∃ y2, evSs [f__law_take, f__law_size] (b__law_room_v2.take 4) (startE [true, false] [d, .int most] 6) = .nx [some ⟨.mu, d2⟩, some ⟨.sh, .int most⟩, y2, some ⟨.sh, tupI ws⟩, none, none] := by
        unfold b__law_room_v2
        simp! only [hd256, m__law_take, e1, e2, ix_l, ha, m__law_size, hs, hle, hd]
        exact ⟨_, rfl⟩
      obtain ⟨y2, h1⟩ := h1
      rw [ss_split 4 h1]
      exact rest d2 y2 (p2.mono (by omega))
  · have h1 : ∃ y2, evSs [f__law_take, f__law_size] (b__law_room_v2.take 4) (startE [true, false] [d, .int most] 6) = .nx [some ⟨.mu, d1⟩, some ⟨.sh, .int most⟩, y2, some ⟨.sh, tupI ws⟩, none, none] := by
      unfold b__law_room_v2
      simp! only [hd256, m__law_take, e1, ix_l, ha, m__law_size, hs, hle]
      exact ⟨_, rfl⟩
    obtain ⟨y2, h1⟩ := h1
    rw [ss_split 4 h1]
    exact rest d1 y2 (p1.mono (by omega))
theorem sc_dicT {k : Kvs} : isSc (dicT k) = false := rfl
/-! what is reached, by the law -/
theorem hasK_true {ks : List (List Int)} {k : List Int} : hasK (ks.map fun k => (k, PyData.bool true)) k = ks.contains k := by
  unfold hasK
  rw [List.any_map, List.contains_eq_any_beq]
  congr 1
  funext x
  show decide (x = k) = (k == x)
  by_cases h : x = k
  · subst h
    simp
  · rw [decide_eq_false h]
    exact (beq_eq_false_iff_ne.mpr (Ne.symm h)).symm
def reachBody : List IS := [
      .iff (.cm .notin (.var 5) (.var 3)) [
        .ixset 3 (.var 5) (.lit (.bool true)),
        .exp (.mt .append 4 [(.var 5)])] []]
theorem ne_rows {S : List (List Int)} : prim .ne [.list (S.map tupI), .list []] = some (false, .bool (!S.isEmpty)) := by
  show (if (SeqAt.shaped (.list (S.map tupI)) && SeqAt.shaped (.list [])) = true then bo (!PyData.eqv (.list (S.map tupI)) (.list [])) else none) = _
  have h1 : SeqAt.shaped (.list (S.map tupI)) = true := shp_rowsC (S := S)
  rw [h1, sh_nil, eqv_nil]
  cases S <;> rfl
theorem in_ne {room ws : List Int} (h : InRoom room ws) (hr : room ≠ []) : ws ≠ [] := by
  intro z
  have := h.len
  rw [z] at this
  exact hr (List.length_eq_zero_iff.mp this.symm)
end CM

/-! PM36: ways, shortest ways, shut sets, plainly. -/
namespace CM
open PySem PD
abbrev SS := List (List Int)
/-- each step of a list is one of f's -/
def Chn (f : List Int → SS) : SS → Prop
  | a :: b :: r => b ∈ f a ∧ Chn f (b :: r)
  | _ => True
theorem chn_snoc {f : List Int → SS} {a b : List Int} (h2 : b ∈ f a) : ∀ {l : SS}, Chn f (l ++ [a]) → Chn f (l ++ [a] ++ [b])
  | [], _ => ⟨h2, trivial⟩
  | [x], h => ⟨h.1, h2, trivial⟩
  | x :: y :: l, h => ⟨h.1, chn_snoc h2 (l := y :: l) h.2⟩
theorem chn_at {f : List Int → SS} : ∀ {l : SS}, Chn f l ↔ ∀ i a b, l[i]? = some a → l[i + 1]? = some b → b ∈ f a
  | [] => ⟨fun _ i a b h => by simp at h, fun _ => trivial⟩
  | [x] => ⟨fun _ i a b _ h => by simp at h, fun _ => trivial⟩
  | x :: y :: l => by
    rw [Chn, chn_at (l := y :: l)]
    constructor
    · rintro ⟨h1, h2⟩ i a b ha hb
      cases i with
      | zero =>
        simp at ha hb
        subst ha hb
        exact h1
      | succ i => exact h2 i a b (by simpa using ha) (by simpa using hb)
    · intro h
      exact ⟨h 0 x y rfl rfl, fun i a b ha hb => h (i + 1) a b (by simpa using ha) (by simpa using hb)⟩
/-- a way of two standings or more -/
structure WayOk (f : List Int → SS) (x y : List Int) (W : SS) : Prop where
  two : 2 ≤ W.length
  hd : W.head? = some x
  la : W.getLast? = some y
  ch : Chn f W
/-- reached by so many steps -/
inductive Wy (f : List Int → SS) (a : List Int) : Nat → List Int → Prop
  | base {b : List Int} : b ∈ f a → Wy f a 1 b
  | step {n : Nat} {b c : List Int} : Wy f a n b → c ∈ f b → Wy f a (n + 1) c
theorem Wy.rch {f : List Int → SS} {a b : List Int} {n : Nat} (h : Wy f a n b) : Rch f a b := by
  induction h with
  | base q => exact .base q
  | step _ q ih => exact .step ih q
theorem Rch.wy {f : List Int → SS} {a b : List Int} (h : Rch f a b) : ∃ n, Wy f a n b := by
  induction h with
  | base q => exact ⟨1, .base q⟩
  | step _ q ih =>
    obtain ⟨n, h⟩ := ih
    exact ⟨n + 1, .step h q⟩
theorem Wy.pos {f : List Int → SS} {a b : List Int} {n : Nat} (h : Wy f a n b) : 1 ≤ n := by
  cases h <;> omega
theorem Wy.front {f : List Int → SS} {a b c : List Int} {n : Nat} (h1 : b ∈ f a) (h : Wy f b n c) : Wy f a (n + 1) c := by
  induction h with
  | base q => exact .step (.base h1) q
  | step _ q ih => exact .step ih q
theorem Wy.trans {f : List Int → SS} {a b c : List Int} {n m : Nat} (h1 : Wy f a n b) (h2 : Wy f b m c) : Wy f a (n + m) c := by
  induction h2 with
  | base q => exact .step h1 q
  | step _ q ih => exact .step ih q
theorem chn_wy {f : List Int → SS} : ∀ {l : SS} {x y : List Int}, 2 ≤ l.length → l.head? = some x → l.getLast? = some y → Chn f l → Wy f x (l.length - 1) y
  | [a, b], x, y, _, hx, hy, h => by
    simp at hx hy
    subst hx hy
    exact .base h.1
  | a :: b :: c :: l, x, y, _, hx, hy, h => by
    simp at hx
    subst hx
    have := chn_wy (l := b :: c :: l) (x := b) (y := y) (by simp) rfl (by rw [← hy]; simp) h.2
    exact Wy.front h.1 this
  | [], _, _, h, _, _, _ => by simp at h
  | [_], _, _, h, _, _, _ => by simp at h
theorem WayOk.wy {f : List Int → SS} {x y : List Int} {W : SS} (h : WayOk f x y W) : Wy f x (W.length - 1) y := chn_wy h.two h.hd h.la h.ch
theorem WayOk.rch {f : List Int → SS} {x y : List Int} {W : SS} (h : WayOk f x y W) : Rch f x y := h.wy.rch
/-- a shut set that holds x and doesn't lead to y -/
structure ShutOk (f : List Int → SS) (x y : List Int) (S : SS) : Prop where
  up : S.Pairwise fun a b => HT.lexLt a b = true
  mem : x ∈ S
  shut : ∀ z ∈ S, ∀ t ∈ f z, t ≠ y ∧ t ∈ S
theorem ShutOk.not {f : List Int → SS} {x y : List Int} {S : SS} (h : ShutOk f x y S) : ¬ Rch f x y := by
  have key : ∀ t, Rch f x t → t ∈ S ∧ t ≠ y := by
    intro t ht
    induction ht with
    | base q => exact ⟨(h.shut _ h.mem _ q).2, (h.shut _ h.mem _ q).1⟩
    | step _ q ih => exact ⟨(h.shut _ ih.1 _ q).2, (h.shut _ ih.1 _ q).1⟩
  exact fun z => (key y z).2 rfl
/-! the depth of what is found -/
def dq (one : List Int) (dep : List Int → Nat) (u : List Int) : Nat := if u = one then 0 else dep u
structure Bd (f : List Int → SS) (one : List Int) (s : BS) (dep : List Int → Nat) : Prop where
  par : ∀ (i : Nat) (k : List Int) (d : D), s.1[i]? = some (k, d) → ∃ u, d = tupI u ∧ k ∈ f u ∧ dep k = dq one dep u + 1 ∧ (u = one ∨ ∃ j d', j < i ∧ s.1[j]? = some (u, d'))
  mono : (s.1.map (·.1)).Pairwise fun a b => dep a ≤ dep b
theorem Bd.add {f : List Int → SS} {one u t : List Int} {s : BS} {dep : List Int → Nat} (h : Bd f one s dep) (hle : ∀ k, hasK s.1 k = true → dep k ≤ dq one dep u + 1) (ht : t ∈ f u) (hu : u = one ∨ hasK s.1 u = true) :
    ∃ dep', Bd f one (addB u one s t) dep' ∧ (∀ k, hasK s.1 k = true → dep' k = dep k) ∧ dq one dep' u = dq one dep u ∧ (∀ k, hasK (addB u one s t).1 k = true → dep' k ≤ dq one dep' u + 1) := by
  unfold addB
  by_cases hk : hasK s.1 t = true
  · rw [if_pos hk]
    exact ⟨dep, h, fun _ _ => rfl, rfl, hle⟩
  · rw [if_neg hk]
    have hne : ∀ k, hasK s.1 k = true → k ≠ t := fun k h z => hk (z ▸ h)
    have hdq : ∀ v, (v = one ∨ hasK s.1 v = true) → dq one (fun x => if x = t then dq one dep u + 1 else dep x) v = dq one dep v := by
      intro v hv
      unfold dq
      by_cases e : v = one
      · rw [if_pos e, if_pos e]
      · rw [if_neg e, if_neg e]
        rcases hv with hv | hv
        · exact absurd hv e
        · show (if v = t then _ else dep v) = _
          rw [if_neg (hne v hv)]
    have hmem : ∀ (i : Nat) (k : List Int) (d : D), s.1[i]? = some (k, d) → hasK s.1 k = true := fun i k d h => hasK_mem.mpr (List.mem_map.mpr ⟨_, List.mem_of_getElem? h, rfl⟩)
    refine ⟨fun x => if x = t then dq one dep u + 1 else dep x, ⟨fun i k d hi => ?_, ?_⟩, fun k hk => by show (if k = t then _ else dep k) = _; rw [if_neg (hne k hk)], hdq u hu, fun k hk2 => ?_⟩
    · by_cases hlt : i < s.1.length
      · rw [List.getElem?_append_left hlt] at hi
        obtain ⟨v, h1, h2, h3, h4⟩ := h.par i k d hi
        have hkk := hmem i k d hi
        refine ⟨v, h1, h2, ?_, ?_⟩
        · show (if k = t then _ else dep k) = _
          rw [if_neg (hne k hkk), h3, hdq v (h4.imp id fun ⟨j, d', _, h⟩ => hmem j v d' h)]
        · refine h4.imp id fun ⟨j, d', h5, h6⟩ => ⟨j, d', h5, ?_⟩
          rw [List.getElem?_append_left (List.getElem?_eq_some_iff.mp h6).1]
          exact h6
      · rw [List.getElem?_append_right (by omega)] at hi
        have hi0 : i - s.1.length = 0 := by
          have := (List.getElem?_eq_some_iff.mp hi).1
          simp only [List.length_cons, List.length_nil] at this
          omega
        rw [hi0] at hi
        simp only [List.getElem?_cons_zero, Option.some.injEq, Prod.mk.injEq] at hi
        obtain ⟨rfl, rfl⟩ := hi
        refine ⟨u, rfl, ht, ?_, ?_⟩
        · show (if t = t then _ else dep t) = _
          rw [if_pos rfl, hdq u hu]
        · rcases hu with hu | hu
          · exact .inl hu
          · obtain ⟨p, hp, rfl⟩ := List.mem_map.mp (hasK_mem.mp hu)
            obtain ⟨j, hj, e⟩ := List.getElem_of_mem hp
            refine .inr ⟨j, p.2, by omega, ?_⟩
            rw [List.getElem?_append_left hj, List.getElem?_eq_getElem hj, e]
    · rw [List.map_append]
      refine List.pairwise_append.mpr ⟨?_, List.pairwise_singleton _ _, fun a ha b hb => ?_⟩
      · refine List.Pairwise.imp_of_mem (fun {a b} ha hb hle2 => ?_) h.mono
        show (if a = t then _ else dep a) ≤ (if b = t then _ else dep b)
        rw [if_neg (hne a (hasK_mem.mpr ha)), if_neg (hne b (hasK_mem.mpr hb))]
        exact hle2
      · rw [List.map_cons, List.map_nil, List.mem_singleton] at hb
        rw [hb]
        show (if a = t then _ else dep a) ≤ (if t = t then _ else dep t)
        rw [if_neg (hne a (hasK_mem.mpr ha)), if_pos rfl]
        exact hle a (hasK_mem.mpr ha)
    · rw [hdq u hu]
      rw [hasK_mem, List.map_append, List.mem_append] at hk2
      show (if k = t then _ else dep k) ≤ _
      split
      · omega
      · rename_i hkt
        rcases hk2 with hk2 | hk2
        · exact hle k (hasK_mem.mpr hk2)
        · rw [List.map_cons, List.map_nil, List.mem_singleton] at hk2
          exact absurd hk2 hkt
theorem Bd.adds {f : List Int → SS} {one u : List Int} : ∀ {l : SS} {s : BS} {dep : List Int → Nat}, Bd f one s dep → (∀ k, hasK s.1 k = true → dep k ≤ dq one dep u + 1) → (∀ t ∈ l, t ∈ f u) → (u = one ∨ hasK s.1 u = true) →
    ∃ dep', Bd f one (l.foldl (addB u one) s) dep' ∧ (∀ k, hasK s.1 k = true → dep' k = dep k) ∧ dq one dep' u = dq one dep u ∧ (∀ k, hasK (l.foldl (addB u one) s).1 k = true → dep' k ≤ dq one dep' u + 1)
  | [], s, dep, h, hle, _, hu => ⟨dep, h, fun _ _ => rfl, rfl, hle⟩
  | t :: l, s, dep, h, hle, hl, hu => by
    obtain ⟨d1, h1, h2, h3, h4⟩ := h.add hle (hl t List.mem_cons_self) hu
    have keep : ∀ k, hasK s.1 k = true → hasK (addB u one s t).1 k = true := fun k hk => by
      have := (addB_all (u := u) (one := one) (l := [t]) (s := s) (t := k)).mpr (.inl hk)
      simpa using this
    obtain ⟨d2, g1, g2, g3, g4⟩ := Bd.adds (l := l) h1 h4 (fun x hx => hl x (List.mem_cons_of_mem _ hx)) (hu.imp id (keep u))
    exact ⟨d2, g1, fun k hk => (g2 k (keep k hk)).trans (h2 k hk), g3.trans h3, g4⟩
theorem dq_mono {one : List Int} {dep : List Int → Nat} {room : List Int} {s : BS} (hb : Bs room one s) (hm : (s.1.map (·.1)).Pairwise fun a b => dep a ≤ dep b) {i : Nat} {u v : List Int} (hu : s.2[i]? = some u) (hv : s.2[i + 1]? = some v) : dq one dep u ≤ dq one dep v := by
  rw [hb.w] at hu hv
  have h1 : ((s.1.map (·.1)).filter fun k => decide (k ≠ one)).Pairwise fun a b => dep a ≤ dep b := hm.sublist List.filter_sublist
  rw [List.getElem?_cons_succ] at hv
  have hvm := List.mem_of_getElem? hv
  have hvn : v ≠ one := of_decide_eq_true (List.mem_filter.mp hvm).2
  cases i with
  | zero =>
    simp at hu
    subst hu
    unfold dq
    rw [if_pos rfl]
    exact Nat.zero_le _
  | succ i =>
    rw [List.getElem?_cons_succ] at hu
    have hum := List.mem_of_getElem? hu
    have hun : u ≠ one := of_decide_eq_true (List.mem_filter.mp hum).2
    unfold dq
    rw [if_neg hun, if_neg hvn]
    obtain ⟨h2, h3⟩ := List.getElem?_eq_some_iff.mp hu
    obtain ⟨h4, h5⟩ := List.getElem?_eq_some_iff.mp hv
    have := List.pairwise_iff_getElem.mp h1 i (i + 1) h2 h4 (by omega)
    rw [h3, h5] at this
    exact this
theorem bfs_deep {room one : List Int} {f : List Int → SS} (h1 : InRoom room one) (hf : ∀ u, InRoom room u → ∀ t ∈ f u, InRoom room t) {n : Nat} {s' : BS} (h : bfsO f one n 0 ([], [one]) = some s') :
    ∃ dep, Bd f one s' dep ∧ ∀ m c, Wy f one m c → hasK s'.1 c = true ∧ dep c ≤ m := by
  obtain ⟨j, ⟨hb, dep, hd, hle, hcl⟩, hj⟩ := bfs_ind (f := f) (one := one) (fun i s => Bs room one s ∧ ∃ dep, Bd f one s dep ∧ (∀ u, s.2[i]? = some u → ∀ k, hasK s.1 k = true → dep k ≤ dq one dep u + 1) ∧ ∀ j u, j < i → s.2[j]? = some u → ∀ t ∈ f u, hasK s.1 t = true ∧ dep t ≤ dq one dep u + 1) (fun i s u ⟨hb, dep, hd, hle, hcl⟩ hu => by
    have hin := hb.win h1 u (List.mem_of_getElem? hu)
    have hqk : ∀ (j : Nat) (v : List Int), s.2[j]? = some v → v = one ∨ hasK s.1 v = true := fun j v hv => by
      have hvm := List.mem_of_getElem? hv
      rw [hb.w] at hvm
      rcases List.mem_cons.mp hvm with e | hvm
      · exact .inl e
      · exact .inr (hasK_mem.mpr (List.mem_filter.mp hvm).1)
    have hlt := (List.getElem?_eq_some_iff.mp hu).1
    obtain ⟨dep', g1, g2, g3, g4⟩ := Bd.adds (l := f u) hd (hle u hu) (fun t ht => ht) (hqk i u hu)
    have hb' := hb.adds (u := u) (hf u hin)
    obtain ⟨r, hr⟩ := addB_w (u := u) (one := one) (l := f u) (s := s)
    have hdq : ∀ v, (v = one ∨ hasK s.1 v = true) → dq one dep' v = dq one dep v := by
      intro v hv
      unfold dq
      by_cases e : v = one
      · rw [if_pos e, if_pos e]
      · rw [if_neg e, if_neg e]
        exact g2 v (hv.resolve_left e)
    refine ⟨hb', dep', g1, fun v hv k hk => ?_, fun k v hk hv t ht => ?_⟩
    · have hu' : ((f u).foldl (addB u one) s).2[i]? = some u := by
        rw [hr, List.getElem?_append_left hlt]
        exact hu
      have := dq_mono hb' g1.mono hu' hv
      have := g4 k hk
      omega
    · rw [hr] at hv
      by_cases e : k = i
      · subst e
        rw [List.getElem?_append_left hlt, hu] at hv
        cases hv
        have hkt : hasK ((f u).foldl (addB u one) s).1 t = true := addB_all.mpr (.inr ht)
        exact ⟨hkt, g4 t hkt⟩
      · rw [List.getElem?_append_left (by omega)] at hv
        obtain ⟨q1, q2⟩ := hcl k v (by omega) hv t ht
        refine ⟨addB_all.mpr (.inl q1), ?_⟩
        rw [g2 t q1, hdq v (hqk k v hv)]
        exact q2) n 0 _ s' h ⟨Bs.start, fun _ => 0, ⟨fun i k d h => (by simp at h), .nil⟩, fun u _ k hk => (by cases hk), fun j u hj => (by omega)⟩
  refine ⟨dep, hd, fun m c hc => ?_⟩
  have all : ∀ u, u ∈ s'.2 → ∀ t ∈ f u, hasK s'.1 t = true ∧ dep t ≤ dq one dep u + 1 := fun u hu t ht => by
    obtain ⟨k, hk, e⟩ := List.getElem_of_mem hu
    have hjl := List.getElem?_eq_none_iff.mp hj
    exact hcl k u (by omega) (by rw [List.getElem?_eq_getElem hk, e]) t ht
  induction hc with
  | base q =>
    obtain ⟨q1, q2⟩ := all one (by rw [hb.w]; exact List.mem_cons_self) _ q
    refine ⟨q1, ?_⟩
    unfold dq at q2
    rw [if_pos rfl] at q2
    exact q2
  | step hr q ih =>
    rename_i n b c
    have hbm : b ∈ s'.2 := by
      rw [hb.w]
      by_cases e : b = one
      · rw [e]
        exact List.mem_cons_self
      · exact List.mem_cons_of_mem _ (List.mem_filter.mpr ⟨hasK_mem.mp ih.1, by simp [e]⟩)
    obtain ⟨q1, q2⟩ := all b hbm _ q
    refine ⟨q1, ?_⟩
    unfold dq at q2
    split at q2
    · omega
    · have := ih.2
      omega
/-- those ahead of a standing on its way, the nearest first -/
inductive Anc (kvs : Kvs) (one : List Int) : List Int → SS → Prop
  | root {k : List Int} : getK kvs k = some (tupI one) → Anc kvs one k []
  | up {k u : List Int} {A : SS} : getK kvs k = some (tupI u) → u ≠ one → Anc kvs one u A → Anc kvs one k (u :: A)
theorem getK_at {k : List Int} {d : D} : ∀ {kvs : Kvs}, (kvs.map (·.1)).Nodup → ∀ {i : Nat}, kvs[i]? = some (k, d) → getK kvs k = some d
  | [], _, i, h => by simp at h
  | p :: r, hn, 0, h => by
    simp at h
    subst h
    rw [getK, if_pos rfl]
  | p :: r, hn, i + 1, h => by
    rw [List.map_cons, List.nodup_cons] at hn
    have h' : r[i]? = some (k, d) := by simpa using h
    have hne : p.1 ≠ k := fun z => hn.1 (z ▸ List.mem_map.mpr ⟨_, List.mem_of_getElem? h', rfl⟩)
    rw [getK, if_neg hne]
    exact getK_at hn.2 h'
theorem anc_of {room one : List Int} {f : List Int → SS} {s : BS} {dep : List Int → Nat} (hb : Bs room one s) (hd : Bd f one s dep) : ∀ (n i : Nat) (k : List Int) (d : D), i < n → s.1[i]? = some (k, d) →
    ∃ A, Anc s.1 one k A ∧ dep k = A.length + 1 ∧ A.length ≤ i ∧ Chn f ((one :: A.reverse) ++ [k]) ∧ ∀ a ∈ A, InRoom room a
  | 0, _, _, _, h, _ => by omega
  | n + 1, i, k, d, hi, h => by
    obtain ⟨u, rfl, h2, h3, h4⟩ := hd.par i k d h
    have hg := getK_at hb.knd h
    by_cases e : u = one
    · subst e
      refine ⟨[], .root hg, ?_, Nat.zero_le _, ⟨h2, trivial⟩, fun a ha => by cases ha⟩
      rw [h3]
      unfold dq
      rw [if_pos rfl]
      rfl
    · obtain ⟨j, d', h5, h6⟩ := h4.resolve_left e
      obtain ⟨A, a1, a2, a3, a4, a5⟩ := anc_of hb hd n j u d' (by omega) h6
      refine ⟨u :: A, .up hg e a1, ?_, by simp only [List.length_cons]; omega, ?_, fun a ha => ?_⟩
      · rw [h3]
        unfold dq
        rw [if_neg e, a2]
        rfl
      · have := chn_snoc h2 a4
        rw [List.reverse_cons]
        exact this
      · rcases List.mem_cons.mp ha with rfl | ha
        · exact hb.kin _ (List.mem_of_getElem? h6)
        · exact a5 a ha
end CM

/-! PM37: the looks and what is told, by ways and shut sets. -/
namespace PD
open PySem
def kSset2 (e : En) : Option D → Rs Ans
  | some (.list ds) => match tupsOf ds with
    | some ms => if okTs ms = true then .ok (.val true (.list ((srtS HT.lexLt (dedL ms)).map fun ns => .tuple (ns.map .int)))) e else .no
    | none => .no
  | _ => .no
def kSset1 (x : Ans) (e : En) : Rs Ans := kSset2 e (rdA x e)
section
variable {F : List Fn} {e : En} {a b : IE}
theorem q_sset : evE F (.sset a) e = (evE F a e).bind kSset1 := by
  conv => lhs; unfold evE
  rfl
theorem q_sset1 {x : Ans} : kSset1 x e = kSset2 e (rdA x e) := rfl
end
theorem forL_useR {step : D → En → Ou} {xs : List D} {e : En} {L : Ou} (h : forL step xs e = L) (I : Nat → En → Prop) (R : Ou → Prop) (h0 : I 0 e) (hs : ∀ (i : Nat) (x : D) (e : En), xs[i]? = some x → I i e → (∃ e', (step x e = .nx e' ∨ step x e = .ct e') ∧ I (i + 1) e') ∨ ∃ f d e', step x e = .rt f d e' ∧ R (.rt f d e')) :
    (∃ e', L = .nx e' ∧ I xs.length e') ∨ ∃ f d e', L = .rt f d e' ∧ R (.rt f d e') := h ▸ forL_ret I R h0 hs
theorem rngN {n m : Nat} (hn : (n : Int) < 4611686018427387904) (hm : (m : Int) < 4611686018427387904) : rngD (n : Int) (m : Int) = some ((List.range (m - n)).map fun (k : Nat) => .int (((n + k : Nat) : Int))) := by
  unfold rngD
  rw [if_pos (by omega)]
  have e : ((m : Int) - (n : Int)).toNat = m - n := by omega
  rw [e]
  congr 1
end PD
namespace CM
open PySem PD
theorem mem_dedC {x : List Int} : ∀ {ms : SS}, x ∈ dedL ms ↔ x ∈ ms
  | [] => Iff.rfl
  | y :: r => by
    unfold dedL
    split
    · rename_i h
      rw [mem_dedC, List.mem_cons]
      exact ⟨.inr, fun z => z.elim (fun e => e ▸ List.contains_iff_mem.mp h) id⟩
    · rw [List.mem_cons, List.mem_cons, mem_dedC]
theorem nodup_dedC : ∀ {ms : SS}, (dedL ms).Nodup
  | [] => .nil
  | y :: r => by
    unfold dedL
    split
    · exact nodup_dedC
    · rename_i h
      exact List.nodup_cons.mpr ⟨fun z => h (List.contains_iff_mem.mpr (mem_dedC.mp z)), nodup_dedC⟩
theorem lt_of_ne {a b : List Int} (h : HT.lexLt b a = false) (hne : a ≠ b) : HT.lexLt a b = true := by
  cases e : HT.lexLt a b with
  | true => rfl
  | false => exact absurd (lt_anti a b e h) hne
theorem lt_trans {a b c : List Int} (h1 : HT.lexLt a b = true) (h2 : HT.lexLt b c = true) : HT.lexLt a c = true := by
  have h3 := lt_tr a b c (lt_asym _ _ h1) (lt_asym _ _ h2)
  refine lt_of_ne h3 fun z => ?_
  rw [← z, lt_asym _ _ h1] at h2
  cases h2
theorem lt_irr (a : List Int) : HT.lexLt a a = false := by
  cases e : HT.lexLt a a with
  | false => rfl
  | true => rw [lt_asym _ _ e] at e; cases e
theorem srt_up {l : SS} (h : l.Nodup) : (srtS HT.lexLt l).Pairwise fun a b => HT.lexLt a b = true := by
  have h1 : (srtS HT.lexLt l).Nodup := (srt_perm l).nodup_iff.mpr h
  exact ((srt_sorted l).and h1).imp fun {a b} ⟨x, y⟩ => lt_of_ne x y
theorem okTs_of {ms : SS} {n : Nat} (hl : ms.length < 64) (h : ∀ m ∈ ms, m.length = n ∧ ∀ i ∈ m, 0 ≤ i ∧ i < 64) : okTs ms = true := by
  unfold okTs
  rw [Bool.and_eq_true, decide_eq_true_eq, List.all_eq_true]
  refine ⟨hl, fun m hm => ?_⟩
  have h1 := h m hm
  have h2 : (ms.headD []).length = n := by
    cases ms with
    | nil => cases hm
    | cons x r => exact (h x List.mem_cons_self).1
  rw [Bool.and_eq_true, decide_eq_true_eq, List.all_eq_true, h2]
  refine ⟨h1.1, fun i hi => ?_⟩
  have := h1.2 i hi
  rw [Bool.and_eq_true, decide_eq_true_eq, decide_eq_true_eq]
  exact this
theorem in_small {most : Int} {room : List Int} (R : Room most room) : ∀ {ws : List Int}, InRoom room ws → ∀ i ∈ ws, 0 ≤ i ∧ i < 64 := by
  intro ws W i hi
  obtain ⟨k, hk, e⟩ := List.getElem_of_mem hi
  have hkr : k < room.length := by
    rw [← W.len]
    exact hk
  have h1 := W.at k _ _ (List.getElem?_eq_getElem hkr) (List.getElem?_eq_getElem hk)
  have h2 := R.two _ (List.getElem_mem hkr)
  rw [e] at h1
  omega
theorem sset_rows {most : Int} {room : List Int} (R : Room most room) {ms : SS} {e : En} (hl : ms.length < 64) (h : ∀ m ∈ ms, InRoom room m) : kSset2 e (some (.list (ms.map tupI))) = .ok (.val true (.list ((srtS HT.lexLt (dedL ms)).map tupI))) e := by
  show (match tupsOf (ms.map tupI) with
    | some ms => if okTs ms = true then Rs.ok (Ans.val true (PyData.list ((srtS HT.lexLt (dedL ms)).map fun (ns : List Int) => PyData.tuple (ns.map PyData.int)))) e else .no
    | none => .no) = _
  rw [tups_map fun k hk => in_ne (h k hk) R.ne]
  show (if okTs ms = true then _ else _) = _
  rw [if_pos (okTs_of (n := room.length) hl fun m hm => ⟨(h m hm).len, in_small R (h m hm)⟩)]
  rfl
theorem add_rows {A B : SS} (h : A.length + B.length ≤ 100000) : prim .add [.list (A.map tupI), .list (B.map tupI)] = some (true, .list ((A ++ B).map tupI)) := by
  rw [List.map_append]
  exact cat_l (by rw [List.length_map, List.length_map]; exact h)
theorem shut_of_sem {most : Int} {room one : List Int} {kvs : Kvs} (R : Room most room) (h1 : InRoom room one) (hk : ∀ p ∈ kvs, InRoom room p.1) (hl : kvs.length < 63) :
    f_shut_of.sem [dicT kvs, tupI one] = .ok true (.list ((srtS HT.lexLt (dedL (one :: kvs.map (·.1)))).map tupI)) [] := by
  rw [e_shut_of, runF_eq rfl (by decide)]
  unfold b_shut_of
  have ha := add_rows (A := [one]) (B := kvs.map (·.1)) (by rw [List.length_map]; show 1 + _ ≤ _; omega)
  have hs : ∀ e, kSset2 e (some (.list ((one :: kvs.map (·.1)).map tupI))) = _ := fun e => sset_rows R (e := e) (by rw [List.length_cons, List.length_map]; omega) (fun m hm => by
    rcases List.mem_cons.mp hm with rfl | hm
    · exact h1
    · obtain ⟨p, hp, rfl⟩ := List.mem_map.mp hm
      exact hk p hp)
  have e1 : ([one].map tupI : List D) = [tupI one] := rfl
  have e2 : [one] ++ kvs.map (·.1) = one :: kvs.map (·.1) := rfl
  rw [e1, e2] at ha
  have dl := dic_list (kvs := kvs)
  generalize kvs.map (·.1) = K at *
  generalize (one :: K).map tupI = Z at *
  simp! only [q_sset, q_sset1, dl, ha, hs]
/-! the way back -/
def backBody : List IS := [
    .exp (.mt .append 3 [(.var 4)]),
    .set 4 (.ix (.var 0) (.var 4))]
theorem back_loop {kvs : Kvs} {one other : List Int} : ∀ {k : List Int} {A : SS}, Anc kvs one k A → ∀ (n : Nat) (L : SS) (u : List Int), A.length + 1 < n → getK kvs k = some (tupI u) → L.length + A.length < 90000 →
    whlL (evT [] (.cm .ne (.var 4) (.var 1))) (evSs [] backBody) n [some ⟨.sh, dicT kvs⟩, some ⟨.sh, tupI one⟩, some ⟨.sh, tupI other⟩, some ⟨.own, .list (L.map tupI)⟩, some ⟨.sh, tupI u⟩] =
      .nx [some ⟨.sh, dicT kvs⟩, some ⟨.sh, tupI one⟩, some ⟨.sh, tupI other⟩, some ⟨.own, .list ((L ++ A).map tupI)⟩, some ⟨.sh, tupI one⟩] := by
  intro k A h
  induction h with
  | root hg =>
    intro n L u hn hu hl
    obtain ⟨m, rfl⟩ : ∃ m, n = m + 1 := ⟨n - 1, by omega⟩
    rw [hg] at hu
    have hu' : u = one := by
      have h1 : tupI one = tupI u := Option.some.inj hu
      unfold tupI at h1
      injection h1 with h1
      exact (List.map_inj_right (fun a b h => by injection h)).mp h1.symm
    subst hu'
    have hd : decide (u = u) = true := decide_eq_true rfl
    simp only [whlL]
    simp! only [hd, List.append_nil]
  | up hg hne hA ih =>
    rename_i k v A
    intro n L u hn hu hl
    obtain ⟨m, rfl⟩ : ∃ m, n = m + 1 := ⟨n - 1, by omega⟩
    simp only [List.length_cons] at hn hl
    rw [hg] at hu
    have hu' : u = v := by
      have h1 : tupI v = tupI u := Option.some.inj hu
      unfold tupI at h1
      injection h1 with h1
      exact (List.map_inj_right (fun a b h => by injection h)).mp h1.symm
    subst hu'
    have hd : decide (u = one) = false := decide_eq_false hne
    obtain ⟨w, hw⟩ : ∃ w, getK kvs u = some (tupI w) := by
      cases hA with
      | root h => exact ⟨_, h⟩
      | up h _ _ => exact ⟨_, h⟩
    have hix := dic_get hw
    have happ : mtd .append (.list (L.map tupI)) [tupI u] = some (.list ((L ++ [u]).map tupI), .none) := by
      rw [m_app (by rw [List.length_map, sl_eq]; omega), List.map_append]
      rfl
    have hr := ih m (L ++ [u]) w (by omega) hw (by rw [List.length_append]; simp only [List.length_cons, List.length_nil]; omega)
    rw [List.append_assoc] at hr
    simp only [whlL]
    unfold backBody at hr ⊢
    simp! only [hd, happ, hix, hr]
theorem way_back_sem {kvs : Kvs} {one other : List Int} {A : SS} (h : Anc kvs one other A) (hl : A.length < 80000) : f_way_back.sem [dicT kvs, tupI one, tupI other] = .ok true (.list ((one :: A.reverse ++ [other]).map tupI)) [] := by
  rw [e_way_back, runF_eq rfl (by decide)]
  unfold b_way_back
  obtain ⟨u, hu⟩ : ∃ u, getK kvs other = some (tupI u) := by
    cases h with
    | root h => exact ⟨_, h⟩
    | up h _ _ => exact ⟨_, h⟩
  have hix := dic_get hu
  have hloop := back_loop (other := other) h 1000000 [other] u (by omega) hu (by simp only [List.length_cons, List.length_nil]; omega)
  have e1 : ([other].map tupI : List D) = [tupI other] := rfl
  rw [e1] at hloop
  have happ : mtd .append (.list (([other] ++ A).map tupI)) [tupI one] = some (.list (([other] ++ A ++ [one]).map tupI), .none) := by
    rw [m_app (by rw [List.length_map, List.length_append, sl_eq]; show 1 + _ < _; omega), List.map_append (l₂ := [one])]
    rfl
  have hrv : prim .rev [.list (([other] ++ A ++ [one]).map tupI)] = some (true, .list ((one :: A.reverse ++ [other]).map tupI)) := by
    show some (true, PyData.list (([other] ++ A ++ [one]).map tupI).reverse) = _
    rw [← List.map_reverse]
    congr 4
    simp
  unfold backBody at hloop
  generalize ([other] ++ A ++ [one]).map tupI = Z1 at *
  generalize ([other] ++ A).map tupI = Z2 at *
  simp! only [hix, hloop, happ, hrv]
/-! what is told -/
def betterD (W : SS) : D := .tuple [.str "better", .list (W.map tupI)]
def notD (S : SS) : D := .tuple [.str "not", .list (S.map tupI)]
structure Better (room : List Int) (f : List Int → SS) (x y : List Int) (W : SS) : Prop where
  way : WayOk f x y W
  least : ∀ n, Wy f x n y → W.length ≤ n + 1
  few : (W.length : Int) ≤ prodI room + 1
  inr : ∀ w ∈ W, InRoom room w
structure NotB (room : List Int) (f : List Int → SS) (x y : List Int) (S : SS) : Prop where
  no : ¬ Rch f x y
  up : S.Pairwise fun a b => HT.lexLt a b = true
  mem : ∀ z, z ∈ S ↔ z = x ∨ Rch f x z
  inr : ∀ w ∈ S, InRoom room w
theorem keys_few {most : Int} {room : List Int} {l : SS} (R : Room most room) (h : l.Nodup) (hs : ∀ x ∈ l, InRoom room x) : (l.length : Int) ≤ prodI room := by
  have := len_sub h fun x hx => in_all R.pos (hs x hx)
  rw [allS_len] at this
  have := prodI_pos R.pos
  omega
theorem told_sem {room x y hs : List Int} {B : List Wi} {hd : D} (R : Room 256 room) (X : InRoom room x) (Y : InRoom room y) (hB : ∀ w ∈ B, WishB room w) (hl : B.length < 900) (hh : hd = .tuple (hs.map .int) ∨ (hd = .none ∧ hs = [])) (hsm : (∃ n, Wy (fun u => betS hs u B) x n y) ∨ prodI room < 63) :
    (∃ W, f_told.sem [tupI room, .tuple (B.map wishD), tupI x, tupI y, hd] = .ok false (betterD W) [] ∧ Better room (fun u => betS hs u B) x y W) ∨
    ∃ S, f_told.sem [tupI room, .tuple (B.map wishD), tupI x, tupI y, hd] = .ok false (notD S) [] ∧ NotB room (fun u => betS hs u B) x y S := by
  have hf : ∀ u, InRoom room u → ∀ t ∈ betS hs u B, InRoom room t := fun u hu t ht => (bet_in hu hB ht).1
  obtain ⟨s, hb, hsem⟩ := found_sem (hs := hs) R X hB hl hh
  obtain ⟨bs, hmem⟩ := bfs_spec X hf hb
  obtain ⟨dep, hd2, hleast⟩ := bfs_deep X hf hb
  have hkf := keys_few R bs.knd fun k hk => by
    obtain ⟨p, hp, rfl⟩ := List.mem_map.mp hk
    exact bs.kin p hp
  rw [List.length_map] at hkf
  have hpr := R.prod
  have hin := dic_in (kvs := s.1) (k := y)
  cases hk : hasK s.1 y with
  | true =>
    rw [hk] at hin
    left
    obtain ⟨p, hp, hpe⟩ := List.mem_map.mp (hasK_mem.mp hk)
    obtain ⟨i, hi, e⟩ := List.getElem_of_mem hp
    have hi2 : s.1[i]? = some (y, p.2) := by
      rw [List.getElem?_eq_getElem hi, e, ← hpe]
    obtain ⟨A, a1, a2, a3, a4, a5⟩ := anc_of bs hd2 (i + 1) i y p.2 (by omega) hi2
    have hw := way_back_sem a1 (by omega)
    refine ⟨x :: A.reverse ++ [y], ?_, ⟨⟨?_, rfl, ?_, a4⟩, fun n hn => ?_, ?_, fun w hw => ?_⟩⟩
    · rw [e_told, runF_eq rfl (by decide)]
      unfold b_told betterD
      generalize (x :: A.reverse ++ [y]).map tupI = Z at *
      simp_arith only [m_found_from, hsem, sc_dicT, hin, m_way_back, hw]
    · simp only [List.length_append, List.length_cons, List.length_reverse, List.length_nil]
      omega
    · exact List.getLast?_concat (l := x :: A.reverse)
    · have := (hleast n y hn).2
      simp only [List.length_append, List.length_cons, List.length_reverse, List.length_nil]
      omega
    · simp only [List.length_append, List.length_cons, List.length_reverse, List.length_nil]
      omega
    · simp only [List.cons_append, List.mem_cons, List.mem_append, List.mem_reverse, List.not_mem_nil, or_false] at hw
      rcases hw with rfl | hw | rfl
      · exact X
      · exact a5 w hw
      · exact Y
  | false =>
    rw [hk] at hin
    right
    have hno : ¬ Rch (fun u => betS hs u B) x y := fun z => by
      rw [(hmem y).mpr z] at hk
      cases hk
    have hp63 : prodI room < 63 := hsm.resolve_left fun ⟨n, hn⟩ => hno hn.rch
    have hso := shut_of_sem R X bs.kin (by omega)
    refine ⟨srtS HT.lexLt (dedL (x :: s.1.map (·.1))), ?_, ⟨hno, srt_up nodup_dedC, fun z => ?_, fun w hw => ?_⟩⟩
    · rw [e_told, runF_eq rfl (by decide)]
      unfold b_told
      show _ = FR.ok false (notD (srtS HT.lexLt (dedL (x :: s.1.map (·.1))))) []
      unfold notD
      generalize (srtS HT.lexLt (dedL (x :: s.1.map (·.1)))).map tupI = Z at *
      simp_arith only [m_found_from, hsem, sc_dicT, hin, m_shut_of, hso]
    · rw [(srt_perm _).mem_iff, mem_dedC, List.mem_cons, ← hasK_mem, hmem]
    · rw [(srt_perm _).mem_iff, mem_dedC, List.mem_cons] at hw
      rcases hw with rfl | hw
      · exact X
      · obtain ⟨p, hp, rfl⟩ := List.mem_map.mp hw
        exact bs.kin p hp
end CM

/-! PM38: what is a standing, a list of standings, a way, a shut set. -/
namespace CM
open PySem PD
/-- each a worth of its box -/
def stOK : List Int → List D → Bool
  | [], [] => true
  | n :: room, d :: ds => worthB n d && stOK room ds
  | _, _ => false
def standB (room : List Int) : D → Bool
  | .tuple ds => stOK room ds
  | _ => false
theorem stOK_len : ∀ {room : List Int} {ds : List D}, ds.length ≠ room.length → stOK room ds = false
  | [], [], h => absurd rfl h
  | [], _ :: _, _ => rfl
  | _ :: _, [], _ => rfl
  | n :: room, d :: ds, h => by
    show (worthB n d && stOK room ds) = false
    rw [stOK_len (by simpa using h), Bool.and_false]
theorem stOK_zip : ∀ {room : List Int} {ds : List D}, ds.length = room.length → stOK room ds = ((room.zip ds).map fun p => worthB p.1 p.2).all id
  | [], [], _ => rfl
  | [], _ :: _, h => by cases h
  | _ :: _, [], h => by cases h
  | n :: room, d :: ds, h => by
    show (worthB n d && stOK room ds) = _
    rw [stOK_zip (by simpa using h)]
    rfl
theorem enum_zip : ∀ {room : List Int} {ds : List D} {k : Nat}, ds.length = room.length → (List.range' k ds.length).zipWith (fun (k : Nat) d => PyData.tuple [.int (k : Int), d]) ds = ((List.range' k ds.length).zip (room.zip ds)).map fun q => PyData.tuple [.int (q.1 : Int), q.2.2]
  | [], [], _, _ => rfl
  | [], _ :: _, _, h => by cases h
  | _ :: _, [], _, h => by cases h
  | n :: room, d :: ds, k, h => by
    have := enum_zip (room := room) (ds := ds) (k := k + 1) (by simpa using h)
    simp only [List.length_cons, List.range'_succ, List.zipWith_cons_cons, List.zip_cons_cons, List.map_cons, this]
theorem zip_vals : ∀ {room : List Int} {ds : List D} {k : Nat}, ds.length = room.length → ((List.range' k ds.length).zip (room.zip ds)).map (fun q => worthB q.2.1 q.2.2) = (room.zip ds).map fun p => worthB p.1 p.2
  | [], [], _, _ => rfl
  | [], _ :: _, _, h => by cases h
  | _ :: _, [], _, h => by cases h
  | n :: room, d :: ds, k, h => by
    have := zip_vals (room := room) (ds := ds) (k := k + 1) (by simpa using h)
    simp only [List.length_cons, List.range'_succ, List.zip_cons_cons, List.map_cons, this]
theorem zip_room : ∀ {room : List Int} {ds : List D} {k : Nat} {q : Nat × Int × D}, q ∈ (List.range' k ds.length).zip (room.zip ds) → ∃ j, q.1 = k + j ∧ room[j]? = some q.2.1
  | [], ds, k, q, h => by simp at h
  | _ :: _, [], k, q, h => by simp at h
  | n :: room, d :: ds, k, q, h => by
    simp only [List.length_cons, List.range'_succ, List.zip_cons_cons] at h
    rcases List.mem_cons.mp h with rfl | h
    · exact ⟨0, rfl, rfl⟩
    · obtain ⟨j, h1, h2⟩ := zip_room (room := room) (ds := ds) (k := k + 1) h
      exact ⟨j + 1, by omega, h2⟩
theorem standing_any_sem {room : List Int} (hrl : room.length ≤ 1000) (t : D) : f_is_standing.sem [tupI room, t] = .ok false (.bool (standB room t)) [] := by
  rw [e_is_standing, runF_eq rfl (by decide)]
  unfold b_is_standing
  by_cases ht : ∃ ds, t = .tuple ds
  · obtain ⟨ds, rfl⟩ := ht
    have h1 : prim .len [.tuple ds] = some (false, .int (ds.length : Int)) := rfl
    have hb : standB room (.tuple ds) = stOK room ds := rfl
    rw [hb]
    by_cases hl : ds.length = room.length
    · have hl2 : (ds.length : Int) = (room.length : Int) := by omega
      have hen : ∀ e, kEn2 (some (.tuple ds, e)) = .ok (enumD ds) e := fun _ => rfl
      have hc : evE [f_is_worth] (.comp (.call 0 [(.var 0), (.var 2), (.var 3)] []) (.tp [2, 3]) (.enum (.var 1)) [] [2, 3]) [some ⟨.sh, tupI room⟩, some ⟨.sh, .tuple ds⟩, none, none] =
          .ok (.val true (.list (((room.zip ds).map fun p => worthB p.1 p.2).map .bool))) [some ⟨.sh, tupI room⟩, some ⟨.sh, .tuple ds⟩, none, none] := by
        have := evE_comp_map (F := [f_is_worth]) (el := .call 0 [(.var 0), (.var 2), (.var 3)] []) (pt := .tp [2, 3]) (src := .enum (.var 1)) (cs := []) (own := [2, 3]) (e := [some ⟨.sh, tupI room⟩, some ⟨.sh, .tuple ds⟩, none, none]) (e1 := [some ⟨.sh, tupI room⟩, some ⟨.sh, .tuple ds⟩, none, none])
          (A := (List.range' 0 ds.length).zip (room.zip ds)) (h := fun q => .tuple [.int (q.1 : Int), q.2.2]) (g := fun q => some (.bool (worthB q.2.1 q.2.2))) (by rw [← enum_zip hl, ← enum_eq]; simp! only [hen]) rfl (by rw [List.length_zip, List.length_zip, sl_eq]; omega) (fun q hq e he => by
            obtain ⟨j, hj, hr⟩ := zip_room hq
            have hw := worth_sem (room := room) (b := (q.1 : Int)) (n := q.2.1) (by omega) (by rw [Int.toNat_natCast, hj, Nat.zero_add]; exact hr) q.2.2
            rw [r_stepc, he]
            simp! only [m_is_worth, hw]
            exact ⟨_, rfl, rfl⟩)
        rw [fm_map] at this
        rw [this, ← zip_vals hl (k := 0), List.map_map]
        rfl
      rw [stOK_zip hl]
      simp! only [kt_t, h1, hl2, hc]
    · have hl2 : ¬ (ds.length : Int) = (room.length : Int) := by omega
      rw [stOK_len hl]
      simp! only [kt_t, h1, hl2]
  · have h1 : kindOf .tuple t = false := (kt_false (d := t) fun ds h => ht ⟨ds, h⟩).1
    have h2 : standB room t = false := by
      cases t <;> first | rfl | exact absurd ⟨_, rfl⟩ ht
    rw [h2]
    simp! only [h1]
theorem stOK_ints : ∀ {room ws : List Int}, InRoom room ws → stOK room (ws.map .int) = true
  | [], [], _ => rfl
  | n :: room, w :: ws, ⟨h1, h2, h3⟩ => by
    show (worthB n (.int w) && stOK room (ws.map .int)) = true
    rw [stOK_ints h3]
    show ((decide (0 ≤ w) && decide (w < n)) && true) = true
    rw [decide_eq_true h1, decide_eq_true h2]
    rfl
theorem standB_of : ∀ {room : List Int} {ds : List D}, stOK room ds = true → ∃ ws : List Int, ds = ws.map .int ∧ InRoom room ws
  | [], [], _ => ⟨[], rfl, trivial⟩
  | n :: room, d :: ds, h => by
    have h' : (worthB n d && stOK room ds) = true := h
    rw [Bool.and_eq_true] at h'
    obtain ⟨w, rfl, h1, h2⟩ := worthB_of h'.1
    obtain ⟨ws, rfl, h3⟩ := standB_of h'.2
    exact ⟨w :: ws, rfl, h1, h2, h3⟩
  | [], _ :: _, h => by cases h
  | _ :: _, [], h => by cases h
theorem standB_tup {room ws : List Int} (h : InRoom room ws) : standB room (tupI ws) = true := stOK_ints h
theorem standB_inv {room : List Int} {d : D} (h : standB room d = true) : ∃ ws, d = tupI ws ∧ InRoom room ws := by
  cases d with
  | tuple ds =>
    obtain ⟨ws, rfl, h1⟩ := standB_of (show stOK room ds = true from h)
    exact ⟨ws, rfl, h1⟩
  | _ => cases h
def rowsOK (room : List Int) : D → Bool
  | .list ds => ds.all (standB room)
  | _ => false
theorem rowsOK_of {room : List Int} {T : SS} (h : ∀ k ∈ T, InRoom room k) : rowsOK room (.list (T.map tupI)) = true := by
  show (T.map tupI).all (standB room) = true
  rw [List.all_map]
  exact List.all_eq_true.mpr fun k hk => standB_tup (h k hk)
theorem rowsOK_inv {room : List Int} {d : D} (h : rowsOK room d = true) : ∃ T : SS, d = .list (T.map tupI) ∧ ∀ k ∈ T, InRoom room k := by
  cases d with
  | list ds =>
    have h' : ds.all (standB room) = true := h
    clear h
    induction ds with
    | nil => exact ⟨[], rfl, fun k hk => by cases hk⟩
    | cons d ds ih =>
      rw [List.all_cons, Bool.and_eq_true] at h'
      obtain ⟨ws, rfl, h1⟩ := standB_inv h'.1
      obtain ⟨T, h2, h3⟩ := ih h'.2
      injection h2 with h2
      subst h2
      exact ⟨ws :: T, rfl, fun k hk => (List.mem_cons.mp hk).elim (fun e => e ▸ h1) (h3 k)⟩
  | _ => cases h
theorem are_standings_sem {room : List Int} (hrl : room.length ≤ 1000) (t : D) (hl : ∀ ds, t = .list ds → ds.length ≤ 100000) : f_are_standings.sem [tupI room, t] = .ok false (.bool (rowsOK room t)) [] := by
  rw [e_are_standings, runF_eq rfl (by decide)]
  unfold b_are_standings
  by_cases ht : ∃ ds, t = .list ds
  · obtain ⟨ds, rfl⟩ := ht
    have hl2 := hl ds rfl
    have hc : evE [f_is_standing] (.comp (.call 0 [(.var 0), (.var 2)] []) (.nm 2) (.seq (.var 1)) [] [2]) [some ⟨.sh, tupI room⟩, some ⟨.sh, .list ds⟩, none] =
        .ok (.val true (.list ((ds.map (standB room)).map .bool))) [some ⟨.sh, tupI room⟩, some ⟨.sh, .list ds⟩, none] := by
      have := evE_comp_map (F := [f_is_standing]) (el := .call 0 [(.var 0), (.var 2)] []) (pt := .nm 2) (src := .seq (.var 1)) (cs := []) (own := [2]) (e := [some ⟨.sh, tupI room⟩, some ⟨.sh, .list ds⟩, none]) (e1 := [some ⟨.sh, tupI room⟩, some ⟨.sh, .list ds⟩, none])
        (A := ds) (h := id) (g := fun d => some (.bool (standB room d))) (by rw [List.map_id]; simp! only []) rfl (by rw [sl_eq]; omega) (fun d hd e he => by
          have hw := standing_any_sem (room := room) hrl d
          rw [r_stepc, he]
          simp! only [id, m_is_standing, hw]
          exact ⟨_, rfl, rfl⟩)
      rw [fm_map] at this
      rw [this, List.map_map]
      rfl
    have hr : rowsOK room (.list ds) = (ds.map (standB room)).all id := by
      show ds.all (standB room) = _
      rw [List.all_map]
      rfl
    rw [hr]
    simp! only [hc]
  · have h1 : kindOf .list t = false := by
      cases t <;> first | rfl | exact absurd ⟨_, rfl⟩ ht
    have h2 : rowsOK room t = false := by
      cases t <;> first | rfl | exact absurd ⟨_, rfl⟩ ht
    rw [h2]
    simp! only [h1]
theorem at_last {α : Type} {g : α → D} {xs : List α} {x : α} (h : xs.getLast? = some x) : atD (xs.map g) (-1) = some (g x) := by
  unfold atD
  have hne : 0 < xs.length := List.length_pos_iff.mpr fun z => by rw [z] at h; cases h
  rw [if_neg (by decide), if_pos (by rw [List.length_map]; omega), List.length_map]
  have : ((xs.length : Int) + -1).toNat = xs.length - 1 := by omega
  rw [this, List.getElem?_map, ← List.getLast?_eq_getElem?, h]
  rfl
theorem at_first {α : Type} {g : α → D} {xs : List α} {x : α} (h : xs.head? = some x) : atD (xs.map g) 0 = some (g x) := by
  rw [List.head?_eq_getElem?] at h
  exact at_nat (i := 0) h
theorem notin_rows {x : List Int} {S : SS} : prim .notin [tupI x, .list (S.map tupI)] = some (false, .bool (!S.contains x)) := by
  show (pIn (tupI x) (.list (S.map tupI))).map (fun b => (false, PyData.bool (!b))) = _
  have h1 : SeqAt.shaped (.list (S.map tupI)) = true := shp_rowsC (S := S)
  have h2 : pIn (tupI x) (.list (S.map tupI)) = if (SeqAt.shaped (tupI x) && SeqAt.shaped (.list (S.map tupI))) = true then some ((S.map tupI).any fun z => PyData.eqv z (tupI x)) else none := rfl
  rw [h2, h1, sh_tupI]
  have h3 : ((S.map tupI).any fun z => PyData.eqv z (tupI x)) = S.contains x := by
    rw [List.any_map, List.contains_eq_any_beq]
    congr 1
    funext y
    show PyData.eqv (tupI y) (tupI x) = (x == y)
    rw [eqv_tupI]
    by_cases h : y = x
    · subst h
      simp
    · rw [decide_eq_false h]
      exact (beq_eq_false_iff_ne.mpr (Ne.symm h)).symm
  rw [h3]
  rfl
theorem lets_way_sem {room x y hs : List Int} {B : List Wi} {hd t : D} (hrl : room.length ≤ 100) (hB : ∀ w ∈ B, WishB room w) (hl : B.length < 900) (hh : hd = .tuple (hs.map .int) ∨ (hd = .none ∧ hs = [])) (htl : ∀ ds, t = .list ds → ds.length ≤ 100000) :
    ∃ b, f_lets_way.sem [tupI room, .tuple (B.map wishD), tupI x, tupI y, t, hd] = .ok false (.bool b) [] ∧ (b = true ↔ ∃ T : SS, t = .list (T.map tupI) ∧ (∀ k ∈ T, InRoom room k) ∧ WayOk (fun u => betS hs u B) x y T) := by
  rw [e_lets_way, runF_eq rfl (by decide)]
  have has := are_standings_sem (room := room) (by omega) t htl
  cases hr : rowsOK room t with
  | false =>
    refine ⟨false, ?_, ⟨fun h => (by cases h), fun ⟨T, h1, h2, _⟩ => by rw [h1, rowsOK_of h2] at hr; cases hr⟩⟩
    rw [hr] at has
    unfold b_lets_way
    simp! only [m_are_standings, has]
  | true =>
    obtain ⟨T, rfl, hT⟩ := rowsOK_inv hr
    rw [hr] at has
    have hTl : T.length ≤ 100000 := by
      have := htl _ rfl
      rwa [List.length_map] at this
    have inj : ∀ T' : SS, PyData.list (T.map tupI) = .list (T'.map tupI) → T' = T := fun T' e => by
      injection e with e
      have hi : ∀ a b : List Int, tupI a = tupI b → a = b := fun a b h => by
        unfold tupI at h
        injection h with h
        exact (List.map_inj_right (fun a b h => by injection h)).mp h
      exact (List.map_inj_right hi).mp e.symm
    have no : ∀ {P : Prop}, (WayOk (fun u => betS hs u B) x y T → P) → (∃ T' : SS, PyData.list (T.map tupI) = .list (T'.map tupI) ∧ (∀ k ∈ T', InRoom room k) ∧ WayOk (fun u => betS hs u B) x y T') → P := fun hP ⟨T', e, _, h⟩ => hP (inj T' e ▸ h)
    have hlen := len_map (g := tupI) (xs := T)
    by_cases h2 : 2 ≤ T.length
    · have h2i : ¬ (T.length : Int) < 2 := by omega
      obtain ⟨u, hu⟩ : ∃ u, T.head? = some u := by
        cases T with
        | nil => simp at h2
        | cons a r => exact ⟨a, rfl⟩
      obtain ⟨v, hv⟩ : ∃ v, T.getLast? = some v := ⟨_, List.getLast?_eq_some_getLast (by intro z; rw [z] at h2; simp at h2)⟩
      have a1 := at_first (g := tupI) hu
      have a2 := at_last (g := tupI) hv
      by_cases hux : u = x
      · have d1 : decide (u = x) = true := decide_eq_true hux
        by_cases hvy : v = y
        · have d2 : decide (v = y) = true := decide_eq_true hvy
          have hrg : rngD 1 (T.length : Int) = some ((List.range (T.length - 1)).map fun (k : Nat) => .int (((1 + k : Nat) : Int))) := rngN (n := 1) (by decide) (by omega)
          have key : (∃ e', kSs [f_are_standings, f_betterings] [.ret (.lit (.bool true))] (forL (stepF [f_are_standings, f_betterings] (.nm 6) [
    .iff (.cm .notin (.ix (.var 4) (.var 6)) (.call 1 [(.var 0), (.var 1), (.ix (.var 4) (.bi .sub (.var 6) (.lit (.int 1)))), (.var 5)] [])) [
      .ret (.lit (.bool false))] []]) ((List.range (T.length - 1)).map fun (k : Nat) => PyData.int (((1 + k : Nat) : Int))) [some ⟨.sh, tupI room⟩, some ⟨.sh, .tuple (B.map wishD)⟩, some ⟨.sh, tupI x⟩, some ⟨.sh, tupI y⟩, some ⟨.sh, .list (T.map tupI)⟩, some ⟨.sh, hd⟩, none]) = .rt false (.bool true) e' ∧ Chn (fun u => betS hs u B) T) ∨
              (∃ e', kSs [f_are_standings, f_betterings] [.ret (.lit (.bool true))] (forL (stepF [f_are_standings, f_betterings] (.nm 6) [
    .iff (.cm .notin (.ix (.var 4) (.var 6)) (.call 1 [(.var 0), (.var 1), (.ix (.var 4) (.bi .sub (.var 6) (.lit (.int 1)))), (.var 5)] [])) [
      .ret (.lit (.bool false))] []]) ((List.range (T.length - 1)).map fun (k : Nat) => PyData.int (((1 + k : Nat) : Int))) [some ⟨.sh, tupI room⟩, some ⟨.sh, .tuple (B.map wishD)⟩, some ⟨.sh, tupI x⟩, some ⟨.sh, tupI y⟩, some ⟨.sh, .list (T.map tupI)⟩, some ⟨.sh, hd⟩, none]) = .rt false (.bool false) e' ∧ ¬ Chn (fun u => betS hs u B) T) := by
            generalize hL : forL _ _ _ = L
            rcases forL_useR hL (fun i e => ∃ y6, e = [some ⟨.sh, tupI room⟩, some ⟨.sh, .tuple (B.map wishD)⟩, some ⟨.sh, tupI x⟩, some ⟨.sh, tupI y⟩, some ⟨.sh, .list (T.map tupI)⟩, some ⟨.sh, hd⟩, y6] ∧ ShN y6 ∧ ∀ j a b, j < i → T[j]? = some a → T[j + 1]? = some b → b ∈ betS hs a B) (fun o => ∃ e', o = .rt false (.bool false) e' ∧ ¬ Chn (fun u => betS hs u B) T) ⟨none, rfl, shn0, fun j a b h => by omega⟩ (by
              intro i z e hx hI
              obtain ⟨y6, rfl, s6, hch⟩ := hI
              obtain ⟨rfl, hi⟩ := rng_at hx
              have hi1 : T[i]? = some (T[i]'(by omega)) := List.getElem?_eq_getElem _
              have hi2 : T[i + 1]? = some (T[i + 1]'(by omega)) := List.getElem?_eq_getElem _
              have hm1 := hT _ (List.getElem_mem (by omega : i < T.length))
              generalize T[i]'(by omega) = a at hi1 hm1
              generalize T[i + 1]'(by omega) = b at hi2
              have t1 : atD (T.map tupI) ((1 + i : Nat) : Int) = some (tupI b) := at_nat (by rw [Nat.add_comm]; exact hi2)
              have t2 : atD (T.map tupI) (((1 + i : Nat) : Int) - 1) = some (tupI a) := by
                have e : (((1 + i : Nat) : Int) - 1) = (i : Int) := by omega
                rw [e]
                exact at_nat (g := tupI) hi1
              have hbt := betterings_sem (hs := hs) hrl hm1 hB hl hh
              have hni := notin_rows (x := b) (S := betS hs a B)
              generalize hS : stepF _ _ _ _ _ = S
              cases hc : (betS hs a B).contains b with
              | true =>
                rw [hc] at hni
                simp! only [s6, ix_l, t1, t2, m_betterings, hbt, hni] at hS
                subst hS
                refine .inl ⟨_, .inl rfl, _, rfl, shn1, fun j p q hj hp hq => ?_⟩
                by_cases e : j = i
                · subst e
                  rw [hi1] at hp
                  rw [hi2] at hq
                  cases hp
                  cases hq
                  exact List.contains_iff_mem.mp hc
                · exact hch j p q (by omega) hp hq
              | false =>
                rw [hc] at hni
                simp! only [s6, ix_l, t1, t2, m_betterings, hbt, hni] at hS
                subst hS
                refine .inr ⟨_, _, _, rfl, _, rfl, fun h => ?_⟩
                have := List.contains_iff_mem.mpr (chn_at.mp h i a b hi1 hi2)
                rw [hc] at this
                cases this) with ⟨e', rfl, y6, rfl, s6, hch⟩ | ⟨f, d, e', rfl, e'', h1, h2⟩
            · left
              rw [List.length_map, List.length_range] at hch
              refine ⟨_, by simp! only []; rfl, chn_at.mpr fun i a b ha hb => hch i a b ?_ ha hb⟩
              have := (List.getElem?_eq_some_iff.mp hb).1
              omega
            · right
              rw [h1]
              exact ⟨_, by simp! only []; rfl, h2⟩
          rcases key with ⟨e', hk, hch⟩ | ⟨e', hk, hch⟩
          · refine ⟨true, ?_, ⟨fun _ => ⟨T, rfl, hT, ⟨h2, by rw [hu, hux], by rw [hv, hvy], hch⟩⟩, fun _ => rfl⟩⟩
            unfold b_lets_way
            simp! only [m_are_standings, has, hlen, h2i, ix_l, a1, a2, d1, d2, hrg]
            rw [hk]
            simp! only [lastMs]
          · refine ⟨false, ?_, ⟨fun h => (by cases h), no fun h => absurd h.ch hch⟩⟩
            unfold b_lets_way
            simp! only [m_are_standings, has, hlen, h2i, ix_l, a1, a2, d1, d2, hrg]
            rw [hk]
            simp! only [lastMs]
        · have d2 : decide (v = y) = false := decide_eq_false hvy
          refine ⟨false, ?_, ⟨fun h => (by cases h), no fun h => absurd (Option.some.inj (hv.symm.trans h.la)) hvy⟩⟩
          unfold b_lets_way
          simp! only [m_are_standings, has, hlen, h2i, ix_l, a1, a2, d1, d2]
      · have d1 : decide (u = x) = false := decide_eq_false hux
        refine ⟨false, ?_, ⟨fun h => (by cases h), no fun h => absurd (Option.some.inj (hu.symm.trans h.hd)) hux⟩⟩
        unfold b_lets_way
        simp! only [m_are_standings, has, hlen, h2i, ix_l, a1, a2, d1]
    · have h2i : (T.length : Int) < 2 := by omega
      refine ⟨false, ?_, ⟨fun h => (by cases h), no fun h => absurd h.two h2⟩⟩
      unfold b_lets_way
      simp! only [m_are_standings, has, hlen, h2i]
end CM

/-! PM39: shut sets looked at; held boxes, pairs, rooms of the second pen. -/
namespace CM
open PySem PD
theorem p_let {a b : List Int} : prim .le [tupI a, tupI b] = some (false, .bool (!HT.lexLt b a)) := by
  show pLe (.tuple (a.map .int)) (.tuple (b.map .int)) = _
  show (match intsOf (a.map .int), intsOf (b.map .int) with | some ns, some ms => bo (!HT.lexLt ms ns) | _, _ => none) = _
  rw [intsOf_map, intsOf_map]
  rfl
theorem up_at {T : SS} : (T.Pairwise fun a b => HT.lexLt a b = true) ↔ ∀ i a b, T[i]? = some a → T[i + 1]? = some b → HT.lexLt a b = true := by
  constructor
  · intro h i a b ha hb
    obtain ⟨h1, h2⟩ := List.getElem?_eq_some_iff.mp ha
    obtain ⟨h3, h4⟩ := List.getElem?_eq_some_iff.mp hb
    have := List.pairwise_iff_getElem.mp h i (i + 1) h1 h3 (by omega)
    rw [h2, h4] at this
    exact this
  · intro h
    refine List.pairwise_iff_getElem.mpr fun i j hi hj hij => ?_
    have key : ∀ n (hn : i + n + 1 < T.length), HT.lexLt T[i] T[i + n + 1] = true := by
      intro n
      induction n with
      | zero => exact fun hn => h i _ _ (List.getElem?_eq_getElem hi) (List.getElem?_eq_getElem hn)
      | succ n ih =>
        intro hn
        exact lt_trans (ih (by omega)) (h (i + n + 1) _ _ (List.getElem?_eq_getElem (by omega)) (List.getElem?_eq_getElem hn))
    have := key (j - i - 1) (by omega)
    have e : i + (j - i - 1) + 1 = j := by omega
    simp only [e] at this
    exact this
theorem are_rising_sem {T : SS} (hTl : T.length ≤ 100000) : ∃ b, f_are_rising.sem [.list (T.map tupI)] = .ok false (.bool b) [] ∧ (b = true ↔ T.Pairwise fun a b => HT.lexLt a b = true) := by
  rw [e_are_rising, runF_eq rfl (by decide)]
  have hrg : rngD 1 (T.length : Int) = some ((List.range (T.length - 1)).map fun (k : Nat) => .int (((1 + k : Nat) : Int))) := rngN (n := 1) (by decide) (by omega)
  have hlen := len_map (g := tupI) (xs := T)
  unfold b_are_rising
  simp! only [hlen, hrg]
  generalize hL : forL _ _ _ = L
  rcases forL_useR hL (fun i e => ∃ y1, e = [some ⟨.sh, .list (T.map tupI)⟩, y1] ∧ ShN y1 ∧ ∀ j a b, j < i → T[j]? = some a → T[j + 1]? = some b → HT.lexLt a b = true) (fun o => ∃ e', o = .rt false (.bool false) e' ∧ ¬ T.Pairwise fun a b => HT.lexLt a b = true) ⟨none, rfl, shn0, fun j a b h => by omega⟩ (by
    intro i z e hx hI
    obtain ⟨y1, rfl, s1, hch⟩ := hI
    obtain ⟨rfl, hi⟩ := rng_at hx
    have hi1 : T[i]? = some (T[i]'(by omega)) := List.getElem?_eq_getElem _
    have hi2 : T[i + 1]? = some (T[i + 1]'(by omega)) := List.getElem?_eq_getElem _
    generalize T[i]'(by omega) = a at hi1
    generalize T[i + 1]'(by omega) = b at hi2
    have t1 : atD (T.map tupI) ((1 + i : Nat) : Int) = some (tupI b) := at_nat (by rw [Nat.add_comm]; exact hi2)
    have t2 : atD (T.map tupI) (((1 + i : Nat) : Int) - 1) = some (tupI a) := by
      have e : (((1 + i : Nat) : Int) - 1) = (i : Int) := by omega
      rw [e]
      exact at_nat (g := tupI) hi1
    have hle := p_let (a := b) (b := a)
    generalize hS : stepF _ _ _ _ _ = S
    cases hc : HT.lexLt a b with
    | true =>
      rw [hc] at hle
      simp! only [s1, ix_l, t1, t2, hle] at hS
      subst hS
      refine .inl ⟨_, .inl rfl, _, rfl, shn1, fun j p q hj hp hq => ?_⟩
      by_cases e : j = i
      · subst e
        rw [hi1] at hp
        rw [hi2] at hq
        cases hp
        cases hq
        exact hc
      · exact hch j p q (by omega) hp hq
    | false =>
      rw [hc] at hle
      simp! only [s1, ix_l, t1, t2, hle] at hS
      subst hS
      refine .inr ⟨_, _, _, rfl, _, rfl, fun h => ?_⟩
      have := up_at.mp h i a b hi1 hi2
      rw [hc] at this
      cases this) with ⟨e', rfl, y1, rfl, s1, hch⟩ | ⟨f, d, e', rfl, e'', h1, h2⟩
  · rw [List.length_map, List.length_range] at hch
    refine ⟨true, by simp! only [lastMs], ⟨fun _ => up_at.mpr fun i a b ha hb => hch i a b ?_ ha hb, fun _ => rfl⟩⟩
    have := (List.getElem?_eq_some_iff.mp hb).1
    omega
  · rw [h1]
    exact ⟨false, by simp! only [lastMs], ⟨fun h => (by cases h), fun h => absurd h h2⟩⟩
theorem dict_rows : ∀ {T : SS} {acc : Kvs}, ((acc.map (·.1)) ++ T).Nodup → ((T.map fun (k : List Int) => (tupI k, PyData.bool true)).foldl (fun (acc : List (D × D)) (p : D × D) => dSet acc p.1 p.2) (acc.map fun (p : List Int × D) => (tupI p.1, p.2))) = (acc ++ T.map fun (k : List Int) => (k, PyData.bool true)).map fun (p : List Int × D) => (tupI p.1, p.2)
  | [], acc, _ => by simp
  | k :: T, acc, h => by
    have hk : hasK acc k = false := by
      cases e : hasK acc k with
      | false => rfl
      | true =>
        have := List.nodup_append.mp h
        exact absurd rfl (this.2.2 k (hasK_mem.mp e) k List.mem_cons_self)
    rw [List.map_cons, List.foldl_cons]
    have h1 : dSet (acc.map fun (p : List Int × D) => (tupI p.1, p.2)) (tupI k) (.bool true) = (acc ++ [(k, PyData.bool true)]).map fun (p : List Int × D) => (tupI p.1, p.2) := by
      unfold dSet
      rw [any_hasK, hk, if_neg Bool.false_ne_true, List.map_append]
      rfl
    rw [h1, dict_rows (T := T) (acc := acc ++ [(k, PyData.bool true)]) (by
      rw [List.map_append, List.append_assoc]
      exact h)]
    rw [List.append_assoc]
    rfl
theorem pairs_rows : ∀ {T : SS}, pairsD true (T.map fun (k : List Int) => PyData.tuple [tupI k, .bool true]) = some (T.map fun (k : List Int) => (tupI k, PyData.bool true))
  | [] => rfl
  | k :: T => by
    have hk : keyOk true (tupI k) = true := by
      show (k.map PyData.int).all keyAt = true
      rw [List.all_map]
      exact List.all_eq_true.mpr fun _ _ => rfl
    rw [List.map_cons, pairsD, if_pos hk, pairs_rows]
    rfl
theorem dicT_rows {T : SS} (hn : T.Nodup) (hl : T.length ≤ 100000) : prim .dictT [.list (T.map fun (k : List Int) => PyData.tuple [tupI k, .bool true])] = some (true, dicT (T.map fun (k : List Int) => (k, PyData.bool true))) := by
  show pDic true (T.map fun (k : List Int) => PyData.tuple [tupI k, .bool true]) = _
  unfold pDic
  rw [if_pos (by rw [List.length_map, sl_eq]; omega), pairs_rows]
  show some (true, mkDic true (T.map fun (k : List Int) => (tupI k, PyData.bool true))) = _
  unfold mkDic
  have := dict_rows (T := T) (acc := []) (by simpa using hn)
  rw [List.map_nil] at this
  rw [this, List.nil_append]
  rfl
def shutIn : List IS := [
      .iff (.or [(.cm .eq (.var 8) (.var 3)), (.cm .notin (.var 8) (.var 6))]) [
        .ret (.lit (.bool false))] []]
def ES (room x y : List Int) (bk hd : D) (T : SS) (y7 y8 : Option Sl) : En := [some ⟨.sh, tupI room⟩, some ⟨.sh, bk⟩, some ⟨.sh, tupI x⟩, some ⟨.sh, tupI y⟩, some ⟨.sh, .list (T.map tupI)⟩, some ⟨.sh, hd⟩, some ⟨.own, dicT (T.map fun (k : List Int) => (k, PyData.bool true))⟩, y7, y8]
theorem shut_in {F : List Fn} {room x y : List Int} {bk hd : D} {T : SS} {y7 : Option Sl} : ∀ (l : SS) (y8 : Option Sl), ShN y8 →
    (∃ z8, forL (stepF F (.nm 8) shutIn) (l.map tupI) (ES room x y bk hd T y7 y8) = .nx (ES room x y bk hd T y7 z8) ∧ ShN z8 ∧ ∀ t ∈ l, t ≠ y ∧ t ∈ T) ∨
    ∃ e', forL (stepF F (.nm 8) shutIn) (l.map tupI) (ES room x y bk hd T y7 y8) = .rt false (.bool false) e' ∧ ∃ t ∈ l, ¬ (t ≠ y ∧ t ∈ T)
  | [], y8, s8 => .inl ⟨y8, rfl, s8, fun t h => by cases h⟩
  | t :: l, y8, s8 => by
    have hni := dic_notin (kvs := T.map fun (k : List Int) => (k, PyData.bool true)) (k := t)
    rw [hasK_true] at hni
    simp only [List.map_cons, forL]
    generalize hS : stepF _ _ _ _ _ = S
    by_cases h1 : t = y
    · have d1 : decide (t = y) = true := decide_eq_true h1
      unfold shutIn ES at hS
      simp! only [s8, d1] at hS
      subst hS
      exact .inr ⟨_, rfl, t, List.mem_cons_self, fun z => z.1 h1⟩
    · have d1 : decide (t = y) = false := decide_eq_false h1
      cases hc : T.contains t with
      | true =>
        rw [hc] at hni
        unfold shutIn ES at hS
        simp! only [s8, d1, hni] at hS
        subst hS
        rcases shut_in (F := F) (room := room) (x := x) (y := y) (bk := bk) (hd := hd) (T := T) (y7 := y7) l (some ⟨.sh, tupI t⟩) shn1 with ⟨z8, h2, h3, h4⟩ | ⟨e', h2, u, h3, h4⟩
        · refine .inl ⟨z8, h2, h3, fun u hu => ?_⟩
          rcases List.mem_cons.mp hu with rfl | hu
          · exact ⟨h1, List.contains_iff_mem.mp hc⟩
          · exact h4 u hu
        · exact .inr ⟨e', h2, u, List.mem_cons_of_mem _ h3, h4⟩
      | false =>
        rw [hc] at hni
        unfold shutIn ES at hS
        simp! only [s8, d1, hni] at hS
        subst hS
        refine .inr ⟨_, rfl, t, List.mem_cons_self, fun z => ?_⟩
        rw [List.contains_iff_mem.mpr z.2] at hc
        cases hc
theorem lets_shut_sem {room x y hs : List Int} {B : List Wi} {hd t : D} (hrl : room.length ≤ 100) (hB : ∀ w ∈ B, WishB room w) (hl : B.length < 900) (hh : hd = .tuple (hs.map .int) ∨ (hd = .none ∧ hs = [])) (htl : ∀ ds, t = .list ds → ds.length ≤ 100000) :
    ∃ b, f_lets_shut.sem [tupI room, .tuple (B.map wishD), tupI x, tupI y, t, hd] = .ok false (.bool b) [] ∧ (b = true ↔ ∃ T : SS, t = .list (T.map tupI) ∧ (∀ k ∈ T, InRoom room k) ∧ ShutOk (fun u => betS hs u B) x y T) := by
  rw [e_lets_shut, runF_eq rfl (by decide)]
  have has := are_standings_sem (room := room) (by omega) t htl
  cases hr : rowsOK room t with
  | false =>
    refine ⟨false, ?_, ⟨fun h => (by cases h), fun ⟨T, h1, h2, _⟩ => by rw [h1, rowsOK_of h2] at hr; cases hr⟩⟩
    rw [hr] at has
    unfold b_lets_shut
    simp! only [m_are_standings, has]
  | true =>
    obtain ⟨T, rfl, hT⟩ := rowsOK_inv hr
    rw [hr] at has
    have hTl : T.length ≤ 100000 := by
      have := htl _ rfl
      rwa [List.length_map] at this
    have inj : ∀ T' : SS, PyData.list (T.map tupI) = .list (T'.map tupI) → T' = T := fun T' e => by
      injection e with e
      have hi : ∀ a b : List Int, tupI a = tupI b → a = b := fun a b h => by
        unfold tupI at h
        injection h with h
        exact (List.map_inj_right (fun a b h => by injection h)).mp h
      exact (List.map_inj_right hi).mp e.symm
    have no : ∀ {P : Prop}, (ShutOk (fun u => betS hs u B) x y T → P) → (∃ T' : SS, PyData.list (T.map tupI) = .list (T'.map tupI) ∧ (∀ k ∈ T', InRoom room k) ∧ ShutOk (fun u => betS hs u B) x y T') → P := fun hP ⟨T', e, _, h⟩ => hP (inj T' e ▸ h)
    obtain ⟨b, hri, hrb⟩ := are_rising_sem hTl
    cases b with
    | false =>
      refine ⟨false, ?_, ⟨fun h => (by cases h), no fun h => hrb.mpr h.up⟩⟩
      unfold b_lets_shut
      simp! only [m_are_standings, has, m_are_rising, hri]
    | true =>
      have hup := hrb.mp rfl
      have hnd : T.Nodup := hup.imp fun {a b} h z => by
        rw [z, lt_irr] at h
        cases h
      have hdic := dicT_rows hnd hTl
      have hc : evE [f_are_standings, f_are_rising, f_betterings] (.comp (.tup [(.var 7), (.lit (.bool true))]) (.nm 7) (.seq (.var 4)) [] [7]) [some ⟨.sh, tupI room⟩, some ⟨.sh, .tuple (B.map wishD)⟩, some ⟨.sh, tupI x⟩, some ⟨.sh, tupI y⟩, some ⟨.sh, .list (T.map tupI)⟩, some ⟨.sh, hd⟩, none, none, none] =
          .ok (.val true (.list (T.map fun k => PyData.tuple [tupI k, .bool true]))) [some ⟨.sh, tupI room⟩, some ⟨.sh, .tuple (B.map wishD)⟩, some ⟨.sh, tupI x⟩, some ⟨.sh, tupI y⟩, some ⟨.sh, .list (T.map tupI)⟩, some ⟨.sh, hd⟩, none, none, none] := by
        have := evE_comp_map (F := [f_are_standings, f_are_rising, f_betterings]) (el := .tup [(.var 7), (.lit (.bool true))]) (pt := .nm 7) (src := .seq (.var 4)) (cs := []) (own := [7]) (e := [some ⟨.sh, tupI room⟩, some ⟨.sh, .tuple (B.map wishD)⟩, some ⟨.sh, tupI x⟩, some ⟨.sh, tupI y⟩, some ⟨.sh, .list (T.map tupI)⟩, some ⟨.sh, hd⟩, none, none, none]) (e1 := [some ⟨.sh, tupI room⟩, some ⟨.sh, .tuple (B.map wishD)⟩, some ⟨.sh, tupI x⟩, some ⟨.sh, tupI y⟩, some ⟨.sh, .list (T.map tupI)⟩, some ⟨.sh, hd⟩, none, none, none])
          (A := T) (h := tupI) (g := fun k => some (.tuple [tupI k, .bool true])) (by simp! only []) rfl (by rw [sl_eq]; omega) (fun k hk e he => by
            rw [r_stepc, he]
            simp! only []
            exact ⟨_, rfl, rfl⟩)
        rw [fm_map] at this
        exact this
      have hin := dic_in (kvs := T.map fun (k : List Int) => (k, PyData.bool true)) (k := x)
      rw [hasK_true] at hin
      unfold b_lets_shut
      simp! only [m_are_standings, has, m_are_rising, hri, hc, hdic]
      generalize hL : forL _ _ _ = L
      rcases forL_useR hL (fun i e => ∃ y7 y8, e = ES room x y (.tuple (B.map wishD)) hd T y7 y8 ∧ ShN y7 ∧ ShN y8 ∧ ∀ j z, j < i → T[j]? = some z → ∀ t ∈ betS hs z B, t ≠ y ∧ t ∈ T) (fun o => ∃ e', o = .rt false (.bool false) e' ∧ ¬ ∀ z ∈ T, ∀ t ∈ betS hs z B, t ≠ y ∧ t ∈ T) ⟨none, none, rfl, shn0, shn0, fun j a h => by omega⟩ (by
        intro i d e hx hI
        obtain ⟨y7, y8, rfl, s7, s8, hch⟩ := hI
        obtain ⟨z, hz, rfl⟩ := map_at hx
        have hzm := List.mem_of_getElem? hz
        have hbt := betterings_sem (hs := hs) hrl (hT z hzm) hB hl hh
        generalize hS : stepF _ _ _ _ _ = S
        rcases shut_in (F := [f_are_standings, f_are_rising, f_betterings]) (room := room) (x := x) (y := y) (bk := .tuple (B.map wishD)) (hd := hd) (T := T) (y7 := some ⟨.sh, tupI z⟩) (betS hs z B) y8 s8 with ⟨z8, h2, h3, h4⟩ | ⟨e', h2, u, h3, h4⟩
        · unfold shutIn ES at h2
          unfold ES at hS
          simp! only [s7, m_betterings, hbt, h2] at hS
          subst hS
          refine .inl ⟨_, .inl rfl, _, _, rfl, shn1, h3, fun j p hj hp => ?_⟩
          by_cases e : j = i
          · subst e
            rw [hz] at hp
            cases hp
            exact h4
          · exact hch j p (by omega) hp
        · unfold shutIn ES at h2
          unfold ES at hS
          simp! only [s7, m_betterings, hbt, h2] at hS
          subst hS
          exact .inr ⟨_, _, _, rfl, _, rfl, fun h => h4 (h z hzm u h3)⟩) with ⟨e', rfl, y7, y8, rfl, s7, s8, hch⟩ | ⟨f, d, e', rfl, e'', h1, h2⟩
      · rw [List.length_map] at hch
        have hall : ∀ z ∈ T, ∀ t ∈ betS hs z B, t ≠ y ∧ t ∈ T := fun z hz => by
          obtain ⟨j, hj, e⟩ := List.getElem_of_mem hz
          exact hch j z hj (by rw [List.getElem?_eq_getElem hj, e])
        refine ⟨T.contains x, ?_, ⟨fun h => ⟨T, rfl, hT, ⟨hup, List.contains_iff_mem.mp h, hall⟩⟩, no fun h => List.contains_iff_mem.mpr h.mem⟩⟩
        unfold ES
        simp! only [hin, lastMs]
      · rw [h1]
        exact ⟨false, by simp! only [lastMs], ⟨fun h => (by cases h), no fun h => absurd h.shut h2⟩⟩
/-! held boxes -/
theorem held2_sem {b most : Int} {d : D} {room : List Int} (hp : Pn b d) (hb : b < 9000000) (R : Room most room) :
    ∃ (hd : D) (hs : List Int) (d' : D), f__law_held_v2.sem [d, tupI room] = .ok false hd [d'] ∧ Pn (b + 9) d' ∧ (hd = .tuple (hs.map .int) ∨ (hd = .none ∧ hs = [])) := by
  rw [e__law_held_v2, runF_eq rfl (by decide)]
  have hrl := R.len
  have hr0 : (0 : Int) ≤ (room.length : Int) := by omega
  have hr1 : (room.length : Int) < 4611686018427387904 := by omega
  obtain ⟨r, d1, e1, p1, r0, r1⟩ := take_sem hp (by omega) (show (0 : Int) < 3 by decide) (by decide)
  by_cases h0 : r = 0
  · have hd0 : decide (r = 0) = true := decide_eq_true h0
    refine ⟨.none, [], d1, ?_, p1.mono (by omega), .inr ⟨rfl, rfl⟩⟩
    unfold b__law_held_v2
    simp! only [m__law_take, e1, hd0]
  · have hd0 : decide (r = 0) = false := decide_eq_false h0
    have hc : ∃ W ds, evE [f__law_take] (.comp (.var 3) (.nm 3) (.rng (.fn .len [(.var 1)])) [(.and [(.cm .eq (.var 2) (.lit (.int 2))), (.cm .eq (.call 0 [(.var 0), (.lit (.int 3))] []) (.lit (.int 0)))])] [3]) [some ⟨.mu, d1⟩, some ⟨.sh, tupI room⟩, some ⟨.sh, .int r⟩, none] =
        .ok (.val true (.list ds)) (backE [some ⟨.mu, d1⟩, some ⟨.sh, tupI room⟩, some ⟨.sh, .int r⟩, none] W [3]) ∧ ∃ d' hs, W = [some ⟨.mu, d'⟩, some ⟨.sh, tupI room⟩, some ⟨.sh, .int r⟩, none] ∧ Pn (b + 1 + (room.length : Int)) d' ∧ ds = (hs : List Int).map .int := by
      have := evE_comp_st (F := [f__law_take]) (el := .var 3) (pt := .nm 3) (src := .rng (.fn .len [(.var 1)])) (cs := [(.and [(.cm .eq (.var 2) (.lit (.int 2))), (.cm .eq (.call 0 [(.var 0), (.lit (.int 3))] []) (.lit (.int 0)))])]) (own := [3]) (e := [some ⟨.mu, d1⟩, some ⟨.sh, tupI room⟩, some ⟨.sh, .int r⟩, none]) (e1 := [some ⟨.mu, d1⟩, some ⟨.sh, tupI room⟩, some ⟨.sh, .int r⟩, none])
        (A := List.range ((room.length : Int)).toNat) (h := fun (k : Nat) => PyData.int (k : Int)) (fun i W ds => ∃ d' hs, W = [some ⟨.mu, d'⟩, some ⟨.sh, tupI room⟩, some ⟨.sh, .int r⟩, none] ∧ Pn (b + 1 + (i : Int)) d' ∧ ds = (hs : List Int).map .int) (by simp! only [hr0, hr1]) rfl (by rw [sl_eq, List.length_range]; omega) ⟨d1, [], rfl, p1.mono (by omega), rfl⟩ (by
          intro i a e ds ha hI
          obtain ⟨d2, hs, hW, p2, rfl⟩ := hI
          have hi : i < (room.length : Int).toNat := by
            have := (List.getElem?_eq_some_iff.mp ha).1
            rwa [List.length_range] at this
          rw [r_stepc, hW]
          by_cases h2 : r = 2
          · have hd2 : decide (r = 2) = true := decide_eq_true h2
            obtain ⟨u, d3, e3, p3, u0, u1⟩ := take_sem p2 (by omega) (show (0 : Int) < 3 by decide) (by decide)
            by_cases hu : u = 0
            · have hdu : decide (u = 0) = true := decide_eq_true hu
              simp! only [hd2, m__law_take, e3, hdu]
              exact ⟨_, _, rfl, d3, hs ++ [(a : Int)], rfl, p3.mono (by omega), by rw [List.map_append]; rfl⟩
            · have hdu : decide (u = 0) = false := decide_eq_false hu
              simp! only [hd2, m__law_take, e3, hdu]
              exact ⟨_, _, rfl, d3, hs, rfl, p3.mono (by omega), by rw [Option.toList_none, List.append_nil]⟩
          · have hd2 : decide (r = 2) = false := decide_eq_false h2
            simp! only [hd2]
            exact ⟨_, _, rfl, d2, hs, rfl, p2.mono (by omega), by rw [Option.toList_none, List.append_nil]⟩)
      obtain ⟨W, ds, h1, d', hs, h2, h3, h4⟩ := this
      rw [List.length_range] at h3
      exact ⟨W, ds, h1, d', hs, h2, h3.mono (by omega), h4⟩
    obtain ⟨W, ds, hc, d', hs, rfl, p', rfl⟩ := hc
    refine ⟨.tuple (hs.map .int), hs, d', ?_, p'.mono (by omega), .inl rfl⟩
    unfold b__law_held_v2
    simp! only [m__law_take, e1, hd0, hc, backE, tup_l]
theorem room3_eq {d : D} {most : Int} (h : most ≠ 256) : f__law_room_v3.sem [d, .int most] = f__law_room_v2.sem [d, .int most] := by
  have hd : decide (most = 256) = false := decide_eq_false h
  rw [e__law_room_v3, e__law_room_v2, runF_eq rfl (by decide), runF_eq rfl (by decide)]
  have h1 : evSs [f__law_take, f__law_size] (b__law_room_v2.take 1) (startE [true, false] [d, .int most] 6) = .nx (startE [true, false] [d, .int most] 6) := by
    unfold b__law_room_v2
    simp! only [hd]
  rw [ss_split 1 h1]
  rfl
theorem room3_sem {b most : Int} {d : D} (hp : Pn b d) (hb : b < 9000000) (h4 : 4 ≤ most) (h64 : most ≤ 64) :
    ∃ ns d', f__law_room_v3.sem [d, .int most] = .ok false (tupI ns) [d'] ∧ Pn (b + 20) d' ∧ Room most ns := by
  rw [room3_eq (by omega)]
  exact room2g_sem hp hb h4 h64
/-! words -/
theorem eqv_str {x y : Str} : PyData.eqv (.str x) (.str y) = decide (x = y) := by
  rw [PyData.eqv]
  by_cases h : x = y
  · subst h
    simp
  · rw [decide_eq_false h]
    exact beq_eq_false_iff_ne.mpr h
theorem p_eqS {x y : Str} (h1 : SeqAt.shaped (.str x) = true) (h2 : SeqAt.shaped (.str y) = true) : prim .eq [.str x, .str y] = some (false, .bool (decide (x = y))) := by
  show (if (SeqAt.shaped (.str x) && SeqAt.shaped (.str y)) = true then bo (PyData.eqv (.str x) (.str y)) else none) = _
  rw [h1, h2, eqv_str]
  rfl
theorem p_neS {x y : Str} (h1 : SeqAt.shaped (.str x) = true) (h2 : SeqAt.shaped (.str y) = true) : prim .ne [.str x, .str y] = some (false, .bool (!decide (x = y))) := by
  show (if (SeqAt.shaped (.str x) && SeqAt.shaped (.str y)) = true then bo (!PyData.eqv (.str x) (.str y)) else none) = _
  rw [h1, h2, eqv_str]
  rfl
theorem ks_better : SeqAt.shaped (.str "better") = true := by decide +kernel
theorem ks_not : SeqAt.shaped (.str "not") = true := by decide +kernel
theorem eq_bb : prim .eq [.str "better", .str "better"] = some (false, .bool true) := by
  rw [p_eqS ks_better ks_better]
  rfl
theorem eq_nb : prim .eq [.str "not", .str "better"] = some (false, .bool false) := by
  rw [p_eqS ks_not ks_better]
  rfl
theorem eq_bn : prim .eq [.str "better", .str "not"] = some (false, .bool false) := by
  rw [p_eqS ks_better ks_not]
  rfl
theorem eq_nn : prim .eq [.str "not", .str "not"] = some (false, .bool true) := by
  rw [p_eqS ks_not ks_not]
  rfl
theorem ne_bb : prim .ne [.str "better", .str "better"] = some (false, .bool false) := by
  rw [p_neS ks_better ks_better]
  rfl
theorem ne_nb : prim .ne [.str "not", .str "better"] = some (false, .bool true) := by
  rw [p_neS ks_not ks_better]
  rfl
theorem ne_nn : prim .ne [.str "not", .str "not"] = some (false, .bool false) := by
  rw [p_neS ks_not ks_not]
  rfl
end CM

/-! PM40: ways turned about and put together; what is reached. -/
namespace CM
open PySem PD
theorem bd_0 {W : SS} : pIx (betterD W) (.int 0) = some (.str "better") := rfl
theorem bd_1 {W : SS} : pIx (betterD W) (.int 1) = some (.list (W.map tupI)) := rfl
theorem bd_sc {W : SS} : isSc (betterD W) = false := rfl
theorem nd_0 {W : SS} : pIx (notD W) (.int 0) = some (.str "not") := rfl
theorem nd_1 {W : SS} : pIx (notD W) (.int 1) = some (.list (W.map tupI)) := rfl
theorem nd_sc {W : SS} : isSc (notD W) = false := rfl
theorem set_back {ws : List Int} {i : Nat} {y : Int} (h : ws[i]? = some y) : ws.set i y = ws := by
  refine List.ext_getElem? fun j => ?_
  rw [List.getElem?_set]
  by_cases hj : i = j
  · subst hj
    rw [if_pos rfl, if_pos (List.getElem?_eq_some_iff.mp h).1, h]
  · rw [if_neg hj]
theorem goal_turn1 {room one other : List Int} {w : Wi} (h : WishB room w) (e : goalW w one = some other) : goalW (turnW w) other = some one := by
  unfold goalW at e
  split at e
  · rename_i q
    cases e
    have hlt : w.b.toNat < one.length := (List.getElem?_eq_some_iff.mp q.1).1
    unfold goalW turnW
    rw [if_pos]
    · rw [List.set_set]
      show some (one.set w.b.toNat w.y) = some one
      rw [set_back q.1]
    · refine ⟨List.getElem?_set_self hlt, ?_⟩
      have hk := q.2
      unfold keepB at hk ⊢
      rw [List.all_eq_true] at hk ⊢
      intro p hp
      have h1 := hk p hp
      have h2 := h.ap p hp
      have h3 := (h.giv.box p hp).1
      have h4 := h.b0
      rw [decide_eq_true_eq] at h1 ⊢
      rw [List.getElem?_set_ne (by omega)]
      exact h1
  · cases e
theorem goal_turn {room one other : List Int} {w : Wi} (h : WishB room w) : goalW (turnW w) other = some one ↔ goalW w one = some other :=
  ⟨fun e => goal_turn1 (w := turnW w) h.turn e, fun e => goal_turn1 h e⟩
theorem turn_in {room : List Int} {B : List Wi} (hB : ∀ w ∈ B, WishB room w) : ∀ w ∈ B.map turnW, WishB room w := fun w hw => by
  obtain ⟨v, hv, rfl⟩ := List.mem_map.mp hw
  exact (hB v hv).turn
theorem turn_mem {room hs u v : List Int} {B : List Wi} (hB : ∀ w ∈ B, WishB room w) : v ∈ betS hs u (B.map turnW) ↔ u ∈ betS hs v B := by
  rw [betS_mem, betS_mem]
  constructor
  · rintro ⟨w, hw, h1, h2⟩
    obtain ⟨z, hz, rfl⟩ := List.mem_map.mp hw
    exact ⟨z, hz, (goal_turn (hB z hz)).mp h1, h2⟩
  · rintro ⟨w, hw, h1, h2⟩
    exact ⟨turnW w, List.mem_map_of_mem hw, (goal_turn (hB w hw)).mpr h1, h2⟩
theorem wy_turn {f g : List Int → SS} (h : ∀ u v, v ∈ f u → u ∈ g v) {x y : List Int} {n : Nat} (w : Wy f x n y) : Wy g y n x := by
  induction w with
  | base q => exact .base (h _ _ q)
  | step _ q ih => exact Wy.front (h _ _ q) ih
theorem chn_turn {f g : List Int → SS} (h : ∀ u v, v ∈ f u → u ∈ g v) : ∀ {l : SS}, Chn f l → Chn g l.reverse
  | [], _ => trivial
  | [_], _ => trivial
  | a :: b :: l, hc => by
    have h1 := chn_turn h (l := b :: l) hc.2
    rw [List.reverse_cons] at h1
    rw [List.reverse_cons, List.reverse_cons]
    exact chn_snoc (h _ _ hc.1) h1
theorem way_turn {f g : List Int → SS} (h : ∀ u v, v ∈ f u → u ∈ g v) {x y : List Int} {W : SS} (w : WayOk f x y W) : WayOk g y x W.reverse :=
  ⟨by rw [List.length_reverse]; exact w.two, by rw [List.head?_reverse]; exact w.la, by rw [List.getLast?_reverse]; exact w.hd, chn_turn h w.ch⟩
theorem chn_join {f : List Int → SS} {y : List Int} {r : SS} (h2 : Chn f (y :: r)) : ∀ {l : SS}, Chn f (l ++ [y]) → Chn f (l ++ y :: r)
  | [], _ => h2
  | [_], h => ⟨h.1, h2⟩
  | _ :: b :: l, h => ⟨h.1, chn_join h2 (l := b :: l) h.2⟩
theorem way_join {f : List Int → SS} {x y z : List Int} {V W : SS} (v : WayOk f x y V) (w : WayOk f y z W) : WayOk f x z (V ++ W.drop 1) := by
  have hv := split_last v.la
  obtain ⟨r, hr⟩ : ∃ r, W = y :: r := by
    cases hW : W with
    | nil => have := w.two; rw [hW] at this; simp at this
    | cons a r =>
      have := w.hd
      rw [hW] at this
      simp at this
      exact ⟨r, by rw [this]⟩
  have hrl : 1 ≤ r.length := by
    have := w.two
    rw [hr] at this
    simpa using this
  refine ⟨by rw [List.length_append]; have := v.two; omega, ?_, ?_, ?_⟩
  · have := v.hd
    cases V with
    | nil => cases this
    | cons a V => exact this
  · rw [hr]
    show (V ++ r).getLast? = some z
    have h1 := w.la
    rw [hr] at h1
    cases r with
    | nil => simp at hrl
    | cons c r =>
      rw [List.getLast?_cons_cons] at h1
      rw [List.getLast?_append, h1]
      rfl
  · rw [hr]
    show Chn f (V ++ r)
    have h1 := w.ch
    rw [hr] at h1
    have h2 := v.ch
    rw [hv] at h2 ⊢
    rw [List.append_assoc]
    exact chn_join h1 h2
theorem wy_mono {f g : List Int → SS} (h : ∀ u t, t ∈ f u → t ∈ g u) {x y : List Int} {n : Nat} (w : Wy f x n y) : Wy g x n y := by
  induction w with
  | base q => exact .base (h _ _ q)
  | step _ q ih => exact .step ih (h _ _ q)
theorem rch_mono {f g : List Int → SS} (h : ∀ u t, t ∈ f u → t ∈ g u) {x y : List Int} (w : Rch f x y) : Rch g x y := by
  obtain ⟨n, w⟩ := w.wy
  exact (wy_mono h w).rch
theorem reached_sem {room x hs : List Int} {B : List Wi} {hd : D} (R : Room 256 room) (X : InRoom room x) (hB : ∀ w ∈ B, WishB room w) (hl : B.length < 900) (hh : hd = .tuple (hs.map .int) ∨ (hd = .none ∧ hs = [])) (hsm : prodI room < 63) :
    ∃ S : SS, f_reached.sem [tupI room, .tuple (B.map wishD), tupI x, hd] = .ok true (.list (S.map tupI)) [] ∧ (∀ z, z ∈ S ↔ z = x ∨ Rch (fun u => betS hs u B) x z) ∧ (∀ z ∈ S, InRoom room z) ∧ S.length ≤ 256 ∧ S.Pairwise fun a b => HT.lexLt a b = true := by
  have hf : ∀ u, InRoom room u → ∀ t ∈ betS hs u B, InRoom room t := fun u hu t ht => (bet_in hu hB ht).1
  obtain ⟨s, hb, hsem⟩ := found_sem (hs := hs) R X hB hl hh
  obtain ⟨bs, hmem⟩ := bfs_spec X hf hb
  have hkf := keys_few R bs.knd fun k hk => by
    obtain ⟨p, hp, rfl⟩ := List.mem_map.mp hk
    exact bs.kin p hp
  rw [List.length_map] at hkf
  have hso := shut_of_sem R X bs.kin (by omega)
  have hS : ∀ z, z ∈ srtS HT.lexLt (dedL (x :: s.1.map (·.1))) ↔ z = x ∨ Rch (fun u => betS hs u B) x z := fun z => by
    rw [(srt_perm _).mem_iff, mem_dedC, List.mem_cons, ← hasK_mem, hmem]
  have hI : ∀ z ∈ srtS HT.lexLt (dedL (x :: s.1.map (·.1))), InRoom room z := fun z hz => by
    rw [(srt_perm _).mem_iff, mem_dedC, List.mem_cons] at hz
    rcases hz with rfl | hz
    · exact X
    · obtain ⟨p, hp, rfl⟩ := List.mem_map.mp hz
      exact bs.kin p hp
  have hup := srt_up (l := dedL (x :: s.1.map (·.1))) nodup_dedC
  have hn : (srtS HT.lexLt (dedL (x :: s.1.map (·.1)))).Nodup := (srt_perm _).nodup_iff.mpr nodup_dedC
  refine ⟨_, ?_, hS, hI, room_few R hn hI, hup⟩
  rw [e_reached, runF_eq rfl (by decide)]
  unfold b_reached
  generalize (srtS HT.lexLt (dedL (x :: s.1.map (·.1)))).map tupI = Z at *
  simp_arith only [m_found_from, hsem, sc_dicT, m_shut_of, hso]
end CM

/-! K21M: the law k21, plainly. -/
namespace K21
open PySem PD CM
theorem row_len (T : SS) (hT : T.length ≤ 1000) : ∀ ds, PyData.list (T.map tupI) = .list ds → ds.length ≤ 100000 := fun ds e => by
  injection e with e
  rw [← e, List.length_map]
  omega
theorem lw_true {room x y hs : List Int} {B : List Wi} {hd : D} {T : SS} (hrl : room.length ≤ 100) (hB : ∀ w ∈ B, WishB room w) (hl : B.length < 900) (hh : hd = .tuple (hs.map .int) ∨ (hd = .none ∧ hs = [])) (hT : T.length ≤ 1000) (hi : ∀ k ∈ T, InRoom room k) (h : WayOk (fun u => betS hs u B) x y T) :
    f_lets_way.sem [tupI room, .tuple (B.map wishD), tupI x, tupI y, .list (T.map tupI), hd] = .ok false (.bool true) [] := by
  obtain ⟨b, h1, h2⟩ := lets_way_sem (room := room) (x := x) (y := y) (t := .list (T.map tupI)) hrl hB hl hh (row_len T hT)
  rw [h1, h2.mpr ⟨T, rfl, hi, h⟩]
theorem way_small {room x y : List Int} {f : List Int → SS} {W : SS} (R : Room 256 room) (H : Better room f x y W) : W.length ≤ 257 := by
  have := H.few
  have := R.prod
  omega
theorem joined_sem {room x y z hs : List Int} {B : List Wi} {hd : D} (R : Room 256 room) (hsm : prodI room < 63) (X : InRoom room x) (Y : InRoom room y) (Z : InRoom room z) (hB : ∀ w ∈ B, WishB room w) (hl : B.length < 700) (hh : hd = .tuple (hs.map .int) ∨ (hd = .none ∧ hs = [])) :
    f__law_joined.sem [tupI room, .tuple (B.map wishD), .list [tupI x, tupI y, tupI z], hd] = .ok false (.bool true) [] := by
  rw [e__law_joined, runF_eq rfl (by decide)]
  have hrl := R.len
  rcases told_sem R X Y hB (by omega) hh (.inr hsm) with ⟨W1, t1, H1⟩ | ⟨S1, t1, H1⟩
  · rcases told_sem R Y Z hB (by omega) hh (.inr hsm) with ⟨W2, t2, H2⟩ | ⟨S2, t2, H2⟩
    · have hj := way_join H1.way H2.way
      have s1 := way_small R H1
      have s2 := way_small R H2
      rcases told_sem R X Z hB (by omega) hh (.inr hsm) with ⟨W3, t3, H3⟩ | ⟨S3, t3, H3⟩
      · have hle := H3.least _ (H1.way.wy.trans H2.way.wy)
        have l1 := H1.way.two
        have l2 := H2.way.two
        have hjl : (W1 ++ W2.drop 1).length = W1.length + (W2.length - 1) := by rw [List.length_append, List.length_drop]
        have hgt : ¬ ((W1 ++ W2.drop 1).length : Int) < (W3.length : Int) := by omega
        have hcut : cutD (W2.map tupI) (some 1) none = (W2.drop 1).map tupI := by
          rw [slB (by decide) (by rw [List.length_map]; omega), List.map_drop]
          rfl
        have hadd := add_rows (A := W1) (B := W2.drop 1) (by rw [List.length_drop]; omega)
        have hlw := lw_true (hd := hd) (T := W1 ++ W2.drop 1) (by omega) hB (by omega) hh (by omega) (fun k hk => by
          rcases List.mem_append.mp hk with h | h
          · exact H1.inr k h
          · exact H2.inr k (List.mem_of_mem_drop h)) hj
        have hl1 := len_map (g := tupI) (xs := W1 ++ W2.drop 1)
        have hl3 := len_map (g := tupI) (xs := W3)
        generalize hV : W1 ++ W2.drop 1 = V at *
        generalize W2.drop 1 = V2 at *
        unfold b__law_joined
        simp! only [m_told, t1, t2, t3, bd_0, bd_1, bd_sc, ne_bb, hcut, hadd, hl1, hl3, hgt, m_lets_way, hlw, ib11]
      · exact absurd hj.rch H3.no
    · unfold b__law_joined
      simp! only [m_told, t1, t2, bd_0, bd_sc, nd_0, nd_sc, ne_bb, ne_nb]
  · rcases told_sem R Y Z hB (by omega) hh (.inr hsm) with ⟨W2, t2, H2⟩ | ⟨S2, t2, H2⟩
    · unfold b__law_joined
      simp! only [m_told, t1, t2, bd_0, bd_sc, nd_0, nd_sc, ne_bb, ne_nb]
    · unfold b__law_joined
      simp! only [m_told, t1, t2, bd_0, bd_sc, nd_0, nd_sc, ne_bb, ne_nb]
theorem rev_rows {W : SS} : prim .rev [.list (W.map tupI)] = some (true, .list (W.reverse.map tupI)) := by
  rw [List.map_reverse]
  rfl
theorem back_sem {room x y hs : List Int} {B : List Wi} {hd : D} (R : Room 256 room) (hsm : prodI room < 63) (X : InRoom room x) (Y : InRoom room y) (hB : ∀ w ∈ B, WishB room w) (hl : B.length < 700) (hh : hd = .tuple (hs.map .int) ∨ (hd = .none ∧ hs = [])) :
    f__law_back.sem [tupI room, .tuple (B.map wishD), tupI x, tupI y, hd] = .ok false (.bool true) [] := by
  rw [e__law_back, runF_eq rfl (by decide)]
  have hrl := R.len
  have hT := turn_in hB
  have hTl : (B.map turnW).length < 700 := by rw [List.length_map]; exact hl
  have htu := turned_sem (B := B) (by omega)
  have fg : ∀ u v, v ∈ betS hs u B → u ∈ betS hs v (B.map turnW) := fun u v h => (turn_mem hB).mpr h
  have gf : ∀ u v, v ∈ betS hs u (B.map turnW) → u ∈ betS hs v B := fun u v h => (turn_mem hB).mp h
  rcases told_sem R X Y hB (by omega) hh (.inr hsm) with ⟨W1, t1, H1⟩ | ⟨S1, t1, H1⟩
  · rcases told_sem R Y X hT (by omega) hh (.inr hsm) with ⟨W2, t2, H2⟩ | ⟨S2, t2, H2⟩
    · have s1 := way_small R H1
      have s2 := way_small R H2
      have a1 := H2.least _ (wy_turn fg H1.way.wy)
      have a2 := H1.least _ (wy_turn gf H2.way.wy)
      have b1 := H1.way.two
      have b2 := H2.way.two
      have hle : decide ((W1.length : Int) = (W2.length : Int)) = true := decide_eq_true (by omega)
      have hl1 := len_map (g := tupI) (xs := W1)
      have hl2 := len_map (g := tupI) (xs := W2)
      have w1 := lw_true (hd := hd) (T := W1.reverse) (by omega) hT (by omega) hh (by rw [List.length_reverse]; omega) (fun k hk => H1.inr k (List.mem_reverse.mp hk)) (way_turn fg H1.way)
      have w2 := lw_true (hd := hd) (T := W2.reverse) (by omega) hB (by omega) hh (by rw [List.length_reverse]; omega) (fun k hk => H2.inr k (List.mem_reverse.mp hk)) (way_turn gf H2.way)
      have r1 := rev_rows (W := W1)
      have r2 := rev_rows (W := W2)
      generalize B.map turnW = BT at *
      generalize W1.reverse = V1 at *
      generalize W2.reverse = V2 at *
      unfold b__law_back
      simp! only [m_told, t1, m_turned, htu, sc_t, t2, bd_0, bd_1, bd_sc, ne_bb, eq_bn, hl1, hl2, hle, r1, r2, m_lets_way, w1, w2, nb11, ib11]
    · exact absurd (wy_turn fg H1.way.wy).rch H2.no
  · rcases told_sem R Y X hT (by omega) hh (.inr hsm) with ⟨W2, t2, H2⟩ | ⟨S2, t2, H2⟩
    · exact absurd (wy_turn gf H2.way.wy).rch H1.no
    · generalize B.map turnW = BT at *
      unfold b__law_back
      simp! only [m_told, t1, m_turned, htu, sc_t, t2, nd_0, nd_1, nd_sc, ne_nn, eq_nn]
theorem for_all_sem {room x y hs : List Int} {B : List Wi} {hd : D} (R : Room 256 room) (hsm : prodI room < 63) (X : InRoom room x) (Y : InRoom room y) (hB : ∀ w ∈ B, WishB room w) (hl : B.length < 700) (hh : hd = .tuple (hs.map .int) ∨ (hd = .none ∧ hs = [])) :
    f__law_shut_for_all.sem [tupI room, .tuple (B.map wishD), tupI x, tupI y, hd] = .ok false (.bool true) [] := by
  rw [e__law_shut_for_all, runF_eq rfl (by decide)]
  have hrl := R.len
  have hpr := R.prod
  rcases told_sem R X Y hB (by omega) hh (.inr hsm) with ⟨W1, t1, H1⟩ | ⟨S, t1, H⟩
  · unfold b__law_shut_for_all
    simp! only [m_told, t1, bd_0, bd_sc, eq_bb]
  · have hSn : S.Nodup := H.up.imp fun {a b} h z => by
      rw [z, lt_irr] at h
      cases h
    have hSl := keys_few R hSn H.inr
    have shut : ∀ z ∈ S, ∀ t ∈ betS hs z B, t ≠ y ∧ t ∈ S := fun z hz t ht => by
      have hr : Rch (fun u => betS hs u B) x t := by
        rcases (H.mem z).mp hz with rfl | h
        · exact .base ht
        · exact .step h ht
      exact ⟨fun e => H.no (e ▸ hr), (H.mem t).mpr (.inr hr)⟩
    have ls : ∀ z ∈ S, f_lets_shut.sem [tupI room, .tuple (B.map wishD), tupI z, tupI y, .list (S.map tupI), hd] = .ok false (.bool true) [] := fun z hz => by
      obtain ⟨c, h1, h2⟩ := lets_shut_sem (room := room) (x := z) (y := y) (t := .list (S.map tupI)) (by omega) hB (by omega) hh (row_len S (by omega))
      rw [h1, h2.mpr ⟨S, rfl, H.inr, ⟨H.up, hz, shut⟩⟩]
    unfold b__law_shut_for_all
    simp! only [m_told, t1, nd_0, nd_1, nd_sc, eq_nb]
    generalize hL : forL _ _ _ = L
    obtain ⟨e', rfl, y6, rfl, _⟩ := forL_use hL (fun i e => ∃ y6, e = [some ⟨.sh, tupI room⟩, some ⟨.sh, .tuple (B.map wishD)⟩, some ⟨.sh, tupI x⟩, some ⟨.sh, tupI y⟩, some ⟨.sh, hd⟩, some ⟨.sh, notD S⟩, y6] ∧ ShN y6) ⟨none, rfl, shn0⟩ (by
      intro i d e hx hI
      obtain ⟨y6, rfl, s6⟩ := hI
      obtain ⟨z, hz, rfl⟩ := map_at hx
      have hlz := ls z (List.mem_of_getElem? hz)
      generalize hS : stepF _ _ _ _ _ = Q
      simp! only [s6, nd_1, m_lets_shut, hlz, nb11] at hS
      subst hS
      exact ⟨_, rfl, _, rfl, shn1⟩)
    simp! only []
theorem more_sem {room x y hs : List Int} {B : List Wi} {hd : D} {w : Wi} (R : Room 256 room) (hsm : prodI room < 63) (X : InRoom room x) (Y : InRoom room y) (hB : ∀ w ∈ B, WishB room w) (hw : WishB room w) (hl : B.length < 700) (hh : hd = .tuple (hs.map .int) ∨ (hd = .none ∧ hs = [])) :
    f__law_more.sem [tupI room, .tuple (B.map wishD), tupI x, tupI y, hd, wishD w] = .ok false (.bool true) [] := by
  rw [e__law_more, runF_eq rfl (by decide)]
  have hrl := R.len
  have hB2 : ∀ v ∈ B ++ [w], WishB room v := fun v hv => by
    rcases List.mem_append.mp hv with h | h
    · exact hB v h
    · rw [List.mem_singleton.mp h]
      exact hw
  have hl2 : (B ++ [w]).length < 900 := by rw [List.length_append]; show _ + 1 < _; omega
  have hcat : prim .add [.tuple (B.map wishD), .tuple [wishD w]] = some (false, .tuple ((B ++ [w]).map wishD)) := by
    rw [List.map_append]
    exact cat_t (by rw [List.length_map]; show _ + 1 ≤ _; omega)
  have mono : ∀ u t, t ∈ betS hs u B → t ∈ betS hs u (B ++ [w]) := fun u t h => by
    obtain ⟨v, h1, h2⟩ := betS_mem.mp h
    exact betS_mem.mpr ⟨v, List.mem_append_left _ h1, h2⟩
  obtain ⟨S1, r1, m1, i1, l1, _⟩ := reached_sem (hs := hs) R X hB (by omega) hh hsm
  obtain ⟨S2, r2, m2, i2, l2, _⟩ := reached_sem (hs := hs) R X hB2 hl2 hh hsm
  have hcomp : ∀ (y6 y7 : Option Sl), evE [f_told, f_reached] (.comp (.var 9) (.nm 9) (.seq (.call 1 [(.var 0), (.var 1), (.var 2), (.var 4)] [])) [(.cm .notin (.var 9) (.var 8))] [9]) [some ⟨.sh, tupI room⟩, some ⟨.sh, .tuple (B.map wishD)⟩, some ⟨.sh, tupI x⟩, some ⟨.sh, tupI y⟩, some ⟨.sh, hd⟩, some ⟨.sh, wishD w⟩, y6, y7, some ⟨.own, .list (S2.map tupI)⟩, none] =
      .ok (.val true (.list [])) [some ⟨.sh, tupI room⟩, some ⟨.sh, .tuple (B.map wishD)⟩, some ⟨.sh, tupI x⟩, some ⟨.sh, tupI y⟩, some ⟨.sh, hd⟩, some ⟨.sh, wishD w⟩, y6, y7, some ⟨.own, .list (S2.map tupI)⟩, none] := by
    intro y6 y7
    have := evE_comp_map (F := [f_told, f_reached]) (el := .var 9) (pt := .nm 9) (src := .seq (.call 1 [(.var 0), (.var 1), (.var 2), (.var 4)] [])) (cs := [(.cm .notin (.var 9) (.var 8))]) (own := [9]) (e := [some ⟨.sh, tupI room⟩, some ⟨.sh, .tuple (B.map wishD)⟩, some ⟨.sh, tupI x⟩, some ⟨.sh, tupI y⟩, some ⟨.sh, hd⟩, some ⟨.sh, wishD w⟩, y6, y7, some ⟨.own, .list (S2.map tupI)⟩, none]) (e1 := [some ⟨.sh, tupI room⟩, some ⟨.sh, .tuple (B.map wishD)⟩, some ⟨.sh, tupI x⟩, some ⟨.sh, tupI y⟩, some ⟨.sh, hd⟩, some ⟨.sh, wishD w⟩, y6, y7, some ⟨.own, .list (S2.map tupI)⟩, none])
      (A := S1) (h := tupI) (g := fun _ => none) (by simp! only [m_reached, r1]) rfl (by rw [sl_eq]; omega) (fun k hk e he => by
        have hni := notin_rows (x := k) (S := S2)
        have hk2 : k ∈ S2 := (m2 k).mpr (((m1 k).mp hk).imp id fun h => rch_mono mono h)
        rw [List.contains_iff_mem.mpr hk2] at hni
        rw [r_stepc, he]
        simp! only [hni]
        exact ⟨_, rfl, rfl⟩)
    have hn : (S1.filterMap fun _ => (none : Option D)) = [] := List.filterMap_eq_nil_iff.mpr fun _ _ => rfl
    rw [hn] at this
    exact this
  have hne : prim .ne [.list [], .list []] = some (false, .bool false) := ne_rows (S := [])
  generalize hBB : (B ++ [w]).map wishD = BB at *
  rcases told_sem R X Y hB (by omega) hh (.inr hsm) with ⟨W1, t1, H1⟩ | ⟨T1, t1, H1⟩
  · rcases told_sem R X Y hB2 hl2 hh (.inr hsm) with ⟨W2, t2, H2⟩ | ⟨T2, t2, H2⟩
    · rw [hBB] at t2
      have hle := H2.least _ (wy_mono mono H1.way.wy)
      have h1 := H1.way.two
      have hle2 : (W2.length : Int) ≤ (W1.length : Int) := by omega
      have g1 := len_map (g := tupI) (xs := W1)
      have g2 := len_map (g := tupI) (xs := W2)
      unfold b__law_more
      simp! only [m_told, t1, hcat, t2, bd_0, bd_1, bd_sc, m_reached, r2, hcomp, hne, eq_bn, eq_bb, g1, g2, hle2]
    · exact absurd (wy_mono mono H1.way.wy).rch H2.no
  · rcases told_sem R X Y hB2 hl2 hh (.inr hsm) with ⟨W2, t2, H2⟩ | ⟨T2, t2, H2⟩
    · rw [hBB] at t2
      unfold b__law_more
      simp! only [m_told, t1, hcat, t2, bd_0, bd_1, bd_sc, nd_0, nd_1, nd_sc, m_reached, r2, hcomp, hne, eq_nn]
    · rw [hBB] at t2
      unfold b__law_more
      simp! only [m_told, t1, hcat, t2, nd_0, nd_1, nd_sc, m_reached, r2, hcomp, hne, eq_nn]
theorem sem_law : ∀ ns : List Int, ns.length ≤ 63 → ∃ fr, f_law_v18.sem [.list (ns.map .int)] = .ok fr (.bool true) [] := by
  intro ns hns
  rw [e_law_v18, runF_eq rfl (by decide)]
  obtain ⟨d0, hpen, p0⟩ := pens_sem (ns := ns)
  obtain ⟨room, d1, e1, p1, R32⟩ := room3_sem (most := 32) p0 (by omega) (by decide) (by decide)
  have R := R32.mono (b := 256) (by decide)
  have hsm : prodI room < 63 := by have := R32.prod; omega
  obtain ⟨B, d2, e2, p2, hBl, hB⟩ := book2_sem p1 (by omega) R
  unfold b_law_v18
  have n0 : (0 : Int) ≤ 6 := by decide
  have n1 : (6 : Int) < 4611686018427387904 := by decide
  simp! only [m__law_pen_v2, hpen, p0.sc, m__law_room_v3, e1, m__law_book_v2, e2, sc_t, n0, n1]
  generalize hL : forL _ _ _ = L
  obtain ⟨e', rfl, d, y4, y5, y6, y7, y8, y9, z10, z11, rfl, _⟩ := forL_use hL (fun i e => ∃ d y4 y5 y6 y7 y8 y9 z10 z11, e = [some ⟨.sh, .list (ns.map .int)⟩, some ⟨.own, d⟩, some ⟨.sh, tupI room⟩, some ⟨.sh, .tuple (B.map wishD)⟩, y4, y5, y6, y7, y8, y9, z10, z11] ∧ Pn (900 + 60 * (i : Int)) d ∧ ShN y4 ∧ ShN y5 ∧ ShN y6 ∧ StN y7 ∧ ShN y8 ∧ StN y9 ∧ StN z10 ∧ ShN z11)
    ⟨d2, none, none, none, none, none, none, none, none, rfl, p2.mono (by omega), shn0, shn0, shn0, stn0, shn0, stn0, stn0, shn0⟩ (by
    intro i xx e hx hI
    obtain ⟨d, y4, y5, y6, y7, y8, y9, z10, z11, rfl, p3, s4, s5, s6, s7, s8, s9, s10, s11⟩ := hI
    obtain ⟨rfl, hi⟩ := rng_at hx
    obtain ⟨hd, hs, d3, e3, p4, hh⟩ := held2_sem p3 (by omega) R
    obtain ⟨x, d4, e4, p5, X⟩ := standing2_sem p4 (by omega) R
    obtain ⟨S, r1, m1, i1, l1, _⟩ := reached_sem (hs := hs) R X hB (by omega) hh hsm
    have hSp : 0 < S.length := List.length_pos_of_mem ((m1 x).mpr (.inl rfl))
    obtain ⟨j, d5, e5, p6, j0, j1⟩ := take_sem p5 (by omega) (show (0 : Int) < (S.length : Int) by omega) (by omega)
    have hj : S[j.toNat]? = some (S[j.toNat]'(by omega)) := List.getElem?_eq_getElem _
    have Y := i1 _ (List.getElem_mem (by omega : j.toNat < S.length))
    generalize S[j.toNat]'(by omega) = y at hj Y
    have a1 : atD (S.map tupI) j = some (tupI y) := by
      have := at_nat (g := tupI) hj
      rwa [Int.toNat_of_nonneg j0] at this
    obtain ⟨S2, r2, m2, i2, l2, _⟩ := reached_sem (hs := hs) R Y hB (by omega) hh hsm
    have hSp2 : 0 < S2.length := List.length_pos_of_mem ((m2 y).mpr (.inl rfl))
    obtain ⟨j2, d6, e6, p7, j20, j21⟩ := take_sem p6 (by omega) (show (0 : Int) < (S2.length : Int) by omega) (by omega)
    have hj2 : S2[j2.toNat]? = some (S2[j2.toNat]'(by omega)) := List.getElem?_eq_getElem _
    have Z := i2 _ (List.getElem_mem (by omega : j2.toNat < S2.length))
    generalize S2[j2.toNat]'(by omega) = z at hj2 Z
    have a2 : atD (S2.map tupI) j2 = some (tupI z) := by
      have := at_nat (g := tupI) hj2
      rwa [Int.toNat_of_nonneg j20] at this
    obtain ⟨v, d7, e7, p8, V⟩ := standing2_sem p7 (by omega) R
    obtain ⟨w, d8, e8, p9, hw⟩ := wish2_sem (way := 0) p8 (by omega) R
    have q1 := joined_sem R hsm X Y Z hB (by omega) hh
    have q2 := back_sem R hsm X Y hB (by omega) hh
    have q3 := back_sem R hsm X V hB (by omega) hh
    have q4 := for_all_sem R hsm X V hB (by omega) hh
    have hpick : ∃ u, atD [tupI y, tupI v] ((i : Int) % 2) = some (tupI u) ∧ InRoom room u := by
      rcases (by omega : (i : Int) % 2 = 0 ∨ (i : Int) % 2 = 1) with h | h
      · rw [h]
        exact ⟨y, rfl, Y⟩
      · rw [h]
        exact ⟨v, rfl, V⟩
    obtain ⟨u, hu, U⟩ := hpick
    have q5 := more_sem R hsm X U hB hw (by omega) hh
    have g1 := len_map (g := tupI) (xs := S)
    have g2 := len_map (g := tupI) (xs := S2)
    have schd : isSc hd = true ∨ isSc hd = false := by cases isSc hd <;> simp
    generalize hS : stepF _ _ _ _ _ = Q
    rcases schd with sc | sc <;> (
      simp! only [s4, s5, s6, s7, s8, s9, s10, s11, m__law_held_v2, e3, sc, m__law_standing_v2, e4, m_reached, r1, g1, m__law_take, e5, ix_l, a1, r2, g2, e6, a2, e7, m__law_joined, q1, m__law_back, q2, q3, m__law_shut_for_all, q4, m__law_wish_v2, e8, sc_w, hu, m__law_more, q5] at hS
      subst hS
      exact ⟨_, rfl, d8, _, _, _, _, _, _, _, _, rfl, p9.mono (by omega), shn1, shn1, shn1, stn_own, shn1, stn_own, stn_own, shn1⟩))
  simp! only []
  exact ⟨_, rfl⟩
end K21

open PySem PySem.W PyProof.Rows
set_option maxHeartbeats 0 in
theorem PySem.Challenge.cw_allelse_k21_whole_ways_put_together_holds : PySem.Challenge.rw_allelse_k21_whole_ways_put_together.Holds := by
  w_on; o_law; k_head; (case hw => w_witness2)
  k_fill
  refine L2.walk_of (l := PySem.Challenge.rw_allelse_k21_whole_ways_put_together) (n := 63) (k := 7) (x := "_law_script") (CX := fun _ => L2.CX0) (sp := fun w => PD.spLaw _) rfl (by decide) rfl ⟨rfl, by decide, by decide⟩ (fun w h Y => PySem.W.kIn_of Y) ?F (fun _ _ a ns hl _ hS => ⟨a, ns, rfl, hS, hl, fun _ => rfl⟩) (fun _ _ _ _ _ h => h)
  case F =>
    intro w mg fa h KX G hmg
    refine' K21.all_mk KX G hmg ?a0 ?l0 ?c0 ?k0 ?a1 ?l1 ?c1 ?k1 ?a2 ?l2 ?c2 ?k2 ?a3 ?l3 ?c3 ?k3 ?a4 ?l4 ?c4 ?k4 ?a5 ?l5 ?c5 ?k5 ?a6 ?l6 ?c6 ?k6 ?a7 ?l7 ?c7 ?k7 ?a8 ?l8 ?c8 ?k8 ?a9 ?l9 ?c9 ?k9 ?a10 ?l10 ?c10 ?k10 ?a11 ?l11 ?c11 ?k11 ?a12 ?l12 ?c12 ?k12 ?a13 ?l13 ?c13 ?k13 ?a14 ?l14 ?c14 ?k14 ?a15 ?l15 ?c15 ?k15 ?a16 ?l16 ?c16 ?k16 ?a17 ?l17 ?c17 ?k17 ?a18 ?l18 ?c18 ?k18 ?a19 ?l19 ?c19 ?k19 ?t19 ?a20 ?l20 ?c20 ?k20 ?a21 ?l21 ?c21 ?k21 ?t21 ?a22 ?l22 ?c22 ?k22 ?a23 ?l23 ?c23 ?k23 ?t23 ?a24 ?l24 ?c24 ?k24 ?a25 ?l25 ?c25 ?k25 ?a26 ?l26 ?c26 ?k26 ?a27 ?l27 ?c27 ?k27 ?a28 ?l28 ?c28 ?k28 ?a29 ?l29 ?c29 ?k29 ?t29 ?a30 ?l30 ?c30 ?k30 ?a31 ?l31 ?c31 ?k31 ?a32 ?l32 ?c32 ?k32 ?a33 ?l33 ?c33 ?k33 ?a34 ?l34 ?c34 ?k34 ?t34 ?a35 ?l35 ?c35 ?k35 ?a36 ?l36 ?c36 ?k36 ?z0 ?z1 ?z2 ?z3 ?z4 ?z5 ?z6 ?z7 ?z8 ?z9 ?z10 ?z11 ?z12 ?z13 K21.sem_law
    (case a0 => k_is); (case l0 => k_is); (case c0 => k_is); (case k0 => k_is); (case a1 => k_is); (case l1 => k_is); (case c1 => k_is); (case k1 => k_is); (case a2 => k_is); (case l2 => k_is); (case c2 => k_is); (case k2 => k_is); (case a3 => k_is); (case l3 => k_is); (case c3 => k_is); (case k3 => k_is); (case a4 => k_is); (case l4 => k_is); (case c4 => k_is); (case k4 => k_is); (case a5 => k_is); (case l5 => k_is); (case c5 => k_is); (case k5 => k_is); (case a6 => k_is); (case l6 => k_is); (case c6 => k_is); (case k6 => k_is); (case a7 => k_is); (case l7 => k_is); (case c7 => k_is); (case k7 => k_is); (case a8 => k_is); (case l8 => k_is); (case c8 => k_is); (case k8 => k_is); (case a9 => k_is); (case l9 => k_is); (case c9 => k_is); (case k9 => k_is); (case a10 => k_is); (case l10 => k_is); (case c10 => k_is); (case k10 => k_is); (case a11 => k_is); (case l11 => k_is); (case c11 => k_is); (case k11 => k_is); (case a12 => k_is); (case l12 => k_is); (case c12 => k_is); (case k12 => k_is); (case a13 => k_is); (case l13 => k_is); (case c13 => k_is); (case k13 => k_is); (case a14 => k_is); (case l14 => k_is); (case c14 => k_is); (case k14 => k_is); (case a15 => k_is); (case l15 => k_is); (case c15 => k_is); (case k15 => k_is); (case a16 => k_is); (case l16 => k_is); (case c16 => k_is); (case k16 => k_is); (case a17 => k_is); (case l17 => k_is); (case c17 => k_is); (case k17 => k_is); (case a18 => k_is); (case l18 => k_is); (case c18 => k_is); (case k18 => k_is); (case a19 => k_is); (case l19 => k_is); (case c19 => k_is); (case k19 => k_is); (case t19 => k_is); (case a20 => k_is); (case l20 => k_is); (case c20 => k_is); (case k20 => k_is); (case a21 => k_is); (case l21 => k_is); (case c21 => k_is); (case k21 => k_is); (case t21 => k_is); (case a22 => k_is); (case l22 => k_is); (case c22 => k_is); (case k22 => k_is); (case a23 => k_is); (case l23 => k_is); (case c23 => k_is); (case k23 => k_is); (case t23 => k_is); (case a24 => k_is); (case l24 => k_is); (case c24 => k_is); (case k24 => k_is); (case a25 => k_is); (case l25 => k_is); (case c25 => k_is); (case k25 => k_is); (case a26 => k_is); (case l26 => k_is); (case c26 => k_is); (case k26 => k_is); (case a27 => k_is); (case l27 => k_is); (case c27 => k_is); (case k27 => k_is); (case a28 => k_is); (case l28 => k_is); (case c28 => k_is); (case k28 => k_is); (case a29 => k_is); (case l29 => k_is); (case c29 => k_is); (case k29 => k_is); (case t29 => k_is); (case a30 => k_is); (case l30 => k_is); (case c30 => k_is); (case k30 => k_is); (case a31 => k_is); (case l31 => k_is); (case c31 => k_is); (case k31 => k_is); (case a32 => k_is); (case l32 => k_is); (case c32 => k_is); (case k32 => k_is); (case a33 => k_is); (case l33 => k_is); (case c33 => k_is); (case k33 => k_is); (case a34 => k_is); (case l34 => k_is); (case c34 => k_is); (case k34 => k_is); (case t34 => k_is); (case a35 => k_is); (case l35 => k_is); (case c35 => k_is); (case k35 => k_is); (case a36 => k_is); (case l36 => k_is); (case c36 => k_is); (case k36 => k_is); (case z0 => k_is); (case z1 => k_is); (case z2 => k_is); (case z3 => k_is); (case z4 => k_is); (case z5 => k_is); (case z6 => k_is); (case z7 => k_is); (case z8 => k_is); (case z9 => k_is); (case z10 => k_is); (case z11 => k_is); (case z12 => k_is); (case z13 => k_is)

