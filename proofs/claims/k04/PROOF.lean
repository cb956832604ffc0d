import PyProof.Rows.All
import Wide.All
import OpenK.AllK
import Wide.FinOn
import HandS.ForMost
import HandS.Deep
import HandS.Wide
import HandS.TupAny
import HandS.TupMul
import HandS.TupLe
import HandS.Style
import HandS.IsInst
import HandS.SetFor
import HandS.Walk
import HandS.Zip
import PyProof.EnumMake
import PyProof.EnumIter
import PySem.Challenge.RW_allelse_k04_givens_known
set_option Elab.async false
set_option linter.all false
set_option maxRecDepth 100000
set_option maxHeartbeats 4000000
/-! PD0: a small pure language over plain data, with owned places. -/
namespace PD
open PySem

abbrev D := PyData
/-- how a slot holds its thing: shared for good, its own (a new list or dict that nobody else knows), or the caller's own -/
inductive O where
  | sh | own | mu
  deriving DecidableEq
structure Sl where
  o : O
  d : D
abbrev En := List (Option Sl)
inductive Ans where
  | val (f : Bool) (d : D)
  | pl (i : Nat)
inductive Rs (α : Type) where
  | no
  | ok (a : α) (e : En)
  | ex (c : Str) (d : D) (e : En)
def Rs.bind {α β : Type} : Rs α → (α → En → Rs β) → Rs β
  | .no, _ => .no
  | .ok a e, f => f a e
  | .ex c d e, _ => .ex c d e
inductive FR where
  | no
  | ok (f : Bool) (d : D) (ms : List D)
  | ex (c : Str) (d : D) (ms : List D)
/-- a def as its callers see it: which parameters it changes, what it does -/
structure Fn where
  modes : List Bool
  sem : List D → FR

/-- operations that change nothing -/
inductive Pr where
  | add | sub | mul | mod | fdiv | pow | neg
  | eq | ne | lt | le | gt | ge | isin | notin | isN | notN | isB | notB
  | rev | len | abs | min2 | max2 | tuple | list | all | int | sorted | setlen | setsorted | range1 | range2
  deriving DecidableEq
/-- methods that change a list or dict -/
inductive Mt where
  | append | extend | pop0 | reverse | clear | insert | remove
  deriving DecidableEq
/-- built-in kinds, for isinstance -/
inductive Kd where
  | int | bool | str | list | tuple | dict
  deriving DecidableEq
/-- targets of a loop -/
inductive Pt where
  | nm (i : Nat)
  | tp (is : List Nat)
mutual
inductive IE where
  | var (i : Nat)
  | lit (d : D)
  | gl (x : Str) (d : D)
  | un (p : Pr) (a : IE)
  | bi (p : Pr) (a b : IE)
  | cm (p : Pr) (a b : IE)
  | chn (p q : Pr) (a b c : IE)
  | and (es : List IE)
  | or (es : List IE)
  | not (a : IE)
  | ite (c : IT) (a b : IE)
  | tup (es : List IE)
  | lst (es : List IE)
  | dic (ks : List D) (vs : List IE)
  | dnew (t : Bool)
  | ix (a b : IE)
  | sl (a : IE) (lo hi : Option IE)
  | fn (p : Pr) (es : List IE)
  | isI (k : Kd) (a : IE)
  | call (k : Nat) (es : List IE) (dv : List D)
  | mt (m : Mt) (i : Nat) (es : List IE)
  | comp (el : IE) (pt : Pt) (src : Sr) (cs : List IT) (own : List Nat)
  | compk (el : IE) (pt : Pt) (en : Bool) (i : Nat) (cs : List IT) (own : List Nat)
inductive IT where
  | v (a : IE)
  | cm (p : Pr) (a b : IE)
  | chn (p q : Pr) (a b c : IE)
  | not (t : IT)
  | and (ts : List IT)
  | or (ts : List IT)
inductive Sr where
  | seq (a : IE)
  | rng (a : IE)
  | rng2 (a b : IE)
  | enum (a : IE)
  | zip (a b : IE)
end
inductive IS where
  | set (i : Nat) (a : IE)
  | unp (is : List Nat) (a : IE)
  | par (i j : Nat) (a b : IE)
  | exp (a : IE)
  | ret (a : IE)
  | retN
  | iff (c : IT) (a b : List IS)
  | forr (pt : Pt) (src : Sr) (body : List IS)
  | forrk (pt : Pt) (en : Bool) (i : Nat) (body : List IS)
  | whl (n : Nat) (c : IT) (body : List IS)
  | ixset (i : Nat) (k v : IE)
  | aug (i : Nat) (p : Pr) (a : IE)
  | pass | brk | cont | doc
/-- how a block ends -/
inductive Ou where
  | no
  | nx (e : En)
  | rt (f : Bool) (d : D) (e : En)
  | bk (e : En)
  | ct (e : En)
  | ex (c : Str) (d : D) (e : En)
end PD
/-! PD1: what the pure language does. -/
namespace PD
open PySem

def rdA : Ans → En → Option D
  | .val _ d, _ => some d
  | .pl i, e => match e[i]? with
    | some (some s) => some s.d
    | _ => none
def rdAs : List Ans → En → Option (List D)
  | [], _ => some []
  | a :: as, e => match rdA a e, rdAs as e with
    | some d, some ds => some (d :: ds)
    | _, _ => none
/-- a thing is handed on for good: its own place is shared from now on -/
def fzA : Ans → En → Option (D × En)
  | .val _ d, e => some (d, e)
  | .pl i, e => match e[i]? with
    | some (some ⟨.own, d⟩) => some (d, e.set i (some ⟨.sh, d⟩))
    | some (some ⟨.sh, d⟩) => some (d, e)
    | _ => none
def fzAs : List Ans → En → Option (List D × En)
  | [], e => some ([], e)
  | a :: as, e => match fzA a e with
    | some (d, e1) => match fzAs as e1 with
      | some (ds, e2) => some (d :: ds, e2)
      | none => none
    | none => none

def isSc : D → Bool
  | .none | .bool _ | .int _ | .str _ => true
  | _ => false
def truthD : D → Option Bool
  | .none => some false
  | .bool b => some b
  | .int i => some (i != 0)
  | .str x => if x.length ≤ sizeLine then some (x.length != 0) else none
  | .list xs => some (!xs.isEmpty)
  | .tuple xs => some (!xs.isEmpty)
  | .dict _ => none
def okMul (i j : Int) : Bool := (decide (-(2 ^ 64) < i) && decide (i < 2 ^ 64)) || (decide (-(2 ^ 64) < j) && decide (j < 2 ^ 64))
def keyAt : D → Bool
  | .int _ | .str _ => true
  | _ => false
def isT : List (D × D) → Bool
  | (.none, _) :: _ => true
  | _ => false
/-- a thing that may be a key of that dict -/
def keyOf (kvs : List (D × D)) (k : D) : Bool := if isT kvs = true then match k with
    | .tuple xs => xs.all keyAt
    | _ => false
  else keyAt k
/-- two keys that are whole numbers, texts, or tuples of such -/
def keyEqs : List D → List D → Bool
  | [], [] => true
  | .int i :: xs, .int j :: ys => decide (i = j) && keyEqs xs ys
  | .str x :: xs, .str y :: ys => decide (x = y) && keyEqs xs ys
  | _, _ => false
def keyEq : D → D → Bool
  | .int i, .int j => decide (i = j)
  | .str x, .str y => decide (x = y)
  | .tuple xs, .tuple ys => keyEqs xs ys
  | _, _ => false
def dGet : List (D × D) → D → Option D
  | [], _ => none
  | kv :: r, k => if keyEq kv.1 k = true then some kv.2 else dGet r k
def dSet (kvs : List (D × D)) (k v : D) : List (D × D) :=
  if (kvs.any fun kv => keyEq kv.1 k) = true then kvs.map (fun kv => if keyEq kv.1 k = true then (kv.1, v) else kv) else kvs ++ [(k, v)]
/-- a place in a list, from either end -/
def atD (xs : List D) (i : Int) : Option D :=
  if 0 ≤ i then xs[i.toNat]? else if -(xs.length : Int) ≤ i then xs[((xs.length : Int) + i).toNat]? else none
def cutD (xs : List D) (lo hi : Option Int) : List D :=
  (xs.drop (HT.sIx xs.length 0 lo)).take (HT.sIx xs.length xs.length hi - HT.sIx xs.length 0 lo)
def isBools : List D → Option (List Bool)
  | [] => some []
  | .bool b :: r => match isBools r with
    | some bs => some (b :: bs)
    | none => none
  | _ => none
def intsOf : List D → Option (List Int)
  | [] => some []
  | .int i :: r => match intsOf r with
    | some is => some (i :: is)
    | none => none
  | _ => none

def bo (b : Bool) : Option (Bool × D) := some (false, .bool b)
def io (i : Int) : Option (Bool × D) := some (false, .int i)
def pAdd : D → D → Option (Bool × D)
  | .int i, .int j => io (i + j)
  | .str x, .str y => if x.length + y.length ≤ sizeLine then some (false, .str (x ++ y)) else none
  | .list xs, .list ys => if xs.length + ys.length ≤ sizeLine then some (true, .list (xs ++ ys)) else none
  | .tuple xs, .tuple ys => if xs.length + ys.length ≤ sizeLine then some (false, .tuple (xs ++ ys)) else none
  | _, _ => none
def pMul : D → D → Option (Bool × D)
  | .int i, .int j => if okMul i j = true then io (i * j) else none
  | .list xs, .int k => if -(2 ^ 62) < k ∧ k < 2 ^ 62 ∧ xs.length * k.toNat ≤ sizeLine then some (true, .list (List.replicate k.toNat xs).flatten) else none
  | .tuple xs, .int k => if -(2 ^ 62) < k ∧ k < 2 ^ 62 ∧ xs.length * k.toNat ≤ sizeLine then some (false, .tuple (List.replicate k.toNat xs).flatten) else none
  | _, _ => none
def pOrd (p : Int → Int → Bool) : D → D → Option (Bool × D)
  | .int i, .int j => bo (p i j)
  | _, _ => none
def pLt : D → D → Option (Bool × D)
  | .int i, .int j => bo (decide (i < j))
  | .tuple xs, .tuple ys => match intsOf xs, intsOf ys with
    | some ns, some ms => bo (HT.lexLt ns ms)
    | _, _ => none
  | _, _ => none
def pIn : D → D → Option Bool
  | x, .list ys => if SeqAt.shaped x && SeqAt.shaped (.list ys) then some (ys.any fun z => PyData.eqv z x) else none
  | x, .dict kvs => if keyOf kvs x = true then some (dGet kvs x).isSome else none
  | _, _ => none
def pLen : D → Option (Bool × D)
  | .list xs => io xs.length
  | .tuple xs => io xs.length
  | .str z => if z.length ≤ sizeLine then io z.length else none
  | _ => none
def pIx : D → D → Option D
  | .list xs, .int i => atD xs i
  | .tuple xs, .int i => atD xs i
  | .dict kvs, k => if keyOf kvs k = true then dGet kvs k else none
  | _, _ => none
def kindOf (k : Kd) : D → Bool
  | .none => false
  | .bool _ => k == .int || k == .bool
  | .int _ => k == .int
  | .str _ => k == .str
  | .list _ => k == .list
  | .tuple _ => k == .tuple
  | .dict _ => k == .dict
def prim : Pr → List D → Option (Bool × D)
  | .add, [x, y] => pAdd x y
  | .sub, [.int i, .int j] => io (i - j)
  | .mul, [x, y] => pMul x y
  | .mod, [.int i, .int j] => if 0 < j then io (i % j) else none
  | .fdiv, [.int i, .int j] => if 0 < j ∧ j < 1073741824 then io (i / j) else none
  | .pow, [.int i, .int j] => if 0 ≤ j ∧ j ≤ 1000000 ∧ i.natAbs < 2 ^ 64 then io (i ^ j.toNat) else none
  | .neg, [.int i] => io (-i)
  | .eq, [x, y] => if SeqAt.shaped x && SeqAt.shaped y then bo (PyData.eqv x y) else none
  | .ne, [x, y] => if SeqAt.shaped x && SeqAt.shaped y then bo (!PyData.eqv x y) else none
  | .lt, [x, y] => pLt x y
  | .le, [x, y] => pOrd (fun i j => decide (i ≤ j)) x y
  | .gt, [x, y] => pOrd (fun i j => decide (j < i)) x y
  | .ge, [x, y] => pOrd (fun i j => decide (j ≤ i)) x y
  | .isin, [x, y] => (pIn x y).map fun b => (false, .bool b)
  | .notin, [x, y] => (pIn x y).map fun b => (false, .bool (!b))
  | .isN, [x, .none] => match x with
    | .none => bo true
    | _ => bo false
  | .notN, [x, .none] => match x with
    | .none => bo false
    | _ => bo true
  | .isB, [.bool a, .bool b] => bo (decide (a = b))
  | .notB, [.bool a, .bool b] => bo (!decide (a = b))
  | .rev, [.list xs] => some (true, .list xs.reverse)
  | .rev, [.tuple xs] => some (false, .tuple xs.reverse)
  | .len, [x] => pLen x
  | .abs, [.int i] => io (if i < 0 then -i else i)
  | .min2, [.int i, .int j] => io (if j < i then j else i)
  | .max2, [.int i, .int j] => io (if j > i then j else i)
  | .tuple, [.list xs] => some (false, .tuple xs)
  | .tuple, [.tuple xs] => some (false, .tuple xs)
  | .list, [.list xs] => some (true, .list xs)
  | .list, [.tuple xs] => some (true, .list xs)
  | .all, [.list xs] => match isBools xs with
    | some bs => bo (bs.all id)
    | none => none
  | .int, [.int i] => io i
  | .int, [.bool b] => io (if b then 1 else 0)
  | _, _ => none
/-- a method that changes its thing: the thing behind it, and what it hands back -/
def mtd : Mt → D → List D → Option (D × D)
  | .append, .list xs, [y] => if xs.length < sizeLine then some (.list (xs ++ [y]), .none) else none
  | .extend, .list xs, [.list ys] => if xs.length + ys.length ≤ sizeLine then some (.list (xs ++ ys), .none) else none
  | .pop0, .list xs, [] => match xs[xs.length - 1]? with
    | some y => some (.list xs.dropLast, y)
    | none => none
  | .reverse, .list xs, [] => some (.list xs.reverse, .none)
  | .clear, .list _, [] => some (.list [], .none)
  | .insert, .list xs, [.int i, y] => if xs.length < sizeLine ∧ 0 ≤ i ∧ i < 2 ^ 63 then some (.list (xs.take i.toNat ++ [y] ++ xs.drop i.toNat), .none) else none
  | _, _, _ => none
def ixSet : D → D → D → Option D
  | .list xs, .int i, v => if 0 ≤ i ∧ i < xs.length then some (.list (xs.set i.toNat v)) else none
  | .dict kvs, k, v => if keyOf kvs k = true ∧ kvs.length < sizeLine then some (.dict (dSet kvs k v)) else none
  | _, _, _ => none

def prA (p : Pr) (as : List Ans) (e : En) : Rs Ans := match rdAs as e with
  | some ds => match prim p ds with
    | some (f, d) => .ok (.val f d) e
    | none => .no
  | none => .no
/-- a name is stored -/
def stN (i : Nat) (s : Sl) (e : En) : Option En := match e[i]? with
  | some (some ⟨.mu, _⟩) => none
  | some _ => some (e.set i (some s))
  | none => none
def stNs : List Nat → List D → En → Option En
  | [], [], e => some e
  | i :: is, d :: ds, e => match stN i ⟨.sh, d⟩ e with
    | some e1 => stNs is ds e1
    | none => none
  | _, _, _ => none
def stPt : Pt → D → En → Option En
  | .nm i, d, e => stN i ⟨.sh, d⟩ e
  | .tp is, .tuple ds, e => stNs is ds e
  | .tp _, _, _ => none
def wipeE (e : En) : List Nat → En
  | [] => e
  | i :: is => (wipeE e is).set i none
/-- the block's own names hold nothing that is their own -/
def ownSh (e : En) : List Nat → Bool
  | [] => true
  | i :: is => (match e[i]? with
    | some none => true
    | some (some ⟨.sh, _⟩) => true
    | _ => false) && ownSh e is
def backE (e0 e : En) : List Nat → En
  | [] => e
  | i :: is => (backE e0 e is).set i (match e0[i]? with
    | some x => x
    | none => none)
/-- arguments by the callee's ways: what it reads, which places are its to change (with the parameter's number), which are lent -/
def argA : Nat → List Bool → List Ans → En → Option (List D × List (Nat × Nat) × List Nat)
  | _, [], [], _ => some ([], [], [])
  | j, m :: ms, a :: as, e => match argA (j + 1) ms as e with
    | some (ds, al, le) => match m, a with
      | false, .val _ d => some (d :: ds, al, le)
      | false, .pl i => match e[i]? with
        | some (some s) => some (s.d :: ds, al, i :: le)
        | _ => none
      | true, .pl i => match e[i]? with
        | some (some ⟨.sh, _⟩) => none
        | some (some ⟨_, d⟩) => if al.any (fun p => p.1 == i) = true then none else some (d :: ds, (i, j) :: al, le)
        | _ => none
      | true, .val _ _ => none
    | none => none
  | _, _, _, _ => none
def noMix (al : List (Nat × Nat)) (le : List Nat) : Bool := le.all fun i => !(al.any fun p => p.1 == i)
def putMs : List (Nat × Nat) → List D → En → Option En
  | [], [], e => some e
  | p :: ps, d :: ds, e => match e[p.1]? with
    | some (some s) => putMs ps ds (e.set p.1 (some ⟨s.o, d⟩))
    | _ => none
  | _, _, _ => none
/-- lent places that may be known elsewhere now -/
def shareAll : List Nat → En → Option En
  | [], e => some e
  | i :: is, e => match e[i]? with
    | some (some ⟨.mu, _⟩) => none
    | some (some ⟨_, d⟩) => shareAll is (e.set i (some ⟨.sh, d⟩))
    | _ => none
def callA (f : Fn) (as : List Ans) (e : En) : Rs Ans := match argA 0 f.modes as e with
  | some (ds, al, le) => if noMix al le = true then match f.sem ds with
    | .ok fr d ms => match putMs al ms e with
      | some e1 => if isSc d && al.isEmpty then .ok (.val false d) e1 else match shareAll le e1 with
        | some e2 => .ok (.val fr d) e2
        | none => .no
      | none => .no
    | .ex c d ms => match putMs al ms e with
      | some e1 => match shareAll le e1 with
        | some e2 => .ex c d e2
        | none => .no
      | none => .no
    | .no => .no
    else .no
  | none => .no
def seqD : D → Option (List D)
  | .list xs => some xs
  | .tuple xs => some xs
  | _ => none
def rngD (lo hi : Int) : Option (List D) :=
  if -(2 ^ 62) ≤ lo ∧ lo < 2 ^ 62 ∧ -(2 ^ 62) ≤ hi ∧ hi < 2 ^ 62 then some ((List.range (hi - lo).toNat).map fun (k : Nat) => .int (lo + (k : Int))) else none
def enumD (xs : List D) : List D := (List.range xs.length).zipWith (fun (k : Nat) d => .tuple [.int (k : Int), d]) xs
def zipD (xs ys : List D) : List D := xs.zipWith (fun a b => .tuple [a, b]) ys
/-- over things, with what they give -/
def compL (step : D → En → Rs (Option D)) : List D → En → Rs (List D)
  | [], e => .ok [] e
  | x :: xs, e => (step x e).bind fun r e1 => (compL step xs e1).bind fun ds e2 => match r with
    | some d => .ok (d :: ds) e2
    | none => .ok ds e2
def forL (step : D → En → Ou) : List D → En → Ou
  | [], e => .nx e
  | x :: xs, e => match step x e with
    | .nx e1 => forL step xs e1
    | .ct e1 => forL step xs e1
    | .bk e1 => .nx e1
    | r => r
def whlL (c : En → Rs Bool) (b : En → Ou) : Nat → En → Ou
  | 0, _ => .no
  | n + 1, e => match c e with
    | .ok true e1 => match b e1 with
      | .nx e2 => whlL c b n e2
      | .ct e2 => whlL c b n e2
      | .bk e2 => .nx e2
      | r => r
    | .ok false e1 => .nx e1
    | .no => .no
    | .ex k d e1 => .ex k d e1
/-- a place that holds a list -/
def isL (e : En) (i : Nat) : Bool := match e[i]? with
  | some (some ⟨.own, .list _⟩) => true
  | some (some ⟨.mu, .list _⟩) => true
  | _ => false
def isOwn (e : En) (i : Nat) : Bool := match e[i]? with
  | some (some ⟨.own, _⟩) => true
  | some (some ⟨.mu, _⟩) => true
  | _ => false
/-- the list that stands in a place of one's own, and how it is held -/
def lkG (e : En) (i : Nat) : Option (O × List D) := match e[i]? with
  | some (some ⟨.own, .list xs⟩) => some (.own, xs)
  | some (some ⟨.mu, .list xs⟩) => some (.mu, xs)
  | _ => none
/-- the list in a place that is being walked -/
def lkN (e : En) (i : Nat) : Option (List D) := match e[i]? with
  | some (some ⟨.mu, .list xs⟩) => some xs
  | _ => none
def unlk (o : O) (i : Nat) (e : En) : Option En := match e[i]? with
  | some (some ⟨.mu, d⟩) => some (e.set i (some ⟨o, d⟩))
  | _ => none
def Ou.unl (o : O) (i : Nat) : Ou → Ou
  | .nx e => match unlk o i e with
    | some e1 => .nx e1
    | none => .no
  | .ct e => match unlk o i e with
    | some e1 => .ct e1
    | none => .no
  | .bk e => match unlk o i e with
    | some e1 => .bk e1
    | none => .no
  | .rt f d e => match unlk o i e with
    | some e1 => .rt f d e1
    | none => .no
  | _ => .no
def kItm (en : Bool) (k : Nat) (d : D) : D := if en = true then .tuple [.int (k : Int), d] else d
/-- a walk over the list in a place of one's own, looked up at each turn -/
def forK (i : Nat) (en : Bool) (step : D → En → Ou) : Nat → Nat → En → Ou
  | 0, _, _ => .no
  | n + 1, k, e => match lkN e i with
    | none => .no
    | some xs => match xs[k]? with
      | none => .nx e
      | some d => match step (kItm en k d) e with
        | .nx e1 => forK i en step n (k + 1) e1
        | .ct e1 => forK i en step n (k + 1) e1
        | .bk e1 => .nx e1
        | r => r
def compK (i : Nat) (en : Bool) (step : D → En → Rs (Option D)) : Nat → Nat → En → Rs (List D)
  | 0, _, _ => .no
  | n + 1, k, e => match lkN e i with
    | none => .no
    | some xs => match xs[k]? with
      | none => .ok [] e
      | some d => (step (kItm en k d) e).bind fun r e1 => (compK i en step n (k + 1) e1).bind fun ds e2 => match r with
        | some d => .ok (d :: ds) e2
        | none => .ok ds e2
def zipDic : List D → List D → List (D × D) → List (D × D)
  | k :: ks, v :: vs, acc => zipDic ks vs (dSet acc k v)
  | _, _, acc => acc

mutual
def evE (F : List Fn) : IE → En → Rs Ans
  | .var i, e => match e[i]? with
    | some (some ⟨.sh, d⟩) => .ok (.val false d) e
    | some (some _) => .ok (.pl i) e
    | _ => .no
  | .lit d, e => .ok (.val false d) e
  | .gl _ d, e => .ok (.val false d) e
  | .un p a, e => (evE F a e).bind fun x e1 => prA p [x] e1
  | .bi p a b, e => (evE F a e).bind fun x e1 => (evE F b e1).bind fun y e2 => prA p [x, y] e2
  | .cm p a b, e => (evE F a e).bind fun x e1 => (evE F b e1).bind fun y e2 => prA p [x, y] e2
  | .chn p q a b c, e => (evE F a e).bind fun x e1 => (evE F b e1).bind fun y e2 => (prA p [x, y] e2).bind fun r e3 => match r with
    | .val _ (.bool true) => (evE F c e3).bind fun z e4 => prA q [y, z] e4
    | .val _ (.bool false) => .ok (.val false (.bool false)) e3
    | _ => .no
  | .and es, e => evAnd F es e
  | .or es, e => evOr F es e
  | .not a, e => (evE F a e).bind fun x e1 => match rdA x e1 with
    | some (.bool b) => .ok (.val false (.bool (!b))) e1
    | _ => .no
  | .ite c a b, e => (evT F c e).bind fun r e1 => if r = true then evE F a e1 else evE F b e1
  | .tup es, e => (evEs F es e).bind fun as e1 => match fzAs as e1 with
    | some (ds, e2) => if ds.length ≤ sizeLine then .ok (.val false (.tuple ds)) e2 else .no
    | none => .no
  | .lst es, e => (evEs F es e).bind fun as e1 => match fzAs as e1 with
    | some (ds, e2) => if ds.length ≤ sizeLine then .ok (.val true (.list ds)) e2 else .no
    | none => .no
  | .dic ks vs, e => (evEs F vs e).bind fun as e1 => match fzAs as e1 with
    | some (ds, e2) => .ok (.val true (.dict (zipDic ks ds []))) e2
    | none => .no
  | .dnew t, e => .ok (.val true (.dict (if t = true then [(.none, .none)] else []))) e
  | .ix a b, e => (evE F a e).bind fun x e1 => (evE F b e1).bind fun y e2 => match rdA x e2, rdA y e2 with
    | some dx, some dy => match pIx dx dy with
      | some d => .ok (.val false d) e2
      | none => .no
    | _, _ => .no
  | .sl a lo hi, e => (evE F a e).bind fun x e1 => (evO F lo e1).bind fun l e2 => (evO F hi e2).bind fun h e3 => match rdA x e3 with
    | some (.list xs) => .ok (.val true (.list (cutD xs l h))) e3
    | some (.tuple xs) => .ok (.val false (.tuple (cutD xs l h))) e3
    | _ => .no
  | .fn p es, e => (evEs F es e).bind fun as e1 => prA p as e1
  | .isI k a, e => (evE F a e).bind fun x e1 => match rdA x e1 with
    | some d => .ok (.val false (.bool (kindOf k d))) e1
    | none => .no
  | .call k es dv, e => (evEs F es e).bind fun as e1 => match F[k]? with
    | some f => callA f (as ++ dv.map (Ans.val false)) e1
    | none => .no
  | .mt m i es, e => if isL e i = true then (evEs F es e).bind fun as e1 => match fzAs as e1 with
    | some (ds, e2) => match e2[i]? with
      | some (some ⟨.sh, _⟩) => .no
      | some (some ⟨o, d⟩) => match mtd m d ds with
        | some (d', r) => .ok (.val false r) (e2.set i (some ⟨o, d'⟩))
        | none => .no
      | _ => .no
    | none => .no
    else .no
  | .comp el pt src cs own, e => (evI F src e).bind fun xs e1 => if ownSh e1 own && decide (xs.length ≤ sizeLine) then
      (compL (fun d e2 => match stPt pt d (wipeE e2 own) with
        | some e3 => (evC F cs e3).bind fun b e4 => if b = true then (evE F el e4).bind fun x e5 => match fzA x e5 with
            | some (d, e6) => .ok (some d) e6
            | none => .no
          else .ok none e4
        | none => .no) xs e1).bind fun ds e7 => .ok (.val true (.list ds)) (backE e1 e7 own)
    else .no
  | .compk el pt en i cs own, e => match lkG e i with
    | some (o, ys) => if ownSh (e.set i (some ⟨.mu, .list ys⟩)) own = true then
        (compK i en (fun d e2 => match stPt pt d (wipeE e2 own) with
          | some e3 => (evC F cs e3).bind fun b e4 => if b = true then (evE F el e4).bind fun x e5 => match fzA x e5 with
              | some (d, e6) => .ok (some d) e6
              | none => .no
            else .ok none e4
          | none => .no) (sizeLine + 1) 0 (e.set i (some ⟨.mu, .list ys⟩))).bind fun ds e7 => match unlk o i (backE (e.set i (some ⟨.mu, .list ys⟩)) e7 own) with
            | some e8 => .ok (.val true (.list ds)) e8
            | none => .no
      else .no
    | none => .no
def evEs (F : List Fn) : List IE → En → Rs (List Ans)
  | [], e => .ok [] e
  | a :: as, e => (evE F a e).bind fun x e1 => (evEs F as e1).bind fun xs e2 => .ok (x :: xs) e2
def evAnd (F : List Fn) : List IE → En → Rs Ans
  | [], _ => .no
  | a :: as, e => match as with
    | [] => evE F a e
    | _ :: _ => (evE F a e).bind fun x e1 => match rdA x e1 with
      | some (.bool true) => evAnd F as e1
      | some (.bool false) => .ok (.val false (.bool false)) e1
      | _ => .no
def evOr (F : List Fn) : List IE → En → Rs Ans
  | [], _ => .no
  | a :: as, e => match as with
    | [] => evE F a e
    | _ :: _ => (evE F a e).bind fun x e1 => match rdA x e1 with
      | some (.bool true) => .ok (.val false (.bool true)) e1
      | some (.bool false) => evOr F as e1
      | _ => .no
def evO (F : List Fn) : Option IE → En → Rs (Option Int)
  | none, e => .ok none e
  | some a, e => (evE F a e).bind fun x e1 => match rdA x e1 with
    | some (.int i) => .ok (some i) e1
    | _ => .no
def evT (F : List Fn) : IT → En → Rs Bool
  | .v a, e => (evE F a e).bind fun x e1 => match rdA x e1 with
    | some d => match truthD d with
      | some b => .ok b e1
      | none => .no
    | none => .no
  | .cm p a b, e => (evE F a e).bind fun x e1 => (evE F b e1).bind fun y e2 => (prA p [x, y] e2).bind fun r e3 => match r with
    | .val _ (.bool b) => .ok b e3
    | _ => .no
  | .chn p q a b c, e => (evE F a e).bind fun x e1 => (evE F b e1).bind fun y e2 => (prA p [x, y] e2).bind fun r e3 => match r with
    | .val _ (.bool true) => (evE F c e3).bind fun z e4 => (prA q [y, z] e4).bind fun r e5 => match r with
      | .val _ (.bool b) => .ok b e5
      | _ => .no
    | .val _ (.bool false) => .ok false e3
    | _ => .no
  | .not t, e => (evT F t e).bind fun b e1 => .ok (!b) e1
  | .and ts, e => evTA F ts e
  | .or ts, e => evTO F ts e
def evTA (F : List Fn) : List IT → En → Rs Bool
  | [], e => .ok true e
  | t :: ts, e => (evT F t e).bind fun b e1 => if b = true then evTA F ts e1 else .ok false e1
def evTO (F : List Fn) : List IT → En → Rs Bool
  | [], e => .ok false e
  | t :: ts, e => (evT F t e).bind fun b e1 => if b = true then .ok true e1 else evTO F ts e1
def evC (F : List Fn) : List IT → En → Rs Bool
  | [], e => .ok true e
  | t :: ts, e => (evT F t e).bind fun b e1 => if b = true then evC F ts e1 else .ok false e1
def evI (F : List Fn) : Sr → En → Rs (List D)
  | .seq a, e => (evE F a e).bind fun x e1 => match fzA x e1 with
    | some (d, e2) => match seqD d with
      | some xs => .ok xs e2
      | none => .no
    | none => .no
  | .rng a, e => (evE F a e).bind fun x e1 => match rdA x e1 with
    | some (.int j) => match rngD 0 j with
      | some xs => .ok xs e1
      | none => .no
    | _ => .no
  | .rng2 a b, e => (evE F a e).bind fun x e1 => (evE F b e1).bind fun y e2 => match rdA x e2, rdA y e2 with
    | some (.int i), some (.int j) => match rngD i j with
      | some xs => .ok xs e2
      | none => .no
    | _, _ => .no
  | .enum a, e => (evE F a e).bind fun x e1 => match fzA x e1 with
    | some (d, e2) => match d with
      | .list xs => .ok (enumD xs) e2
      | .tuple xs => .ok (enumD xs) e2
      | _ => .no
    | none => .no
  | .zip a b, e => (evE F a e).bind fun x e1 => (evE F b e1).bind fun y e2 => match fzA x e2 with
    | some (d, e3) => match fzA y e3 with
      | some (d', e4) => match d, d' with
        | .list xs, .list ys => .ok (zipD xs ys) e4
        | .tuple xs, .tuple ys => .ok (zipD xs ys) e4
        | _, _ => .no
      | none => .no
    | none => .no
end
mutual
def evS (F : List Fn) : IS → En → Ou
  | .set i a, e => match evE F a e with
    | .ok (.val f d) e1 => match stN i ⟨if f = true then .own else .sh, d⟩ e1 with
      | some e2 => .nx e2
      | none => .no
    | .ok (.pl j) e1 => match fzA (.pl j) e1 with
      | some (d, e2) => match stN i ⟨.sh, d⟩ e2 with
        | some e3 => .nx e3
        | none => .no
      | none => .no
    | .ex c d e1 => .ex c d e1
    | .no => .no
  | .unp is a, e => match evE F a e with
    | .ok x e1 => match fzA x e1 with
      | some (.tuple ds, e2) => match stNs is ds e2 with
        | some e3 => .nx e3
        | none => .no
      | _ => .no
    | .ex c d e1 => .ex c d e1
    | .no => .no
  | .par i j a b, e => match evEs F [a, b] e with
    | .ok xs e1 => match fzAs xs e1 with
      | some ([d1, d2], e2) => match stNs [i, j] [d1, d2] e2 with
        | some e3 => .nx e3
        | none => .no
      | _ => .no
    | .ex c d e1 => .ex c d e1
    | .no => .no
  | .exp a, e => match evE F a e with
    | .ok _ e1 => .nx e1
    | .ex c d e1 => .ex c d e1
    | .no => .no
  | .ret a, e => match evE F a e with
    | .ok (.val f d) e1 => .rt f d e1
    | .ok (.pl j) e1 => match e1[j]? with
      | some (some ⟨.own, d⟩) => .rt true d (e1.set j none)
      | _ => .no
    | .ex c d e1 => .ex c d e1
    | .no => .no
  | .retN, e => .rt false .none e
  | .iff c a b, e => match evT F c e with
    | .ok true e1 => evSs F a e1
    | .ok false e1 => evSs F b e1
    | .ex k d e1 => .ex k d e1
    | .no => .no
  | .forr pt src body, e => match evI F src e with
    | .ok xs e1 => forL (fun d e2 => match stPt pt d e2 with
      | some e3 => evSs F body e3
      | none => .no) xs e1
    | .ex c d e1 => .ex c d e1
    | .no => .no
  | .forrk pt en i body, e => match lkG e i with
    | some (o, ys) => Ou.unl o i (forK i en (fun d e2 => match stPt pt d e2 with
      | some e3 => evSs F body e3
      | none => .no) (sizeLine + 1) 0 (e.set i (some ⟨.mu, .list ys⟩)))
    | none => .no
  | .whl n c body, e => whlL (evT F c) (evSs F body) n e
  | .ixset i k v, e => match evE F v e with
    | .ok x e1 => if isOwn e1 i = true then match evE F k e1 with
      | .ok y e2 => match fzA x e2 with
        | some (dv, e3) => match fzA y e3 with
          | some (dk, e4) => match e4[i]? with
            | some (some ⟨.sh, _⟩) => .no
            | some (some ⟨o, d⟩) => match ixSet d dk dv with
              | some d' => .nx (e4.set i (some ⟨o, d'⟩))
              | none => .no
            | _ => .no
          | none => .no
        | none => .no
      | .ex c d e2 => .ex c d e2
      | .no => .no
      else .no
    | .ex c d e1 => .ex c d e1
    | .no => .no
  | .aug i p a, e => match e[i]? with
    | some (some ⟨.sh, x⟩) => match evE F a e with
      | .ok y e1 => match rdA y e1 with
        | some dy => match prim p [x, dy] with
          | some (false, .int r) => match stN i ⟨.sh, .int r⟩ e1 with
            | some e2 => .nx e2
            | none => .no
          | _ => .no
        | none => .no
      | .ex c d e1 => .ex c d e1
      | .no => .no
    | _ => .no
  | .pass, e => .nx e
  | .doc, e => .nx e
  | .brk, e => .bk e
  | .cont, e => .ct e
def evSs (F : List Fn) : List IS → En → Ou
  | [], e => .nx e
  | s :: ss, e => match evS F s e with
    | .nx e1 => evSs F ss e1
    | r => r
end
/-- the slots at a call: the parameters, then names without a value -/
def startE (modes : List Bool) (ds : List D) (n : Nat) : En :=
  (List.zipWith (fun m d => some (Sl.mk (if m = true then .mu else .sh) d)) modes ds) ++ List.replicate (n - ds.length) none
/-- what stands at the end in the parameters that are changed -/
def lastMs : List Bool → Nat → En → Option (List D)
  | [], _, _ => some []
  | false :: ms, i, e => lastMs ms (i + 1) e
  | true :: ms, i, e => match e[i]?, lastMs ms (i + 1) e with
    | some (some ⟨.mu, d⟩), some ds => some (d :: ds)
    | _, _ => none
def runF (F : List Fn) (modes : List Bool) (n : Nat) (body : List IS) (ds : List D) : FR :=
  if ds.length = modes.length ∧ modes.length ≤ n then match evSs F body (startE modes ds n) with
    | .nx e => match lastMs modes 0 e with
      | some ms => .ok false .none ms
      | none => .no
    | .rt f d e => match lastMs modes 0 e with
      | some ms => .ok f d ms
      | none => .no
    | .ex c d e => match lastMs modes 0 e with
      | some ms => .ex c d ms
      | none => .no
    | _ => .no
  else .no
end PD
/-! PD2: how plain data lies in the abstract heap, and who owns what. -/
namespace PD
open PySem PySem.Spec PyProof.Rows L2

inductive Lab where
  | slot (i : Nat)
  | tmp (n : Nat)
  | out (l : Lab)
  deriving DecidableEq
abbrev Wh := Addr → Option Lab
/-- a list of the written part -/
def KL (K : PySem.W.Frag) (a : Addr) (xs : List V) : Prop :=
  ∃ (o : Obj) (its : Array Value) (n : Nat), K.lookup a = some o ∧ o.cls = .type "list" ∧ o.dict = none ∧ o.data = .seq its n ∧ its.size ≤ sizeLine ∧ Vals xs its.toList
def NdL (K : PySem.W.Frag) (H : Hp) (w : Wh) (a : Addr) (xs : List V) : Prop := (Rd H a (.lst xs) ∧ w a = none) ∨ KL K a xs
def NdT (K : PySem.W.Frag) (H : Hp) (w : Wh) (a : Addr) (xs : List V) : Prop := H a = some (.tup xs) ∧ w a = none
def keyD : Key → D
  | .inl i => .int i
  | .inr x => .str x
mutual
inductive Rp (K : PySem.W.Frag) (H : Hp) (w : Wh) : V → D → Prop
  | non : Rp K H w .non .none
  | bl (b : Bool) : Rp K H w (.bl b) (.bool b)
  | int (i : Int) : Rp K H w (.int i) (.int i)
  | str (x : Str) : Rp K H w (.str x) (.str x)
  | lst {a : Addr} {xs : List V} {ds : List D} : NdL K H w a xs → RpAll K H w xs ds → Rp K H w (.ref a) (.list ds)
  | tup {a : Addr} {xs : List V} {ds : List D} : NdT K H w a xs → RpAll K H w xs ds → Rp K H w (.ref a) (.tuple ds)
  | dk {a : Addr} {kvs : List (Key × V)} {ds : List (D × D)} : H a = some (.dK kvs) → w a = none → RpKs K H w kvs ds → Rp K H w (.ref a) (.dict ds)
  | dt {a : Addr} {kvs : List (List Key × V)} {ds : List (D × D)} : H a = some (.dT kvs) → w a = none → RpTs K H w kvs ds → Rp K H w (.ref a) (.dict ((.none, .none) :: ds))
inductive RpAll (K : PySem.W.Frag) (H : Hp) (w : Wh) : List V → List D → Prop
  | nil : RpAll K H w [] []
  | cons {v : V} {vs : List V} {d : D} {ds : List D} : Rp K H w v d → RpAll K H w vs ds → RpAll K H w (v :: vs) (d :: ds)
inductive RpKs (K : PySem.W.Frag) (H : Hp) (w : Wh) : List (Key × V) → List (D × D) → Prop
  | nil : RpKs K H w [] []
  | cons {k : Key} {v : V} {vs : List (Key × V)} {d : D} {ds : List (D × D)} : Rp K H w v d → RpKs K H w vs ds → RpKs K H w ((k, v) :: vs) ((keyD k, d) :: ds)
inductive RpTs (K : PySem.W.Frag) (H : Hp) (w : Wh) : List (List Key × V) → List (D × D) → Prop
  | nil : RpTs K H w [] []
  | cons {k : List Key} {v : V} {vs : List (List Key × V)} {d : D} {ds : List (D × D)} : Rp K H w v d → RpTs K H w vs ds → RpTs K H w ((k, v) :: vs) ((.tuple (k.map keyD), d) :: ds)
end
/-- shared things stay -/
def Sty (H : Hp) (w : Wh) (H' : Hp) (w' : Wh) : Prop := ∀ a o, H a = some o → w a = none → H' a = some o ∧ w' a = none
section
variable {K : PySem.W.Frag} {H H' : Hp} {w w' : Wh}
theorem NdL.mono (s : Sty H w H' w') {a : Addr} {xs : List V} (h : NdL K H w a xs) : NdL K H' w' a xs := by
  obtain ⟨h | ⟨o, h⟩, e⟩ | h := h
  · exact .inl ⟨.inl (s a _ h e).1, (s a _ h e).2⟩
  · exact .inl ⟨.inr ⟨o, (s a _ h e).1⟩, (s a _ h e).2⟩
  · exact .inr h
theorem NdT.mono (s : Sty H w H' w') {a : Addr} {xs : List V} (h : NdT K H w a xs) : NdT K H' w' a xs := s a _ h.1 h.2
theorem NdL.sq {a : Addr} {xs : List V} (h : NdL K H w a xs) : SqL K H a xs := h.imp (fun h => h.1) fun h => h
theorem NdT.sq {a : Addr} {xs : List V} (h : NdT K H w a xs) : SqT K H a xs := .inl (.inl h.1)
mutual
theorem Rp.mono (s : Sty H w H' w') : ∀ {v : V} {d : D}, Rp K H w v d → Rp K H' w' v d
  | _, _, .non => .non
  | _, _, .bl b => .bl b
  | _, _, .int i => .int i
  | _, _, .str x => .str x
  | _, _, .lst h r => .lst (h.mono s) (RpAll.mono s r)
  | _, _, .tup h r => .tup (h.mono s) (RpAll.mono s r)
  | _, _, .dk h e r => .dk (s _ _ h e).1 (s _ _ h e).2 (RpKs.mono s r)
  | _, _, .dt h e r => .dt (s _ _ h e).1 (s _ _ h e).2 (RpTs.mono s r)
theorem RpAll.mono (s : Sty H w H' w') : ∀ {v : List V} {d : List D}, RpAll K H w v d → RpAll K H' w' v d
  | _, _, .nil => .nil
  | _, _, .cons a b => .cons (Rp.mono s a) (RpAll.mono s b)
theorem RpKs.mono (s : Sty H w H' w') : ∀ {v : List (Key × V)} {d : List (D × D)}, RpKs K H w v d → RpKs K H' w' v d
  | _, _, .nil => .nil
  | _, _, .cons a b => .cons (Rp.mono s a) (RpKs.mono s b)
theorem RpTs.mono (s : Sty H w H' w') : ∀ {v : List (List Key × V)} {d : List (D × D)}, RpTs K H w v d → RpTs K H' w' v d
  | _, _, .nil => .nil
  | _, _, .cons a b => .cons (Rp.mono s a) (RpTs.mono s b)
end
theorem RpAll.length : ∀ {vs : List V} {ds : List D}, RpAll K H w vs ds → vs.length = ds.length
  | _, _, .nil => rfl
  | _, _, .cons _ b => congrArg (· + 1) (RpAll.length b)
theorem RpAll.append : ∀ {vs us : List V} {ds es : List D}, RpAll K H w vs ds → RpAll K H w us es → RpAll K H w (vs ++ us) (ds ++ es)
  | _, _, _, _, .nil, b => b
  | _, _, _, _, .cons a r, b => .cons a (RpAll.append r b)
theorem RpAll.get : ∀ {vs : List V} {ds : List D} {i : Nat} {d : D}, RpAll K H w vs ds → ds[i]? = some d → ∃ v, vs[i]? = some v ∧ Rp K H w v d
  | _, _, i, _, .nil, e => by simp at e
  | _, _, 0, _, .cons a _, e => by simp at e; subst e; exact ⟨_, rfl, a⟩
  | _, _, i + 1, _, .cons _ b, e => by
    obtain ⟨v, h1, h2⟩ := RpAll.get (i := i) b (by simpa using e)
    exact ⟨v, by simpa using h1, h2⟩
theorem RpAll.getV : ∀ {vs : List V} {ds : List D} {i : Nat} {v : V}, RpAll K H w vs ds → vs[i]? = some v → ∃ d, ds[i]? = some d ∧ Rp K H w v d
  | _, _, i, _, .nil, e => by simp at e
  | _, _, 0, _, .cons a _, e => by simp at e; subst e; exact ⟨_, rfl, a⟩
  | _, _, i + 1, _, .cons _ b, e => by
    obtain ⟨v, h1, h2⟩ := RpAll.getV (i := i) b (by simpa using e)
    exact ⟨v, by simpa using h1, h2⟩
theorem RpAll.take : ∀ {vs : List V} {ds : List D} (n : Nat), RpAll K H w vs ds → RpAll K H w (vs.take n) (ds.take n)
  | _, _, 0, _ => .nil
  | _, _, _ + 1, .nil => .nil
  | _, _, n + 1, .cons a b => .cons a (RpAll.take n b)
theorem RpAll.drop : ∀ {vs : List V} {ds : List D} (n : Nat), RpAll K H w vs ds → RpAll K H w (vs.drop n) (ds.drop n)
  | _, _, 0, r => r
  | _, _, _ + 1, .nil => .nil
  | _, _, n + 1, .cons _ b => RpAll.drop n b
theorem RpAll.reverse : ∀ {vs : List V} {ds : List D}, RpAll K H w vs ds → RpAll K H w vs.reverse ds.reverse
  | _, _, .nil => .nil
  | _, _, .cons a b => by
    rw [List.reverse_cons, List.reverse_cons]
    exact (RpAll.reverse b).append (.cons a .nil)
theorem RpAll.dropLast {vs : List V} {ds : List D} (r : RpAll K H w vs ds) : RpAll K H w vs.dropLast ds.dropLast := by
  rw [List.dropLast_eq_take, List.dropLast_eq_take, ← r.length]
  exact r.take _
theorem RpAll.set : ∀ {vs : List V} {ds : List D} {v : V} {d : D} (i : Nat), RpAll K H w vs ds → Rp K H w v d → RpAll K H w (vs.set i v) (ds.set i d)
  | _, _, _, _, _, .nil, _ => .nil
  | _, _, _, _, 0, .cons _ b, r => .cons r b
  | _, _, _, _, i + 1, .cons a b, r => .cons a (RpAll.set i b r)
theorem RpAll.rep {vs : List V} {ds : List D} (r : RpAll K H w vs ds) : ∀ n : Nat, RpAll K H w (List.replicate n vs).flatten (List.replicate n ds).flatten
  | 0 => .nil
  | n + 1 => by
    rw [List.replicate_succ, List.replicate_succ, List.flatten_cons, List.flatten_cons]
    exact r.append (r.rep n)
theorem RpKs.length : ∀ {vs : List (Key × V)} {ds : List (D × D)}, RpKs K H w vs ds → vs.length = ds.length
  | _, _, .nil => rfl
  | _, _, .cons _ b => congrArg (· + 1) (RpKs.length b)
theorem RpTs.length : ∀ {vs : List (List Key × V)} {ds : List (D × D)}, RpTs K H w vs ds → vs.length = ds.length
  | _, _, .nil => rfl
  | _, _, .cons _ b => congrArg (· + 1) (RpTs.length b)
/-- what lies at an address that is owned, or read -/
inductive Cn (K : PySem.W.Frag) (H : Hp) (w : Wh) (a : Addr) : D → Prop
  | lst {xs : List V} {ds : List D} : H a = some (.lst xs) → RpAll K H w xs ds → Cn K H w a (.list ds)
  | dk {kvs : List (Key × V)} {ds : List (D × D)} : H a = some (.dK kvs) → RpKs K H w kvs ds → Cn K H w a (.dict ds)
  | dt {kvs : List (List Key × V)} {ds : List (D × D)} : H a = some (.dT kvs) → RpTs K H w kvs ds → Cn K H w a (.dict ((.none, .none) :: ds))
theorem Cn.mono (s : Sty H w H' w') {a : Addr} {d : D} (e : H' a = H a) : Cn K H w a d → Cn K H' w' a d
  | .lst h r => .lst (e.trans h) (r.mono s)
  | .dk h r => .dk (e.trans h) (r.mono s)
  | .dt h r => .dt (e.trans h) (r.mono s)
/-- once nobody owns it, it is shared -/
theorem Cn.rp {a : Addr} {d : D} (e : w a = none) : Cn K H w a d → Rp K H w (.ref a) d
  | .lst h r => .lst (.inl ⟨.inl h, e⟩) r
  | .dk h r => .dk h e r
  | .dt h r => .dt h e r
def Ow (K : PySem.W.Frag) (H : Hp) (w : Wh) (l : Lab) (v : V) (d : D) : Prop := ∃ a, v = .ref a ∧ w a = some l ∧ Cn K H w a d
/-- what may be read: shared, or somebody's own at its root -/
def Rr (K : PySem.W.Frag) (H : Hp) (w : Wh) (v : V) (d : D) : Prop := Rp K H w v d ∨ ∃ a, v = .ref a ∧ Cn K H w a d
def RpO (K : PySem.W.Frag) (H : Hp) (w : Wh) (l : Lab) : O → V → D → Prop
  | .sh, v, d => Rp K H w v d
  | .own, v, d => Ow K H w l v d
  | .mu, v, d => Ow K H w l v d
theorem RpO.rr {l : Lab} {o : O} {v : V} {d : D} (h : RpO K H w l o v d) : Rr K H w v d := by
  cases o with
  | sh => exact .inl h
  | own => obtain ⟨a, e, _, c⟩ := h; exact .inr ⟨a, e, c⟩
  | mu => obtain ⟨a, e, _, c⟩ := h; exact .inr ⟨a, e, c⟩
theorem RpO.mono (s : Sty H w H' w') {l : Lab} (hw : ∀ a, w a = some l → w' a = some l ∧ H' a = H a) {o : O} {v : V} {d : D} (h : RpO K H w l o v d) : RpO K H' w' l o v d := by
  cases o with
  | sh => exact Rp.mono s h
  | own => obtain ⟨a, e, f, c⟩ := h; exact ⟨a, e, (hw a f).1, c.mono s (hw a f).2⟩
  | mu => obtain ⟨a, e, f, c⟩ := h; exact ⟨a, e, (hw a f).1, c.mono s (hw a f).2⟩

/-- a step: what is shared stays, what others own stays as it is -/
structure Stp (keep : Lab → Prop) (H : Hp) (w : Wh) (H' : Hp) (w' : Wh) : Prop where
  sh : Sty H w H' w'
  kp : ∀ a l, keep l → (w' a = some l ↔ w a = some l)
  kh : ∀ a l, keep l → w a = some l → H' a = H a
theorem Stp.refl {keep : Lab → Prop} : Stp keep H w H w := ⟨fun _ _ h e => ⟨h, e⟩, fun _ _ _ => Iff.rfl, fun _ _ _ _ => rfl⟩
theorem Stp.trans {keep : Lab → Prop} {H1 : Hp} {w1 : Wh} (a : Stp keep H w H1 w1) (b : Stp keep H1 w1 H' w') : Stp keep H w H' w' :=
  ⟨fun c o h e => let ⟨h1, e1⟩ := a.sh c o h e; b.sh c o h1 e1, fun c l k => (b.kp c l k).trans (a.kp c l k),
    fun c l k e => (b.kh c l k ((a.kp c l k).mpr e)).trans (a.kh c l k e)⟩
theorem Stp.weak {keep keep' : Lab → Prop} (h : ∀ l, keep' l → keep l) (a : Stp keep H w H' w') : Stp keep' H w H' w' :=
  ⟨a.sh, fun c l k => a.kp c l (h l k), fun c l k => a.kh c l (h l k)⟩
/-- what is owned is tracked -/
def Wf (H : Hp) (w : Wh) : Prop := ∀ a, H a = none → w a = none
def keepE (n : Nat) : Lab → Prop
  | .out _ => True
  | .tmp m => m < n
  | .slot _ => False
theorem keepE.le {n m : Nat} (h : n ≤ m) : ∀ l, keepE n l → keepE m l
  | .out _, _ => trivial
  | .tmp k, q => Nat.lt_of_lt_of_le (show k < n from q) h
  | .slot _, q => q.elim
/-- all but the n-th temporary -/
def keepP (n : Nat) (l : Lab) : Prop := l ≠ .tmp n
theorem keepP.e {n : Nat} : ∀ l, keepE n l → keepP n l
  | .out _, _ => by intro z; cases z
  | .tmp k, q => by intro z; cases z; exact absurd q (Nat.lt_irrefl _)
  | .slot _, q => q.elim

structure EnvR (K : PySem.W.Frag) (H : Hp) (w : Wh) (μ : Nat → Option V) (σ : L2.St) (e : En) : Prop where
  len : σ.length = e.length
  at_ : ∀ i o d, e[i]? = some (some ⟨o, d⟩) → ∃ v, σ[i]? = some (some v) ∧ RpO K H w (.slot i) o v d ∧ (o = .mu → μ i = some v)
theorem EnvR.mono {μ : Nat → Option V} {σ : L2.St} {e : En} (r : EnvR K H w μ σ e) {keep : Lab → Prop} (s : Stp keep H w H' w') (k : ∀ i, keep (.slot i)) : EnvR K H' w' μ σ e :=
  ⟨r.len, fun i o d h => let ⟨v, h1, h2, h3⟩ := r.at_ i o d h
    ⟨v, h1, h2.mono s.sh fun a q => ⟨(s.kp a _ (k i)).mpr q, s.kh a _ (k i) q⟩, h3⟩⟩
def AnsR (K : PySem.W.Frag) (n : Nat) (H : Hp) (w : Wh) (σ : L2.St) (v : V) : Ans → Prop
  | .val false d => Rp K H w v d
  | .val true d => Ow K H w (.tmp n) v d
  | .pl i => σ[i]? = some (some v)
theorem AnsR.mono {n : Nat} {σ : L2.St} {v : V} {a : Ans} {keep : Lab → Prop} (s : Stp keep H w H' w') (k : keep (.tmp n)) (h : AnsR K n H w σ v a) : AnsR K n H' w' σ v a := by
  cases a with
  | val f d =>
    cases f with
    | false => exact Rp.mono s.sh h
    | true => obtain ⟨a, e, f, c⟩ := h; exact ⟨a, e, (s.kp a _ k).mpr f, c.mono s.sh (s.kh a _ k f)⟩
  | pl i => exact h

/-! ### temporaries are dropped, places are shared -/
def drp (n : Nat) (w : Wh) : Wh := fun a => match w a with
  | some (.tmp m) => if m < n then some (.tmp m) else none
  | x => x
theorem drp_none {n : Nat} {a : Addr} (e : w a = none) : drp n w a = none := by unfold drp; rw [e]
theorem drp_slot {n : Nat} {a : Addr} {i : Nat} : drp n w a = some (.slot i) ↔ w a = some (.slot i) := by
  unfold drp
  cases h : w a with
  | none => simp
  | some l => cases l <;> simp
theorem drp_keep {n : Nat} {a : Addr} {l : Lab} (k : keepE n l) : drp n w a = some l ↔ w a = some l := by
  unfold drp
  cases h : w a with
  | none => simp
  | some l' =>
    cases l' with
    | slot i => simp
    | out l' => simp
    | tmp m =>
      by_cases hm : m < n
      · simp [hm]
      · simp only [hm, if_false]
        constructor
        · intro z; cases z
        · intro z
          have e : Lab.tmp m = l := Option.some.inj z
          subst e
          exact absurd k hm
theorem drp_stp {n : Nat} : Stp (keepE n) H w H (drp n w) :=
  ⟨fun _ _ h e => ⟨h, drp_none e⟩, fun _ _ k => drp_keep k, fun _ _ _ _ => rfl⟩
theorem drp_slots {n : Nat} : Stp (fun l => ∃ i, l = .slot i) H w H (drp n w) :=
  ⟨fun _ _ h e => ⟨h, drp_none e⟩, fun _ _ ⟨i, k⟩ => by subst k; exact drp_slot, fun _ _ _ _ => rfl⟩
theorem drp_wf {n : Nat} (h : Wf H w) : Wf H (drp n w) := fun a e => drp_none (h a e)
theorem drp_env {n : Nat} {μ : Nat → Option V} {σ : L2.St} {e : En} (r : EnvR K H w μ σ e) : EnvR K H (drp n w) μ σ e := r.mono drp_slots fun i => ⟨i, rfl⟩
/-- a temporary that is dropped is shared -/
theorem drp_ans {n m : Nat} (h : n ≤ m) {σ : L2.St} {v : V} {f : Bool} {d : D} (r : AnsR K m H w σ v (.val f d)) : Rp K H (drp n w) v d := by
  cases f with
  | false => exact Rp.mono drp_stp.sh r
  | true =>
    obtain ⟨a, e, f, c⟩ := r
    subst e
    have q : drp n w a = none := by
      unfold drp
      rw [f]
      show (if m < n then some (Lab.tmp m) else none) = none
      rw [if_neg (by omega)]
    exact (c.mono drp_stp.sh rfl).rp q
/-- the i-th place is shared from now on -/
def shr (i : Nat) (w : Wh) : Wh := fun a => if w a = some (.slot i) then none else w a
theorem shr_stp {i : Nat} : Stp (fun l => l ≠ .slot i) H w H (shr i w) := by
  refine ⟨fun a o h e => ⟨h, ?_⟩, fun a l k => ?_, fun _ _ _ _ => rfl⟩
  · unfold shr; rw [e]; rfl
  · unfold shr
    by_cases h : w a = some (.slot i)
    · rw [if_pos h, h]
      constructor
      · intro z; cases z
      · intro z; exact absurd (Option.some.inj z).symm k
    · rw [if_neg h]
theorem shr_wf {i : Nat} (h : Wf H w) : Wf H (shr i w) := fun a e => by unfold shr; rw [h a e]; rfl
theorem keepE.slot {n i : Nat} : ∀ l, keepE n l → l ≠ .slot i
  | .out _, _ => by intro z; cases z
  | .tmp k, q => by intro z; cases z
  | .slot _, q => q.elim
theorem shr_rp {i : Nat} {v : V} {d : D} (h : Ow K H w (.slot i) v d) : Rp K H (shr i w) v d := by
  obtain ⟨a, e, f, c⟩ := h
  subst e
  exact (c.mono shr_stp.sh rfl).rp (by unfold shr; rw [if_pos f])
theorem shr_env {i : Nat} {d : D} {μ : Nat → Option V} {σ : L2.St} {e : En} (r : EnvR K H w μ σ e) (hi : e[i]? = some (some ⟨.own, d⟩)) : EnvR K H (shr i w) μ σ (e.set i (some ⟨.sh, d⟩)) := by
  refine ⟨by rw [List.length_set]; exact r.len, fun j o d' h => ?_⟩
  by_cases hj : j = i
  · subst hj
    have hl : j < e.length := (List.getElem?_eq_some_iff.mp hi).1
    rw [List.getElem?_set_self hl] at h
    cases h
    obtain ⟨v, h1, h2, _⟩ := r.at_ j _ _ hi
    exact ⟨v, h1, shr_rp h2, fun z => by cases z⟩
  · rw [List.getElem?_set_ne (Ne.symm hj)] at h
    obtain ⟨v, h1, h2, h3⟩ := r.at_ j o d' h
    exact ⟨v, h1, h2.mono shr_stp.sh fun a q => ⟨(shr_stp (H := H) (w := w) (i := i)).kp a _ (by intro z; cases z; exact hj rfl) |>.mpr q, rfl⟩, h3⟩
end
end PD
/-! PD3: reading data off, new objects, the operations. -/
namespace PD
open PySem PySem.Spec PyProof.Rows L2
abbrev V := L2.V
section
variable {K : PySem.W.Frag} {H H' : Hp} {w w' : Wh}
theorem Rr.non {v : V} (h : Rr K H w v .none) : v = .non := by
  rcases h with h | ⟨a, e, c⟩
  · cases h; rfl
  · cases c
theorem Rr.bl {v : V} {b : Bool} (h : Rr K H w v (.bool b)) : v = .bl b := by
  rcases h with h | ⟨a, e, c⟩
  · cases h; rfl
  · cases c
theorem Rr.int {v : V} {i : Int} (h : Rr K H w v (.int i)) : v = .int i := by
  rcases h with h | ⟨a, e, c⟩
  · cases h; rfl
  · cases c
theorem Rr.str {v : V} {x : Str} (h : Rr K H w v (.str x)) : v = .str x := by
  rcases h with h | ⟨a, e, c⟩
  · cases h; rfl
  · cases c
theorem Rr.list {v : V} {ds : List D} (h : Rr K H w v (.list ds)) : ∃ a xs, v = .ref a ∧ SqL K H a xs ∧ RpAll K H w xs ds := by
  rcases h with h | ⟨a, e, c⟩
  · cases h with
    | lst n r => exact ⟨_, _, rfl, n.sq, r⟩
  · cases c with
    | lst n r => exact ⟨a, _, e, SqL.of n, r⟩
theorem Rr.tupT {v : V} {ds : List D} (h : Rr K H w v (.tuple ds)) : ∃ a xs, v = .ref a ∧ H a = some (.tup xs) ∧ RpAll K H w xs ds := by
  rcases h with h | ⟨a, e, c⟩
  · cases h with
    | tup n r => exact ⟨_, _, rfl, n.1, r⟩
  · cases c
theorem Rr.tup {v : V} {ds : List D} (h : Rr K H w v (.tuple ds)) : ∃ a xs, v = .ref a ∧ SqT K H a xs ∧ RpAll K H w xs ds ∧ Rp K H w v (.tuple ds) := by
  rcases h with h | ⟨a, e, c⟩
  · have h' := h
    cases h with
    | tup n r => exact ⟨_, _, rfl, n.sq, r, h'⟩
  · cases c
/-- a dict, by its two kinds of keys -/
inductive DcAt (K : PySem.W.Frag) (H : Hp) (w : Wh) (a : Addr) (ds : List (D × D)) : Prop
  | k (kvs : List (Key × V)) : H a = some (.dK kvs) → RpKs K H w kvs ds → DcAt K H w a ds
  | t (kvs : List (List Key × V)) (es : List (D × D)) : ds = (.none, .none) :: es → H a = some (.dT kvs) → RpTs K H w kvs es → DcAt K H w a ds
theorem Rr.dic {v : V} {ds : List (D × D)} (h : Rr K H w v (.dict ds)) : ∃ a, v = .ref a ∧ DcAt K H w a ds := by
  rcases h with h | ⟨a, e, c⟩
  · cases h with
    | dk n e r => exact ⟨_, rfl, .k _ n r⟩
    | dt n e r => exact ⟨_, rfl, .t _ _ rfl n r⟩
  · cases c with
    | dk n r => exact ⟨a, e, .k _ n r⟩
    | dt n r => exact ⟨a, e, .t _ _ rfl n r⟩
mutual
theorem Rp.dp : ∀ {v : V} {d : D}, Rp K H w v d → d.canLay0 = true → Dp K H v d
  | _, _, .non, _ => .non
  | _, _, .bl b, _ => .bl b
  | _, _, .int i, _ => .int i
  | _, _, .str x, _ => .str x
  | _, _, .lst h r, c => .lst h.sq (RpAll.dp r (by simpa only [PyData.canLay0] using c))
  | _, _, .tup h r, c => .tup h.sq (RpAll.dp r (by simpa only [PyData.canLay0] using c))
  | _, _, .dk _ _ _, c => by simp [PyData.canLay0] at c
  | _, _, .dt _ _ _, c => by simp [PyData.canLay0] at c
theorem RpAll.dp : ∀ {v : List V} {d : List D}, RpAll K H w v d → PyData.canLayAll0 d = true → DpAll K H v d
  | _, _, .nil, _ => .nil
  | _, _, .cons a b, c => by
    rw [PyData.canLayAll0, Bool.and_eq_true] at c
    exact .cons (Rp.dp a c.1) (RpAll.dp b c.2)
end
theorem Rr.dp {v : V} {d : D} (h : Rr K H w v d) (c : d.canLay0 = true) : Dp K H v d := by
  rcases h with h | ⟨a, e, cn⟩
  · exact h.dp c
  · subst e
    cases cn with
    | lst n r => exact .lst (SqL.of n) (r.dp (by simpa only [PyData.canLay0] using c))
    | dk _ _ => simp [PyData.canLay0] at c
    | dt _ _ => simp [PyData.canLay0] at c

/-! ### new objects -/
def own1 (w : Wh) (p : Addr) (l : Lab) : Wh := fun a => if a = p then some l else w a
theorem sty_upd {p : Addr} {o : HO} (hp : H p = none) : Sty H w (upd H p o) w := fun a u h e => ⟨by rw [upd_ne (ne_of_none h hp)]; exact h, e⟩
theorem new_tup {p : Addr} {n : Nat} {xs : List V} {ds : List D} (wf : Wf H w) (hp : H p = none) (r : RpAll K H w xs ds) :
    Stp (keepP n) H w (upd H p (.tup xs)) w ∧ Wf (upd H p (.tup xs)) w ∧ Rp K (upd H p (.tup xs)) w (.ref p) (.tuple ds) := by
  have wp := wf p hp
  refine ⟨⟨sty_upd hp, fun _ _ _ => Iff.rfl, fun a l _ e => ?_⟩, fun a e => ?_, .tup ⟨upd_same, wp⟩ (r.mono (sty_upd hp))⟩
  · have : a ≠ p := fun z => by rw [z, wp] at e; cases e
    exact upd_ne this
  · by_cases h : a = p
    · rw [h]; exact wp
    · rw [upd_ne h] at e; exact wf a e
theorem own1_stp {p : Addr} {n : Nat} {o : HO} (wf : Wf H w) (hp : H p = none) : Stp (keepP n) H w (upd H p o) (own1 w p (.tmp n)) := by
  have wp := wf p hp
  refine ⟨fun a u h e => ⟨by rw [upd_ne (ne_of_none h hp)]; exact h, ?_⟩, fun a l k => ?_, fun a l _ e => ?_⟩
  · unfold own1; rw [if_neg (ne_of_none h hp)]; exact e
  · unfold own1
    by_cases h : a = p
    · rw [if_pos h, h, wp]
      constructor
      · intro z; exact absurd (Option.some.inj z).symm k
      · intro z; cases z
    · rw [if_neg h]
  · have : a ≠ p := fun z => by rw [z, wp] at e; cases e
    exact upd_ne this
theorem own1_wf {p : Addr} {l : Lab} {o : HO} (wf : Wf H w) : Wf (upd H p o) (own1 w p l) := fun a e => by
  by_cases h : a = p
  · rw [h, upd_same] at e; cases e
  · rw [upd_ne h] at e; unfold own1; rw [if_neg h]; exact wf a e
theorem own1_at {p : Addr} {l : Lab} : own1 w p l p = some l := by unfold own1; rw [if_pos rfl]
theorem new_lst {p : Addr} {n : Nat} {xs : List V} {ds : List D} (wf : Wf H w) (hp : H p = none) (r : RpAll K H w xs ds) :
    Stp (keepP n) H w (upd H p (.lst xs)) (own1 w p (.tmp n)) ∧ Wf (upd H p (.lst xs)) (own1 w p (.tmp n)) ∧ Ow K (upd H p (.lst xs)) (own1 w p (.tmp n)) (.tmp n) (.ref p) (.list ds) :=
  ⟨own1_stp wf hp, own1_wf wf, p, rfl, own1_at, .lst upd_same (r.mono (own1_stp (n := n) wf hp).sh)⟩

/-! ### operations by values -/
/-- what an operation's answer is -/
def PGo (K : PySem.W.Frag) (n : Nat) (H : Hp) (w : Wh) (f : Bool) (d : D) (Q : VK) : Prop :=
  ∀ v H' w', Stp (keepP n) H w H' w' → Wf H' w' → AnsR K n H' w' [] v (.val f d) → Q v H'
theorem PGo.same {n : Nat} {d : D} {Q : VK} {v : V} (wf : Wf H w) (g : PGo K n H w false d Q) (r : Rp K H w v d) : Q v H := g v H w Stp.refl wf r
theorem PGo.tup {n : Nat} {ds : List D} {Q : VK} {xs : List V} (wf : Wf H w) (g : PGo K n H w false (.tuple ds) Q) (r : RpAll K H w xs ds) : ∀ p, H p = none → Q (.ref p) (upd H p (.tup xs)) := fun p hp =>
  let ⟨a, b, c⟩ := new_tup (n := n) wf hp r
  g _ _ _ a b c
theorem PGo.lst {n : Nat} {ds : List D} {Q : VK} {xs : List V} (wf : Wf H w) (g : PGo K n H w true (.list ds) Q) (r : RpAll K H w xs ds) : ∀ p, H p = none → Q (.ref p) (upd H p (.lst xs)) := fun p hp =>
  let ⟨a, b, c⟩ := new_lst (n := n) wf hp r
  g _ _ _ a b c
end
/-- the rule r of two things does what prim p does -/
def Pok2 (K : PySem.W.Frag) (p : Pr) (r : R2) : Prop := ∀ (n : Nat) (H : Hp) (w : Wh) (v u : V) (x y d : D) (f : Bool) (Q : VK), Wf H w → Rr K H w v x → Rr K H w u y → prim p [x, y] = some (f, d) → PGo K n H w f d Q → r v u H Q
/-- the rule r of a list of things does what prim p does -/
def PokL (K : PySem.W.Frag) (p : Pr) (k : Nat) (r : List V → Hp → VK → Prop) : Prop := ∀ (n : Nat) (H : Hp) (w : Wh) (vs : List V) (ds : List D) (d : D) (f : Bool) (Q : VK), Wf H w → vs.length = ds.length → ds.length = k →
  (∀ (i : Nat) (v : V) (d : D), vs[i]? = some v → ds[i]? = some d → Rr K H w v d) → prim p ds = some (f, d) → PGo K n H w f d Q → r vs H Q
theorem OpR.or {X : Cx} {f : Value → Value → Sem Value} {r r' : R2} (h : OpR X f r) (h' : OpR X f r') : OpR X f (fun x y H Q => r x y H Q ∨ r' x y H Q) := by
  intro pins s σ H x y v u Q I rx ry q
  rcases q with q | q
  · exact h pins s σ H x y v u Q I rx ry q
  · exact h' pins s σ H x y v u Q I rx ry q
section
variable {X : Cx}
def rCatS (K : PySem.W.Frag) : R2 := fun x y H Q => ∃ l b xs zs, x = .ref l ∧ y = .ref b ∧ SqL K H l xs ∧ SqL K H b zs ∧ xs.length + zs.length ≤ sizeLine ∧ ∀ p, H p = none → Q (.ref p) (upd H p (.lst (xs ++ zs)))
theorem op_catS : OpR X (binaryOp .Add) (rCatS X.K) := by
  intro pins s σ H x y v u Q I rx ry h
  obtain ⟨l, b, xs, zs, rfl, rfl, hH, hB, hz, q⟩ := h
  cases rx
  cases ry
  obtain ⟨its, r, ⟨⟨cls, dd, data, sl⟩, n, e, ec, ed, edt⟩, hl⟩ := I.list hH
  obtain ⟨its2, r2, ⟨⟨cls2, dd2, data2, sl2⟩, n2, e2, ec2, ed2, edt2⟩, hl2⟩ := I.list hB
  simp only at ec ed edt ec2 ed2 edt2
  subst ec ed edt ec2 ed2 edt2
  have h1 := r.length
  have h2 := r2.length
  have ea : its.toArray ++ its2.toArray = (its ++ its2).toArray := by simp
  refine concat_meets ⟨_, e, rfl⟩ ⟨_, e2, rfl⟩ noFill_list_add seq_list_add F.slot_list_add F.entry_list_add (F.args_list_add_2 _ _) (PyProof.Rows.list_addW l b its.toArray its2.toArray n n2 none none sl sl2 (by rw [List.size_toArray, List.size_toArray]; omega)) ⟨e, e2, ?_⟩
  rw [ea]
  exact ⟨.ref _, _, I.lnew (t' := s.toks) (r.append r2) (by rw [List.length_append]; omega), rfl, q _ I.fresh⟩
def rAdd (K : PySem.W.Frag) : R2 := fun x y H Q => rI0 (fun i j => .int (i + j)) x y H Q ∨ (∃ i j, x = .str i ∧ y = .str j ∧ i.length + j.length ≤ sizeLine ∧ Q (.str (i ++ j)) H) ∨ rCatS K x y H Q ∨ rCatA K x y H Q
theorem op_addU : OpR X (binaryOp .Add) (rAdd X.K) := OpR.or op_add (OpR.or op_add_str (OpR.or op_catS op_catA))
theorem pok_add {K : PySem.W.Frag} : Pok2 K .add (rAdd K) := by
  intro n H w v u x y d f Q wf hx hy hp g
  simp only [prim] at hp
  unfold pAdd at hp
  split at hp
  · obtain rfl := hx.int
    obtain rfl := hy.int
    cases hp
    exact .inl ⟨_, _, rfl, rfl, g.same wf (.int _)⟩
  · obtain rfl := hx.str
    obtain rfl := hy.str
    split at hp
    · cases hp
      exact .inr (.inl ⟨_, _, rfl, rfl, by assumption, g.same wf (.str _)⟩)
    · cases hp
  · obtain ⟨a, xs, rfl, sx, rx⟩ := hx.list
    obtain ⟨b, ys, rfl, sy, ry⟩ := hy.list
    split at hp
    · rename_i hl
      cases hp
      exact .inr (.inr (.inl ⟨a, b, xs, ys, rfl, rfl, sx, sy, by rw [rx.length, ry.length]; exact hl, g.lst wf (rx.append ry)⟩))
    · cases hp
  · obtain ⟨a, xs, rfl, sx, rx, px⟩ := hx.tup
    obtain ⟨b, ys, rfl, sy, ry, py⟩ := hy.tup
    split at hp
    · rename_i hl
      cases hp
      refine .inr (.inr (.inr ⟨a, b, xs, ys, rfl, rfl, sx, sy, by rw [rx.length, ry.length]; exact hl, fun e => ?_, fun _ e => ?_, fun _ _ => g.tup wf (rx.append ry)⟩))
      · subst e
        cases rx
        exact g.same wf py
      · subst e
        cases ry
        rw [List.append_nil] at g
        exact g.same wf px
    · cases hp
  · cases hp
theorem pok_sub {K : PySem.W.Frag} : Pok2 K .sub (rI0 fun i j => .int (i - j)) := by
  intro n H w v u x y d f Q wf hx hy hp g
  unfold prim at hp
  split at hp <;> simp_all
  rename_i e
  obtain ⟨rfl, rfl⟩ := e
  obtain rfl := hx.int
  obtain rfl := hy.int
  cases hp
  exact ⟨_, _, rfl, rfl, g.same wf (.int _)⟩
end
end PD
/-! PD3b: more operations. -/
namespace PD
open PySem PySem.Spec PyProof.Rows L2
section
variable {X : Cx} {K : PySem.W.Frag}
theorem pok_mulI : ∀ (n : Nat) (H : Hp) (w : Wh) (i j : Int) (d : D) (f : Bool) (Q : VK), Wf H w → (if okMul i j = true then io (i * j) else none) = some (f, d) → PGo K n H w f d Q → rI CMul (fun i j => .int (i * j)) (.int i) (.int j) H Q := by
  intro n H w i j d f Q wf hp g
  split at hp
  · rename_i h
    cases hp
    refine ⟨_, _, rfl, rfl, ?_, g.same wf (.int _)⟩
    unfold okMul at h
    unfold CMul
    simpa only [Bool.or_eq_true, Bool.and_eq_true, decide_eq_true_eq] using h
  · cases hp
theorem pok_mod : Pok2 K .mod (rI (fun _ j => 0 < j) fun i j => .int (i % j)) := by
  intro n H w v u x y d f Q wf hx hy hp g
  cases x <;> cases y <;> simp only [prim] at hp <;> first | cases hp | skip
  obtain rfl := hx.int
  obtain rfl := hy.int
  split at hp
  · cases hp
    exact ⟨_, _, rfl, rfl, by assumption, g.same wf (.int _)⟩
  · cases hp
theorem pok_fdiv : Pok2 K .fdiv (rI CDiv fun i j => .int (i / j)) := by
  intro n H w v u x y d f Q wf hx hy hp g
  cases x <;> cases y <;> simp only [prim] at hp <;> first | cases hp | skip
  obtain rfl := hx.int
  obtain rfl := hy.int
  split at hp
  · cases hp
    exact ⟨_, _, rfl, rfl, by assumption, g.same wf (.int _)⟩
  · cases hp
theorem pok_pow : Pok2 K .pow (rI CPow fun i j => .int (i ^ j.toNat)) := by
  intro n H w v u x y d f Q wf hx hy hp g
  cases x <;> cases y <;> simp only [prim] at hp <;> first | cases hp | skip
  obtain rfl := hx.int
  obtain rfl := hy.int
  split at hp
  · cases hp
    exact ⟨_, _, rfl, rfl, by assumption, g.same wf (.int _)⟩
  · cases hp
theorem pok_cmpI {p : Pr} {q : Int → Int → Bool} (he : ∀ x y, prim p [x, y] = pOrd q x y) : Pok2 K p (rI0 fun i j => .bl (q i j)) := by
  intro n H w v u x y d f Q wf hx hy hp g
  rw [he] at hp
  unfold pOrd at hp
  split at hp
  · obtain rfl := hx.int
    obtain rfl := hy.int
    cases hp
    exact ⟨_, _, rfl, rfl, g.same wf (.bl _)⟩
  · cases hp
theorem ints_of {H : Hp} {w : Wh} : ∀ {xs : List V} {ds : List D} {ns : List Int}, RpAll K H w xs ds → intsOf ds = some ns → xs = ns.map V.int
  | _, [], _, .nil, h => by cases h; rfl
  | _ :: _, d :: ds, ns, .cons a b, h => by
    cases d with
    | int c =>
      unfold intsOf at h
      split at h
      · rename_i bs' e
        cases h
        cases a
        rw [ints_of b e]
        rfl
      · cases h
    | _ => simp [intsOf] at h
def rLtU (K : PySem.W.Frag) : R2 := fun x y H Q => rI0 (fun i j => .bl (decide (i < j))) x y H Q ∨ rLtT K x y H Q
theorem op_ltU (hu : X.A.units < cLine) : OpR X (compareOp .Lt) (rLtU X.K) := OpR.or op_lt (op_ltT hu)
theorem pok_lt : Pok2 K .lt (rLtU K) := by
  intro n H w v u x y d f Q wf hx hy hp g
  simp only [prim] at hp
  unfold pLt at hp
  split at hp
  · obtain rfl := hx.int
    obtain rfl := hy.int
    cases hp
    exact .inl ⟨_, _, rfl, rfl, g.same wf (.bl _)⟩
  · obtain ⟨a, xs, rfl, sx, rx, _⟩ := hx.tup
    obtain ⟨b, ys, rfl, sy, ry, _⟩ := hy.tup
    split at hp
    · rename_i ns ms h1 h2
      cases hp
      rw [ints_of rx h1] at sx
      rw [ints_of ry h2] at sy
      exact .inr ⟨a, b, ns, ms, rfl, rfl, sx, sy, g.same wf (.bl _)⟩
    · cases hp
  · cases hp
theorem pok_le : Pok2 K .le (rI0 fun i j => .bl (decide (i ≤ j))) := pok_cmpI fun _ _ => rfl
theorem pok_gt : Pok2 K .gt (rI0 fun i j => .bl (decide (j < i))) := pok_cmpI fun _ _ => rfl
theorem pok_ge : Pok2 K .ge (rI0 fun i j => .bl (decide (j ≤ i))) := pok_cmpI fun _ _ => rfl
theorem pok_eq : Pok2 K .eq (rEqD K) := by
  intro n H w v u x y d f Q wf hx hy hp g
  simp only [prim] at hp
  split at hp
  · rename_i h
    rw [Bool.and_eq_true] at h
    cases hp
    exact ⟨x, y, hx.dp (SeqAt.canLay_of_shaped h.1), hy.dp (SeqAt.canLay_of_shaped h.2), h.1, h.2, g.same wf (.bl _)⟩
  · cases hp
theorem pok_ne : Pok2 K .ne (rNeD K) := by
  intro n H w v u x y d f Q wf hx hy hp g
  simp only [prim] at hp
  split at hp
  · rename_i h
    rw [Bool.and_eq_true] at h
    cases hp
    exact ⟨x, y, hx.dp (SeqAt.canLay_of_shaped h.1), hy.dp (SeqAt.canLay_of_shaped h.2), h.1, h.2, g.same wf (.bl _)⟩
  · cases hp
/-! dicts -/
theorem keyEqs_keys : ∀ (xs ys : List Key), keyEqs (xs.map keyD) (ys.map keyD) = decide (xs = ys)
  | [], [] => by simp [keyEqs]
  | [], y :: ys => by cases y <;> simp [keyEqs, keyD]
  | x :: xs, [] => by cases x <;> simp [keyEqs, keyD]
  | x :: xs, y :: ys => by
    have ih := keyEqs_keys xs ys
    cases x <;> cases y <;> simp [keyEqs, keyD, ih]
theorem keyEq_key (x y : Key) : keyEq (keyD x) (keyD y) = decide (x = y) := by
  cases x <;> cases y <;> simp [keyEq, keyD]
theorem keyEq_tup (x y : List Key) : keyEq (.tuple (x.map keyD)) (.tuple (y.map keyD)) = decide (x = y) := by
  simp only [keyEq]
  exact keyEqs_keys x y
theorem keyEq_kt (x : Key) (y : List Key) : keyEq (keyD x) (.tuple (y.map keyD)) = false := by
  cases x <;> rfl
theorem keyEq_tk (x : Key) (y : List Key) : keyEq (.tuple (y.map keyD)) (keyD x) = false := by
  cases x <;> rfl
theorem keys_of : ∀ (xs : List D), xs.all keyAt = true → ∃ ks : List Key, xs = ks.map keyD
  | [], _ => ⟨[], rfl⟩
  | x :: xs, h => by
    rw [List.all_cons, Bool.and_eq_true] at h
    obtain ⟨ks, e⟩ := keys_of xs h.2
    cases x with
    | int i => exact ⟨.inl i :: ks, by rw [e]; rfl⟩
    | str z => exact ⟨.inr z :: ks, by rw [e]; rfl⟩
    | _ => exact absurd h.1 (by simp [keyAt])
theorem key_ofK {kvs : List (D × D)} {d : D} (t : isT kvs = false) (h : keyOf kvs d = true) : ∃ k, d = keyD k := by
  unfold keyOf at h
  rw [t] at h
  cases d with
  | int i => exact ⟨.inl i, rfl⟩
  | str z => exact ⟨.inr z, rfl⟩
  | _ => simp [keyAt] at h
theorem key_ofT {kvs : List (D × D)} {d : D} (t : isT kvs = true) (h : keyOf kvs d = true) : ∃ ks : List Key, d = .tuple (ks.map keyD) := by
  unfold keyOf at h
  rw [t] at h
  cases d with
  | tuple xs =>
    obtain ⟨ks, e⟩ := keys_of xs h
    exact ⟨ks, by rw [e]⟩
  | _ => simp at h
theorem isT_ks {H : Hp} {w : Wh} : ∀ {kvs : List (Key × V)} {ds : List (D × D)}, RpKs K H w kvs ds → isT ds = false
  | _, _, .nil => rfl
  | (k, _) :: _, _, .cons _ _ => by cases k <;> rfl
theorem rr_key {H : Hp} {w : Wh} {v : V} {k : Key} (h : Rr K H w v (keyD k)) : v = kV k := by
  cases k with
  | inl i => exact Rr.int h
  | inr z => exact Rr.str h
theorem rpall_keys {H : Hp} {w : Wh} : ∀ {vs : List V} {ks : List Key}, RpAll K H w vs (ks.map keyD) → vs = ks.map kV
  | [], [], _ => rfl
  | _ :: _, k :: ks, .cons a b => by
    rw [rr_key (.inl a), rpall_keys b]
    rfl
/-- tuples that are keys: tracked ones -/
theorem rr_tkey {H : Hp} {w : Wh} {v : V} {ks : List Key} (h : Rr K H w v (.tuple (ks.map keyD))) : ∃ b, v = .ref b ∧ H b = some (.tup (ks.map kV)) := by
  obtain ⟨a, xs, e, s, r⟩ := h.tupT
  rw [rpall_keys r] at s
  exact ⟨a, e, s⟩
theorem dget_ks {H : Hp} {w : Wh} {k : Key} : ∀ {kvs : List (Key × V)} {ds : List (D × D)}, RpKs K H w kvs ds → (dGet ds (keyD k) = none ∧ valV kvs k = none) ∨ ∃ d v, dGet ds (keyD k) = some d ∧ valV kvs k = some v ∧ Rp K H w v d
  | _, _, .nil => .inl ⟨rfl, rfl⟩
  | (k', v) :: kvs, (_, d) :: ds, .cons a b => by
    have ih := dget_ks (k := k) b
    unfold dGet
    show (( if keyEq (keyD k') (keyD k) = true then some d else dGet ds (keyD k)) = none ∧ _) ∨ _
    rw [keyEq_key]
    unfold valV at ih ⊢
    by_cases e : k' = k
    · subst e
      right
      exact ⟨d, v, by simp, by simp, a⟩
    · simp only [decide_eq_true_eq, e, if_false, List.find?_cons, decide_false]
      exact ih
theorem dget_ts {H : Hp} {w : Wh} {k : List Key} : ∀ {kvs : List (List Key × V)} {ds : List (D × D)}, RpTs K H w kvs ds → (dGet ds (.tuple (k.map keyD)) = none ∧ valV kvs k = none) ∨ ∃ d v, dGet ds (.tuple (k.map keyD)) = some d ∧ valV kvs k = some v ∧ Rp K H w v d
  | _, _, .nil => .inl ⟨rfl, rfl⟩
  | (k', v) :: kvs, (_, d) :: ds, .cons a b => by
    have ih := dget_ts (k := k) b
    unfold dGet
    show (( if keyEq (.tuple (k'.map keyD)) (.tuple (k.map keyD)) = true then some d else dGet ds (.tuple (k.map keyD))) = none ∧ _) ∨ _
    rw [keyEq_tup]
    unfold valV at ih ⊢
    by_cases e : k' = k
    · subst e
      right
      exact ⟨d, v, by simp, by simp, a⟩
    · simp only [decide_eq_true_eq, e, if_false, List.find?_cons, decide_false]
      exact ih
end
end PD
/-! PD3c: in, is, items, the built-in functions. -/
namespace PD
open PySem PySem.Spec PyProof.Rows L2
section
variable {X : Cx} {K : PySem.W.Frag}
/-- x in a dict -/
def rInK (neg : Bool) : R2 := fun x y H Q => ∃ a o, y = .ref a ∧ DGet H a x o ∧ Q (.bl (if neg then !o.isSome else o.isSome)) H
theorem op_inK (hu : X.A.units + 1 < cLine) : OpR X (compareOp .In) (rInK false) := by
  intro pins s σ H x y v u Q I rx ry h
  obtain ⟨a, o, rfl, g, q⟩ := h
  obtain rfl : u = Value.ref a := ry
  exact d_in hu I g rx fun s3 I3 => ⟨.bl o.isSome, H, I3, rfl, q⟩
theorem op_notInK (hu : X.A.units + 1 < cLine) : OpR X (compareOp .NotIn) (rInK true) := by
  intro pins s σ H x y v u Q I rx ry h
  obtain ⟨a, o, rfl, g, q⟩ := h
  obtain rfl : u = Value.ref a := ry
  exact d_notIn hu I g rx fun s3 I3 => ⟨.bl (!o.isSome), H, I3, rfl, q⟩
/-- what a dict says of a key -/
theorem dget_of {H : Hp} {w : Wh} {a : Addr} {ds : List (D × D)} {x : D} {v : V} (dc : DcAt K H w a ds) (hk : keyOf ds x = true) (hx : Rr K H w v x) :
    ∃ o, DGet H a v o ∧ ((dGet ds x = none ∧ o = none) ∨ ∃ d v', dGet ds x = some d ∧ o = some v' ∧ Rp K H w v' d) := by
  cases dc with
  | k kvs e r =>
    obtain ⟨k, rfl⟩ := key_ofK (isT_ks r) hk
    obtain rfl := rr_key hx
    refine ⟨_, DGet.k e, ?_⟩
    rcases dget_ks (k := k) r with ⟨h1, h2⟩ | ⟨d, v, h1, h2, h3⟩
    · exact .inl ⟨h1, h2⟩
    · exact .inr ⟨d, v, h1, h2, h3⟩
  | t kvs es e0 e r =>
    subst e0
    obtain ⟨ks, rfl⟩ := key_ofT rfl hk
    obtain ⟨b, rfl, hb⟩ := rr_tkey hx
    refine ⟨_, DGet.t e hb, ?_⟩
    rcases dget_ts (k := ks) r with ⟨h1, h2⟩ | ⟨d, v, h1, h2, h3⟩
    · exact .inl ⟨h1, h2⟩
    · exact .inr ⟨d, v, h1, h2, h3⟩
def rInU (K : PySem.W.Frag) : R2 := fun x y H Q => rInD K x y H Q ∨ rInK false x y H Q
def rNotInU (K : PySem.W.Frag) : R2 := fun x y H Q => rNotInD K x y H Q ∨ rInK true x y H Q
theorem op_inU (hu : X.A.units + 65 < cLine) : OpR X (compareOp .In) (rInU X.K) := OpR.or (op_inD hu) (op_inK (by omega))
theorem op_notInU (hu : X.A.units + 65 < cLine) : OpR X (compareOp .NotIn) (rNotInU X.K) := OpR.or (op_notInD hu) (op_notInK (by omega))
theorem pok_in : Pok2 K .isin (rInU K) := by
  intro n H w v u x y d f Q wf hx hy hp g
  simp only [prim] at hp
  unfold pIn at hp
  split at hp
  · split at hp
    · rename_i h
      rw [Bool.and_eq_true] at h
      cases hp
      exact .inl ⟨_, _, hx.dp (SeqAt.canLay_of_shaped h.1), hy.dp (SeqAt.canLay_of_shaped h.2), h.1, h.2, g.same wf (.bl _)⟩
    · cases hp
  · split at hp
    · rename_i h
      cases hp
      obtain ⟨a, rfl, dc⟩ := hy.dic
      obtain ⟨o, g1, g2⟩ := dget_of dc h hx
      refine .inr ⟨a, o, rfl, g1, ?_⟩
      rcases g2 with ⟨e1, e2⟩ | ⟨d, v', e1, e2, _⟩
      · rw [e1] at g; rw [e2]; exact g.same wf (.bl _)
      · rw [e1] at g; rw [e2]; exact g.same wf (.bl _)
    · cases hp
  · cases hp
theorem pok_notin : Pok2 K .notin (rNotInU K) := by
  intro n H w v u x y d f Q wf hx hy hp g
  simp only [prim] at hp
  unfold pIn at hp
  split at hp
  · split at hp
    · rename_i h
      rw [Bool.and_eq_true] at h
      cases hp
      exact .inl ⟨_, _, hx.dp (SeqAt.canLay_of_shaped h.1), hy.dp (SeqAt.canLay_of_shaped h.2), h.1, h.2, g.same wf (.bl _)⟩
    · cases hp
  · split at hp
    · rename_i h
      cases hp
      obtain ⟨a, rfl, dc⟩ := hy.dic
      obtain ⟨o, g1, g2⟩ := dget_of dc h hx
      refine .inr ⟨a, o, rfl, g1, ?_⟩
      rcases g2 with ⟨e1, e2⟩ | ⟨d, v', e1, e2, _⟩
      · rw [e1] at g; rw [e2]; exact g.same wf (.bl _)
      · rw [e1] at g; rw [e2]; exact g.same wf (.bl _)
    · cases hp
  · cases hp
theorem rr_isnon {H : Hp} {w : Wh} {v : V} {x : D} (h : Rr K H w v x) (hx : x ≠ .none) : v ≠ .non := by
  rintro rfl
  rcases h with h | ⟨a, e, c⟩
  · cases h; exact hx rfl
  · cases e
theorem pok_isN : Pok2 K .isN (fun x y H Q => y = .non ∧ Q (.bl (decide (x = .non))) H) := by
  intro n H w v u x y d f Q wf hx hy hp g
  cases y <;> simp only [prim] at hp <;> first | cases hp | skip
  obtain rfl := hy.non
  refine ⟨rfl, ?_⟩
  cases x with
  | none =>
    cases hp
    obtain rfl := hx.non
    exact g.same wf (.bl _)
  | _ =>
    cases hp
    rw [decide_eq_false (rr_isnon hx (by intro z; cases z))]
    exact g.same wf (.bl _)
theorem pok_notN : Pok2 K .notN (fun x y H Q => y = .non ∧ Q (.bl (!decide (x = .non))) H) := by
  intro n H w v u x y d f Q wf hx hy hp g
  cases y <;> simp only [prim] at hp <;> first | cases hp | skip
  obtain rfl := hy.non
  refine ⟨rfl, ?_⟩
  cases x with
  | none =>
    cases hp
    obtain rfl := hx.non
    exact g.same wf (.bl _)
  | _ =>
    cases hp
    rw [decide_eq_false (rr_isnon hx (by intro z; cases z))]
    exact g.same wf (.bl _)
theorem pok_isB : Pok2 K .isB rIsB := by
  intro n H w v u x y d f Q wf hx hy hp g
  cases x <;> cases y <;> simp only [prim] at hp <;> first | cases hp | skip
  obtain rfl := hx.bl
  obtain rfl := hy.bl
  exact ⟨_, _, rfl, rfl, g.same wf (.bl _)⟩
theorem pok_notB : Pok2 K .notB rNotB := by
  intro n H w v u x y d f Q wf hx hy hp g
  cases x <;> cases y <;> simp only [prim] at hp <;> first | cases hp | skip
  obtain rfl := hx.bl
  obtain rfl := hy.bl
  exact ⟨_, _, rfl, rfl, g.same wf (.bl _)⟩
/-! items -/
def rIxK : R2 := fun x y H Q => ∃ a v, x = .ref a ∧ DGet H a y (some v) ∧ Q v H
theorem ix_dict (hu : X.A.units + 1 < cLine) : IxR X rIxK := by
  intro value slice pins s σ H x y v u Q I rx ry h hs
  obtain ⟨a, z, rfl, g, q⟩ := h
  obtain rfl : v = Value.ref a := rx
  have hT := dict_typeIs I g
  unfold subscriptTail
  refine wpAny_bind ?_
  rw [getitemInPython_of_ne hT.not_modules]
  refine wpAny_bind (wpAny_specialOf hT PySem.F.slot_dict_getitem.lookup ?_)
  have fin : wpAny (model X.prog X.w) X.A (subscripted slice false (Value.ref a) u) (fun r s₃ => wpAny (model X.prog X.w) X.A (letTemporaryGo value (Value.ref a) r >>= fun _ => pure r) (EP X pins σ Q) X.xe s₃) X.xe s := by
    rw [hs]
    exact wpAny_operating (d_getItem hu I g ry fun w' s3 I3 rw' => wpAny_bind (wpAny_letTemporaryGo (wpAny_pure ⟨z, H, I3, rw', q⟩)))
  first
    | exact wpAny_pure (wpAny_bind fin)
    | exact wpAny_pure (wpAny_pure (wpAny_bind fin))
    | exact wpAny_bind fin
def rIxU (K : PySem.W.Frag) : R2 := fun x y H Q => rIxL K x y H Q ∨ rIxT K x y H Q ∨ rIxK x y H Q
theorem ix_U (hu : X.A.units + 1 < cLine) : IxR X (rIxU X.K) := ix_list.or (ix_tup.or (ix_dict hu))
theorem atI_of {H : Hp} {w : Wh} {xs : List V} {ds : List D} {i : Int} {d : D} (r : RpAll K H w xs ds) (h : atD ds i = some d) : ∃ v, atI xs i = some v ∧ Rp K H w v d := by
  have hl := r.length
  unfold atD at h
  unfold atI ixN
  by_cases h0 : 0 ≤ i
  · rw [if_pos h0] at h
    obtain ⟨hb, _⟩ := List.getElem?_eq_some_iff.mp h
    obtain ⟨v, e, q⟩ := r.get h
    refine ⟨v, ?_, q⟩
    rw [if_pos h0, if_pos (by omega)]
    exact e
  · rw [if_neg h0] at h
    split at h
    · rename_i h1
      obtain ⟨v, e, q⟩ := r.get h
      refine ⟨v, ?_, q⟩
      rw [if_neg h0, if_pos (by omega)]
      have : (i + (xs.length : Int)).toNat = ((ds.length : Int) + i).toNat := by rw [hl]; congr 1; omega
      rw [← e, ← this]
      rfl
    · cases h
theorem pok_ix {n : Nat} {H : Hp} {w : Wh} {v u : V} {x y d : D} {Q : VK} (wf : Wf H w) (hx : Rr K H w v x) (hy : Rr K H w u y) (hp : pIx x y = some d) (g : PGo K n H w false d Q) : rIxU K v u H Q := by
  unfold pIx at hp
  split at hp
  · obtain ⟨a, xs, rfl, s, r⟩ := hx.list
    obtain rfl := hy.int
    obtain ⟨z, e, q⟩ := atI_of r hp
    exact .inl ⟨a, xs, _, z, rfl, rfl, s, e, g.same wf q⟩
  · obtain ⟨a, xs, rfl, s, r, _⟩ := hx.tup
    obtain rfl := hy.int
    obtain ⟨z, e, q⟩ := atI_of r hp
    exact .inr (.inl ⟨a, xs, _, z, rfl, rfl, s, e, g.same wf q⟩)
  · split at hp
    · rename_i h
      obtain ⟨a, rfl, dc⟩ := hx.dic
      obtain ⟨o, g1, g2⟩ := dget_of dc h hy
      rcases g2 with ⟨e1, e2⟩ | ⟨d', v', e1, e2, r⟩
      · rw [e1] at hp; cases hp
      · rw [e1] at hp
        cases hp
        subst e2
        exact .inr (.inr ⟨a, v', rfl, g1, g.same wf r⟩)
    · cases hp
  · cases hp
end
end PD
/-! PD3d: the built-in functions, methods that change their thing. -/
namespace PD
open PySem PySem.Spec PyProof.Rows L2
section
variable {X : Cx} {K : PySem.W.Frag}
/-- a built-in function's rule for prim p -/
def Pok (K : PySem.W.Frag) (p : Pr) (r : List V → Hp → VK → Prop) : Prop := ∀ (n : Nat) (H : Hp) (w : Wh) (vs : List V) (ds : List D) (d : D) (f : Bool) (Q : VK), Wf H w → Paired (Rr K H w) vs ds → prim p ds = some (f, d) → PGo K n H w f d Q → r vs H Q
theorem pok1 {p : Pr} {r : List V → Hp → VK → Prop} (h1 : ∀ ds f d, prim p ds = some (f, d) → ∃ x, ds = [x])
    (h : ∀ (n : Nat) (H : Hp) (w : Wh) (v : V) (x d : D) (f : Bool) (Q : VK), Wf H w → Rr K H w v x → prim p [x] = some (f, d) → PGo K n H w f d Q → r [v] H Q) : Pok K p r := by
  intro n H w vs ds d f Q wf hv hp g
  obtain ⟨x, rfl⟩ := h1 _ _ _ hp
  cases hv with
  | cons a b =>
    cases b
    exact h n H w _ x d f Q wf a hp g
theorem pok2 {p : Pr} {r : List V → Hp → VK → Prop} (h1 : ∀ ds f d, prim p ds = some (f, d) → ∃ x y, ds = [x, y])
    (h : ∀ (n : Nat) (H : Hp) (w : Wh) (v u : V) (x y d : D) (f : Bool) (Q : VK), Wf H w → Rr K H w v x → Rr K H w u y → prim p [x, y] = some (f, d) → PGo K n H w f d Q → r [v, u] H Q) : Pok K p r := by
  intro n H w vs ds d f Q wf hv hp g
  obtain ⟨x, y, rfl⟩ := h1 _ _ _ hp
  cases hv with
  | cons a b =>
    cases b with
    | cons b c =>
      cases c
      exact h n H w _ _ x y d f Q wf a b hp g
def rLenU (K : PySem.W.Frag) : List V → Hp → VK → Prop := fun xs H Q => (∃ p ys, xs = [.ref p] ∧ (SqL K H p ys ∨ SqT K H p ys) ∧ Q (.int ys.length) H) ∨ ∃ z, xs = [.str z] ∧ z.length ≤ sizeLine ∧ Q (.int z.length) H
theorem call_lenU : CallR X (.builtin "len") (rLenU X.K) := CallR.or call_len_seq call_len_str
theorem pok_len : Pok K .len (rLenU K) := by
  refine pok1 (fun ds f d h => ?_) fun n H w v x d f Q wf hx hp g => ?_
  · unfold prim at h; split at h <;> simp_all
  simp only [prim] at hp
  unfold pLen at hp
  split at hp
  · obtain ⟨a, xs, rfl, s, r⟩ := hx.list
    cases hp
    refine .inl ⟨a, xs, rfl, .inl s, ?_⟩
    rw [r.length]
    exact g.same wf (.int _)
  · obtain ⟨a, xs, rfl, s, r, _⟩ := hx.tup
    cases hp
    refine .inl ⟨a, xs, rfl, .inr s, ?_⟩
    rw [r.length]
    exact g.same wf (.int _)
  · obtain rfl := hx.str
    split at hp
    · cases hp
      exact .inr ⟨_, rfl, by assumption, g.same wf (.int _)⟩
    · cases hp
  · cases hp
theorem pok_abs : Pok K .abs (fun xs H Q => ∃ i, xs = [.int i] ∧ Q (.int (if i < 0 then -i else i)) H) := by
  refine pok1 (fun ds f d h => ?_) fun n H w v x d f Q wf hx hp g => ?_
  · unfold prim at h; split at h <;> simp_all
  cases x <;> simp only [prim] at hp <;> first | cases hp | skip
  obtain rfl := hx.int
  exact ⟨_, rfl, g.same wf (.int _)⟩
theorem pok_min2 : Pok K .min2 (fun xs H Q => ∃ i j, xs = [.int i, .int j] ∧ Q (.int (if j < i then j else i)) H) := by
  refine pok2 (fun ds f d h => ?_) fun n H w v u x y d f Q wf hx hy hp g => ?_
  · unfold prim at h; split at h <;> simp_all
  cases x <;> cases y <;> simp only [prim] at hp <;> first | cases hp | skip
  obtain rfl := hx.int
  obtain rfl := hy.int
  exact ⟨_, _, rfl, g.same wf (.int _)⟩
theorem pok_max2 : Pok K .max2 (fun xs H Q => ∃ i j, xs = [.int i, .int j] ∧ Q (.int (if j > i then j else i)) H) := by
  refine pok2 (fun ds f d h => ?_) fun n H w v u x y d f Q wf hx hy hp g => ?_
  · unfold prim at h; split at h <;> simp_all
  cases x <;> cases y <;> simp only [prim] at hp <;> first | cases hp | skip
  obtain rfl := hx.int
  obtain rfl := hy.int
  exact ⟨_, _, rfl, g.same wf (.int _)⟩
theorem pok_tuple : Pok K .tuple (fun xs H Q => ∃ p ys, xs = [.ref p] ∧ ((SqL K H p ys ∧ ∀ l, H l = none → Q (.ref l) (upd H l (.tup ys))) ∨ (SqT K H p ys ∧ Q (.ref p) H))) := by
  refine pok1 (fun ds f d h => ?_) fun n H w v x d f Q wf hx hp g => ?_
  · unfold prim at h; split at h <;> simp_all
  cases x <;> simp only [prim] at hp <;> first | cases hp | skip
  · obtain ⟨a, xs, rfl, s, r⟩ := hx.list
    exact ⟨a, xs, rfl, .inl ⟨s, g.tup wf r⟩⟩
  · obtain ⟨a, xs, rfl, s, r, p⟩ := hx.tup
    exact ⟨a, xs, rfl, .inr ⟨s, g.same wf p⟩⟩
theorem pok_list : Pok K .list (fun xs H Q => ∃ p ys, xs = [.ref p] ∧ (SqL K H p ys ∨ SqT K H p ys) ∧ ∀ l, H l = none → Q (.ref l) (upd H l (.lst ys))) := by
  refine pok1 (fun ds f d h => ?_) fun n H w v x d f Q wf hx hp g => ?_
  · unfold prim at h; split at h <;> simp_all
  cases x <;> simp only [prim] at hp <;> first | cases hp | skip
  · obtain ⟨a, xs, rfl, s, r⟩ := hx.list
    exact ⟨a, xs, rfl, .inl s, g.lst wf r⟩
  · obtain ⟨a, xs, rfl, s, r, p⟩ := hx.tup
    exact ⟨a, xs, rfl, .inr s, g.lst wf r⟩
theorem bools_of {H : Hp} {w : Wh} : ∀ {xs : List V} {ds : List D} {bs : List Bool}, RpAll K H w xs ds → isBools ds = some bs → xs = bs.map V.bl
  | _, [], _, .nil, h => by cases h; rfl
  | _ :: _, d :: ds, bs, .cons a b, h => by
    cases d with
    | bool c =>
      unfold isBools at h
      split at h
      · rename_i bs' e
        cases h
        cases a
        rw [bools_of b e]
        rfl
      · cases h
    | _ => simp [isBools] at h
theorem pok_all : Pok K .all (rAll K) := by
  refine pok1 (fun ds f d h => ?_) fun n H w v x d f Q wf hx hp g => ?_
  · unfold prim at h; split at h <;> simp_all
  cases x <;> simp only [prim] at hp <;> first | cases hp | skip
  obtain ⟨a, xs, rfl, s, r⟩ := hx.list
  split at hp
  · rename_i bs e
    cases hp
    rw [bools_of r e] at s
    exact ⟨a, bs, rfl, s, g.same wf (.bl _)⟩
  · cases hp
theorem pok_int : Pok K .int (fun xs H Q => (∃ i, xs = [.int i] ∧ Q (.int i) H) ∨ ∃ k, xs = [.bl k] ∧ Q (.int (if k then 1 else 0)) H) := by
  refine pok1 (fun ds f d h => ?_) fun n H w v x d f Q wf hx hp g => ?_
  · unfold prim at h; split at h <;> simp_all
  cases x <;> simp only [prim] at hp <;> first | cases hp | skip
  · obtain rfl := hx.bl
    exact .inr ⟨_, rfl, g.same wf (.int _)⟩
  · obtain rfl := hx.int
    exact .inl ⟨_, rfl, g.same wf (.int _)⟩
/-! kinds -/
def kdTy : Kd → String
  | .int => "int" | .bool => "bool" | .str => "str" | .list => "list" | .tuple => "tuple" | .dict => "dict"
def tyOf : D → String
  | .none => "NoneType" | .bool _ => "bool" | .int _ => "int" | .str _ => "str" | .list _ => "list" | .tuple _ => "tuple" | .dict _ => "dict"
theorem kit_kd (k : Kd) (d : D) : kitB (tyOf d) (kdTy k) = some (kindOf k d) := by
  cases k <;> cases d <;> simp only [tyOf, kdTy, kindOf] <;> decide +kernel
theorem ty_of {H : Hp} {w : Wh} {v : V} {d : D} (h : Rr K H w v d) : TyX K H v (.type (tyOf d)) := by
  rcases h with h | ⟨a, rfl, c⟩
  · cases h with
    | non => exact .base .non
    | bl b => exact .base (.bl b)
    | int i => exact .base (.int i)
    | str x => exact .base (.str x)
    | lst n r =>
      obtain ⟨n | ⟨o, n⟩, _⟩ | ⟨o, its, m, h1, h2, _⟩ := n
      · exact .base (.lst n)
      · exact .base (.frz n)
      · exact .kList h1 h2
    | tup n r => exact .base (.tup n.1)
    | dk n e r => exact .base (.dK n)
    | dt n e r => exact .base (.dT n)
  · cases c with
    | lst n r => exact .base (.lst n)
    | dk n r => exact .base (.dK n)
    | dt n r => exact .base (.dT n)
/-! ### methods that change their thing -/
/-- the rule r at a thing of one's own does what mtd m does -/
def Mok (K : PySem.W.Frag) (m : Mt) (r : V → List V → Hp → VK → Prop) : Prop := ∀ (H : Hp) (w : Wh) (l : Lab) (a : Addr) (vs : List V) (d d' z : D) (ds : List D) (Q : VK), w a = some l → Cn K H w a d → RpAll K H w vs ds → mtd m d ds = some (d', z) →
  (∀ v o, (∀ b, b ≠ a → upd H a o b = H b) → Cn K (upd H a o) w a d' → Rp K (upd H a o) w v z → Q v (upd H a o)) → r (.ref a) vs H Q
theorem sty_own {H : Hp} {w : Wh} {a : Addr} {l : Lab} {o : HO} (e : w a = some l) : Sty H w (upd H a o) w := fun b u h z => ⟨by
  have : b ≠ a := fun q => by rw [q, e] at z; cases z
  rw [upd_ne this]; exact h, z⟩
theorem mok_append : Mok K .append rAppend := by
  intro H w l a vs d d' z ds Q e c r hm g
  unfold mtd at hm
  split at hm <;> first | cases hm | skip
  case _ =>
    rename_i xs' y' _ _
    cases c with
    | lst n rr =>
      cases r with
      | cons r1 r2 =>
        cases r2
        split at hm
        · rename_i hl
          cases hm
          refine ⟨a, _, _, rfl, rfl, n, by rw [rr.length]; exact hl, g _ _ (fun b hb => upd_ne hb) (.lst upd_same ((rr.mono (sty_own e)).append (.cons (Rp.mono (sty_own e) r1) .nil))) .non⟩
        · cases hm
  all_goals simp_all
end
end PD
/-! PD4: what an expression's reading is by the pure language; the rules. -/
namespace PD
open PySem PySem.Spec PyProof.Rows L2
theorem Rs.bind_ok {α β : Type} {x : Rs α} {f : α → En → Rs β} {b : β} {e : En} (h : x.bind f = .ok b e) : ∃ a e1, x = .ok a e1 ∧ f a e1 = .ok b e := by
  cases x with
  | no => cases h
  | ok a e1 => exact ⟨a, e1, rfl, h⟩
  | ex c d e1 => cases h
theorem _root_.L2.PE.imp {X : Cx} {e : Expr} {t t' : TE} (h : PE X e t) (i : ∀ σ H Q, t' σ H Q → t σ H Q) : PE X e t' := ⟨fun pins s σ H Q I q => h.run pins s σ H Q I (i σ H Q q)⟩
theorem _root_.L2.PT.imp {X : Cx} {e : Expr} {t t' : TT} (h : PT X e t) (i : ∀ σ H Q, t' σ H Q → t σ H Q) : PT X e t' := ⟨fun pins s σ H Q I q => h.run pins s σ H Q I (i σ H Q q)⟩
theorem _root_.L2.PW.imp {X : Cx} {e : Expr} {t t' : TT} (h : PW X e t) (i : ∀ σ H Q, t' σ H Q → t σ H Q) : PW X e t' := ⟨fun wh pins s σ H Q I q => h.run wh pins s σ H Q I (i σ H Q q)⟩
theorem _root_.L2.PA.imp {X : Cx} {es : List Expr} {t t' : TA} (h : PA X es t) (i : ∀ σ H Q, t' σ H Q → t σ H Q) : PA X es t' := ⟨fun pos pins s σ H Q I q => h.run pos pins s σ H Q I (i σ H Q q)⟩
theorem _root_.L2.PS.imp {X : Cx} {st : Stmt} {t t' : TS} (h : PS X st t) (i : ∀ D σ H, t' D σ H → t D σ H) : PS X st t' := ⟨fun pins s σ H D I q => h.run pins s σ H D I (i D σ H q)⟩
theorem _root_.L2.PSs.imp {X : Cx} {st : List Stmt} {t t' : TS} (h : PSs X st t) (i : ∀ D σ H, t' D σ H → t D σ H) : PSs X st t' := ⟨fun pins s σ H D I q => h.run pins s σ H D I (i D σ H q)⟩
theorem _root_.L2.PI.imp {X : Cx} {tg e : Expr} {t t' : TI} (h : PI X tg e t) (i : ∀ σ H R, t' σ H R → t σ H R) : PI X tg e t' := ⟨fun pins s σ H R I q => h.run pins s σ H R I (i σ H R q)⟩

section
variable (K : PySem.W.Frag) (F : List Fn)
/-- what is ahead: nothing of others' is changed, the slots hold the new things -/
structure Aft (n : Nat) (μ : Nat → Option V) (σ : L2.St) (e' : En) (H : Hp) (w : Wh) (H' : Hp) (w' : Wh) : Prop where
  stp : Stp (keepE n) H w H' w'
  wf : Wf H' w'
  env : EnvR K H' w' μ σ e'
def teE (ie : IE) : TE := fun σ H Q => ∃ n w μ e a e', Wf H w ∧ EnvR K H w μ σ e ∧ evE F ie e = .ok a e' ∧ ∀ v H' w', Aft K n μ σ e' H w H' w' → AnsR K n H' w' σ v a → Q v H'
def teT (it : IT) : TT := fun σ H Q => ∃ n w μ e b e', Wf H w ∧ EnvR K H w μ σ e ∧ evT F it e = .ok b e' ∧ ∀ H' w', Aft K n μ σ e' H w H' w' → Q b H'
inductive AnsRs (K : PySem.W.Frag) (H : Hp) (w : Wh) (σ : L2.St) : Nat → List V → List Ans → Prop
  | nil (n : Nat) : AnsRs K H w σ n [] []
  | cons {n : Nat} {v : V} {vs : List V} {a : Ans} {as : List Ans} : AnsR K n H w σ v a → AnsRs K H w σ (n + 1) vs as → AnsRs K H w σ n (v :: vs) (a :: as)
def teA (es : List IE) : TA := fun σ H Q => ∃ n w μ e as e', Wf H w ∧ EnvR K H w μ σ e ∧ evEs F es e = .ok as e' ∧ ∀ vs H' w', Aft K n μ σ e' H w H' w' → AnsRs K H' w' σ n vs as → Q vs H'
end
section
variable {K : PySem.W.Frag} {F : List Fn} {H H' : Hp} {w w' : Wh} {μ : Nat → Option V} {σ : L2.St} {e e' : En} {n m : Nat} {v : V} {d : D}
theorem Aft.refl (wf : Wf H w) (er : EnvR K H w μ σ e) : Aft K n μ σ e H w H w := ⟨Stp.refl, wf, er⟩
theorem Aft.trans {H1 : Hp} {w1 : Wh} {e1 : En} (a : Aft K n μ σ e1 H w H1 w1) (b : Aft K m μ σ e' H1 w1 H' w') (h : n ≤ m) : Aft K n μ σ e' H w H' w' :=
  ⟨a.stp.trans (b.stp.weak (keepE.le h)), b.wf, b.env⟩
theorem Aft.drp (a : Aft K n μ σ e' H w H' w') : Aft K n μ σ e' H w H' (drp n w') := ⟨a.stp.trans drp_stp, drp_wf a.wf, drp_env a.env⟩
/-- a step at which the slots' own things stay -/
theorem Aft.keep {H1 : Hp} {w1 : Wh} (a : Aft K n μ σ e' H w H1 w1) (s : Stp (keepP n) H1 w1 H' w') (wf : Wf H' w') : Aft K n μ σ e' H w H' w' :=
  ⟨a.stp.trans (s.weak keepP.e), wf, a.env.mono s fun i z => by cases z⟩
theorem rd_rr (h : n ≤ m) {x : Ans} (an : AnsR K m H w σ v x) (er : EnvR K H w μ σ e) (hr : rdA x e = some d) : Rr K H (PD.drp n w) v d := by
  cases x with
  | val f d' =>
    cases hr
    exact .inl (drp_ans h an)
  | pl i =>
    simp only [rdA] at hr
    cases hs : e[i]? with
    | none => rw [hs] at hr; cases hr
    | some so =>
      cases so with
      | none => rw [hs] at hr; cases hr
      | some s =>
        rw [hs] at hr
        cases hr
        obtain ⟨o, d⟩ := s
        obtain ⟨v', h1, h2, _⟩ := (drp_env (n := n) er).at_ i o d hs
        have : v' = v := by
          have q : σ[i]? = some (some v) := an
          rw [h1] at q
          exact Option.some.inj (Option.some.inj q)
        subst this
        exact h2.rr
theorem AnsR.any {σ' : L2.St} {f : Bool} (h : AnsR K n H w σ v (.val f d)) : AnsR K n H w σ' v (.val f d) := by
  cases f <;> exact h
theorem AnsRs.mono {keep : Lab → Prop} (s : Stp keep H w H' w') : ∀ {n : Nat} {vs : List V} {as : List Ans}, (∀ m, n ≤ m → m < n + as.length → keep (.tmp m)) → AnsRs K H w σ n vs as → AnsRs K H' w' σ n vs as
  | _, _, _, _, .nil n => .nil n
  | n, _, _, k, .cons a b => .cons (a.mono s (k n (Nat.le_refl _) (by simp))) (AnsRs.mono s (fun m h1 h2 => k m (by omega) (by simp only [List.length_cons]; omega)) b)
theorem rds_rr : ∀ {m : Nat} {xs : List Ans} {vs : List V} {ds : List D}, n ≤ m → AnsRs K H w σ m vs xs → EnvR K H w μ σ e → rdAs xs e = some ds → Paired (Rr K H (PD.drp n w)) vs ds
  | _, [], _, ds, _, .nil _, er, hr => by
    cases hr
    exact .nil
  | m, x :: xs, _, ds, h, .cons a b, er, hr => by
    simp only [rdAs] at hr
    cases h1 : rdA x e with
    | none => rw [h1] at hr; cases hr
    | some d =>
      cases h2 : rdAs xs e with
      | none => rw [h1, h2] at hr; cases hr
      | some ds' =>
        rw [h1, h2] at hr
        cases hr
        exact .cons (rd_rr h a er h1) (rds_rr (Nat.le_trans h (Nat.le_succ m)) b er h2)
theorem prA_ok {p : Pr} {as : List Ans} {a : Ans} (h : prA p as e = .ok a e') : ∃ ds f d, rdAs as e = some ds ∧ prim p ds = some (f, d) ∧ a = .val f d ∧ e' = e := by
  unfold prA at h
  split at h
  · rename_i ds h1
    split at h
    · rename_i f d h2
      cases h
      exact ⟨ds, f, d, h1, h2, rfl, rfl⟩
    · cases h
  · cases h
/-- an operation's end -/
theorem pgo_fin {f : Bool} {Q : VK} {H1 : Hp} {w1 : Wh} (a : Aft K n μ σ e' H w H1 w1) (k : ∀ v H' w', Aft K n μ σ e' H w H' w' → AnsR K n H' w' σ v (.val f d) → Q v H') : PGo K n H1 (PD.drp n w1) f d Q := fun v H' w' s wf an =>
  k v H' w' (a.drp.keep s wf) an.any
theorem rd2 {a b : Ans} {ds : List D} (h : rdAs [a, b] e = some ds) : ∃ x y, rdA a e = some x ∧ rdA b e = some y ∧ ds = [x, y] := by
  simp only [rdAs] at h
  cases h1 : rdA a e <;> cases h2 : rdA b e <;> simp_all
theorem rd1 {a : Ans} {ds : List D} (h : rdAs [a] e = some ds) : ∃ x, rdA a e = some x ∧ ds = [x] := by
  simp only [rdAs] at h
  cases h1 : rdA a e <;> simp_all
end

theorem ans_bl {K : PySem.W.Frag} {n : Nat} {H : Hp} {w : Wh} {σ : L2.St} {v : V} {f b : Bool} (h : AnsR K n H w σ v (.val f (.bool b))) : v = .bl b := by
  cases f with
  | false => exact Rr.bl (.inl h)
  | true => obtain ⟨a, _, _, c⟩ := h; cases c
/-! ### the rules -/
section
variable {X : Cx} {F : List Fn} {a b c : Expr} {ia ib ic : IE} {pos : Pos}
theorem se_var {i : Nat} {x : Str} (h : PE X (.Name x pos) (tVar i)) : PE X (.Name x pos) (teE X.K F (.var i)) := by
  refine h.imp fun σ H Q q => ?_
  obtain ⟨n, w, μ, e, a, e', wf, er, ev, k⟩ := q
  unfold evE at ev
  split at ev
  · rename_i d hs
    cases ev
    obtain ⟨v, h1, h2, _⟩ := er.at_ i _ _ hs
    exact ⟨v, h1, k v H w (.refl wf er) h2⟩
  · rename_i s _ hs
    cases ev
    obtain ⟨o, d⟩ := s
    obtain ⟨v, h1, h2, _⟩ := er.at_ i _ _ hs
    exact ⟨v, h1, k v H w (.refl wf er) h1⟩
  · cases ev
/-- constants -/
def litV : D → Option V
  | .none => some .non
  | .bool b => some (.bl b)
  | .int i => some (.int i)
  | .str x => some (.str x)
  | _ => none
theorem litV_rp {K : PySem.W.Frag} {H : Hp} {w : Wh} {d : D} {v : V} (h : litV d = some v) : Rp K H w v d := by
  cases d <;> simp only [litV] at h <;> cases h <;> constructor
theorem se_lit {d : D} {v : V} (hv : litV d = some v) (h : PE X a (tC v)) : PE X a (teE X.K F (.lit d)) := by
  refine h.imp fun σ H Q q => ?_
  obtain ⟨n, w, μ, e, a, e', wf, er, ev, k⟩ := q
  cases ev
  exact k v H w (.refl wf er) (litV_rp hv)
theorem se_gl {d : D} {v : V} {x : Str} (hv : litV d = some v) (h : PE X a (tC v)) : PE X a (teE X.K F (.gl x d)) := by
  refine h.imp fun σ H Q q => ?_
  obtain ⟨n, w, μ, e, a, e', wf, er, ev, k⟩ := q
  cases ev
  exact k v H w (.refl wf er) (litV_rp hv)
/-- two in a row, then an operation -/
theorem two_in {K : PySem.W.Frag} {σ : L2.St} {H : Hp} {R : V → V → Hp → Prop} {n : Nat} {w : Wh} {μ : Nat → Option V} {e e1 e2 : En} {x y : Ans} (wf : Wf H w) (er : EnvR K H w μ σ e) (e1h : evE F ia e = .ok x e1) (e2h : evE F ib e1 = .ok y e2)
    (k : ∀ v u H2 w2, Aft K n μ σ e2 H w H2 w2 → AnsR K n H2 w2 σ v x → AnsR K (n + 1) H2 w2 σ u y → R v u H2) :
    teE K F ia σ H fun v H1 => teE K F ib σ H1 fun u H2 => R v u H2 :=
  ⟨n, w, μ, e, x, e1, wf, er, e1h, fun v H1 w1 a1 an1 => ⟨n + 1, w1, μ, e1, y, e2, a1.wf, a1.env, e2h, fun u H2 w2 a2 an2 =>
    k v u H2 w2 (a1.trans a2 (Nat.le_succ n)) (an1.mono a2.stp (Nat.lt_succ_self n)) an2⟩⟩
theorem two_op {K : PySem.W.Frag} {σ : L2.St} {H : Hp} {Q : VK} {p : Pr} {r : R2} (hp : Pok2 K p r) {n : Nat} {w : Wh} {μ : Nat → Option V} {e e1 e2 e3 : En} {x y z : Ans} (wf : Wf H w) (er : EnvR K H w μ σ e) (e1h : evE F ia e = .ok x e1) (e2h : evE F ib e1 = .ok y e2) (e3h : prA p [x, y] e2 = .ok z e3)
    (k : ∀ v H' w', Aft K n μ σ e3 H w H' w' → AnsR K n H' w' σ v z → Q v H') : tOp r (teE K F ia) (teE K F ib) σ H Q := by
  obtain ⟨ds, f, d, h1, h2, rfl, rfl⟩ := prA_ok e3h
  obtain ⟨dx, dy, hx, hy, rfl⟩ := rd2 h1
  refine two_in (n := n) wf er e1h e2h fun v u H2 w2 a an1 an2 => ?_
  exact hp n H2 (drp n w2) v u dx dy d f Q (drp_wf a.wf) (rd_rr (Nat.le_refl n) an1 a.env hx) (rd_rr (Nat.le_succ n) an2 a.env hy) h2 (pgo_fin a k)
theorem se_bi {op : Operator} {p : Pr} {r : R2} (ho : OpR X (binaryOp op) r) (hp : Pok2 X.K p r) (ha : PE X a (teE X.K F ia)) (hb : PE X b (teE X.K F ib)) : PE X (.BinOp a op b pos) (teE X.K F (.bi p ia ib)) := by
  refine (pe_op ho ha hb).imp fun σ H Q q => ?_
  obtain ⟨n, w, μ, e, z, e', wf, er, ev, k⟩ := q
  unfold evE at ev
  obtain ⟨x, e1, h1, ev⟩ := Rs.bind_ok ev
  obtain ⟨y, e2, h2, h3⟩ := Rs.bind_ok ev
  exact two_op hp wf er h1 h2 h3 k
theorem se_cm {op : CmpOp} {p : Pr} {r : R2} (ho : OpR X (compareOp op) r) (hp : Pok2 X.K p r) (ha : PE X a (teE X.K F ia)) (hb : PE X b (teE X.K F ib)) (hm : behindInMarks op b = false) : PE X (.Compare a [op] [b] pos) (teE X.K F (.cm p ia ib)) := by
  refine (pe_cmpR ho ha hb hm).imp fun σ H Q q => ?_
  obtain ⟨n, w, μ, e, z, e', wf, er, ev, k⟩ := q
  unfold evE at ev
  obtain ⟨x, e1, h1, ev⟩ := Rs.bind_ok ev
  obtain ⟨y, e2, h2, h3⟩ := Rs.bind_ok ev
  exact two_op hp wf er h1 h2 h3 k
theorem st_cm {op : CmpOp} {p : Pr} {r : R2} (ho : OpR X (compareOp op) r) (hp : Pok2 X.K p r) (ha : PE X a (teE X.K F ia)) (hb : PE X b (teE X.K F ib)) (hm : behindInMarks op b = false) : PT X (.Compare a [op] [b] pos) (teT X.K F (.cm p ia ib)) := by
  refine (pt_cmpR ho ha hb hm).imp fun σ H Q q => ?_
  obtain ⟨n, w, μ, e, z, e', wf, er, ev, k⟩ := q
  unfold evT at ev
  obtain ⟨x, e1, h1, ev⟩ := Rs.bind_ok ev
  obtain ⟨y, e2, h2, ev⟩ := Rs.bind_ok ev
  obtain ⟨r', e3, h3, ev⟩ := Rs.bind_ok ev
  split at ev
  · cases ev
    refine two_op (n := n) hp wf er h1 h2 h3 fun v H' w' af an => ?_
    exact ⟨_, ans_bl an, k H' w' af⟩
  · cases ev
end
end PD
/-! PD5: more rules for expressions. -/
namespace PD
open PySem PySem.Spec PyProof.Rows L2
/-- an answer whose temporaries are dropped -/
def AnsS (K : PySem.W.Frag) (H : Hp) (w : Wh) (σ : L2.St) (v : V) : Ans → Prop
  | .val _ d => Rp K H w v d
  | .pl i => σ[i]? = some (some v)
section
variable {K : PySem.W.Frag} {F : List Fn} {H H' : Hp} {w w' : Wh} {μ : Nat → Option V} {σ : L2.St} {e e' : En} {n m : Nat} {v : V} {d : D}
theorem AnsR.s {x : Ans} (h : n ≤ m) (an : AnsR K m H w σ v x) : AnsS K H (PD.drp n w) σ v x := by
  cases x with
  | val f d => exact drp_ans h an
  | pl i => exact an
theorem AnsS.mono {x : Ans} (s : Sty H w H' w') (h : AnsS K H w σ v x) : AnsS K H' w' σ v x := by
  cases x with
  | val f d => exact Rp.mono s h
  | pl i => exact h
theorem AnsRs.s : ∀ {m : Nat} {vs : List V} {as : List Ans}, n ≤ m → AnsRs K H w σ m vs as → Paired (AnsS K H (PD.drp n w) σ) vs as
  | _, _, _, _, .nil _ => .nil
  | m, _, _, h, .cons a b => .cons (a.s h) (AnsRs.s (Nat.le_trans h (Nat.le_succ m)) b)
theorem pair_mono {x : List Ans} : ∀ {vs : List V}, Sty H w H' w' → Paired (AnsS K H w σ) vs x → Paired (AnsS K H' w' σ) vs x := by
  intro vs s h
  induction h with
  | nil => exact .nil
  | cons a b ih => exact .cons (a.mono s) ih
theorem fzS {x : Ans} (an : AnsS K H w σ v x) (wf : Wf H w) (er : EnvR K H w μ σ e) (hf : fzA x e = some (d, e')) :
    ∃ w', Stp (keepE n) H w H w' ∧ Wf H w' ∧ EnvR K H w' μ σ e' ∧ Rp K H w' v d := by
  cases x with
  | val f d' =>
    cases hf
    exact ⟨w, Stp.refl, wf, er, an⟩
  | pl i =>
    have q : σ[i]? = some (some v) := an
    simp only [fzA] at hf
    cases hs : e[i]? with
    | none => rw [hs] at hf; cases hf
    | some so =>
      cases so with
      | none => rw [hs] at hf; cases hf
      | some s =>
        obtain ⟨o, d'⟩ := s
        obtain ⟨v', h1, h2, _⟩ := er.at_ i o d' hs
        have ev : v' = v := by
          rw [h1] at q
          exact Option.some.inj (Option.some.inj q)
        subst ev
        rw [hs] at hf
        cases o with
        | sh => cases hf; exact ⟨w, Stp.refl, wf, er, h2⟩
        | own => cases hf; exact ⟨shr i w, shr_stp.weak keepE.slot, shr_wf wf, shr_env er hs, shr_rp h2⟩
        | mu => cases hf
theorem fzSs : ∀ {xs : List Ans} {vs : List V} {ds : List D} {w : Wh} {e : En}, Paired (AnsS K H w σ) vs xs → Wf H w → EnvR K H w μ σ e → fzAs xs e = some (ds, e') →
    ∃ w', Stp (keepE n) H w H w' ∧ Wf H w' ∧ EnvR K H w' μ σ e' ∧ RpAll K H w' vs ds
  | [], _, _, w, e, .nil, wf, er, hf => by
    cases hf
    exact ⟨w, Stp.refl, wf, er, .nil⟩
  | x :: xs, _, ds, w, e, .cons a b, wf, er, hf => by
    simp only [fzAs] at hf
    cases h1 : fzA x e with
    | none => rw [h1] at hf; cases hf
    | some p =>
      obtain ⟨d, e1⟩ := p
      rw [h1] at hf
      simp only at hf
      cases h2 : fzAs xs e1 with
      | none => rw [h2] at hf; cases hf
      | some p2 =>
        obtain ⟨ds', e2⟩ := p2
        rw [h2] at hf
        cases hf
        obtain ⟨w1, s1, wf1, er1, r1⟩ := fzS (n := n) a wf er h1
        obtain ⟨w2, s2, wf2, er2, r2⟩ := fzSs (pair_mono s1.sh b) wf1 er1 h2
        exact ⟨w2, s1.trans s2, wf2, er2, .cons (Rp.mono s2.sh r1) r2⟩
theorem Aft.fz {H1 : Hp} {w1 : Wh} {e1 : En} {x : Ans} (a : Aft K n μ σ e1 H w H1 w1) (an : AnsR K m H1 w1 σ v x) (h : n ≤ m) (hf : fzA x e1 = some (d, e')) : ∃ w2, Aft K n μ σ e' H w H1 w2 ∧ Rp K H1 w2 v d :=
  let ⟨w2, s2, wf2, er2, r⟩ := fzS (n := n) (an.s h) (drp_wf a.wf) (drp_env a.env) hf
  ⟨w2, ⟨(a.stp.trans drp_stp).trans s2, wf2, er2⟩, r⟩
theorem Aft.fzs {H1 : Hp} {w1 : Wh} {e1 : En} {xs : List Ans} {vs : List V} {ds : List D} (a : Aft K n μ σ e1 H w H1 w1) (an : AnsRs K H1 w1 σ m vs xs) (h : n ≤ m) (hf : fzAs xs e1 = some (ds, e')) : ∃ w2, Aft K n μ σ e' H w H1 w2 ∧ RpAll K H1 w2 vs ds :=
  let ⟨w2, s2, wf2, er2, r⟩ := fzSs (n := n) (an.s h) (drp_wf a.wf) (drp_env a.env) hf
  ⟨w2, ⟨(a.stp.trans drp_stp).trans s2, wf2, er2⟩, r⟩
/-- a new thing behind that -/
theorem Aft.tup {H1 : Hp} {w1 : Wh} {vs : List V} {ds : List D} (a : Aft K n μ σ e' H w H1 w1) (r : RpAll K H1 w1 vs ds) {p : Addr} (hp : H1 p = none) :
    Aft K n μ σ e' H w (upd H1 p (.tup vs)) w1 ∧ Rp K (upd H1 p (.tup vs)) w1 (.ref p) (.tuple ds) :=
  let ⟨s, wf, r⟩ := new_tup (n := n) a.wf hp r
  ⟨a.keep s wf, r⟩
theorem Aft.lst {H1 : Hp} {w1 : Wh} {vs : List V} {ds : List D} (a : Aft K n μ σ e' H w H1 w1) (r : RpAll K H1 w1 vs ds) {p : Addr} (hp : H1 p = none) :
    Aft K n μ σ e' H w (upd H1 p (.lst vs)) (own1 w1 p (.tmp n)) ∧ Ow K (upd H1 p (.lst vs)) (own1 w1 p (.tmp n)) (.tmp n) (.ref p) (.list ds) :=
  let ⟨s, wf, r⟩ := new_lst (n := n) a.wf hp r
  ⟨a.keep s wf, r⟩
theorem rpall_pair {vs : List V} {ds : List D} (h : RpAll K H w vs ds) : vs.length = ds.length := h.length
theorem rd_rr0 {x : Ans} (an : AnsR K m H w σ v x) (er : EnvR K H w μ σ e) (hr : rdA x e = some d) : Rr K H w v d := by
  cases x with
  | val f d' =>
    cases hr
    cases f with
    | false => exact .inl an
    | true => obtain ⟨a, h1, _, c⟩ := an; exact .inr ⟨a, h1, c⟩
  | pl i =>
    simp only [rdA] at hr
    cases hs : e[i]? with
    | none => rw [hs] at hr; cases hr
    | some so =>
      cases so with
      | none => rw [hs] at hr; cases hr
      | some s =>
        rw [hs] at hr
        cases hr
        obtain ⟨o, d⟩ := s
        obtain ⟨v', h1, h2, _⟩ := er.at_ i o d hs
        have : v' = v := by
          have q : σ[i]? = some (some v) := an
          rw [h1] at q
          exact Option.some.inj (Option.some.inj q)
        subst this
        exact h2.rr
/-- truth -/
theorem tru_of {b : Bool} (h : Rr K H w v d) (t : truthD d = some b) : TruV K v H b := by
  cases d with
  | none => obtain rfl := h.non; cases t; rfl
  | bool c => obtain rfl := h.bl; cases t; rfl
  | int i => obtain rfl := h.int; cases t; rfl
  | str x =>
    obtain rfl := h.str
    simp only [truthD] at t
    split at t
    · cases t
      refine ⟨by assumption, ?_⟩
      rw [Bool.eq_iff_iff]
      simp
    · cases t
  | list ds =>
    obtain ⟨a, xs, rfl, s, r⟩ := h.list
    cases t
    refine .inl ⟨xs, s, ?_⟩
    cases r <;> rfl
  | tuple ds =>
    obtain ⟨a, xs, rfl, s, r, _⟩ := h.tup
    cases t
    refine .inr (.inl ⟨xs, s, ?_⟩)
    cases r <;> rfl
  | dict _ => cases t
end
section
variable {X : Cx} {F : List Fn} {a b c : Expr} {ia ib ic : IE} {it iu : IT} {pos : Pos} {es : List Expr} {ies : List IE}
theorem sa_nil : PA X [] (teA X.K F []) := by
  refine pa_nil.imp fun σ H Q q => ?_
  obtain ⟨n, w, μ, e, as, e', wf, er, ev, k⟩ := q
  cases ev
  exact k [] H w (.refl wf er) (.nil n)
theorem sa_cons (ha : PE X a (teE X.K F ia)) (hs : PA X es (teA X.K F ies)) (st : starEach (a :: es) X.env = (false, eval a X.env) :: starEach es X.env) : PA X (a :: es) (teA X.K F (ia :: ies)) := by
  refine (pa_cons ha hs st).imp fun σ H Q q => ?_
  obtain ⟨n, w, μ, e, as, e', wf, er, ev, k⟩ := q
  unfold evEs at ev
  obtain ⟨x, e1, h1, ev⟩ := Rs.bind_ok ev
  obtain ⟨xs, e2, h2, ev⟩ := Rs.bind_ok ev
  cases ev
  exact ⟨n, w, μ, e, x, e1, wf, er, h1, fun v H1 w1 a1 an1 => ⟨n + 1, w1, μ, e1, xs, _, a1.wf, a1.env, h2, fun vs H2 w2 a2 an2 =>
    k _ H2 w2 (a1.trans a2 (Nat.le_succ n)) (.cons (an1.mono a2.stp (Nat.lt_succ_self n)) an2)⟩⟩
theorem se_un {op : UnaryOp} {p : Pr} {r : V → Hp → VK → Prop} (ho : UnR X (unaryOp op) r) (hp : ∀ (n : Nat) (H : Hp) (w : Wh) (v : V) (x d : D) (f : Bool) (Q : VK), Wf H w → Rr X.K H w v x → prim p [x] = some (f, d) → PGo X.K n H w f d Q → r v H Q)
    (ha : PE X a (teE X.K F ia)) : PE X (.UnaryOp op a pos) (teE X.K F (.un p ia)) := by
  refine (pe_un ho ha).imp fun σ H Q q => ?_
  obtain ⟨n, w, μ, e, z, e', wf, er, ev, k⟩ := q
  unfold evE at ev
  obtain ⟨x, e1, h1, h3⟩ := Rs.bind_ok ev
  obtain ⟨ds, f, d, h4, h5, rfl, rfl⟩ := prA_ok h3
  obtain ⟨dx, hx, rfl⟩ := rd1 h4
  exact ⟨n, w, μ, e, x, e', wf, er, h1, fun v H1 w1 a1 an1 => hp n H1 (drp n w1) v dx d f Q (drp_wf a1.wf) (rd_rr (Nat.le_refl n) an1 a1.env hx) h5 (pgo_fin a1 k)⟩
theorem pok_neg (n : Nat) (H : Hp) (w : Wh) (v : V) (x d : D) (f : Bool) (Q : VK) (wf : Wf H w) (hx : Rr X.K H w v x) (hp : prim .neg [x] = some (f, d)) (g : PGo X.K n H w f d Q) : rU (fun i => .int (-i)) v H Q := by
  cases x <;> simp only [prim] at hp <;> first | cases hp | skip
  obtain rfl := hx.int
  exact ⟨_, rfl, g.same wf (.int _)⟩
theorem se_chn {op op' : CmpOp} {p q : Pr} {r r' : R2} (ho : OpR X (compareOp op) r) (ho' : OpR X (compareOp op') r') (hp : Pok2 X.K p r) (hq : Pok2 X.K q r') (ha : PE X a (teE X.K F ia)) (hb : PE X b (teE X.K F ib)) (hc : PE X c (teE X.K F ic))
    (hm : lastMarks [op, op'] [b, c] = false) : PE X (.Compare a [op, op'] [b, c] pos) (teE X.K F (.chn p q ia ib ic)) := by
  refine (pe_chain ho ho' ha hb hc hm).imp fun σ H Q q' => ?_
  obtain ⟨n, w, μ, e, z, e', wf, er, ev, k⟩ := q'
  unfold evE at ev
  obtain ⟨x, e1, h1, ev⟩ := Rs.bind_ok ev
  obtain ⟨y, e2, h2, ev⟩ := Rs.bind_ok ev
  obtain ⟨r1, e3, h3, evf⟩ := Rs.bind_ok ev
  obtain ⟨ds, f, d, h4, h5, rfl, rfl⟩ := prA_ok h3
  obtain ⟨dx, dy, hx, hy, rfl⟩ := rd2 h4
  refine two_in (n := n) wf er h1 h2 fun v u H2 w2 a2 an1 an2 => ?_
  refine hp (n + 2) H2 w2 v u dx dy d f _ a2.wf (rd_rr0 an1 a2.env hx) (rd_rr0 an2 a2.env hy) h5 fun v3 H3 w3 s3 wf3 an3 => ?_
  have k1 : keepP (n + 2) (.tmp (n + 1)) := by intro z; injection z; omega
  have a3 : Aft X.K n μ σ _ H w H3 w3 := ⟨a2.stp.trans (s3.weak fun l hl => keepP.e l (keepE.le (by omega) l hl)), wf3, a2.env.mono s3 fun i z => by cases z⟩
  have an2' := an2.mono s3 k1
  split at evf
  · rename_i e0
    cases e0
    obtain ⟨z', e4, h6, h7⟩ := Rs.bind_ok evf
    refine ⟨true, ans_bl an3, ?_⟩
    rw [if_pos rfl]
    obtain ⟨ds', f', d', h8, h9, rfl, rfl⟩ := prA_ok h7
    obtain ⟨dy', dz, hy', hz, rfl⟩ := rd2 h8
    refine ⟨n + 2, w3, μ, _, z', _, wf3, a3.env, h6, fun v4 H4 w4 a4 an4 => ?_⟩
    have an2'' := an2'.mono a4.stp (show n + 1 < n + 2 by omega)
    have a5 := a3.trans a4 (show n ≤ n + 2 by omega)
    exact hq n H4 (drp n w4) u v4 dy' dz d' f' Q (drp_wf a5.wf) (rd_rr (Nat.le_succ n) an2'' a5.env hy') (rd_rr (by omega) an4 a5.env hz) h9 (pgo_fin a5 k)
  · rename_i e0
    cases e0
    cases evf
    refine ⟨false, ans_bl an3, ?_⟩
    rw [if_neg Bool.false_ne_true]
    exact k _ H3 w3 a3 (.bl _)
  · cases evf
theorem st_chn {op op' : CmpOp} {p q : Pr} {r r' : R2} (ho : OpR X (compareOp op) r) (ho' : OpR X (compareOp op') r') (hp : Pok2 X.K p r) (hq : Pok2 X.K q r') (ha : PE X a (teE X.K F ia)) (hb : PE X b (teE X.K F ib)) (hc : PE X c (teE X.K F ic))
    (hm : lastMarks [op, op'] [b, c] = false) : PT X (.Compare a [op, op'] [b, c] pos) (teT X.K F (.chn p q ia ib ic)) := by
  refine (pt_chain ho ho' ha hb hc hm).imp fun σ H Q q' => ?_
  obtain ⟨n, w, μ, e, z, e', wf, er, ev, k⟩ := q'
  unfold evT at ev
  obtain ⟨x, e1, h1, ev⟩ := Rs.bind_ok ev
  obtain ⟨y, e2, h2, ev⟩ := Rs.bind_ok ev
  obtain ⟨r1, e3, h3, evf⟩ := Rs.bind_ok ev
  obtain ⟨ds, f, d, h4, h5, rfl, rfl⟩ := prA_ok h3
  obtain ⟨dx, dy, hx, hy, rfl⟩ := rd2 h4
  refine two_in (n := n) wf er h1 h2 fun v u H2 w2 a2 an1 an2 => ?_
  refine hp (n + 2) H2 w2 v u dx dy d f _ a2.wf (rd_rr0 an1 a2.env hx) (rd_rr0 an2 a2.env hy) h5 fun v3 H3 w3 s3 wf3 an3 => ?_
  have k1 : keepP (n + 2) (.tmp (n + 1)) := by intro z; injection z; omega
  have a3 : Aft X.K n μ σ _ H w H3 w3 := ⟨a2.stp.trans (s3.weak fun l hl => keepP.e l (keepE.le (by omega) l hl)), wf3, a2.env.mono s3 fun i z => by cases z⟩
  have an2' := an2.mono s3 k1
  split at evf
  · rename_i e0
    cases e0
    obtain ⟨z', e4, h6, evg⟩ := Rs.bind_ok evf
    obtain ⟨r2, e5, h7, evh⟩ := Rs.bind_ok evg
    refine ⟨true, ans_bl an3, ?_⟩
    rw [if_pos rfl]
    obtain ⟨ds', f', d', h8, h9, rfl, rfl⟩ := prA_ok h7
    obtain ⟨dy', dz, hy', hz, rfl⟩ := rd2 h8
    refine ⟨n + 2, w3, μ, _, z', _, wf3, a3.env, h6, fun v4 H4 w4 a4 an4 => ?_⟩
    have an2'' := an2'.mono a4.stp (show n + 1 < n + 2 by omega)
    have a5 := a3.trans a4 (show n ≤ n + 2 by omega)
    split at evh
    · rename_i e1
      cases e1
      cases evh
      exact hq n H4 (drp n w4) u v4 dy' dz _ f' _ (drp_wf a5.wf) (rd_rr (Nat.le_succ n) an2'' a5.env hy') (rd_rr (by omega) an4 a5.env hz) h9 (pgo_fin a5 fun v5 H5 w5 a6 an5 => ⟨_, ans_bl an5, k H5 w5 a6⟩)
    · cases evh
  · rename_i e0
    cases e0
    cases evf
    refine ⟨false, ans_bl an3, ?_⟩
    rw [if_neg Bool.false_ne_true]
    exact ⟨_, rfl, k H3 w3 a3⟩
  · cases evf
theorem se_not (ha : PE X a (teE X.K F ia)) : PE X (.UnaryOp .Not a pos) (teE X.K F (.not ia)) := by
  refine (pe_not ha).imp fun σ H Q q => ?_
  obtain ⟨n, w, μ, e, z, e', wf, er, ev, k⟩ := q
  unfold evE at ev
  obtain ⟨x, e1, h1, ev⟩ := Rs.bind_ok ev
  split at ev
  · rename_i b hx
    cases ev
    exact ⟨n, w, μ, e, x, _, wf, er, h1, fun v H1 w1 a1 an1 => ⟨b, (rd_rr (Nat.le_refl n) an1 a1.env hx).bl, k _ H1 w1 a1 (.bl _)⟩⟩
  · cases ev
theorem se_and1 (ha : PE X a (teE X.K F ia)) : PE X (.BoolOp .And [a] pos) (teE X.K F (.and [ia])) := by
  refine (pe_one ha).imp fun σ H Q q => ?_
  obtain ⟨n, w, μ, e, z, e', wf, er, ev, k⟩ := q
  unfold evE evAnd at ev
  exact ⟨n, w, μ, e, z, e', wf, er, ev, k⟩
theorem se_or1 (ha : PE X a (teE X.K F ia)) : PE X (.BoolOp .Or [a] pos) (teE X.K F (.or [ia])) := by
  refine (pe_one ha).imp fun σ H Q q => ?_
  obtain ⟨n, w, μ, e, z, e', wf, er, ev, k⟩ := q
  unfold evE evOr at ev
  exact ⟨n, w, μ, e, z, e', wf, er, ev, k⟩
theorem se_and (ha : PE X a (teE X.K F ia)) (hb : PE X (.BoolOp .And (b :: es) pos) (teE X.K F (.and (ib :: ies)))) : PE X (.BoolOp .And (a :: b :: es) pos) (teE X.K F (.and (ia :: ib :: ies))) := by
  refine (pe_and ha hb).imp fun σ H Q q => ?_
  obtain ⟨n, w, μ, e, z, e', wf, er, ev, k⟩ := q
  unfold evE evAnd at ev
  obtain ⟨x, e1, h1, ev⟩ := Rs.bind_ok ev
  refine ⟨n, w, μ, e, x, e1, wf, er, h1, fun v H1 w1 a1 an1 => ?_⟩
  split at ev
  · rename_i hx
    refine ⟨true, (rd_rr (Nat.le_refl n) an1 a1.env hx).bl, ?_⟩
    rw [if_pos rfl]
    exact ⟨n, w1, μ, e1, z, e', a1.wf, a1.env, (by unfold evE; exact ev), fun v2 H2 w2 a2 an2 => k v2 H2 w2 (a1.trans a2 (Nat.le_refl n)) an2⟩
  · rename_i hx
    cases ev
    refine ⟨false, (rd_rr (Nat.le_refl n) an1 a1.env hx).bl, ?_⟩
    rw [if_neg Bool.false_ne_true]
    exact k _ H1 w1 a1 (.bl _)
  · cases ev
theorem se_or (ha : PE X a (teE X.K F ia)) (hb : PE X (.BoolOp .Or (b :: es) pos) (teE X.K F (.or (ib :: ies)))) : PE X (.BoolOp .Or (a :: b :: es) pos) (teE X.K F (.or (ia :: ib :: ies))) := by
  refine (pe_or ha hb).imp fun σ H Q q => ?_
  obtain ⟨n, w, μ, e, z, e', wf, er, ev, k⟩ := q
  unfold evE evOr at ev
  obtain ⟨x, e1, h1, ev⟩ := Rs.bind_ok ev
  refine ⟨n, w, μ, e, x, e1, wf, er, h1, fun v H1 w1 a1 an1 => ?_⟩
  split at ev
  · rename_i hx
    cases ev
    refine ⟨true, (rd_rr (Nat.le_refl n) an1 a1.env hx).bl, ?_⟩
    rw [if_pos rfl]
    exact k _ H1 w1 a1 (.bl _)
  · rename_i hx
    refine ⟨false, (rd_rr (Nat.le_refl n) an1 a1.env hx).bl, ?_⟩
    rw [if_neg Bool.false_ne_true]
    exact ⟨n, w1, μ, e1, z, e', a1.wf, a1.env, (by unfold evE; exact ev), fun v2 H2 w2 a2 an2 => k v2 H2 w2 (a1.trans a2 (Nat.le_refl n)) an2⟩
  · cases ev
theorem se_ite (hc : PT X c (teT X.K F it)) (ha : PE X a (teE X.K F ia)) (hb : PE X b (teE X.K F ib)) : PE X (.IfExp c a b pos) (teE X.K F (.ite it ia ib)) := by
  refine (pe_ifExp hc ha hb).imp fun σ H Q q => ?_
  obtain ⟨n, w, μ, e, z, e', wf, er, ev, k⟩ := q
  unfold evE at ev
  obtain ⟨x, e1, h1, ev⟩ := Rs.bind_ok ev
  refine ⟨n, w, μ, e, x, e1, wf, er, h1, fun H1 w1 a1 => ?_⟩
  cases x with
  | true =>
    rw [if_pos rfl] at ev ⊢
    exact ⟨n, w1, μ, e1, z, e', a1.wf, a1.env, ev, fun v2 H2 w2 a2 an2 => k v2 H2 w2 (a1.trans a2 (Nat.le_refl n)) an2⟩
  | false =>
    rw [if_neg Bool.false_ne_true] at ev ⊢
    exact ⟨n, w1, μ, e1, z, e', a1.wf, a1.env, ev, fun v2 H2 w2 a2 an2 => k v2 H2 w2 (a1.trans a2 (Nat.le_refl n)) an2⟩
theorem se_tup {x1 : Nat} (h : PA X es (teA X.K F ies)) : PE X (.Tuple es x1 pos) (teE X.K F (.tup ies)) := by
  refine (pe_tup h).imp fun σ H Q q => ?_
  obtain ⟨n, w, μ, e, z, e', wf, er, ev, k⟩ := q
  unfold evE at ev
  obtain ⟨xs, e1, h1, ev⟩ := Rs.bind_ok ev
  split at ev
  · rename_i ds e2 h2
    split at ev
    · rename_i hl
      cases ev
      refine ⟨n, w, μ, e, xs, e1, wf, er, h1, fun vs H1 w1 a1 an => ?_⟩
      obtain ⟨w2, a2, r⟩ := a1.fzs an (Nat.le_refl n) h2
      refine ⟨by rw [r.length]; exact hl, fun p hp => ?_⟩
      obtain ⟨a3, r3⟩ := a2.tup r hp
      exact k _ _ _ a3 r3
    · cases ev
  · cases ev
theorem se_lst (h : PA X es (teA X.K F ies)) : PE X (.List es pos) (teE X.K F (.lst ies)) := by
  refine (pe_lst h).imp fun σ H Q q => ?_
  obtain ⟨n, w, μ, e, z, e', wf, er, ev, k⟩ := q
  unfold evE at ev
  obtain ⟨xs, e1, h1, ev⟩ := Rs.bind_ok ev
  split at ev
  · rename_i ds e2 h2
    split at ev
    · rename_i hl
      cases ev
      refine ⟨n, w, μ, e, xs, e1, wf, er, h1, fun vs H1 w1 a1 an => ?_⟩
      obtain ⟨w2, a2, r⟩ := a1.fzs an (Nat.le_refl n) h2
      refine ⟨by rw [r.length]; exact hl, fun p hp => ?_⟩
      obtain ⟨a3, r3⟩ := a2.lst r hp
      exact k _ _ _ a3 r3
    · cases ev
  · cases ev
theorem se_ix (hu : X.A.units + 1 < cLine) (ha : PE X a (teE X.K F ia)) (hb : PE X b (teE X.K F ib)) (hs : PlainIx b) : PE X (.Subscript a b pos) (teE X.K F (.ix ia ib)) := by
  refine (pe_ix (ix_U hu) ha hb hs).imp fun σ H Q q => ?_
  obtain ⟨n, w, μ, e, z, e', wf, er, ev, k⟩ := q
  unfold evE at ev
  obtain ⟨x, e1, h1, ev⟩ := Rs.bind_ok ev
  obtain ⟨y, e2, h2, ev⟩ := Rs.bind_ok ev
  split at ev
  · rename_i dx dy hx hy
    split at ev
    · rename_i d hd
      cases ev
      refine two_in (n := n) wf er h1 h2 fun v u H2 w2 a2 an1 an2 => ?_
      exact pok_ix (n := n) (drp_wf a2.wf) (rd_rr (Nat.le_refl n) an1 a2.env hx) (rd_rr (Nat.le_succ n) an2 a2.env hy) hd (pgo_fin a2 k)
    · cases ev
  · cases ev
/-! tests -/
theorem st_v (ha : PE X a (teE X.K F ia)) (he : ∀ whole, isTrue a X.env whole = (do let v ← whole; standAt a.pos; holding [v] (truthy v))) : PT X a (teT X.K F (.v ia)) := by
  refine (pt_truth ha he).imp fun σ H Q q => ?_
  obtain ⟨n, w, μ, e, z, e', wf, er, ev, k⟩ := q
  unfold evT at ev
  obtain ⟨x, e1, h1, ev⟩ := Rs.bind_ok ev
  split at ev
  · rename_i d hx
    split at ev
    · rename_i b hb
      cases ev
      exact ⟨n, w, μ, e, x, _, wf, er, h1, fun v H1 w1 a1 an1 => ⟨z, tru_of (rd_rr (Nat.le_refl n) an1 a1.env hx) hb, k H1 w1 a1⟩⟩
    · cases ev
  · cases ev
theorem st_not (ha : PT X a (teT X.K F it)) : PT X (.UnaryOp .Not a pos) (teT X.K F (.not it)) := by
  refine (pt_not ha).imp fun σ H Q q => ?_
  obtain ⟨n, w, μ, e, z, e', wf, er, ev, k⟩ := q
  unfold evT at ev
  obtain ⟨b, e1, h1, ev⟩ := Rs.bind_ok ev
  cases ev
  exact ⟨n, w, μ, e, b, _, wf, er, h1, fun H1 w1 a1 => k H1 w1 a1⟩
theorem sw_and1 (ha : PT X a (teT X.K F it)) : PW X (.BoolOp .And [a] pos) (teT X.K F (.and [it])) := by
  refine (pw_and1 ha).imp fun σ H Q q => ?_
  obtain ⟨n, w, μ, e, z, e', wf, er, ev, k⟩ := q
  unfold evT evTA at ev
  obtain ⟨b, e1, h1, ev⟩ := Rs.bind_ok ev
  refine ⟨n, w, μ, e, b, e1, wf, er, h1, fun H1 w1 a1 => ?_⟩
  cases b with
  | true => rw [if_pos rfl] at ev; cases ev; exact k H1 w1 a1
  | false => rw [if_neg Bool.false_ne_true] at ev; cases ev; exact k H1 w1 a1
theorem sw_or1 (ha : PT X a (teT X.K F it)) : PW X (.BoolOp .Or [a] pos) (teT X.K F (.or [it])) := by
  refine (pw_or1 ha).imp fun σ H Q q => ?_
  obtain ⟨n, w, μ, e, z, e', wf, er, ev, k⟩ := q
  unfold evT evTO at ev
  obtain ⟨b, e1, h1, ev⟩ := Rs.bind_ok ev
  refine ⟨n, w, μ, e, b, e1, wf, er, h1, fun H1 w1 a1 => ?_⟩
  cases b with
  | true => rw [if_pos rfl] at ev; cases ev; exact k H1 w1 a1
  | false => rw [if_neg Bool.false_ne_true] at ev; cases ev; exact k H1 w1 a1
theorem sw_and {its : List IT} (ha : PT X a (teT X.K F it)) (hb : PW X (.BoolOp .And (b :: es) pos) (teT X.K F (.and (iu :: its)))) : PW X (.BoolOp .And (a :: b :: es) pos) (teT X.K F (.and (it :: iu :: its))) := by
  refine (pw_and ha hb).imp fun σ H Q q => ?_
  obtain ⟨n, w, μ, e, z, e', wf, er, ev, k⟩ := q
  unfold evT evTA at ev
  obtain ⟨x, e1, h1, ev⟩ := Rs.bind_ok ev
  refine ⟨n, w, μ, e, x, e1, wf, er, h1, fun H1 w1 a1 => ?_⟩
  cases x with
  | true =>
    rw [if_pos rfl] at ev ⊢
    exact ⟨n, w1, μ, e1, z, e', a1.wf, a1.env, (by unfold evT; exact ev), fun H2 w2 a2 => k H2 w2 (a1.trans a2 (Nat.le_refl n))⟩
  | false =>
    rw [if_neg Bool.false_ne_true] at ev ⊢
    cases ev
    exact k H1 w1 a1
theorem sw_or {its : List IT} (ha : PT X a (teT X.K F it)) (hb : PW X (.BoolOp .Or (b :: es) pos) (teT X.K F (.or (iu :: its)))) : PW X (.BoolOp .Or (a :: b :: es) pos) (teT X.K F (.or (it :: iu :: its))) := by
  refine (pw_or ha hb).imp fun σ H Q q => ?_
  obtain ⟨n, w, μ, e, z, e', wf, er, ev, k⟩ := q
  unfold evT evTO at ev
  obtain ⟨x, e1, h1, ev⟩ := Rs.bind_ok ev
  refine ⟨n, w, μ, e, x, e1, wf, er, h1, fun H1 w1 a1 => ?_⟩
  cases x with
  | false =>
    rw [if_neg Bool.false_ne_true] at ev ⊢
    exact ⟨n, w1, μ, e1, z, e', a1.wf, a1.env, (by unfold evT; exact ev), fun H2 w2 a2 => k H2 w2 (a1.trans a2 (Nat.le_refl n))⟩
  | true =>
    rw [if_pos rfl] at ev ⊢
    cases ev
    exact k H1 w1 a1
end
end PD
/-! PD6: calls of built-ins, slices, dicts made, methods. -/
namespace PD
open PySem PySem.Spec PyProof.Rows L2
section
variable {X : Cx} {F : List Fn} {a b c : Expr} {ia ib ic : IE} {it iu : IT} {pos apos cpos p1 : Pos} {es : List Expr} {ies : List IE}
theorem cb_in {K : PySem.W.Frag} {p : Pr} {r : List V → Hp → VK → Prop} (hp : Pok K p r) (σ : L2.St) (H : Hp) (Q : VK) (q : teE K F (.fn p ies) σ H Q) : tCB r (teA K F ies) σ H Q := by
  obtain ⟨n, w, μ, e, z, e', wf, er, ev, k⟩ := q
  unfold evE at ev
  obtain ⟨xs, e1, h1, h3⟩ := Rs.bind_ok ev
  obtain ⟨ds, f, d, h4, h5, rfl, rfl⟩ := prA_ok h3
  exact ⟨n, w, μ, e, xs, e', wf, er, h1, fun vs H1 w1 a1 an => hp n H1 (drp n w1) vs ds d f Q (drp_wf a1.wf) (rds_rr (Nat.le_refl n) an a1.env h4) h5 (pgo_fin a1 k)⟩
theorem se_fnB {p : Pr} {id : String} {x : Str} {r : List V → Hp → VK → Prop} (hp : Pok X.K p r) (hc : CallR X (.builtin id) r) (hg : Gl X x) (hm : X.mg x = none) (hv : bootBuiltins x = some (.builtin id)) (ha : PA X (a :: es) (teA X.K F ies)) (hn : x ≠ "__name__") (hdb : (x == ("__debug__" : Str)) = false)
    (he : starEach (a :: es) X.env = (false, eval a X.env) :: starEach es X.env) (hpl : (backTo pos (starEach es X.env)).any (·.1) = false) : PE X (.Call (.Name x p1) (a :: es) [] pos) (teE X.K F (.fn p ies)) :=
  (pe_callB hc hg hm hv ha hn hdb he hpl).imp (cb_in hp)
theorem se_fnT {p : Pr} {id : String} {x : Str} {r : List V → Hp → VK → Prop} (hp : Pok X.K p r) (hc : CallR X (.type id) r) (hg : Gl X x) (hm : X.mg x = none) (hv : bootBuiltins x = some (.type id)) (ha : PA X (a :: es) (teA X.K F ies)) (hn : x ≠ "__name__") (hdb : (x == ("__debug__" : Str)) = false)
    (he : starEach (a :: es) X.env = (false, eval a X.env) :: starEach es X.env) (hpl : (backTo pos (starEach es X.env)).any (·.1) = false) : PE X (.Call (.Name x p1) (a :: es) [] pos) (teE X.K F (.fn p ies)) :=
  (pe_callTy hc hg hm hv ha hn hdb he hpl).imp (cb_in hp)
theorem se_isI {k : Kd} {x y : Str} {p2 : Pos} (hg : Gl X x) (hm : X.mg x = none) (hv : bootBuiltins x = some (.builtin "isinstance")) (hg2 : Gl X y) (hm2 : X.mg y = none) (hv2 : bootBuiltins y = some (.type (kdTy k))) (ha : PE X a (teE X.K F ia)) (hn : x ≠ "__name__") (hdb : (x == ("__debug__" : Str)) = false) (hn2 : y ≠ "__name__") (hdb2 : (y == ("__debug__" : Str)) = false)
    (he : starEach [a, .Name y p2] X.env = (false, eval a X.env) :: starEach [.Name y p2] X.env) : PE X (.Call (.Name x p1) [a, .Name y p2] [] pos) (teE X.K F (.isI k ia)) := by
  have h2 : PE X (.Name y p2) (tC (.ty (kdTy k))) := pe_bltn hg2 hm2 hv2 (show RelV (.ty (kdTy k)) (.type (kdTy k)) from rfl) hn2 hdb2
  refine (pe_callB call_isi hg hm hv (pa_cons ha (pa_cons h2 pa_nil (by rfl)) he) hn hdb he (by rfl)).imp fun σ H Q q => ?_
  obtain ⟨n, w, μ, e, z, e', wf, er, ev, kk⟩ := q
  unfold evE at ev
  obtain ⟨xx, e1, h1, ev⟩ := Rs.bind_ok ev
  split at ev
  · rename_i d hd
    cases ev
    exact ⟨n, w, μ, e, xx, _, wf, er, h1, fun v H1 w1 a1 an => ⟨v, _, _, _, kindOf k d, rfl, .ty _, ty_of (rd_rr (Nat.le_refl n) an a1.env hd), kit_ty (kit_kd k d), kk _ H1 w1 a1 (.bl _)⟩⟩
  · cases ev
/-! slices -/
def teO (K : PySem.W.Frag) (F : List Fn) (io : Option IE) : TO := fun σ H Q => ∃ n w μ e o e', Wf H w ∧ EnvR K H w μ σ e ∧ evO F io e = .ok o e' ∧ ∀ H' w', Aft K n μ σ e' H w H' w' → Q o H'
theorem _root_.L2.PO.imp {X : Cx} {e : Option Expr} {t t' : TO} (h : PO X e t) (i : ∀ σ H Q, t' σ H Q → t σ H Q) : PO X e t' := ⟨fun pins s σ H Q I q => h.run pins s σ H Q I (i σ H Q q)⟩
theorem so_none : PO X none (teO X.K F none) := by
  refine po_none.imp fun σ H Q q => ?_
  obtain ⟨n, w, μ, e, o, e', wf, er, ev, k⟩ := q
  cases ev
  exact k H w (.refl wf er)
theorem so_some (ha : PE X a (teE X.K F ia)) : PO X (some a) (teO X.K F (some ia)) := by
  refine (po_some ha).imp fun σ H Q q => ?_
  obtain ⟨n, w, μ, e, o, e', wf, er, ev, k⟩ := q
  unfold evO at ev
  obtain ⟨x, e1, h1, ev⟩ := Rs.bind_ok ev
  split at ev
  · rename_i i hi
    cases ev
    exact ⟨n, w, μ, e, x, _, wf, er, h1, fun v H1 w1 a1 an => ⟨i, (rd_rr (Nat.le_refl n) an a1.env hi).int, k H1 w1 a1⟩⟩
  · cases ev
def rSlU (K : PySem.W.Frag) : V → Option Int → Option Int → Hp → VK → Prop := fun x lo hi H Q => rSlL K x lo hi H Q ∨ rSlA K x lo hi H Q
theorem sl_U : SlR X (rSlU X.K) := sl_list.or sl_tupA
theorem cut_rp {K : PySem.W.Frag} {H : Hp} {w : Wh} {xs : List V} {ds : List D} (r : RpAll K H w xs ds) (lo hi : Option Int) : RpAll K H w (cutV xs lo hi) (cutD ds lo hi) := by
  unfold cutV cutD
  rw [r.length]
  exact (r.drop _).take _
theorem cut_whole {ds : List D} {lo hi : Option Int} (h : HT.sIx ds.length 0 lo = 0 ∧ HT.sIx ds.length ds.length hi = ds.length) : cutD ds lo hi = ds := by
  unfold cutD
  rw [h.1, h.2]
  simp
theorem se_sl {lo hi : Option Expr} {il ih : Option IE} {p2 : Pos} (ha : PE X a (teE X.K F ia)) (hl : PO X lo (teO X.K F il)) (hh : PO X hi (teO X.K F ih)) : PE X (.Subscript a (.Slice lo hi none p2) pos) (teE X.K F (.sl ia il ih)) := by
  refine (pe_slice sl_U ha hl hh).imp fun σ H Q q => ?_
  obtain ⟨n, w, μ, e, z, e', wf, er, ev, k⟩ := q
  unfold evE at ev
  obtain ⟨x, e1, h1, ev1⟩ := Rs.bind_ok ev
  obtain ⟨l, e2, h2, ev2⟩ := Rs.bind_ok ev1
  obtain ⟨h, e3, h3, ev3⟩ := Rs.bind_ok ev2
  refine ⟨n, w, μ, e, x, e1, wf, er, h1, fun v H1 w1 a1 an1 => ⟨n + 1, w1, μ, e1, l, e2, a1.wf, a1.env, h2, fun H2 w2 a2 => ⟨n + 1, w2, μ, e2, h, e3, a2.wf, a2.env, h3, fun H3 w3 a3 => ?_⟩⟩⟩
  have a4 := (a1.trans a2 (Nat.le_succ n)).trans a3 (Nat.le_succ n)
  have an4 := (an1.mono a2.stp (Nat.lt_succ_self n)).mono a3.stp (Nat.lt_succ_self n)
  split at ev3
  · rename_i ds hd
    cases ev3
    obtain ⟨p, xs, rfl, s, r⟩ := (rd_rr (Nat.le_refl n) an4 a4.env hd).list
    exact .inl ⟨p, xs, rfl, s, (pgo_fin a4 k).lst (drp_wf a4.wf) (cut_rp r l h)⟩
  · rename_i ds hd
    cases ev3
    obtain ⟨p, xs, rfl, s, r, rp⟩ := (rd_rr (Nat.le_refl n) an4 a4.env hd).tup
    refine .inr ⟨p, xs, rfl, s, fun hw => ?_, fun _ => (pgo_fin a4 k).tup (drp_wf a4.wf) (cut_rp r l h)⟩
    rw [r.length] at hw
    have k' := pgo_fin a4 k
    rw [cut_whole hw] at k'
    exact k'.same (drp_wf a4.wf) rp
  · cases ev3
/-! dicts made -/
theorem se_dnewK : PE X (.Dict [] [] pos) (teE X.K F (.dnew false)) := by
  refine pe_dnewK.imp fun σ H Q q => ?_
  obtain ⟨n, w, μ, e, z, e', wf, er, ev, k⟩ := q
  cases ev
  intro p hp
  exact k _ _ _ ((Aft.refl wf er).keep (own1_stp (n := n) wf hp) (own1_wf wf)) ⟨p, rfl, own1_at, .dk upd_same .nil⟩
theorem se_dnewT : PE X (.Dict [] [] pos) (teE X.K F (.dnew true)) := by
  refine pe_dnewT.imp fun σ H Q q => ?_
  obtain ⟨n, w, μ, e, z, e', wf, er, ev, k⟩ := q
  cases ev
  intro p hp
  exact k _ _ _ ((Aft.refl wf er).keep (own1_stp (n := n) wf hp) (own1_wf wf)) ⟨p, rfl, own1_at, .dt upd_same .nil⟩
end
/-! the sets of a dict -/
section
variable {K : PySem.W.Frag} {H : Hp} {w : Wh}
theorem putK_cons {κ : Type} [DecidableEq κ] (kv : κ × V) (kvs : List (κ × V)) (k : κ) (v : V) (nd : kv.1 = k → ∀ x ∈ kvs, x.1 ≠ k) :
    putK (kv :: kvs) k v = if kv.1 = k then (kv.1, v) :: kvs else kv :: putK kvs k v := by
  unfold putK
  by_cases e : kv.1 = k
  · rw [if_pos (by simp [e]), if_pos e, List.map_cons, if_pos e]
    congr 1
    have : kvs.map (fun kv => if kv.1 = k then (kv.1, v) else kv) = kvs.map id := List.map_congr_left fun x hx => by rw [if_neg (nd e x hx)]; rfl
    rw [this, List.map_id]
  · rw [if_neg e]
    by_cases h : (kvs.any fun kv => decide (kv.1 = k)) = true
    · rw [if_pos (by simp [h]), if_pos h, List.map_cons, if_neg e]
    · rw [if_neg (by simpa [e] using h), if_neg h]
      rfl
end
end PD
/-! PD6b: methods that change a list; dict and list items stored. -/
namespace PD
open PySem PySem.Spec PyProof.Rows L2
theorem list_extendW (l : Addr) (items : Array Value) (n : Nat) (b : Addr) (items2 : Array Value) (n2 : Nat) (dd2 : Option Addr) (sl2 : Array (Option Value)) (hc0 : ¬(!items.isEmpty && Builtin.List.listTooLong (items.size + items2.size)) = true) (hc1 : items.size ≤ sizeLine) (hs2 : items.size + items2.size ≤ sizeLine + 1) :
    Meets (Builtin.«list.extend» ⟨[.ref l, .ref b], []⟩) (fun _ R s => s.heap.get? l = some { cls := .type "list", dict := none, data := .seq items n, slots := #[] } ∧ s.heap.get? b = some { cls := .type "list", dict := dd2, data := .seq items2 n2, slots := sl2 } ∧ R (.ok (.ret Value.none)) { s with heap := s.heap.update l (Obj.mapSeq fun x => x ++ items2), toks := s.toks }) :=
  .of_wp fun prog w A R s h => by
    obtain ⟨hp, g, d, tk, os⟩ := s; obtain ⟨hl, hb, h⟩ := h; have f1 := AutoSeq1.idx_int; have f2 := AutoSeq1.sub_tuple_tuple; have f3 := AutoSeq1.sub_list_list; have f4 := AutoSeq1.sub_tuple_list; have f5 := AutoSeq1.sub_list_tuple;
    have hz' : (items ++ items2).size ≤ sizeLine + 1 := by rw [Array.size_append]; exact hs2
    wp_walk using (wpAny_updateSeq hl rfl (hz := hc1) (_hz' := hz')), AutoSeq1.wpAny_loadPart' hl, AutoSeq1.wpAny_loadPart' hb; exact ⟨_, rfl, h⟩
def rExtS (K : PySem.W.Frag) : V → List V → Hp → VK → Prop := fun x vs H Q => ∃ l b xs zs, x = .ref l ∧ vs = [.ref b] ∧ H l = some (.lst xs) ∧ SqL K H b zs ∧ xs.length + zs.length ≤ sizeLine ∧ Q .non (upd H l (.lst (xs ++ zs)))
section
variable {X : Cx}
theorem mt_extS : MtM X "list.extend" (rExtS X.K) := by
  intro pins s σ H x vs v us Q I rx rv h
  obtain ⟨l, b, xs, zs, rfl, rfl, hH, hB, hz, q⟩ := h
  cases rx
  obtain ⟨u, rfl, ru⟩ := rv.one
  cases ru
  obtain ⟨z, its, n, r, hl, e⟩ := I.lstM hH
  obtain ⟨its2, r2, ⟨⟨cls2, dd2, data2, sl2⟩, n2, e2, ec2, ed2, edt2⟩, hl2⟩ := I.list hB
  simp only at ec2 ed2 edt2
  subst ec2 ed2 edt2
  have h2 := r2.length
  have hsz : its.toArray.size + its2.toArray.size ≤ sizeLine := by rw [List.size_toArray, List.size_toArray]; omega
  have hlong : ¬ (!its.toArray.isEmpty && Builtin.List.listTooLong (its.toArray.size + its2.toArray.size)) = true := by
    rw [notLongL hsz, Bool.and_false]
    exact Bool.false_ne_true
  refine call_meets F.slot_list_extend ⟨_, e, rfl⟩ F.entry_list_extend (F.args_list_extend_2 _ _)
    (list_extendW l its.toArray n b its2.toArray n2 none sl2 hlong (by rw [List.size_toArray]; omega) (by omega)) ⟨e, e2, ?_⟩
  refine ⟨.non, _, I.lset (its' := its ++ its2) hH e (by simp) (r.append r2) ?_, rfl, q⟩
  rw [List.length_append]
  omega
end
section
variable {K : PySem.W.Frag}
theorem mok_extend : Mok K .extend (rExtS K) := by
  intro H w l a vs d d' z ds Q e c r hm g
  unfold mtd at hm
  split at hm <;> first | cases hm | skip
  all_goals first | (exfalso; simp_all; done) | skip
  cases c with
  | lst n rr =>
    cases r with
    | cons r1 r2 =>
      cases r2
      split at hm
      · rename_i hl
        cases hm
        cases r1 with
        | lst nd ra => exact ⟨a, _, _, _, rfl, rfl, n, nd.sq, by rw [rr.length, ra.length]; exact hl, g _ _ (fun b hb => upd_ne hb) (.lst upd_same ((rr.mono (sty_own e)).append (ra.mono (sty_own e)))) .non⟩
      · cases hm
theorem mok_pop0 : Mok K .pop0 rPop := by
  intro H w l a vs d d' z ds Q e c r hm g
  unfold mtd at hm
  split at hm <;> first | cases hm | skip
  all_goals first | (exfalso; simp_all; done) | skip
  cases c with
  | lst n rr =>
    cases r
    split at hm
    · rename_i y hy
      cases hm
      obtain ⟨v, hv, rv⟩ := rr.get hy
      rw [← rr.length] at hv
      exact ⟨a, _, v, rfl, rfl, n, hv, g _ _ (fun b hb => upd_ne hb) (.lst upd_same ((rr.mono (sty_own e)).dropLast)) (Rp.mono (sty_own e) rv)⟩
    · cases hm
theorem mok_reverse : Mok K .reverse rReverse := by
  intro H w l a vs d d' z ds Q e c r hm g
  unfold mtd at hm
  split at hm <;> first | cases hm | skip
  all_goals first | (exfalso; simp_all; done) | skip
  cases c with
  | lst n rr =>
    cases r
    exact ⟨a, _, rfl, rfl, n, g _ _ (fun b hb => upd_ne hb) (.lst upd_same ((rr.mono (sty_own e)).reverse)) .non⟩
theorem mok_clear : Mok K .clear rClear := by
  intro H w l a vs d d' z ds Q e c r hm g
  unfold mtd at hm
  split at hm <;> first | cases hm | skip
  all_goals first | (exfalso; simp_all; done) | skip
  cases c with
  | lst n rr =>
    cases r
    exact ⟨a, _, rfl, rfl, n, g _ _ (fun b hb => upd_ne hb) (.lst upd_same .nil) .non⟩
end
end PD
/-! PD6c: calls of methods and of defs. -/
namespace PD
open PySem PySem.Spec PyProof.Rows L2
def rIns : V → List V → Hp → VK → Prop := fun x vs H Q => ∃ (l : Addr) (xs : List V) (i : Int) (y : V), x = .ref l ∧ vs = [.int i, y] ∧ H l = some (.lst xs) ∧ xs.length < sizeLine ∧ 0 ≤ i ∧ i < 2 ^ 63 ∧ Q .non (upd H l (.lst (xs.take i.toNat ++ [y] ++ xs.drop i.toNat)))
section
variable {K : PySem.W.Frag} {H H' : Hp} {w w' : Wh} {μ : Nat → Option V} {σ : L2.St} {e e' : En} {n m : Nat} {v : V} {d d' : D}
theorem mok_insert : Mok K .insert rIns := by
  intro H w l a vs d d' z ds Q e c r hm g
  unfold mtd at hm
  split at hm <;> first | cases hm | skip
  all_goals first | (exfalso; simp_all; done) | skip
  cases c with
  | lst n rr =>
    cases r with
    | cons r1 r2 =>
      cases r2 with
      | cons r2 r3 =>
        cases r3
        split at hm
        · rename_i hl
          cases hm
          cases r1
          refine ⟨a, _, _, _, rfl, rfl, n, by rw [rr.length]; exact hl.1, hl.2.1, hl.2.2, g _ _ (fun b hb => upd_ne hb) (.lst upd_same ?_) .non⟩
          have rr' := rr.mono (sty_own (o := .lst []) e)
          exact ((((rr.mono (sty_own e)).take _).append (.cons (Rp.mono (sty_own e) r2) .nil)).append ((rr.mono (sty_own e)).drop _))
        · cases hm
/-- a slot's own thing is changed -/
theorem env_own {i : Nat} {a : Addr} {o : O} (er : EnvR K H w μ σ e) (hi : e[i]? = some (some ⟨o, d⟩)) (ho : o ≠ .sh) (hσ : σ[i]? = some (some (.ref a))) (hw : w a = some (.slot i)) (hk : ∀ b, b ≠ a → H' b = H b) (c : Cn K H' w a d') (s : Sty H w H' w) :
    EnvR K H' w μ σ (e.set i (some ⟨o, d'⟩)) := by
  refine ⟨by rw [List.length_set]; exact er.len, fun j o2 d2 h => ?_⟩
  by_cases hj : j = i
  · subst hj
    have hl : j < e.length := (List.getElem?_eq_some_iff.mp hi).1
    rw [List.getElem?_set_self hl] at h
    cases h
    obtain ⟨v, h1, h2, h3⟩ := er.at_ j _ _ hi
    have ev : v = .ref a := by
      rw [h1] at hσ
      exact Option.some.inj (Option.some.inj hσ)
    subst ev
    refine ⟨_, h1, ?_, h3⟩
    cases o with
    | sh => exact absurd rfl ho
    | own => exact ⟨a, rfl, hw, c⟩
    | mu => exact ⟨a, rfl, hw, c⟩
  · rw [List.getElem?_set_ne (Ne.symm hj)] at h
    obtain ⟨v, h1, h2, h3⟩ := er.at_ j o2 d2 h
    refine ⟨v, h1, h2.mono s fun b hb => ⟨hb, hk b fun z => ?_⟩, h3⟩
    rw [z, hw] at hb
    injection hb with hb
    injection hb with hb
    exact hj hb.symm
theorem Aft.own {H1 : Hp} {w1 : Wh} {e1 : En} {i : Nat} {a : Addr} {o : O} (A : Aft K n μ σ e1 H w H1 w1) (hi : e1[i]? = some (some ⟨o, d⟩)) (ho : o ≠ .sh) (hσ : σ[i]? = some (some (.ref a))) (hw : w1 a = some (.slot i))
    (u : HO) (c : Cn K (upd H1 a u) w1 a d') : Aft K n μ σ (e1.set i (some ⟨o, d'⟩)) H w (upd H1 a u) w1 := by
  have s := sty_own (H := H1) (o := u) hw
  refine ⟨A.stp.trans ⟨s, fun _ _ _ => Iff.rfl, fun b l k hb => ?_⟩, fun b hb => ?_, env_own A.env hi ho hσ hw (fun b hb => upd_ne hb) c s⟩
  · refine upd_ne fun z => ?_
    rw [z, hw] at hb
    cases hb
    exact k
  · by_cases z : b = a
    · rw [z, upd_same] at hb; cases hb
    · rw [upd_ne z] at hb; exact A.wf b hb
theorem isL_at {i : Nat} (h : isL e i = true) : ∃ o ds, e[i]? = some (some ⟨o, .list ds⟩) ∧ o ≠ .sh := by
  unfold isL at h
  split at h
  · rename_i ds hs; exact ⟨_, ds, hs, by intro z; cases z⟩
  · rename_i ds hs; exact ⟨_, ds, hs, by intro z; cases z⟩
  · cases h
/-- what a slot that is not shared holds -/
theorem own_at {i : Nat} {o : O} (er : EnvR K H w μ σ e) (hi : e[i]? = some (some ⟨o, d⟩)) (ho : o ≠ .sh) : ∃ a, σ[i]? = some (some (.ref a)) ∧ w a = some (.slot i) ∧ Cn K H w a d := by
  obtain ⟨v, h1, h2, _⟩ := er.at_ i o d hi
  cases o with
  | sh => exact absurd rfl ho
  | own => obtain ⟨a, e, f, c⟩ := h2; subst e; exact ⟨a, h1, f, c⟩
  | mu => obtain ⟨a, e, f, c⟩ := h2; subst e; exact ⟨a, h1, f, c⟩
end
section
variable {X : Cx} {F : List Fn} {a b c : Expr} {ia ib ic : IE} {it iu : IT} {pos apos cpos p1 : Pos} {es : List Expr} {ies : List IE}
theorem mt_in {m : Mt} {r : V → List V → Hp → VK → Prop} {i : Nat} (mo : Mok X.K m r) (σ : L2.St) (H : Hp) (Q : VK) (q : teE X.K F (.mt m i ies) σ H Q) :
    ∃ v, σ[i]? = some (some v) ∧ tyV X.K "list" v H ∧ teA X.K F ies σ H fun xs H2 => r v xs H2 Q := by
  obtain ⟨n, w, μ, e, z, e', wf, er, ev, k⟩ := q
  unfold evE at ev
  split at ev
  · rename_i hL
    obtain ⟨o0, ds0, hi0, ho0⟩ := isL_at hL
    obtain ⟨a0, hσ, hw0, c0⟩ := own_at er hi0 ho0
    refine ⟨_, hσ, ?_, ?_⟩
    · cases c0 with
      | lst h _ => exact .inl ⟨rfl, _, SqL.of h⟩
    · obtain ⟨xs, e1, h1, ev⟩ := Rs.bind_ok ev
      refine ⟨n, w, μ, e, xs, e1, wf, er, h1, fun vs H1 w1 a1 an => ?_⟩
      split at ev
      · rename_i ds e2 hfz
        obtain ⟨w2, a2, rp⟩ := a1.fzs an (Nat.le_refl n) hfz
        split at ev
        · cases ev
        · rename_i o d hns hi
          split at ev
          · rename_i d' r' hm
            cases ev
            have ho : o ≠ .sh := fun z => hns z
            obtain ⟨a, hσ2, hw, c⟩ := own_at a2.env hi ho
            have ea : a = a0 := by
              rw [hσ] at hσ2
              injection hσ2 with q
              injection q with q
              injection q with q
              exact q.symm
            subst ea
            exact mo H1 w2 (.slot i) a vs d d' r' ds Q hw c rp hm fun v u hu cn rv => k v _ w2 (a2.own hi ho hσ2 hw u cn) rv
          · cases ev
        · cases ev
      · cases ev
  · cases ev
theorem se_mt {m : Mt} {r : V → List V → Hp → VK → Prop} {i : Nat} {x name : Str} {id : String} (mo : Mok X.K m r) (hx : PE X (.Name x p1) (tVar i)) (slot : Slot "list" name id) (hty : typeOf (.builtin id) = pure (.type "method_descriptor")) (hm : MtR X id r) (ha : PA X (a :: es) (teA X.K F ies))
    (hfew : ((backTo cpos (starEach (a :: es) X.env)).all (fun x => !x.1) && (backToKw cpos (keywordEach [] X.env)).all (fun x => x.1.isSome)
      && decide ((a :: es).length + ([] : List Keyword).length + (if ([] : List Keyword).isEmpty then 0 else 1) < 30)) = true)
    (hline : (apos.endLine == cpos.line) = true) (hs : starEach (a :: es) X.env = (false, eval a X.env) :: starEach es X.env) (hplain : (backTo cpos (starEach es X.env)).any (·.1) = false) :
    PE X (.Call (.Attribute (.Name x p1) name apos) (a :: es) [] cpos) (teE X.K F (.mt m i ies)) := by
  refine (pe_bm PySem.F.plainAttrs_list slot hty hm hx ha (by rfl) hfew hline hs hplain).imp fun σ H Q q => ?_
  obtain ⟨v, h1, h2, h3⟩ := mt_in mo σ H Q q
  exact ⟨v, h1, h2, h3⟩
theorem se_mt0 {m : Mt} {r : V → List V → Hp → VK → Prop} {i : Nat} {x name : Str} {id : String} (mo : Mok X.K m r) (hx : PE X (.Name x p1) (tVar i)) (slot : Slot "list" name id) (hty : typeOf (.builtin id) = pure (.type "method_descriptor")) (hm : MtR X id r)
    (hline : (apos.endLine == cpos.line) = true) : PE X (.Call (.Attribute (.Name x p1) name apos) [] [] cpos) (teE X.K F (.mt m i [])) := by
  refine (pe_bm0 PySem.F.plainAttrs_list slot hty hm hx (by rfl) hline).imp fun σ H Q q => ?_
  obtain ⟨v, h1, h2, n, w, μ, e, as, e', wf, er, ev, k⟩ := mt_in mo σ H Q q
  refine ⟨v, h1, h2, ?_⟩
  cases ev
  exact k [] H w (.refl wf er) (.nil n)
end
end PD
/-! PD6d: the call of a def. -/
namespace PD
open PySem PySem.Spec PyProof.Rows L2
inductive ArgR (K : PySem.W.Frag) (H : Hp) (w : Wh) : Nat → List Bool → List V → List D → Prop
  | nil (j : Nat) : ArgR K H w j [] [] []
  | ro {j : Nat} {ms : List Bool} {v : V} {vs : List V} {d : D} {ds : List D} : Rp K H w v d → ArgR K H w (j + 1) ms vs ds → ArgR K H w j (false :: ms) (v :: vs) (d :: ds)
  | mu {j : Nat} {ms : List Bool} {v : V} {vs : List V} {d : D} {ds : List D} : Ow K H w (.slot j) v d → ArgR K H w (j + 1) ms vs ds → ArgR K H w j (true :: ms) (v :: vs) (d :: ds)
inductive MsR (K : PySem.W.Frag) (H : Hp) (w : Wh) : Nat → List Bool → List V → List D → Prop
  | nil (j : Nat) : MsR K H w j [] [] []
  | ro {j : Nat} {ms : List Bool} {v : V} {vs : List V} {ds : List D} : MsR K H w (j + 1) ms vs ds → MsR K H w j (false :: ms) (v :: vs) ds
  | mu {j : Nat} {ms : List Bool} {v : V} {vs : List V} {d : D} {ds : List D} : Ow K H w (.slot j) v d → MsR K H w (j + 1) ms vs ds → MsR K H w j (true :: ms) (v :: vs) (d :: ds)
/-- the promise of a def: what its pure sense says -/
def spF (K : PySem.W.Frag) (f : Fn) : Sp := fun vs H Q E => ∃ w ds, Wf H w ∧ ArgR K H w 0 f.modes vs ds ∧ match f.sem ds with
  | .ok fr d ms => ∀ v H' w', Stp (keepE 0) H w H' w' → Wf H' w' → AnsR K 0 H' w' [] v (.val fr d) → MsR K H' w' 0 f.modes vs ms → Q v H'
  | _ => False
/-! labels there and back -/
def toC (al : List (Nat × Nat)) (le : List Nat) : Lab → Option Lab
  | .slot i => if i ∈ le then none else match al.lookup i with
    | some j => some (.slot j)
    | none => some (.out (.slot i))
  | l => some (.out l)
def fromC (n : Nat) (al : List (Nat × Nat)) : Lab → Option Lab
  | .out l => some l
  | .slot j => (al.find? fun p => p.2 == j).map fun p => .slot p.1
  | .tmp m => if m = 0 then some (.tmp n) else none
/-- no place twice -/
def Nd1 : List (Nat × Nat) → Prop
  | [] => True
  | p :: ps => (ps.any fun q => q.1 == p.1) = false ∧ Nd1 ps
theorem nd1_lookup : ∀ {al : List (Nat × Nat)}, Nd1 al → ∀ p ∈ al, al.lookup p.1 = some p.2
  | [], _, p, h => by cases h
  | q :: qs, nd, p, h => by
    obtain ⟨q1, q2⟩ := q
    rcases List.mem_cons.mp h with h | h
    · subst h
      simp [List.lookup]
    · have ih := nd1_lookup nd.2 p h
      have ne : (p.1 == q1) = false := by
        have h1 := nd.1
        rw [List.any_eq_false] at h1
        have h2 := h1 p h
        simpa using h2
      simp only [List.lookup, ne]
      exact ih
/-- no parameter twice -/
theorem argA_ge : ∀ {j : Nat} {ms : List Bool} {as : List Ans} {e : En} {ds : List D} {al : List (Nat × Nat)} {le : List Nat}, argA j ms as e = some (ds, al, le) → Nd1 al ∧ ∀ p ∈ al, j ≤ p.2
  | j, [], [], e, ds, al, le, h => by
    simp only [argA] at h
    cases h
    exact ⟨trivial, fun p h => by cases h⟩
  | j, m :: ms, a :: as, e, ds, al, le, h => by
    simp only [argA] at h
    cases h1 : argA (j + 1) ms as e with
    | none => rw [h1] at h; cases h
    | some t =>
      obtain ⟨ds1, al1, le1⟩ := t
      obtain ⟨nd, ge⟩ := argA_ge h1
      rw [h1] at h
      cases m with
      | false =>
        cases a with
        | val f d => simp only at h; cases h; exact ⟨nd, fun p hp => Nat.le_of_succ_le (ge p hp)⟩
        | pl i =>
          simp only at h
          split at h
          · cases h; exact ⟨nd, fun p hp => Nat.le_of_succ_le (ge p hp)⟩
          · cases h
      | true =>
        cases a with
        | val f d => simp only at h; cases h
        | pl i =>
          simp only at h
          split at h
          · cases h
          · split at h
            · cases h
            · rename_i hn
              cases h
              refine ⟨⟨Bool.eq_false_iff.mpr hn, nd⟩, fun p hp => ?_⟩
              rcases List.mem_cons.mp hp with rfl | hp
              · exact Nat.le_refl _
              · exact Nat.le_of_succ_le (ge p hp)
          · cases h
  | _, [], _ :: _, _, _, _, _, h => by simp [argA] at h
  | _, _ :: _, [], _, _, _, _, h => by simp [argA] at h
section
variable {K : PySem.W.Frag} {H : Hp} {w : Wh} {μ : Nat → Option V} {σ : L2.St} {e : En}
theorem toC_sty {al : List (Nat × Nat)} {le : List Nat} : Sty H w H (fun a => (w a).bind (toC al le)) := fun a o h e => ⟨h, by show (w a).bind _ = none; rw [e]; rfl⟩
theorem argA_ok {AL : List (Nat × Nat)} {LE : List Nat} (er : EnvR K H w μ σ e) (hl : ∀ p ∈ AL, AL.lookup p.1 = some p.2) (hm : ∀ p ∈ AL, p.1 ∉ LE) :
    ∀ {j : Nat} {ms : List Bool} {as : List Ans} {us : List V} {ds : List D} {al : List (Nat × Nat)} {le : List Nat}, argA j ms as e = some (ds, al, le) → (∀ p ∈ al, p ∈ AL) → (∀ i ∈ le, i ∈ LE) → Paired (AnsS K H w σ) us as →
      ArgR K H (fun a => (w a).bind (toC AL LE)) j ms us ds
  | j, [], [], _, ds, al, le, h, _, _, .nil => by
    simp only [argA] at h
    cases h
    exact .nil j
  | j, m :: ms, a :: as, _, ds, al, le, h, sa, sl, .cons (a := u) (l₁ := us) pa pr => by
    simp only [argA] at h
    cases h1 : argA (j + 1) ms as e with
    | none => rw [h1] at h; cases h
    | some t =>
      obtain ⟨ds1, al1, le1⟩ := t
      rw [h1] at h
      cases m with
      | false =>
        cases a with
        | val f d =>
          simp only at h
          cases h
          exact .ro (Rp.mono toC_sty pa) (argA_ok er hl hm h1 sa sl pr)
        | pl i =>
          simp only at h
          split at h
          · rename_i s hs
            cases h
            obtain ⟨o, d⟩ := s
            refine .ro ?_ (argA_ok er hl hm h1 sa (fun x hx => sl x (List.mem_cons_of_mem _ hx)) pr)
            have hi : i ∈ LE := sl i List.mem_cons_self
            obtain ⟨v, v1, v2, _⟩ := er.at_ i o d hs
            have ev : v = u := by
              have q : σ[i]? = some (some u) := pa
              rw [v1] at q
              exact Option.some.inj (Option.some.inj q)
            subst ev
            have ow : Ow K H w (.slot i) v d → Rp K H (fun a => (w a).bind (toC AL LE)) v d := fun ⟨a, e1, e2, c⟩ => by
              subst e1
              refine (c.mono toC_sty rfl).rp ?_
              show (w a).bind _ = none
              rw [e2]
              show (if i ∈ LE then none else _) = none
              rw [if_pos hi]
            cases o with
            | sh => exact Rp.mono toC_sty v2
            | own => exact ow v2
            | mu => exact ow v2
          · cases h
      | true =>
        cases a with
        | val f d => simp only at h; cases h
        | pl i =>
          simp only at h
          split at h
          · cases h
          · rename_i o d hns hs
            split at h
            · cases h
            · cases h
              refine .mu ?_ (argA_ok er hl hm h1 (fun x hx => sa x (List.mem_cons_of_mem _ hx)) sl pr)
              have hp : (i, j) ∈ AL := sa _ List.mem_cons_self
              obtain ⟨a, a1, a2, c⟩ := own_at er hs (fun z => hns z)
              have ev : u = .ref a := by
                have q : σ[i]? = some (some u) := pa
                rw [a1] at q
                exact (Option.some.inj (Option.some.inj q)).symm
              refine ⟨a, ev, ?_, c.mono toC_sty rfl⟩
              show (w a).bind _ = _
              rw [a2]
              show (if i ∈ LE then none else _) = _
              rw [if_neg (hm _ hp), hl _ hp]
          · cases h
  | _, [], _ :: _, _, _, _, _, h, _, _, _ => by simp [argA] at h
  | _, _ :: _, [], _, _, _, _, h, _, _, _ => by simp [argA] at h

/-- the slots but some -/
structure EnvX (S : Nat → Prop) (K : PySem.W.Frag) (H : Hp) (w : Wh) (μ : Nat → Option V) (σ : L2.St) (e : En) : Prop where
  len : σ.length = e.length
  at_ : ∀ i o d, ¬ S i → e[i]? = some (some ⟨o, d⟩) → ∃ v, σ[i]? = some (some v) ∧ RpO K H w (.slot i) o v d ∧ (o = .mu → μ i = some v)
/-- a changed parameter, at its place -/
def AlR (K : PySem.W.Frag) (H : Hp) (w : Wh) (σ : L2.St) (p : Nat × Nat) (m : D) : Prop := ∃ u, σ[p.1]? = some (some u) ∧ Ow K H w (.slot p.2) u m
theorem msR_al {H' : Hp} {w' : Wh} : ∀ {j : Nat} {ms : List Bool} {as : List Ans} {us : List V} {ds zs : List D} {al : List (Nat × Nat)} {le : List Nat}, argA j ms as e = some (ds, al, le) → Paired (AnsS K H w σ) us as → MsR K H' w' j ms us zs → Paired (AlR K H' w' σ) al zs
  | j, [], [], _, ds, zs, al, le, h, .nil, m => by
    simp only [argA] at h
    cases h
    cases m
    exact .nil
  | j, b :: ms, a :: as, _, ds, zs, al, le, h, .cons (a := u) (l₁ := us) pa pr, m => by
    simp only [argA] at h
    cases h1 : argA (j + 1) ms as e with
    | none => rw [h1] at h; cases h
    | some t =>
      obtain ⟨ds1, al1, le1⟩ := t
      rw [h1] at h
      cases m with
      | ro m =>
        cases a with
        | val f d => simp only at h; cases h; exact msR_al h1 pr m
        | pl i =>
          simp only at h
          split at h
          · cases h; exact msR_al h1 pr m
          · cases h
      | mu ow m =>
        cases a with
        | val f d => simp only at h; cases h
        | pl i =>
          simp only at h
          split at h
          · cases h
          · split at h
            · cases h
            · cases h
              exact .cons ⟨u, pa, ow⟩ (msR_al h1 pr m)
          · cases h
  | _, [], _ :: _, _, _, _, _, _, h, _, _ => by simp [argA] at h
  | _, _ :: _, [], _, _, _, _, _, h, _, _ => by simp [argA] at h
theorem putMs_ok {H' : Hp} {w4 : Wh} {S : Nat → Prop} : ∀ {al : List (Nat × Nat)} {zs : List D} {e e2 : En}, Paired (fun (p : Nat × Nat) (m : D) => ∃ u, σ[p.1]? = some (some u) ∧ Ow K H' w4 (.slot p.1) u m) al zs → EnvX (fun i => (∃ p ∈ al, p.1 = i) ∨ S i) K H' w4 μ σ e → (∀ p ∈ al, ∀ o d, e[p.1]? = some (some ⟨o, d⟩) → o ≠ .sh) →
    (∀ p ∈ al, ∀ o d v, e[p.1]? = some (some ⟨o, d⟩) → σ[p.1]? = some (some v) → o = .mu → μ p.1 = some v) → putMs al zs e = some e2 → EnvX S K H' w4 μ σ e2
  | [], _, e, e2, .nil, ex, _, _, h => by
    cases h
    exact ⟨ex.len, fun i o d hs => ex.at_ i o d (fun z => z.elim (fun ⟨p, hp, _⟩ => by cases hp) hs)⟩
  | p :: al, _, e, e2, .cons (b := m) (l₂ := zs) pa pr, ex, hn, hm, h => by
    simp only [putMs] at h
    split at h
    · rename_i s hs
      obtain ⟨o, d0⟩ := s
      have hl : p.1 < e.length := (List.getElem?_eq_some_iff.mp hs).1
      have ho : o ≠ .sh := hn p List.mem_cons_self o d0 hs
      refine putMs_ok pr ⟨by rw [List.length_set]; exact ex.len, fun i o2 d2 hS h2 => ?_⟩ (fun q hq o2 d2 h2 => ?_) (fun q hq o2 d2 v h2 hv => ?_) h
      · by_cases hi : i = p.1
        · subst hi
          rw [List.getElem?_set_self hl] at h2
          cases h2
          obtain ⟨u, u1, u2⟩ := pa
          refine ⟨u, u1, ?_, hm p List.mem_cons_self o d0 u hs u1⟩
          cases o with
          | sh => exact absurd rfl ho
          | own => exact u2
          | mu => exact u2
        · rw [List.getElem?_set_ne (Ne.symm hi)] at h2
          refine ex.at_ i o2 d2 (fun z => hS ?_) h2
          rcases z with ⟨q, hq, e1⟩ | z
          · rcases List.mem_cons.mp hq with rfl | hq
            · exact absurd e1.symm hi
            · exact .inl ⟨q, hq, e1⟩
          · exact .inr z
      · by_cases hi : q.1 = p.1
        · rw [hi, List.getElem?_set_self hl] at h2
          cases h2
          exact ho
        · rw [List.getElem?_set_ne (Ne.symm hi)] at h2
          exact hn q (List.mem_cons_of_mem _ hq) o2 d2 h2
      · by_cases hi : q.1 = p.1
        · rw [hi, List.getElem?_set_self hl] at h2
          cases h2
          rw [hi] at hv ⊢
          exact hm p List.mem_cons_self o d0 v hs hv
        · rw [List.getElem?_set_ne (Ne.symm hi)] at h2
          exact hm q (List.mem_cons_of_mem _ hq) o2 d2 v h2 hv
    · cases h
theorem shareAll_ok {H' : Hp} {w4 : Wh} : ∀ {le : List Nat} {e e2 : En}, EnvX (fun i => i ∈ le) K H' w4 μ σ e → (∀ i ∈ le, ∀ o d, e[i]? = some (some ⟨o, d⟩) → ∃ v, σ[i]? = some (some v) ∧ Rp K H' w4 v d) → shareAll le e = some e2 → EnvR K H' w4 μ σ e2
  | [], e, e2, ex, _, h => by
    cases h
    exact ⟨ex.len, fun i o d => ex.at_ i o d (by simp)⟩
  | i :: le, e, e2, ex, hn, h => by
    have fin : ∀ o d, e[i]? = some (some ⟨o, d⟩) → shareAll le (e.set i (some ⟨.sh, d⟩)) = some e2 → EnvR K H' w4 μ σ e2 := fun o d hs h => by
      have hl : i < e.length := (List.getElem?_eq_some_iff.mp hs).1
      refine shareAll_ok ⟨by rw [List.length_set]; exact ex.len, fun j o2 d2 hS h2 => ?_⟩ (fun j hj o2 d2 h2 => ?_) h
      · by_cases hi : j = i
        · subst hi
          rw [List.getElem?_set_self hl] at h2
          cases h2
          obtain ⟨v, v1, v2⟩ := hn j List.mem_cons_self o _ hs
          exact ⟨v, v1, v2, fun z => by cases z⟩
        · rw [List.getElem?_set_ne (Ne.symm hi)] at h2
          exact ex.at_ j o2 d2 (fun z => (List.mem_cons.mp z).elim hi hS) h2
      · by_cases hi : j = i
        · subst hi
          rw [List.getElem?_set_self hl] at h2
          cases h2
          exact hn j List.mem_cons_self o _ hs
        · rw [List.getElem?_set_ne (Ne.symm hi)] at h2
          exact hn j (List.mem_cons_of_mem _ hj) o2 d2 h2
    simp only [shareAll] at h
    split at h
    · cases h
    · rename_i o d _ hs
      exact fin o d hs h
    · cases h
end
end PD
/-! PD6e: the call of a def, whole. -/
namespace PD
open PySem PySem.Spec PyProof.Rows L2
theorem isSc_rp {K : PySem.W.Frag} {H H' : Hp} {w w' : Wh} {v : V} {d : D} {f : Bool} {n : Nat} {σ : L2.St} (hs : isSc d = true) (h : AnsR K n H w σ v (.val f d)) : Rp K H' w' v d := by
  have rr : Rr K H w v d := by
    cases f with
    | false => exact .inl h
    | true => obtain ⟨a, e, _, c⟩ := h; exact .inr ⟨a, e, c⟩
  cases d with
  | none => obtain rfl := rr.non; exact .non
  | bool b => obtain rfl := rr.bl; exact .bl b
  | int i => obtain rfl := rr.int; exact .int i
  | str x => obtain rfl := rr.str; exact .str x
  | _ => simp [isSc] at hs
theorem argA_at : ∀ {j : Nat} {ms : List Bool} {as : List Ans} {e : En} {ds : List D} {al : List (Nat × Nat)} {le : List Nat}, argA j ms as e = some (ds, al, le) → ∀ p ∈ al, ∀ o d, e[p.1]? = some (some ⟨o, d⟩) → o ≠ .sh
  | j, [], [], e, ds, al, le, h => by
    simp only [argA] at h
    cases h
    intro p h; cases h
  | j, m :: ms, a :: as, e, ds, al, le, h => by
    simp only [argA] at h
    cases h1 : argA (j + 1) ms as e with
    | none => rw [h1] at h; cases h
    | some t =>
      obtain ⟨ds1, al1, le1⟩ := t
      have ih := argA_at h1
      rw [h1] at h
      cases m with
      | false =>
        cases a with
        | val f d => simp only at h; cases h; exact ih
        | pl i =>
          simp only at h
          split at h
          · cases h; exact ih
          · cases h
      | true =>
        cases a with
        | val f d => simp only at h; cases h
        | pl i =>
          simp only at h
          split at h
          · cases h
          · rename_i o d hns hs
            split at h
            · cases h
            · cases h
              intro p hp o2 d2 h2
              rcases List.mem_cons.mp hp with rfl | hp
              · rw [hs] at h2
                cases h2
                exact fun z => hns z
              · exact ih p hp o2 d2 h2
          · cases h
  | _, [], _ :: _, _, _, _, _, h => by simp [argA] at h
  | _, _ :: _, [], _, _, _, _, h => by simp [argA] at h
theorem fromC_find {n : Nat} {al : List (Nat × Nat)} (nd : ∀ p ∈ al, ∀ q ∈ al, p.2 = q.2 → p = q) (p : Nat × Nat) (hp : p ∈ al) : fromC n al (.slot p.2) = some (.slot p.1) := by
  show ((al.find? fun q => q.2 == p.2).map fun q => Lab.slot q.1) = _
  cases h : al.find? fun q => q.2 == p.2 with
  | none =>
    rw [List.find?_eq_none] at h
    exact absurd (by simp) (h p hp)
  | some q =>
    have h1 := List.find?_some h
    have h2 := List.mem_of_find?_eq_some h
    have : q = p := nd q h2 p hp (by simpa using h1)
    subst this
    rfl
theorem argA_inj : ∀ {j : Nat} {ms : List Bool} {as : List Ans} {e : En} {ds : List D} {al : List (Nat × Nat)} {le : List Nat}, argA j ms as e = some (ds, al, le) → ∀ p ∈ al, ∀ q ∈ al, p.2 = q.2 → p = q
  | j, [], [], e, ds, al, le, h => by
    simp only [argA] at h
    cases h
    intro p h; cases h
  | j, m :: ms, a :: as, e, ds, al, le, h => by
    simp only [argA] at h
    cases h1 : argA (j + 1) ms as e with
    | none => rw [h1] at h; cases h
    | some t =>
      obtain ⟨ds1, al1, le1⟩ := t
      have ih := argA_inj h1
      have ge := (argA_ge h1).2
      rw [h1] at h
      cases m with
      | false =>
        cases a with
        | val f d => simp only at h; cases h; exact ih
        | pl i =>
          simp only at h
          split at h
          · cases h; exact ih
          · cases h
      | true =>
        cases a with
        | val f d => simp only at h; cases h
        | pl i =>
          simp only at h
          split at h
          · cases h
          · split at h
            · cases h
            · cases h
              intro p hp q hq e
              rcases List.mem_cons.mp hp with rfl | hp
              · rcases List.mem_cons.mp hq with rfl | hq
                · rfl
                · have := ge q hq
                  exact absurd e (by show ¬ j = q.2; omega)
              · rcases List.mem_cons.mp hq with rfl | hq
                · have := ge p hp
                  exact absurd e (by show ¬ p.2 = j; omega)
                · exact ih p hp q hq e
          · cases h
  | _, [], _ :: _, _, _, _, _, h => by simp [argA] at h
  | _, _ :: _, [], _, _, _, _, h => by simp [argA] at h
theorem argA_le : ∀ {j : Nat} {ms : List Bool} {as : List Ans} {e : En} {ds : List D} {al : List (Nat × Nat)} {le : List Nat}, argA j ms as e = some (ds, al, le) → ∀ i ∈ le, ∃ s, e[i]? = some (some s)
  | j, [], [], e, ds, al, le, h => by
    simp only [argA] at h
    cases h
    intro p h; cases h
  | j, m :: ms, a :: as, e, ds, al, le, h => by
    simp only [argA] at h
    cases h1 : argA (j + 1) ms as e with
    | none => rw [h1] at h; cases h
    | some t =>
      obtain ⟨ds1, al1, le1⟩ := t
      have ih := argA_le h1
      rw [h1] at h
      cases m with
      | false =>
        cases a with
        | val f d => simp only at h; cases h; exact ih
        | pl i =>
          simp only at h
          split at h
          · rename_i s hs
            cases h
            intro k hk
            rcases List.mem_cons.mp hk with rfl | hk
            · exact ⟨s, hs⟩
            · exact ih k hk
          · cases h
      | true =>
        cases a with
        | val f d => simp only at h; cases h
        | pl i =>
          simp only at h
          split at h
          · cases h
          · split at h
            · cases h
            · cases h; exact ih
          · cases h
  | _, [], _ :: _, _, _, _, _, h => by simp [argA] at h
  | _, _ :: _, [], _, _, _, _, h => by simp [argA] at h
theorem putMs_other {K : PySem.W.Frag} : ∀ {al : List (Nat × Nat)} {zs : List D} {e e2 : En} {i : Nat}, (∀ p ∈ al, p.1 ≠ i) → putMs al zs e = some e2 → e2[i]? = e[i]?
  | [], [], e, e2, i, _, h => by cases h; rfl
  | p :: al, z :: zs, e, e2, i, hn, h => by
    simp only [putMs] at h
    split at h
    · rw [putMs_other (K := K) (fun q hq => hn q (List.mem_cons_of_mem _ hq)) h, List.getElem?_set_ne (hn p List.mem_cons_self)]
    · cases h
  | [], _ :: _, _, _, _, _, h => by cases h
  | _ :: _, [], _, _, _, _, h => by cases h
section
variable {K : PySem.W.Frag} {H H1 : Hp} {w w1 : Wh} {μ : Nat → Option V} {σ : L2.St} {e1 e' : En} {n : Nat}
/-- a call, from the caller's side -/
theorem callA_in {f : Fn} {as : List Ans} {us : List V} {z : Ans} {Q : VK} {E : XK} (wf : Wf H w) (er : EnvR K H w μ σ e1) (an : Paired (AnsS K H w σ) us as) (hc : callA f as e1 = .ok z e')
    (k : ∀ v H' w', Aft K n μ σ e' H w H' w' → AnsR K n H' w' σ v z → Q v H') : spF K f us H Q E := by
  unfold callA at hc
  split at hc
  · rename_i ds al le ha
    obtain ⟨nd, _⟩ := argA_ge ha
    split at hc
    · rename_i hmix
      have hmix' : ∀ p ∈ al, p.1 ∉ le := fun p hp hi => by
        unfold noMix at hmix
        rw [List.all_eq_true] at hmix
        have := hmix _ hi
        simp only [Bool.not_eq_true', List.any_eq_false] at this
        exact this p hp (by simp)
      have AR := argA_ok er (nd1_lookup nd) hmix' ha (fun _ h => h) (fun _ h => h) an
      have wf3 : Wf H (fun a => (w a).bind (toC al le)) := fun a h => by show (w a).bind _ = none; rw [wf a h]; rfl
      refine ⟨_, ds, wf3, AR, ?_⟩
      have outK : ∀ a l, keepE n l → w a = some l → (w a).bind (toC al le) = some (.out l) := fun a l kl h => by
        rw [h]
        cases l with
        | slot i => exact kl.elim
        | tmp m => rfl
        | out l => rfl
      split at hc
      · rename_i fr d ms hsem
        rw [hsem]
        intro v H' w' st wf' anr msr
        split at hc
        · rename_i e2 hput
          split at hc
          · rename_i hkeep
            rw [Bool.and_eq_true] at hkeep
            have hal : al = [] := by simpa using hkeep.2
            subst hal
            have e12 : e2 = e1 := by
              cases ms with
              | nil => cases hput; rfl
              | cons _ _ => cases hput
            subst e12
            cases hc
            have keepH : ∀ a, w a ≠ none → H' a = H a := fun a h => by
              cases hw : w a with
              | none => exact absurd hw h
              | some l =>
                cases hb : (w a).bind (toC [] le) with
                | none =>
                  cases hH : H a with
                  | none => exact absurd (wf a hH) h
                  | some o => exact (st.sh a o hH hb).1
                | some l2 =>
                  refine st.kh a l2 ?_ hb
                  rw [hw] at hb
                  cases l with
                  | slot i =>
                    have hb' : (if i ∈ le then none else some (Lab.out (.slot i))) = some l2 := hb
                    split at hb'
                    · cases hb'
                    · cases hb'; trivial
                  | tmp m => cases hb; trivial
                  | out l => cases hb; trivial
            have sty : Sty H w H' w := fun a o h0 h1 => ⟨(st.sh a o h0 (by show (w a).bind _ = none; rw [h1]; rfl)).1, h1⟩
            refine k v H' w ⟨⟨sty, fun _ _ _ => Iff.rfl, fun a l _ h => keepH a (by rw [h]; intro z; cases z)⟩, fun a h => ?_, ?_⟩ (isSc_rp hkeep.1 anr)
            · cases hw : w a with
              | none => rfl
              | some l =>
                have h2 := keepH a (by rw [hw]; intro z; cases z)
                rw [h] at h2
                have h3 := wf a h2.symm
                rw [hw] at h3
                cases h3
            · exact ⟨er.len, fun i o d h => let ⟨v, v1, v2, v3⟩ := er.at_ i o d h
                ⟨v, v1, v2.mono sty fun a ha => ⟨ha, keepH a (by rw [ha]; intro z; cases z)⟩, v3⟩⟩
          · split at hc
            · rename_i e3 hsh
              cases hc
              let w4 : Wh := fun a => (w' a).bind (fromC n al)
              have styR : Sty H' w' H' w4 := fun a o h0 h1 => ⟨h0, by show (w' a).bind _ = none; rw [h1]; rfl⟩
              have sty : Sty H w H' w4 := fun a o h0 h1 => by
                obtain ⟨h2, h3⟩ := st.sh a o h0 (by show (w a).bind _ = none; rw [h1]; rfl)
                exact styR a o h2 h3
              have outB : ∀ a l, w' a = some (.out l) → w4 a = some l := fun a l h => by show (w' a).bind _ = _; rw [h]; rfl
              have al_in : ∀ j i, fromC n al (.slot j) = some (.slot i) → ∃ p ∈ al, p.1 = i := fun j i h => by
                have h' : ((al.find? fun p => p.2 == j).map fun p => Lab.slot p.1) = some (.slot i) := h
                cases hf : al.find? fun p => p.2 == j with
                | none => rw [hf] at h'; cases h'
                | some p =>
                  rw [hf] at h'
                  injection h' with h'
                  injection h' with h'
                  exact ⟨p, List.mem_of_find?_eq_some hf, h'⟩
              have stp : Stp (keepE n) H w H' w4 := by
                refine ⟨sty, fun a l kl => ⟨fun h => ?_, fun h => outB a l ((st.kp a (.out l) trivial).mpr (outK a l kl h))⟩, fun a l kl h => st.kh a (.out l) trivial (outK a l kl h)⟩
                have h' : (w' a).bind (fromC n al) = some l := h
                cases hw : w' a with
                | none => rw [hw] at h'; cases h'
                | some l0 =>
                  rw [hw] at h'
                  cases l0 with
                  | slot j =>
                    have h2 : ((al.find? fun p => p.2 == j).map fun p => Lab.slot p.1) = some l := h'
                    cases hf : al.find? fun p => p.2 == j with
                    | none => rw [hf] at h2; cases h2
                    | some p => rw [hf] at h2; cases h2; exact kl.elim
                  | tmp m =>
                    have h2 : (if m = 0 then some (Lab.tmp n) else none) = some l := h'
                    split at h2
                    · cases h2; exact absurd kl (Nat.lt_irrefl _)
                    · cases h2
                  | out l' =>
                    cases h'
                    have h3 := (st.kp a (.out l) trivial).mp hw
                    have h3' : (w a).bind (toC al le) = some (.out l) := h3
                    cases hw0 : w a with
                    | none => rw [hw0] at h3'; cases h3'
                    | some l1 =>
                      rw [hw0] at h3'
                      cases l1 with
                      | slot i =>
                        have h4 : (if i ∈ le then none else match al.lookup i with
                          | some j => some (Lab.slot j)
                          | none => some (.out (.slot i))) = some (.out l) := h3'
                        split at h4
                        · cases h4
                        · split at h4
                          · cases h4
                          · cases h4; exact kl.elim
                      | tmp m => cases h3'; rfl
                      | out l => cases h3'; rfl
              have wf4 : Wf H' w4 := fun a h => by show (w' a).bind _ = none; rw [wf' a h]; rfl
              have ex : EnvX (fun i => (∃ p ∈ al, p.1 = i) ∨ i ∈ le) K H' w4 μ σ e1 := by
                refine ⟨er.len, fun i o d hS h => ?_⟩
                obtain ⟨v, v1, v2, v3⟩ := er.at_ i o d h
                refine ⟨v, v1, v2.mono sty fun a ha => ?_, v3⟩
                have hi : i ∉ le := fun z => hS (.inr z)
                have hlk : al.lookup i = none := by
                  cases hl : al.lookup i with
                  | none => rfl
                  | some j =>
                    exfalso
                    obtain ⟨l1, l2, e3, _⟩ := List.lookup_eq_some_iff.mp hl
                    exact hS (.inl ⟨(i, j), by rw [e3]; simp, rfl⟩)
                have h3 : (w a).bind (toC al le) = some (.out (.slot i)) := by
                  rw [ha]
                  show (if i ∈ le then none else match al.lookup i with
                    | some j => some (Lab.slot j)
                    | none => some (.out (.slot i))) = _
                  rw [if_neg hi, hlk]
                exact ⟨outB a _ ((st.kp a (.out (.slot i)) trivial).mpr h3), st.kh a (.out (.slot i)) trivial h3⟩
              have ow4 : ∀ {u : V} {j i : Nat} {m : D}, (i, j) ∈ al → Ow K H' w' (.slot j) u m → Ow K H' w4 (.slot i) u m := fun {u j i m} hp ⟨a, a1, a2, c⟩ => by
                refine ⟨a, a1, ?_, c.mono styR rfl⟩
                show (w' a).bind _ = _
                rw [a2]
                show fromC n al (.slot j) = some (.slot i)
                exact fromC_find (n := n) (argA_inj ha) (i, j) hp
              have alr := msR_al ha an msr
              have prs : Paired (fun (p : Nat × Nat) (m : D) => ∃ u, σ[p.1]? = some (some u) ∧ Ow K H' w4 (.slot p.1) u m) al ms := by
                have gen : ∀ {l : List (Nat × Nat)} {zs : List D}, (∀ p ∈ l, p ∈ al) → Paired (AlR K H' w' σ) l zs → Paired (fun (p : Nat × Nat) (m : D) => ∃ u, σ[p.1]? = some (some u) ∧ Ow K H' w4 (.slot p.1) u m) l zs := by
                  intro l zs hs pr
                  induction pr with
                  | nil => exact .nil
                  | cons r _ ih =>
                    obtain ⟨u, u1, u2⟩ := r
                    exact .cons ⟨u, u1, ow4 (hs _ List.mem_cons_self) u2⟩ (ih fun p hp => hs p (List.mem_cons_of_mem _ hp))
                exact gen (fun _ h => h) alr
              have ex2 : EnvX (fun i => i ∈ le) K H' w4 μ σ e2 := putMs_ok prs ex (argA_at ha) (fun p hp o d v h1 h2 h3 => by
                obtain ⟨v', v1, _, v3⟩ := er.at_ p.1 o d h1
                have : v' = v := by
                  rw [v1] at h2
                  exact Option.some.inj (Option.some.inj h2)
                subst this
                exact v3 h3) hput
              have er3 : EnvR K H' w4 μ σ _ := shareAll_ok ex2 (fun i hi o d h => by
                rw [putMs_other (K := K) (fun p hp => fun z => hmix' p hp (z ▸ hi)) hput] at h
                obtain ⟨v, v1, v2, _⟩ := er.at_ i o d h
                refine ⟨v, v1, ?_⟩
                have low : Ow K H w (.slot i) v d → Rp K H' w4 v d := fun ⟨a, a1, a2, c⟩ => by
                  subst a1
                  have h3 : (w a).bind (toC al le) = none := by
                    rw [a2]
                    show (if i ∈ le then none else _) = none
                    rw [if_pos hi]
                  cases hH : H a with
                  | none => rw [wf a hH] at a2; cases a2
                  | some o =>
                    obtain ⟨h4, h5⟩ := st.sh a o hH h3
                    exact (c.mono sty (h4.trans hH.symm)).rp (by show (w' a).bind _ = none; rw [h5]; rfl)
                cases o with
                | sh => exact Rp.mono sty v2
                | own => exact low v2
                | mu => exact low v2) hsh
              refine k v H' w4 ⟨stp, wf4, er3⟩ ?_
              cases fr with
              | false => exact Rp.mono styR anr
              | true =>
                obtain ⟨a, a1, a2, c⟩ := anr
                exact ⟨a, a1, by show (w' a).bind _ = _; rw [a2]; rfl, c.mono styR rfl⟩
            · cases hc
        · cases hc
      · split at hc
        · split at hc <;> cases hc
        · cases hc
      · cases hc
    · cases hc
  · cases hc
end
end PD
/-! PD7: calls as rules; plain statements. -/
namespace PD
open PySem PySem.Spec PyProof.Rows L2
theorem lits_s {K : PySem.W.Frag} {H : Hp} {w : Wh} {σ : L2.St} : ∀ {dvs : List V} {dv : List D}, Paired (fun v d => litV d = some v) dvs dv → Paired (AnsS K H w σ) dvs (dv.map (Ans.val false))
  | _, _, .nil => .nil
  | _, _, .cons a b => .cons (litV_rp a) (lits_s b)
theorem paired_app {α β : Type} {R : α → β → Prop} : ∀ {xs xs' : List α} {ys ys' : List β}, Paired R xs ys → Paired R xs' ys' → Paired R (xs ++ xs') (ys ++ ys')
  | _, _, _, _, .nil, b => b
  | _, _, _, _, .cons a r, b => .cons a (paired_app r b)
section
variable {X : Cx} {F : List Fn} {a b c : Expr} {ia ib ic : IE} {it iu : IT} {pos apos cpos p1 : Pos} {es : List Expr} {ies : List IE} {E : XK}
theorem call_in {i : Nat} {fn : Fn} {dv : List D} {dvs : List V} (hF : F[i]? = some fn) (hdv : Paired (fun v d => litV d = some v) dvs dv) (σ : L2.St) (H : Hp) (Q : VK) (q : teE X.K F (.call i ies dv) σ H Q) : tCall (spF X.K fn) dvs E (teA X.K F ies) σ H Q := by
  obtain ⟨n, w, μ, e, z, e', wf, er, ev, k⟩ := q
  unfold evE at ev
  obtain ⟨xs, e1, h1, ev⟩ := Rs.bind_ok ev
  rw [hF] at ev
  refine ⟨n, w, μ, e, xs, e1, wf, er, h1, fun vs H1 w1 a1 an => ?_⟩
  exact callA_in (n := n) (drp_wf a1.wf) (drp_env a1.env) (paired_app (an.s (Nat.le_refl n)) (lits_s hdv)) ev fun v H' w' a2 an2 => k v H' w' (a1.drp.trans a2 (Nat.le_refl n)) an2
theorem se_call {i k : Nat} {fn : Fn} {x : Str} {f : Addr} {fd : FuncData} {ps : List Str} {dv : List D} {dvs : List V} {ds : List Value} (G : FnOk X.prog X.w X.K X.mg X.base CX0 k f fd ps (spF X.K fn)) (hF : F[i]? = some fn) (hdv : Paired (fun v d => litV d = some v) dvs dv) (hr : Room k X.A) (hg : Gl X x) (hm : X.mg x = some (.ref f))
    (hk : PySem.W.keepIn X.K (.ref f) = true) (hb : Binds X.K fd ps ds) (hd : Vals dvs ds) (ha : PA X (a :: es) (teA X.K F ies)) (hdb : (x == ("__debug__" : Str)) = false) (he : starEach (a :: es) X.env = (false, eval a X.env) :: starEach es X.env) (hpl : (backTo pos (starEach es X.env)).any (·.1) = false) :
    PE X (.Call (.Name x p1) (a :: es) [] pos) (teE X.K F (.call i ies dv)) :=
  (pe_call G hr hg hm hk hb hd pass0 ha hdb he hpl).imp (call_in hF hdv)
theorem se_call0 {i k : Nat} {fn : Fn} {x : Str} {f : Addr} {fd : FuncData} {ps : List Str} {dv : List D} {dvs : List V} {ds : List Value} (G : FnOk X.prog X.w X.K X.mg X.base CX0 k f fd ps (spF X.K fn)) (hF : F[i]? = some fn) (hdv : Paired (fun v d => litV d = some v) dvs dv) (hr : Room k X.A) (hg : Gl X x) (hm : X.mg x = some (.ref f))
    (hk : PySem.W.keepIn X.K (.ref f) = true) (hb : Binds X.K fd ps ds) (hd : Vals dvs ds) (hdb : (x == ("__debug__" : Str)) = false) :
    PE X (.Call (.Name x p1) [] [] pos) (teE X.K F (.call i [] dv)) := by
  refine (pe_call0 G hr hg hm hk hb hd pass0 hdb).imp fun σ H Q q => ?_
  have h : teA X.K F [] σ H fun vs H1 => spF X.K fn (vs ++ dvs) H1 Q E0 := call_in (E := E0) hF hdv σ H Q q
  obtain ⟨n, w, μ, e, as, e', wf, er, ev, k⟩ := h
  cases ev
  exact k [] H w (.refl wf er) (.nil n)
end
/-! ### statements -/
section
variable (K : PySem.W.Frag) (F : List Fn)
structure AftS (μ : Nat → Option V) (e' : En) (H : Hp) (w : Wh) (σ' : L2.St) (H' : Hp) (w' : Wh) : Prop where
  stp : Stp (keepE 0) H w H' w'
  wf : Wf H' w'
  env : EnvR K H' w' μ σ' e'
/-- what is due behind a block that ends so -/
def OutR (μ : Nat → Option V) (H : Hp) (w : Wh) (D : Ends) : Ou → Prop
  | .nx e => ∀ σ' H' w', AftS K μ e H w σ' H' w' → D.nx σ' H'
  | .ct e => ∀ σ' H' w', AftS K μ e H w σ' H' w' → D.ct σ' H'
  | .bk e => ∀ σ' H' w', AftS K μ e H w σ' H' w' → D.bk σ' H'
  | .rt f d e => ∀ v σ' H' w', AftS K μ e H w σ' H' w' → AnsR K 0 H' w' [] v (.val f d) → D.rt v H'
  | _ => False
def tsS (s : IS) : TS := fun D σ H => ∃ w μ e, Wf H w ∧ EnvR K H w μ σ e ∧ OutR K μ H w D (evS F s e)
def tsSs (ss : List IS) : TS := fun D σ H => ∃ w μ e, Wf H w ∧ EnvR K H w μ σ e ∧ OutR K μ H w D (evSs F ss e)
end
section
variable {K : PySem.W.Frag} {F : List Fn} {H H' : Hp} {w w' : Wh} {μ : Nat → Option V} {σ σ' : L2.St} {e e' : En} {n m : Nat} {v : V} {d : D}
theorem Aft.toS (a : Aft K 0 μ σ e' H w H' w') : AftS K μ e' H w σ H' w' := ⟨a.stp, a.wf, a.env⟩
theorem AftS.refl (wf : Wf H w) (er : EnvR K H w μ σ e) : AftS K μ e H w σ H w := ⟨Stp.refl, wf, er⟩
theorem AftS.trans {H1 : Hp} {w1 : Wh} {e1 : En} {σ1 : L2.St} (a : AftS K μ e1 H w σ1 H1 w1) (b : AftS K μ e' H1 w1 σ' H' w') : AftS K μ e' H w σ' H' w' := ⟨a.stp.trans b.stp, b.wf, b.env⟩
theorem OutR.pre {H1 : Hp} {w1 : Wh} {D : Ends} {r : Ou} (s : Stp (keepE 0) H w H1 w1) (h : OutR K μ H w D r) : OutR K μ H1 w1 D r := by
  cases r with
  | nx e => exact fun σ' H' w' a => h σ' H' w' ⟨s.trans a.stp, a.wf, a.env⟩
  | ct e => exact fun σ' H' w' a => h σ' H' w' ⟨s.trans a.stp, a.wf, a.env⟩
  | bk e => exact fun σ' H' w' a => h σ' H' w' ⟨s.trans a.stp, a.wf, a.env⟩
  | rt f d e => exact fun v σ' H' w' a an => h v σ' H' w' ⟨s.trans a.stp, a.wf, a.env⟩ an
  | no => exact h
  | ex c d e => exact h
theorem OutR.ends {D D' : Ends} {r : Ou} (h : OutR K μ H w D r) (h1 : ∀ σ H, D.nx σ H → D'.nx σ H) (h2 : ∀ σ H, D.ct σ H → D'.ct σ H) (h3 : ∀ σ H, D.bk σ H → D'.bk σ H) (h4 : ∀ v H, D.rt v H → D'.rt v H) : OutR K μ H w D' r := by
  cases r with
  | nx e => exact fun σ' H' w' a => h1 _ _ (h σ' H' w' a)
  | ct e => exact fun σ' H' w' a => h2 _ _ (h σ' H' w' a)
  | bk e => exact fun σ' H' w' a => h3 _ _ (h σ' H' w' a)
  | rt f d e => exact fun v σ' H' w' a an => h4 _ _ (h v σ' H' w' a an)
  | no => exact h
  | ex c d e => exact h
/-- a value comes into a slot -/
def mvW (i : Nat) (w : Wh) : Wh := fun a => if w a = some (.slot i) then none else if w a = some (.tmp 0) then some (.slot i) else w a
theorem mv_stp {i : Nat} : Stp (fun l => l ≠ .slot i ∧ l ≠ .tmp 0) H w H (mvW i w) := by
  refine ⟨fun a o h e => ⟨h, by unfold mvW; rw [e]; rfl⟩, fun a l k => ?_, fun _ _ _ _ => rfl⟩
  unfold mvW
  by_cases h : w a = some (.slot i)
  · rw [if_pos h, h]
    constructor
    · intro z; cases z
    · intro z; exact absurd (Option.some.inj z).symm k.1
  · rw [if_neg h]
    by_cases h2 : w a = some (.tmp 0)
    · rw [if_pos h2, h2]
      constructor
      · intro z; exact absurd (Option.some.inj z).symm k.1
      · intro z; exact absurd (Option.some.inj z).symm k.2
    · rw [if_neg h2]
theorem mv_wf {i : Nat} (h : Wf H w) : Wf H (mvW i w) := fun a e => by unfold mvW; rw [h a e]; rfl
theorem keepE0 {i : Nat} : ∀ l, keepE 0 l → l ≠ .slot i ∧ l ≠ .tmp 0
  | .out _, _ => ⟨(by intro z; cases z), (by intro z; cases z)⟩
  | .tmp k, q => absurd q (Nat.not_lt_zero k)
  | .slot _, q => q.elim
theorem mv_env {i : Nat} {f : Bool} {x : Option Sl} (er : EnvR K H w μ σ e) (hi : e[i]? = some x) (an : AnsR K 0 H w [] v (.val f d)) : EnvR K H (mvW i w) μ (σ.set i (some v)) (e.set i (some ⟨if f = true then .own else .sh, d⟩)) := by
  have hl : i < e.length := (List.getElem?_eq_some_iff.mp hi).1
  refine ⟨by rw [List.length_set, List.length_set]; exact er.len, fun j o d' h => ?_⟩
  by_cases hj : j = i
  · subst hj
    rw [List.getElem?_set_self hl] at h
    cases h
    refine ⟨v, List.getElem?_set_self (by rw [er.len]; exact hl), ?_, fun z => by cases f <;> cases z⟩
    cases f with
    | false => exact Rp.mono mv_stp.sh an
    | true =>
      obtain ⟨a, a1, a2, c⟩ := an
      refine ⟨a, a1, ?_, c.mono mv_stp.sh rfl⟩
      unfold mvW
      rw [a2, if_neg (by intro z; cases z), if_pos rfl]
  · rw [List.getElem?_set_ne (Ne.symm hj)] at h
    obtain ⟨v', h1, h2, h3⟩ := er.at_ j o d' h
    refine ⟨v', by rw [List.getElem?_set_ne (Ne.symm hj)]; exact h1, h2.mono mv_stp.sh fun a q => ⟨(mv_stp (H := H) (w := w) (i := i)).kp a _ ⟨by intro z; cases z; exact hj rfl, by intro z; cases z⟩ |>.mpr q, rfl⟩, h3⟩
theorem stN_ok {i : Nat} {s : Sl} (h : stN i s e = some e') : (∃ x, e[i]? = some x) ∧ e' = e.set i (some s) := by
  unfold stN at h
  split at h
  · cases h
  · rename_i x hn hs
    cases h
    exact ⟨⟨_, hs⟩, rfl⟩
  · cases h
/-- a value is stored -/
theorem AftS.put {i : Nat} {f : Bool} {e1 : En} {H1 : Hp} {w1 : Wh} (a : AftS K μ e1 H w σ H1 w1) (an : AnsR K 0 H1 w1 [] v (.val f d)) (h : stN i ⟨if f = true then .own else .sh, d⟩ e1 = some e') : AftS K μ e' H w (σ.set i (some v)) H1 (mvW i w1) := by
  obtain ⟨⟨x, hx⟩, rfl⟩ := stN_ok h
  exact ⟨a.stp.trans (mv_stp.weak keepE0), mv_wf a.wf, mv_env a.env hx an⟩
/-- several shared ones -/
def tgNs : List Nat → TGs
  | [] => gNil
  | i :: is => gCons (gName i) (tgNs is)
theorem stNs_ok : ∀ {is : List Nat} {vs : List V} {ds : List D} {e1 : En} {σ : L2.St} {H1 : Hp} {w1 : Wh} {Q : L2.St → Hp → Prop}, AftS K μ e1 H w σ H1 w1 → RpAll K H1 w1 vs ds → stNs is ds e1 = some e' → (∀ σ' w', AftS K μ e' H w σ' H1 w' → Q σ' H1) → tgNs is vs σ H1 Q
  | [], _, _, e1, σ, H1, w1, Q, a, .nil, h, k => by
    cases h
    exact ⟨rfl, k σ w1 a⟩
  | i :: is, _, _, e1, σ, H1, w1, Q, a, .cons r rs, h, k => by
    simp only [stNs] at h
    split at h
    · rename_i e2 h1
      exact ⟨_, _, rfl, stNs_ok (a.put (f := false) r h1) (rs.mono mv_stp.sh) h k⟩
    · cases h
  | [], _, _, _, _, _, _, _, _, .cons _ _, h, _ => by cases h
  | _ :: _, _, _, _, _, _, _, _, _, .nil, h, _ => by cases h
end
section
variable {X : Cx} {F : List Fn} {a b c : Expr} {ia ib ic : IE} {it iu : IT} {pos apos cpos p1 : Pos} {es : List Expr} {ies : List IE} {s : Stmt} {ss : List Stmt} {is : IS} {iss : List IS}
theorem ss_nil : PSs X [] (tsSs X.K F []) := by
  refine pss_nil.imp fun D σ H q => ?_
  obtain ⟨w, μ, e, wf, er, k⟩ := q
  exact k σ H w (.refl wf er)
theorem ss_cons (h1 : PS X s (tsS X.K F is)) (h2 : PSs X ss (tsSs X.K F iss)) : PSs X (s :: ss) (tsSs X.K F (is :: iss)) := by
  refine (pss_cons h1 h2).imp fun D σ H q => ?_
  obtain ⟨w, μ, e, wf, er, k⟩ := q
  refine ⟨w, μ, e, wf, er, ?_⟩
  simp only [evSs] at k
  cases h : evS F is e with
  | nx e1 =>
    rw [h] at k
    exact fun σ' H' w' a => ⟨w', μ, e1, a.wf, a.env, k.pre a.stp⟩
  | no => rw [h] at k; exact k
  | rt f d e1 => rw [h] at k; exact k
  | bk e1 => rw [h] at k; exact k
  | ct e1 => rw [h] at k; exact k
  | ex c d e1 => rw [h] at k; exact k
/-- an expression's end, at a statement -/
theorem ss_set {i : Nat} {x : Str} {p2 : Pos} (hN : X.N.Nodup) (hi : X.N[i]? = some x) (hx : Loc X.env.scope x) (hf : X.fn x = true ∨ X.env.scope.names.lookup x = some .local) (ha : PE X a (teE X.K F ia)) (hs : swapsWith a (some (.Name x p2)) pos.line X.env = pure false) :
    PS X (.Assign [.Name x p2] a pos) (tsS X.K F (.set i ia)) := by
  refine (ps_set hN hi hx ha hs hf).imp fun D σ H q => ?_
  obtain ⟨w, μ, e, wf, er, k⟩ := q
  simp only [evS] at k
  split at k
  · rename_i f d e1 h1
    split at k
    · rename_i e2 h2
      exact ⟨0, w, μ, e, _, e1, wf, er, h1, fun v H1 w1 a1 an => k _ H1 _ (a1.toS.put an.any h2)⟩
    · exact k.elim
  · rename_i j e1 h1
    split at k
    · rename_i d e2 h2
      split at k
      · rename_i e3 h3
        refine ⟨0, w, μ, e, _, e1, wf, er, h1, fun v H1 w1 a1 an => ?_⟩
        obtain ⟨w2, a2, r⟩ := a1.fz an (Nat.le_refl 0) h2
        exact k _ H1 _ (a2.toS.put (f := false) r h3)
      · exact k.elim
    · exact k.elim
  · exact k.elim
  · exact k.elim
theorem ss_exp (ha : PE X a (teE X.K F ia)) (hs : swapsWith a none pos.line X.env = pure false) : PS X (.Expr a pos) (tsS X.K F (.exp ia)) := by
  refine (ps_expr ha hs).imp fun D σ H q => ?_
  obtain ⟨w, μ, e, wf, er, k⟩ := q
  simp only [evS] at k
  split at k
  · rename_i x e1 h1
    exact ⟨0, w, μ, e, _, e1, wf, er, h1, fun v H1 w1 a1 an => k _ H1 _ a1.toS⟩
  · exact k.elim
  · exact k.elim
theorem ret_pl {K : PySem.W.Frag} {H : Hp} {w : Wh} {μ : Nat → Option V} {σ : L2.St} {e : En} {j : Nat} {d : D} {v : V} {H1 : Hp} {w1 : Wh} (a : AftS K μ e H w σ H1 w1) (hv : σ[j]? = some (some v)) (hj : e[j]? = some (some ⟨.own, d⟩)) :
    ∃ w2, AftS K μ (e.set j none) H w σ H1 w2 ∧ AnsR K 0 H1 w2 [] v (.val true d) := by
  obtain ⟨v', v1, v2, _⟩ := a.env.at_ j _ _ hj
  have ev : v' = v := by
    rw [v1] at hv
    exact Option.some.inj (Option.some.inj hv)
  subst ev
  let w2 : Wh := fun a => if w1 a = some (.slot j) then some (.tmp 0) else if w1 a = some (.tmp 0) then none else w1 a
  have st : Stp (fun l => l ≠ .slot j ∧ l ≠ .tmp 0) H1 w1 H1 w2 := by
    refine ⟨fun a o h e => ⟨h, by show (if w1 a = _ then _ else _) = none; rw [e]; rfl⟩, fun a l k => ?_, fun _ _ _ _ => rfl⟩
    show (if w1 a = some (.slot j) then some (Lab.tmp 0) else if w1 a = some (.tmp 0) then none else w1 a) = some l ↔ _
    by_cases h : w1 a = some (.slot j)
    · rw [if_pos h, h]
      constructor
      · intro z; exact absurd (Option.some.inj z).symm k.2
      · intro z; exact absurd (Option.some.inj z).symm k.1
    · rw [if_neg h]
      by_cases h2 : w1 a = some (.tmp 0)
      · rw [if_pos h2, h2]
        constructor
        · intro z; cases z
        · intro z; exact absurd (Option.some.inj z).symm k.2
      · rw [if_neg h2]
  obtain ⟨a0, a1, a2, c⟩ := v2
  refine ⟨w2, ⟨a.stp.trans (st.weak keepE0), fun b hb => ?_, ⟨by rw [List.length_set]; exact a.env.len, fun i o d' h => ?_⟩⟩, a0, a1, ?_, c.mono st.sh rfl⟩
  · show (if w1 b = _ then _ else _) = none
    rw [a.wf b hb]
    rfl
  · by_cases hij : i = j
    · subst hij
      rw [List.getElem?_set_self (List.getElem?_eq_some_iff.mp hj).1] at h
      cases h
    · rw [List.getElem?_set_ne (Ne.symm hij)] at h
      obtain ⟨v', h1, h2, h3⟩ := a.env.at_ i o d' h
      exact ⟨v', h1, h2.mono st.sh fun b q => ⟨(st.kp b _ ⟨by intro z; cases z; exact hij rfl, by intro z; cases z⟩).mpr q, rfl⟩, h3⟩
  · show (if w1 a0 = _ then _ else _) = _
    rw [if_pos a2]
theorem ss_ret (ha : PE X a (teE X.K F ia)) : PS X (.Return (some a) pos) (tsS X.K F (.ret ia)) := by
  refine (ps_ret ha).imp fun D σ H q => ?_
  obtain ⟨w, μ, e, wf, er, k⟩ := q
  simp only [evS] at k
  split at k
  · rename_i f d e1 h1
    exact ⟨0, w, μ, e, _, e1, wf, er, h1, fun v H1 w1 a1 an => k v σ H1 _ a1.toS an.any⟩
  · rename_i j e1 h1
    split at k
    · rename_i d hj
      refine ⟨0, w, μ, e, _, e1, wf, er, h1, fun v H1 w1 a1 an => ?_⟩
      obtain ⟨w2, a2, an2⟩ := ret_pl a1.toS an hj
      exact k v σ H1 w2 a2 an2
    · exact k.elim
  · exact k.elim
  · exact k.elim
theorem ss_retN : PS X (.Return none pos) (tsS X.K F .retN) := by
  refine ps_retN.imp fun D σ H q => ?_
  obtain ⟨w, μ, e, wf, er, k⟩ := q
  exact k _ σ H w (.refl wf er) .non
theorem ss_if {sa sb : List Stmt} {ia ib : List IS} (hc : PT X c (teT X.K F it)) (ha : PSs X sa (tsSs X.K F ia)) (hb : PSs X sb (tsSs X.K F ib)) : PS X (.If c sa sb pos) (tsS X.K F (.iff it ia ib)) := by
  refine (ps_if hc ha hb).imp fun D σ H q => ?_
  obtain ⟨w, μ, e, wf, er, k⟩ := q
  simp only [evS] at k
  split at k
  · rename_i e1 h1
    refine ⟨0, w, μ, e, true, e1, wf, er, h1, fun H1 w1 a1 => ?_⟩
    exact iteT ⟨w1, μ, e1, a1.wf, a1.env, k.pre a1.stp⟩
  · rename_i e1 h1
    refine ⟨0, w, μ, e, false, e1, wf, er, h1, fun H1 w1 a1 => ?_⟩
    exact iteF ⟨w1, μ, e1, a1.wf, a1.env, k.pre a1.stp⟩
  · exact k.elim
  · exact k.elim
theorem ss_pass : PS X (.Pass pos) (tsS X.K F .pass) := ps_pass.imp fun D σ H ⟨w, μ, e, wf, er, k⟩ => k σ H w (.refl wf er)
theorem ss_brk : PS X (.Break pos) (tsS X.K F .brk) := ps_break.imp fun D σ H ⟨w, μ, e, wf, er, k⟩ => k σ H w (.refl wf er)
theorem ss_cont : PS X (.Continue pos) (tsS X.K F .cont) := ps_continue.imp fun D σ H ⟨w, μ, e, wf, er, k⟩ => k σ H w (.refl wf er)
theorem ss_doc {x : Str} {j : Nat} {p2 : Pos} : PS X (.Expr (.Constant (.str x) j p2) pos) (tsS X.K F .doc) := ps_doc.imp fun D σ H ⟨w, μ, e, wf, er, k⟩ => k σ H w (.refl wf er)
end
end PD
/-! PDE: enumerate of a tuple. -/
namespace PD
open PySem PySem.Spec PyProof.Rows L2 RZ
open PySem.Sem (wp)
open AutoSeq1 (wpAny_loadPart')
theorem meets_enumerate_newT (l : Addr) (items : Array Value) (n : Nat) (dct : Option Addr) (sl : Array (Option Value)) :
    Meets (Builtin.«enumerate.__new__» ⟨[.type "enumerate", .ref l], []⟩) (fun _ R s => s.heap.get? l = some { cls := .type "tuple", dict := dct, data := .seq items n, slots := sl } ∧
      R (.ok (.ret (.ref (s.heap.push { cls := .type "tuple_iterator", data := .fields #[.ref l, .int 0 0] }).objs.size)))
        { s with heap := (s.heap.push { cls := .type "tuple_iterator", data := .fields #[.ref l, .int 0 0] }).push { cls := .type "enumerate", data := .fields #[.none, .bool false, .ref s.heap.objs.size, rawInt 0, .none, .none] } }) :=
  .of_wp fun prog w A R s h => by
    obtain ⟨hp, g, d, tk, os⟩ := s; obtain ⟨hl, h⟩ := h
    have hsub := sub_enumerate
    have hL : Heap.IsTuple (Shared.heap ⟨hp, g, d, tk, os⟩) l items := ⟨_, hl, rfl, n, rfl⟩
    wp_walk using wpAny_loadPart' hl
    refine wpAny_stack_any fun st => wpAny_pure ?_
    split
    · rename_i c _ _ _ _ _
      cases (c == Value.type "enumerate")
      · wp_walk using wpAny_loadPart' hl, wpAny_pyIter_tuple hL
        exact ⟨_, rfl, h⟩
      · wp_walk using wpAny_loadPart' hl, wpAny_pyIter_tuple hL
        exact ⟨_, rfl, h⟩
    · wp_walk using wpAny_loadPart' hl, wpAny_pyIter_tuple hL
      exact ⟨_, rfl, h⟩
section
variable {prog : Program} {w : World} {A : Around} {E : Value → Shared → Prop} {s : Shared}
theorem call_enumerate_tup {l : Addr} {items : Array Value} {Q : Value → Shared → Prop} (hL : s.heap.IsTuple l items)
    (h : ∀ h', IsEnum h' (s.heap.objs.size + 1) s.heap.objs.size 0 .none → h'.IsTupleIter s.heap.objs.size l 0 → h'.objs.size = s.heap.objs.size + 2 →
      (∀ b o, s.heap.get? b = some o → h'.get? b = some o) → Q (.ref (s.heap.objs.size + 1)) { s with heap := h' }) :
    wpAny (model prog w) A (call (.type "enumerate") [.ref l]) Q E s := by
  obtain ⟨⟨c, dct, dt, sl⟩, hl, hc, n, hd⟩ := hL
  replace hc : c = .type "tuple" := hc
  replace hd : dt = .seq items n := hd
  subst hc hd
  refine callType_new F.called_enumerate (by decide) (F.typeCall_enumerate_1 _) (F.newCall_enumerate_1 _) (fun obj => F.args_object_init_2 obj _) F.entry_enumerate_new
    (meets_enumerate_newT l items n dct sl) ⟨hl, ?_⟩
  have hz : (s.heap.push { cls := .type "tuple_iterator", data := .fields #[.ref l, .int 0 0] }).objs.size = s.heap.objs.size + 1 := Heap.size_push ..
  show _ ∧ _
  rw [hz]
  have he : IsEnum ((s.heap.push { cls := .type "tuple_iterator", data := .fields #[.ref l, .int 0 0] }).push
      { cls := .type "enumerate", data := .fields #[.none, .bool false, .ref s.heap.objs.size, rawInt 0, .none, .none] }) (s.heap.objs.size + 1) s.heap.objs.size 0 .none := by
    have := Heap.get?_push_size (s.heap.push { cls := .type "tuple_iterator", data := .fields #[.ref l, .int 0 0] })
      (o := { cls := .type "enumerate", data := .fields #[.none, .bool false, .ref s.heap.objs.size, rawInt 0, .none, .none] }) rfl
    rw [hz] at this; exact this
  refine ⟨⟨_, he, rfl⟩, h _ he ⟨_, Heap.get?_push_of_some _ (Heap.get?_push_size _ rfl), rfl, rfl⟩ (by rw [Heap.size_push, hz]) fun b o x => Heap.get?_push_of_some _ (Heap.get?_push_of_some _ x)⟩
theorem enumT_next_item {e it l : Addr} {i : Nat} {items : Array Value} {x old : Value} {Q : Value → Shared → Prop}
    (he : IsEnum s.heap e it i old) (hit : s.heap.IsTupleIter it l i) (hl : s.heap.IsTuple l items) (hx : items[i]? = some x) (hne : e ≠ it)
    (hQ : ∀ h', IsEnumOut h' e it ((i : Int) + 1) x s.heap.objs.size → h'.IsTupleIter it l (i + 1) →
      h'.get? s.heap.objs.size = some { cls := .type "tuple", data := .seq #[.int i s.toks, x] } → h'.objs.size = s.heap.objs.size + 1 →
      (∀ b o, b ≠ e → b ≠ it → s.heap.get? b = some o → h'.get? b = some o) → Q (.ref s.heap.objs.size) { s with heap := h', toks := s.toks + 1 }) :
    wpAny (model prog w) A (Builtin.«enumerate.__next__» ⟨[.ref e], []⟩) (fun fin s' => ∃ v, fin = .done (.ret v) ∧ Q v s') E s := by
  obtain ⟨hp, g, d, tk, os⟩ := s
  show wpAny _ _ (field (.ref e) 2 >>= _) _ _ _
  refine wpAny_bind (wpAny_field he rfl (x := .ref it) rfl ?_)
  refine wpAny_bind (nextOf_tuple_item hit hl hx fun h₁ hit₁ hs₁ => ?_)
  replace hs₁ : Heap.SameBut it hp h₁ := hs₁
  have he₁ : IsEnum h₁ e it i old := (hs₁.2 e hne).trans he
  show wpAny _ _ (field (.ref e) 3 >>= _) _ _ ⟨h₁, g, d, tk, os⟩
  refine wpAny_bind (wpAny_field he₁ rfl (x := rawInt i) rfl ?_)
  show wpAny _ _ (field (.ref e) 4 >>= _) _ _ ⟨h₁, g, d, tk, os⟩
  refine wpAny_bind (wpAny_field he₁ rfl (x := .none) rfl ?_)
  show wpAny _ _ (mkInt i >>= _) _ _ ⟨h₁, g, d, tk, os⟩
  refine wpAny_bind (wpAny_mkInt ?_)
  show wpAny _ _ (setField (.ref e) 3 (rawInt ((i : Int) + 1)) >>= _) _ _ ⟨h₁, g, d, tk + 1, os⟩
  refine wpAny_bind (wpAny_setField_rec he₁ (by simp) fun h₂ he₂ hs₂ => ?_)
  replace hs₂ : Heap.SameBut e h₁ h₂ := hs₂
  replace he₂ : IsEnum h₂ e it ((i : Int) + 1) old := he₂
  show wpAny _ _ (setField (.ref e) 4 .none >>= _) _ _ ⟨h₂, g, d, tk + 1, os⟩
  refine wpAny_bind (wpAny_setField_rec he₂ (by simp) fun h₃ he₃ hs₃ => ?_)
  replace hs₃ : Heap.SameBut e h₂ h₃ := hs₃
  replace he₃ : IsEnum h₃ e it ((i : Int) + 1) old := he₃
  show wpAny _ _ (newTuple [.int i tk, x] >>= _) _ _ ⟨h₃, g, d, tk + 1, os⟩
  refine wpAny_bind (wpAny_newTuple ?_)
  have he₄ : IsEnum (h₃.push { cls := .type "tuple", data := .seq #[.int i tk, x] }) e it ((i : Int) + 1) old := Heap.get?_push_of_some _ he₃
  generalize hh₄ : h₃.push { cls := .type "tuple", data := .seq #[.int i tk, x] } = h₄ at he₄
  have hsz : h₃.objs.size = hp.objs.size := by rw [hs₃.1, hs₂.1, hs₁.1]
  have hel : e < hp.objs.size := Heap.lt_size he
  have ht₄ : h₄.get? hp.objs.size = some { cls := .type "tuple", data := .seq #[.int i tk, x] } := by rw [← hh₄, ← hsz]; exact Heap.get?_push_size _ rfl
  have hz₄ : h₄.objs.size = hp.objs.size + 1 := by rw [← hh₄, Heap.size_push, hsz]
  have hk₄ : ∀ b o, b ≠ e → b ≠ it → hp.get? b = some o → h₄.get? b = some o := fun b o hbe hbi hb => by
    rw [← hh₄]; exact Heap.get?_push_of_some _ (hs₃.extBut b o hbe (hs₂.extBut b o hbe (hs₁.extBut b o hbi hb)))
  have hit₄ : h₄.IsTupleIter it l (i + 1) := by
    rw [← hh₄]; obtain ⟨o, ho, r⟩ := (hit₁.extBut hs₂.extBut (Ne.symm hne)).extBut hs₃.extBut (Ne.symm hne); exact ⟨o, Heap.get?_push_of_some _ ho, r⟩
  show wpAny _ _ (Builtin.SmallTypes.ownedTupleIsFree (.ref e) >>= _) _ _ ⟨h₄, g, d, tk + 1, os⟩
  rw [hsz]
  clear hh₄ he₃ hs₃ he₂ hs₂ he₁ hs₁ hit₁ hsz h₃ h₂ h₁
  refine wpAny_bind ?_
  · unfold Builtin.SmallTypes.ownedTupleIsFree
    refine wpAny_bind (wpAny_field he₄ rfl (x := .none) rfl (wpAny_pure ?_))
    simp only [if_true]
    refine wpAny_bind (wpAny_rule ?_)
    refine wpAny_bind (wpAny_field he₄ rfl (x := old) rfl ?_)
    refine wpAny_bind (wpAny_setField_rec he₄ (by simp) fun h₅ he₅ hs₅ => ?_)
    replace hs₅ : Heap.SameBut e h₄ h₅ := hs₅
    replace he₅ : IsEnum h₅ e it ((i : Int) + 1) x := he₅
    show wpAny _ _ (Builtin.SmallTypes.ownedTupleHandOut (.ref e) (.ref hp.objs.size) >>= _) _ _ ⟨h₅, g, d, tk + 1, os⟩
    refine wpAny_bind ?_
    · unfold Builtin.SmallTypes.ownedTupleHandOut
      refine wpAny_bind (wpAny_setField_rec he₅ (by simp) fun h₆ he₆ hs₆ => ?_)
      replace hs₆ : Heap.SameBut e h₅ h₆ := hs₆
      replace he₆ : IsEnumOut h₆ e it ((i : Int) + 1) x hp.objs.size := he₆
      refine wpAny_setField_rec he₆ (by simp) fun h₇ he₇ hs₇ => ?_
      replace hs₇ : Heap.SameBut e h₆ h₇ := hs₇
      replace he₇ : IsEnumOut h₇ e it ((i : Int) + 1) x hp.objs.size := he₇
      refine wpAny_bind (wpAny_letGo (wpAny_pure ⟨_, rfl, hQ h₇ he₇ ?_ ?_ ?_ ?_⟩))
      · exact ((hit₄.extBut hs₅.extBut (Ne.symm hne)).extBut hs₆.extBut (Ne.symm hne)).extBut hs₇.extBut (Ne.symm hne)
      · exact hs₇.extBut _ _ (Nat.ne_of_gt hel) (hs₆.extBut _ _ (Nat.ne_of_gt hel) (hs₅.extBut _ _ (Nat.ne_of_gt hel) ht₄))
      · rw [hs₇.1, hs₆.1, hs₅.1, hz₄]
      · exact fun b o hbe hbi hb => hs₇.extBut b o hbe (hs₆.extBut b o hbe (hs₅.extBut b o hbe (hk₄ b o hbe hbi hb)))

theorem pyNext_enumT_item {e it l : Addr} {i : Nat} {items : Array Value} {x old : Value} {Q : Option Value → Shared → Prop}
    (he : IsEnum s.heap e it i old) (hit : s.heap.IsTupleIter it l i) (hl : s.heap.IsTuple l items) (hx : items[i]? = some x) (hne : e ≠ it)
    (hQ : ∀ h', IsEnumOut h' e it ((i : Int) + 1) x s.heap.objs.size → h'.IsTupleIter it l (i + 1) →
      h'.get? s.heap.objs.size = some { cls := .type "tuple", data := .seq #[.int i s.toks, x] } → h'.objs.size = s.heap.objs.size + 1 →
      (∀ b o, b ≠ e → b ≠ it → s.heap.get? b = some o → h'.get? b = some o) → Q (some (.ref s.heap.objs.size)) { s with heap := h', toks := s.toks + 1 }) :
    wpAny (model prog w) A (pyNext (.ref e)) Q E s := by
  have hT : s.TypeIs (.ref e) "enumerate" := ⟨_, he, rfl⟩
  unfold pyNext
  exact wpAny_bind (wpAny_attempt (wpAny_callSpecial?_slot (name := Str.ofString "__next__") hT F.slot_enumerate_next
    (wpAny_call_entry F.slot_enumerate_next hT F.entry_enumerate_next
      (enumT_next_item he hit hl hx hne fun h' a b c d k => wpAny_pure (hQ h' a b c d k)) (F.args_enumerate_next_1 _))))

theorem pyNext_enumT_end {e it l : Addr} {i : Nat} {items : Array Value} {old : Value} {Q : Option Value → Shared → Prop} (hh : A.handled = none)
    (he : IsEnum s.heap e it i old) (hit : s.heap.IsTupleIter it l i) (hl : s.heap.IsTuple l items) (hx : items[i]? = none)
    (hQ : ∀ h', Heap.ExtBut it s.heap h' → Q none { s with heap := h' }) : wpAny (model prog w) A (pyNext (.ref e)) Q E s := by
  have hT : s.TypeIs (.ref e) "enumerate" := ⟨_, he, rfl⟩
  unfold pyNext
  refine wpAny_bind (wpAny_attempt (wpAny_callSpecial?_slot (name := Str.ofString "__next__") hT F.slot_enumerate_next
    (wpAny_call_entry F.slot_enumerate_next hT F.entry_enumerate_next ?_ (F.args_enumerate_next_1 _))))
  show wpAny _ _ (field (.ref e) 2 >>= _) _ _ _
  refine wpAny_bind (wpAny_field he rfl (x := .ref it) rfl ?_)
  refine wpAny_bind (nextOf_tuple_end hh hit hl hx fun h' x he' hx' => ?_)
  obtain ⟨o, ho, hc⟩ := hx'
  refine wpAny_bind (wpAny_isInstance (T := "StopIteration") (b := true) ⟨o, ho, hc⟩ isSubtype_stop ?_)
  exact wpAny_pure (hQ _ he')
end
end PD
/-! PDF: enumerate of a tuple, walked. -/
namespace PD
open PySem PySem.Spec PyProof.Rows L2 RZ
/-- the list at a as it stands at each turn, each item in a new pair -/
def IteT (K : PySem.W.Frag) (a : Addr) : It :=
  ⟨fun i H => ∃ (xs : List V) (x : V), SqT K H a xs ∧ xs[i]? = some x, fun i H v H' => ∃ T x, v = .ref T ∧ H T = none ∧ H' = upd H T (.tup [.int (i : Nat), x]) ∧ ∀ xs, SqT K H a xs → xs[i]? = some x, fun i H => ∃ xs : List V, SqT K H a xs ∧ xs.length ≤ i⟩
theorem turn_enumT {P : Program} {w : World} {K : PySem.W.Frag} {elts : List Expr} {kk : Nat} {tpos : Pos} (a e it : Addr) :
    Turn P w K (.Tuple elts kk tpos) (IteT K a) [e, it] e (fun i h => (∃ old, IsEnum h e it ((i : Nat) : Int) old) ∧ h.IsTupleIter it a i ∧ e ≠ it) where
  mem := by simp
  obj := fun i h st b hb => by
    obtain ⟨⟨old, he⟩, ⟨o, ho, hc, hd⟩, _⟩ := st
    have e' : b = e ∨ b = it := by simpa using hb
    rcases e' with z | z
    · rw [z]; exact ⟨_, he, fun v q => nomatch q⟩
    · rw [z]; exact ⟨o, ho, fun v q => by rw [hd] at q; cases q⟩
  keep := fun i h h' st k => let ⟨⟨old, he⟩, hi, hne⟩ := st; ⟨⟨old, k e (by simp) _ he⟩, hi.at fun o q => k it (by simp) o q, hne⟩
  item := by
    intro X hP hw hK hc i pins s σ H E I hf st hg
    subst hP hw hK
    obtain ⟨⟨old, he⟩, hit, hne⟩ := st
    obtain ⟨xs, x, hq, hx⟩ := hg
    obtain ⟨its, rv, p, hz⟩ := I.tuple hq
    obtain ⟨u, hu, ru⟩ := rv.get hx
    have hel : e < s.heap.objs.size := Heap.lt_size he
    have hil : it < s.heap.objs.size := by obtain ⟨_, q, _⟩ := hit; exact Heap.lt_size q
    refine pyNext_enumT_item he hit p (x := u) (by simpa using hu) hne fun h' ho hit' hT hsz hk => ?_
    refine ⟨_, rfl, wpAny_letOwnedTupleGo_enum (s := { s with heap := h', toks := s.toks + 1 }) ho fun h'' he' sb => ?_⟩
    have hT2 : h''.get? s.heap.objs.size = some { cls := .type "tuple", data := .seq #[.int i s.toks, u] } := (sb.2 _ (Nat.ne_of_gt hel)).trans hT
    have new : ObjOk X.prog X.w (upd H s.heap.objs.size (.tup [.int (i : Nat), x])) h'' s.heap.objs.size (.tup [.int (i : Nat), x]) :=
      ⟨by show 2 ≤ sizeLine; decide, [.int i s.toks, u], .cons ⟨_, rfl⟩ (.cons ru .nil), ⟨_, hT2, rfl, _, rfl⟩⟩
    have I1 : Inv X pins σ (upd H s.heap.objs.size (.tup [.int (i : Nat), x])) { s with heap := h'', toks := s.toks + 1 } :=
      I.turnedNew (ch := [e, it]) (fun b ob hb q => (sb.2 b (fun z => hb (by simp [z]))).trans (hk b ob (fun z => hb (by simp [z])) (fun z => hb (by simp [z])) q)) hf (Nat.le_refl _) new
    refine ⟨.ref s.heap.objs.size, _, I1, rfl, ⟨_, x, rfl, I.hok.fresh (Nat.le_refl _), rfl, fun ys hy => by rw [I.tuple_inj hy hq]; exact hx⟩, ⟨⟨u, ?_⟩, hit'.at fun o q => (sb.2 it (Ne.symm hne)).trans q, hne⟩, fun b hb => ?_⟩
    · have e1 : ((i + 1 : Nat) : Int) = (i : Int) + 1 := by omega
      rw [e1]; exact he'
    · have hb' : b < s.heap.objs.size := by
        have e' : b = e ∨ b = it := by simpa using hb
        rcases e' with z | z
        · rw [z]; exact hel
        · rw [z]; exact hil
      rw [upd_ne (Nat.ne_of_lt hb')]
      exact (hf b hb).1
  done := by
    intro X hP hw hK hc i pins s σ H E I hf st hg
    subst hP hw hK
    obtain ⟨⟨old, he⟩, hit, hne⟩ := st
    obtain ⟨xs, hq, hx⟩ := hg
    obtain ⟨its, rv, p, hz⟩ := I.tuple hq
    obtain ⟨f0, f1, f2, f3, f4, f5⟩ := hf it (by simp)
    have hl := rv.length
    exact pyNext_enumT_end (I.ok.hd hc) he hit p (by simp; omega) fun h' eb => ⟨rfl, I.turned (t' := s.toks) (fun b o hb q => eb b o hb q) f0 f1 f3 f4 f5⟩
  self := fun A i s Q E st h => let ⟨⟨_, he⟩, _⟩ := st; wpAny_pyIter_enum he h
def iEnumT (K : PySem.W.Frag) (ta : TA) : TI := fun σ H R => ta σ H fun vs H1 => ∃ a xs, vs = [.ref a] ∧ SqT K H1 a xs ∧ R (IteT K a) H1
theorem pi_enumT {X : Cx} {e : Expr} {ta : TA} {p pos tpos : Pos} {elts : List Expr} {kk : Nat} (hg : Gl X "enumerate") (hm : X.mg "enumerate" = none) (ha : PA X [e] ta) (hs : starEach [e] X.env = [(false, eval e X.env)] := by rfl) :
    PI X (.Tuple elts kk tpos) (.Call (.Name "enumerate" p) [e] [] pos) (iEnumT X.K ta) := by
  refine ⟨fun pins s σ H R I h => ?_⟩
  refine Call_ (ld_blt I hg hm boot_enumerate (PyProof.Rows.callWith_type1 (thn (ha.run pos pins s σ H _ I h) fun us s1 ⟨vs, H1, I1, r1, q1⟩ => ?_) hs rfl))
  obtain ⟨a, xs, ex, hq, q⟩ := q1
  subst ex
  cases r1 with
  | cons r rr =>
    cases rr
    cases r
    obtain ⟨its, rv, p', hz⟩ := I1.tuple hq
    refine call_enumerate_tup p' fun h' he hit hsz hk => wpAny_pyIter_enum he ?_
    have I2 : Inv X pins σ H1 { s1 with heap := h' } := I1.kept (t' := s1.toks) hk
    refine ⟨s1.heap.objs.size + 1, [s1.heap.objs.size + 1, s1.heap.objs.size], _, _, H1, rfl, I2, turn_enumT a (s1.heap.objs.size + 1) s1.heap.objs.size, ⟨⟨.none, he⟩, hit, Nat.succ_ne_self _⟩, fun b hb => ?_, q⟩
    have e' : b = s1.heap.objs.size + 1 ∨ b = s1.heap.objs.size := by simpa using hb
    have hle : s1.heap.objs.size ≤ b := by
      rcases e' with z | z
      · rw [z]; exact Nat.le_add_right _ _
      · rw [z]; exact Nat.le_refl _
    exact I1.fpOk hle (I1.hok.fresh hle)
section
variable {K : PySem.W.Frag} {a : Addr} {xs : List V}
theorem walk_enumT : Walk (IteT K a) xs.length (fun H => SqT K H a xs) (YPair (fun i => some (.int (i : Nat))) (fun i => xs[i]?)) := by
  refine ⟨fun i _ hi q => ⟨xs, xs[i], q, by simp [hi]⟩, fun _ q => ⟨xs, q, Nat.le_refl _⟩, fun i H v H' _ q y => ?_⟩
  obtain ⟨T, x, h1, h2, h3, h4⟩ := y
  exact ⟨T, .int (i : Nat), x, h1, h2, h3, rfl, h4 xs q⟩
end
def iEnumA (K : PySem.W.Frag) (ta : TA) : TI := fun σ H R => ta σ H fun vs H1 => ∃ a xs, vs = [.ref a] ∧ ((SqL K H1 a xs ∧ R (Ite K a) H1) ∨ (SqT K H1 a xs ∧ R (IteT K a) H1))
theorem pi_enumA {X : Cx} {e : Expr} {ta : TA} {p pos tpos : Pos} {elts : List Expr} {kk : Nat} (hg : Gl X "enumerate") (hm : X.mg "enumerate" = none) (ha : PA X [e] ta) (hs : starEach [e] X.env = [(false, eval e X.env)] := by rfl) :
    PI X (.Tuple elts kk tpos) (.Call (.Name "enumerate" p) [e] [] pos) (iEnumA X.K ta) := by
  refine ⟨fun pins s σ H R I h => ?_⟩
  refine Call_ (ld_blt I hg hm boot_enumerate (PyProof.Rows.callWith_type1 (thn (ha.run pos pins s σ H _ I h) fun us s1 ⟨vs, H1, I1, r1, q1⟩ => ?_) hs rfl))
  obtain ⟨a, xs, ex, hq⟩ := q1
  subst ex
  cases r1 with
  | cons r rr =>
    cases rr
    cases r
    rcases hq with ⟨hq, q⟩ | ⟨hq, q⟩
    · obtain ⟨its, rv, p', hz⟩ := I1.list hq
      refine call_enumerate_list p'.isList fun h' he hit hsz hk => wpAny_pyIter_enum he ?_
      have I2 : Inv X pins σ H1 { s1 with heap := h' } := I1.kept (t' := s1.toks) hk
      refine ⟨s1.heap.objs.size + 1, [s1.heap.objs.size + 1, s1.heap.objs.size], _, _, H1, rfl, I2, turn_enum a (s1.heap.objs.size + 1) s1.heap.objs.size, ⟨⟨.none, he⟩, hit, Nat.succ_ne_self _⟩, fun b hb => ?_, q⟩
      have e' : b = s1.heap.objs.size + 1 ∨ b = s1.heap.objs.size := by simpa using hb
      have hle : s1.heap.objs.size ≤ b := by
        rcases e' with z | z
        · rw [z]; exact Nat.le_add_right _ _
        · rw [z]; exact Nat.le_refl _
      exact I1.fpOk hle (I1.hok.fresh hle)
    · obtain ⟨its, rv, p', hz⟩ := I1.tuple hq
      refine call_enumerate_tup p' fun h' he hit hsz hk => wpAny_pyIter_enum he ?_
      have I2 : Inv X pins σ H1 { s1 with heap := h' } := I1.kept (t' := s1.toks) hk
      refine ⟨s1.heap.objs.size + 1, [s1.heap.objs.size + 1, s1.heap.objs.size], _, _, H1, rfl, I2, turn_enumT a (s1.heap.objs.size + 1) s1.heap.objs.size, ⟨⟨.none, he⟩, hit, Nat.succ_ne_self _⟩, fun b hb => ?_, q⟩
      have e' : b = s1.heap.objs.size + 1 ∨ b = s1.heap.objs.size := by simpa using hb
      have hle : s1.heap.objs.size ≤ b := by
        rcases e' with z | z
        · rw [z]; exact Nat.le_add_right _ _
        · rw [z]; exact Nat.le_refl _
      exact I1.fpOk hle (I1.hok.fresh hle)
end PD
/-! PD8: what is walked; loops. -/
namespace PD
open PySem PySem.Spec PyProof.Rows L2 RZ
/-- a walk that gives just these things, while what is shared stays -/
def WkD (K : PySem.W.Frag) (J : It) (H1 : Hp) (w1 : Wh) (xs : List D) : Prop := ∃ (G : Hp → Prop) (Y : Nat → Hp → V → Hp → Prop), Walk J xs.length G Y ∧ (∀ H' w', Sty H1 w1 H' w' → G H') ∧
  ∀ i H x H' w, i < xs.length → Y i H x H' → Sty H1 w1 H w → Wf H w → ∃ d, xs[i]? = some d ∧ Sty H w H' w ∧ (∀ a l, w a = some l → H' a = H a) ∧ Wf H' w ∧ Rp K H' w x d
def tiI (K : PySem.W.Frag) (F : List Fn) (r : Sr) : TI := fun σ H R => ∃ n w μ e xs e', Wf H w ∧ EnvR K H w μ σ e ∧ evI F r e = .ok xs e' ∧ ∀ J H1 w1, Aft K n μ σ e' H w H1 w1 → WkD K J H1 w1 xs → R J H1
section
variable {K : PySem.W.Frag} {H : Hp} {w : Wh}
theorem wk_list {v : V} {d : D} {ds : List D} (r : Rp K H w v d) (hd : d = .list ds) : ∃ a xs, v = .ref a ∧ SqL K H a xs ∧ WkD K (Itl K a) H w ds := by
  subst hd
  cases r with
  | lst nd ra =>
    refine ⟨_, _, rfl, nd.sq, fun H' => SqL K H' _ _, YAt _, ra.length ▸ walk_list, fun H' w' s => (nd.mono s).sq, fun i H2 x H3 w2 hi y s wf => ?_⟩
    obtain ⟨rfl, hx⟩ := y
    obtain ⟨d, h1, h2⟩ := (ra.mono s).getV hx
    exact ⟨d, h1, fun _ _ h e => ⟨h, e⟩, fun _ _ _ => rfl, wf, h2⟩
theorem wk_tup {v : V} {d : D} {ds : List D} (r : Rp K H w v d) (hd : d = .tuple ds) : ∃ a xs, v = .ref a ∧ SqT K H a xs ∧ WkD K (Itt K a) H w ds := by
  subst hd
  cases r with
  | tup nd ra =>
    refine ⟨_, _, rfl, nd.sq, fun H' => SqT K H' _ _, YAt _, ra.length ▸ walk_tup, fun H' w' s => (nd.mono s).sq, fun i H2 x H3 w2 hi y s wf => ?_⟩
    obtain ⟨rfl, hx⟩ := y
    obtain ⟨d, h1, h2⟩ := (ra.mono s).getV hx
    exact ⟨d, h1, fun _ _ h e => ⟨h, e⟩, fun _ _ _ => rfl, wf, h2⟩
theorem wk_range {lo hi : Int} {xs : List D} (h : rngD lo hi = some xs) : WkD K (Itr lo (hi - lo).toNat) H w xs := by
  unfold rngD at h
  split at h
  · cases h
    refine ⟨fun _ => True, YFn fun i => .int (lo + i), ?_, fun _ _ _ => trivial, fun i H2 x H3 w2 hi y s wf => ?_⟩
    · rw [List.length_map, List.length_range]
      exact walk_range
    · obtain ⟨rfl, rfl⟩ := y
      rw [List.length_map, List.length_range] at hi
      exact ⟨.int (lo + i), by simp [hi], fun _ _ h e => ⟨h, e⟩, fun _ _ _ => rfl, wf, .int _⟩
  · cases h
theorem wk_pair {J : It} {n : Nat} {G : Hp → Prop} {fx fy : Nat → Option V} {xs : List D} {gx gy : Nat → D} (wk : Walk J n G (YPair fx fy)) (hn : xs.length = n) (hG : ∀ H' w', Sty H w H' w' → G H')
    (hx : ∀ i H' w' x y, i < n → Sty H w H' w' → fx i = some x → fy i = some y → xs[i]? = some (.tuple [gx i, gy i]) ∧ Rp K H' w' x (gx i) ∧ Rp K H' w' y (gy i)) : WkD K J H w xs := by
  subst hn
  refine ⟨G, _, wk, hG, fun i H2 x H3 w2 hi y s wf => ?_⟩
  obtain ⟨T, x1, y1, rfl, hT, rfl, e1, e2⟩ := y
  obtain ⟨h1, h2, h3⟩ := hx i H2 w2 x1 y1 hi s e1 e2
  obtain ⟨s2, wf2, r2⟩ := new_tup (n := 0) wf hT (.cons h2 (.cons h3 .nil))
  exact ⟨_, h1, s2.sh, (fun a l ha => upd_ne fun z => by rw [z, wf T hT] at ha; cases ha), wf2, r2⟩
theorem wk_enum {v : V} {ds : List D} (r : Rp K H w v (.list ds)) : ∃ a xs, v = .ref a ∧ SqL K H a xs ∧ WkD K (Ite K a) H w (enumD ds) := by
  cases r with
  | lst nd ra =>
    rename_i a xs
    refine ⟨a, xs, rfl, nd.sq, wk_pair (gx := fun i => .int i) (gy := fun i => ds.getD i .none) walk_enum ?_ (fun H' w' s => (nd.mono s).sq) fun i H' w' x y hi s e1 e2 => ?_⟩
    · unfold enumD
      rw [List.length_zipWith, List.length_range, Nat.min_self, ra.length]
    · cases e1
      obtain ⟨d, h1, h2⟩ := (ra.mono s).getV e2
      have hi' : i < ds.length := by rw [← ra.length]; exact hi
      refine ⟨?_, .int _, ?_⟩
      · unfold enumD
        rw [List.getElem?_zipWith, List.getElem?_range hi', h1, List.getD_eq_getElem?_getD, h1]
        rfl
      · rw [List.getD_eq_getElem?_getD, h1]
        exact h2
theorem wk_enumT {v : V} {ds : List D} (r : Rp K H w v (.tuple ds)) : ∃ a xs, v = .ref a ∧ SqT K H a xs ∧ WkD K (IteT K a) H w (enumD ds) := by
  cases r with
  | tup nd ra =>
    rename_i a xs
    refine ⟨a, xs, rfl, nd.sq, wk_pair (gx := fun i => .int i) (gy := fun i => ds.getD i .none) walk_enumT ?_ (fun H' w' s => (nd.mono s).sq) fun i H' w' x y hi s e1 e2 => ?_⟩
    · unfold enumD
      rw [List.length_zipWith, List.length_range, Nat.min_self, ra.length]
    · cases e1
      obtain ⟨d, h1, h2⟩ := (ra.mono s).getV e2
      have hi' : i < ds.length := by rw [← ra.length]; exact hi
      refine ⟨?_, .int _, ?_⟩
      · unfold enumD
        rw [List.getElem?_zipWith, List.getElem?_range hi', h1, List.getD_eq_getElem?_getD, h1]
        rfl
      · rw [List.getD_eq_getElem?_getD, h1]
        exact h2
theorem zip_at {xs ys : List D} {i : Nat} {x y : D} (h1 : xs[i]? = some x) (h2 : ys[i]? = some y) : (zipD xs ys)[i]? = some (.tuple [xs.getD i .none, ys.getD i .none]) := by
  unfold zipD
  rw [List.getElem?_zipWith, h1, h2, List.getD_eq_getElem?_getD, List.getD_eq_getElem?_getD, h1, h2]
  rfl
theorem wk_zipL {v u : V} {ds es : List D} (r : Rp K H w v (.list ds)) (q : Rp K H w u (.list es)) : ∃ a b xs ys, v = .ref a ∧ u = .ref b ∧ SqL K H a xs ∧ SqL K H b ys ∧ WkD K (Itz K a b) H w (zipD ds es) := by
  cases r with
  | lst nd ra =>
    cases q with
    | lst ne rb =>
      rename_i a xs b ys
      refine ⟨a, b, xs, ys, rfl, rfl, nd.sq, ne.sq, wk_pair (gx := fun i => ds.getD i .none) (gy := fun i => es.getD i .none) (walk_zip (xs := xs) (ys := ys) rfl) ?_ (fun H' w' s => ⟨(nd.mono s).sq, (ne.mono s).sq⟩) fun i H' w' x y hi s e1 e2 => ?_⟩
      · unfold zipD
        rw [List.length_zipWith, ra.length, rb.length]
      · obtain ⟨d, h1, h2⟩ := (ra.mono s).getV e1
        obtain ⟨d', h1', h2'⟩ := (rb.mono s).getV e2
        refine ⟨zip_at h1 h1', ?_, ?_⟩
        · rw [List.getD_eq_getElem?_getD, h1]; exact h2
        · rw [List.getD_eq_getElem?_getD, h1']; exact h2'
theorem walk_zipT {K : PySem.W.Frag} {a b : Addr} {xs ys : List V} {n : Nat} (hn : n = min xs.length ys.length) : Walk (ItzT K a b) n (fun H => SqT K H a xs ∧ SqT K H b ys) (YPair (fun i => xs[i]?) (fun i => ys[i]?)) := by
  subst hn
  refine ⟨fun i _ hi q => ?_, fun _ q => ⟨xs, ys, q.1, q.2, by omega⟩, fun i H v H' _ q y => ?_⟩
  · have h1 : i < xs.length := by omega
    have h2 : i < ys.length := by omega
    exact ⟨xs, ys, xs[i], ys[i], q.1, q.2, by simp [h1], by simp [h2]⟩
  · obtain ⟨T, x, y, h1, h2, h3, h4, h5⟩ := y
    exact ⟨T, x, y, h1, h2, h3, h4 xs q.1, h5 ys q.2⟩
theorem wk_zipT {v u : V} {ds es : List D} (r : Rp K H w v (.tuple ds)) (q : Rp K H w u (.tuple es)) : ∃ a b xs ys, v = .ref a ∧ u = .ref b ∧ SqT K H a xs ∧ SqT K H b ys ∧ WkD K (ItzT K a b) H w (zipD ds es) := by
  cases r with
  | tup nd ra =>
    cases q with
    | tup ne rb =>
      rename_i a xs b ys
      refine ⟨a, b, xs, ys, rfl, rfl, nd.sq, ne.sq, wk_pair (gx := fun i => ds.getD i .none) (gy := fun i => es.getD i .none) (walk_zipT (xs := xs) (ys := ys) rfl) ?_ (fun H' w' s => ⟨(nd.mono s).sq, (ne.mono s).sq⟩) fun i H' w' x y hi s e1 e2 => ?_⟩
      · unfold zipD
        rw [List.length_zipWith, ra.length, rb.length]
      · obtain ⟨d, h1, h2⟩ := (ra.mono s).getV e1
        obtain ⟨d', h1', h2'⟩ := (rb.mono s).getV e2
        refine ⟨zip_at h1 h1', ?_, ?_⟩
        · rw [List.getD_eq_getElem?_getD, h1]; exact h2
        · rw [List.getD_eq_getElem?_getD, h1']; exact h2'
end
section
variable {X : Cx} {F : List Fn} {a b c tg : Expr} {ia ib ic : IE} {it iu : IT} {pos apos cpos p1 : Pos}
/-- a list or a tuple walked -/
def iSeq (K : PySem.W.Frag) (tl : TE) : TI := fun σ H R => tl σ H fun x H1 => (∃ a xs, x = .ref a ∧ SqL K H1 a xs ∧ R (Itl K a) H1) ∨ ∃ a xs, x = .ref a ∧ SqT K H1 a xs ∧ R (Itt K a) H1
theorem pi_seq {l : Expr} {tl : TE} (hl : PE X l tl) : PI X tg l (iSeq X.K tl) := by
  refine ⟨fun pins s σ H R I h => ?_⟩
  refine thn (hl.run pins s σ H _ I h) fun v s1 ⟨x, H1, I1, r1, q1⟩ => ?_
  have fin : ∀ b ∈ [s1.heap.objs.size], FpOk X pins H1 b := fun b hb => by
    have e : b = s1.heap.objs.size := by simpa using hb
    subst e
    exact I1.fpOk (Nat.le_refl _) (I1.hok.fresh (Nat.le_refl _))
  rcases q1 with ⟨a, xs, e, hq, q⟩ | ⟨a, xs, e, hq, q⟩
  · subst e
    cases r1
    obtain ⟨its, rv, p, hz⟩ := I1.list hq
    refine wpAny_pyIter_list p.isList ?_
    exact ⟨s1.heap.objs.size, [s1.heap.objs.size], _, _, H1, rfl, I1.kept (t' := s1.toks) fun b o e => Heap.get?_push_of_some _ e, turn_list a _, ⟨_, Heap.get?_push_size _ rfl, rfl, rfl⟩, fin, q⟩
  · subst e
    cases r1
    obtain ⟨its, rv, p, hz⟩ := I1.tuple hq
    refine wpAny_pyIter_tuple (show s1.heap.IsTuple a its.toArray from p) ?_
    exact ⟨s1.heap.objs.size, [s1.heap.objs.size], _, _, H1, rfl, I1.kept (t' := s1.toks) fun b o e => Heap.get?_push_of_some _ e, turn_tuple a _, ⟨_, Heap.get?_push_size _ rfl, rfl, rfl⟩, fin, q⟩
theorem si_seq (ha : PE X a (teE X.K F ia)) : PI X tg a (tiI X.K F (.seq ia)) := by
  refine (pi_seq ha).imp fun σ H R q => ?_
  obtain ⟨n, w, μ, e, xs, e', wf, er, ev, k⟩ := q
  unfold evI at ev
  obtain ⟨x, e1, h1, ev⟩ := Rs.bind_ok ev
  split at ev
  · rename_i d e2 h2
    refine ⟨n, w, μ, e, x, e1, wf, er, h1, fun v H1 w1 a1 an => ?_⟩
    obtain ⟨w2, a2, r⟩ := a1.fz an (Nat.le_refl n) h2
    cases d with
    | list ds =>
      cases ev
      obtain ⟨a, xs, e1, h3, h4⟩ := wk_list r rfl
      exact .inl ⟨a, xs, e1, h3, k _ H1 w2 a2 h4⟩
    | tuple ds =>
      cases ev
      obtain ⟨a, xs, e1, h3, h4⟩ := wk_tup r rfl
      exact .inr ⟨a, xs, e1, h3, k _ H1 w2 a2 h4⟩
    | _ => cases ev
  · cases ev
theorem one_in {K : PySem.W.Frag} {σ : L2.St} {H : Hp} {Q : List V → Hp → Prop} (h : teE K F ia σ H fun x H1 => Q [x] H1) : teA K F [ia] σ H Q := by
  obtain ⟨n, w, μ, e, x, e1, wf, er, h1, k⟩ := h
  refine ⟨n, w, μ, e, [x], e1, wf, er, ?_, fun vs H1 w1 a1 an => ?_⟩
  · simp only [evEs]
    rw [h1]
    rfl
  · cases an with
    | cons an r => cases r; exact k _ H1 w1 a1 an
theorem rng_bd {lo hi : Int} {xs : List D} (h : rngD lo hi = some xs) : -(2 ^ 62) ≤ lo ∧ lo < 2 ^ 62 ∧ -(2 ^ 62) ≤ hi ∧ hi < 2 ^ 62 := by
  unfold rngD at h
  split at h
  · assumption
  · cases h
theorem si_rng (hg : Gl X "range") (hm : X.mg "range" = none) (ha : PA X [a] (teA X.K F [ia])) (hs : starEach [a] X.env = [(false, eval a X.env)]) : PI X tg (.Call (.Name "range" p1) [a] [] pos) (tiI X.K F (.rng ia)) := by
  refine (pi_range1 hg hm ha hs).imp fun σ H R q => ?_
  obtain ⟨n, w, μ, e, xs, e', wf, er, ev, k⟩ := q
  unfold evI at ev
  obtain ⟨x, e1, h1, ev⟩ := Rs.bind_ok ev
  refine one_in ⟨n, w, μ, e, x, e1, wf, er, h1, fun v H1 w1 a1 an => ?_⟩
  split at ev
  · rename_i j hj
    split at ev
    · rename_i xs' hr
      cases ev
      have b := rng_bd hr
      refine ⟨j, ?_, b.2.2.1, b.2.2.2, ?_⟩
      · rw [(rd_rr (Nat.le_refl n) an a1.env hj).int]
      · have hw : WkD X.K (Itr 0 (j - 0).toNat) H1 w1 xs := wk_range hr
        rw [Int.sub_zero] at hw
        exact k _ H1 w1 a1 hw
    · cases ev
  · cases ev
theorem two_inA {K : PySem.W.Frag} {σ : L2.St} {H : Hp} {Q : List V → Hp → Prop} {n : Nat} {w : Wh} {μ : Nat → Option V} {e e1 e2 : En} {x y : Ans} (wf : Wf H w) (er : EnvR K H w μ σ e) (e1h : evE F ia e = .ok x e1) (e2h : evE F ib e1 = .ok y e2)
    (k : ∀ v u H2 w2, Aft K n μ σ e2 H w H2 w2 → AnsR K n H2 w2 σ v x → AnsR K (n + 1) H2 w2 σ u y → Q [v, u] H2) : teA K F [ia, ib] σ H Q := by
  refine ⟨n, w, μ, e, [x, y], e2, wf, er, ?_, fun vs H1 w1 a1 an => ?_⟩
  · simp only [evEs]
    rw [e1h]
    simp only [Rs.bind]
    rw [e2h]
  · cases an with
    | cons an r =>
      cases r with
      | cons an2 r => cases r; exact k _ _ H1 w1 a1 an an2
theorem si_rng2 (hg : Gl X "range") (hm : X.mg "range" = none) (ha : PA X [a, b] (teA X.K F [ia, ib])) (hs : starEach [a, b] X.env = [(false, eval a X.env), (false, eval b X.env)]) (hs2 : starEach [b] X.env = [(false, eval b X.env)]) :
    PI X tg (.Call (.Name "range" p1) [a, b] [] pos) (tiI X.K F (.rng2 ia ib)) := by
  refine (pi_range2 hg hm ha hs hs2).imp fun σ H R q => ?_
  obtain ⟨n, w, μ, e, xs, e', wf, er, ev, k⟩ := q
  unfold evI at ev
  obtain ⟨x, e1, h1, ev⟩ := Rs.bind_ok ev
  obtain ⟨y, e2, h2, ev⟩ := Rs.bind_ok ev
  refine two_inA (n := n) wf er h1 h2 fun v u H1 w1 a1 an1 an2 => ?_
  split at ev
  · rename_i i j hi hj
    split at ev
    · rename_i xs' hr
      cases ev
      have bd := rng_bd hr
      refine ⟨i, j, ?_, bd, k _ H1 w1 a1 (wk_range hr)⟩
      rw [(rd_rr (Nat.le_refl n) an1 a1.env hi).int, (rd_rr (Nat.le_succ n) an2 a1.env hj).int]
    · cases ev
  · cases ev
theorem si_enum {es : List Expr} {kk : Nat} {tp : Pos} (hg : Gl X "enumerate") (hm : X.mg "enumerate" = none) (ha : PA X [a] (teA X.K F [ia])) (hs : starEach [a] X.env = [(false, eval a X.env)]) :
    PI X (.Tuple es kk tp) (.Call (.Name "enumerate" p1) [a] [] pos) (tiI X.K F (.enum ia)) := by
  refine (pi_enumA hg hm ha hs).imp fun σ H R q => ?_
  obtain ⟨n, w, μ, e, xs, e', wf, er, ev, k⟩ := q
  unfold evI at ev
  obtain ⟨x, e1, h1, ev⟩ := Rs.bind_ok ev
  refine one_in ⟨n, w, μ, e, x, e1, wf, er, h1, fun v H1 w1 a1 an => ?_⟩
  split at ev
  · rename_i d e2 h2
    obtain ⟨w2, a2, r⟩ := a1.fz an (Nat.le_refl n) h2
    cases d with
    | list ds =>
      cases ev
      obtain ⟨a, xs, e1, h3, h4⟩ := wk_enum r
      exact ⟨a, xs, by rw [e1], .inl ⟨h3, k _ H1 w2 a2 h4⟩⟩
    | tuple ds =>
      cases ev
      obtain ⟨a, xs, e1, h3, h4⟩ := wk_enumT r
      exact ⟨a, xs, by rw [e1], .inr ⟨h3, k _ H1 w2 a2 h4⟩⟩
    | _ => cases ev
  · cases ev
theorem si_zip {es : List Expr} {kk : Nat} {tp : Pos} (hg : Gl X "zip") (hm : X.mg "zip" = none) (ha : PA X [a, b] (teA X.K F [ia, ib])) (hs : starEach [a, b] X.env = (false, eval a X.env) :: starEach [b] X.env) (hpl : (backTo pos (starEach [b] X.env)).any (·.1) = false) :
    PI X (.Tuple es kk tp) (.Call (.Name "zip" p1) [a, b] [] pos) (tiI X.K F (.zip ia ib)) := by
  refine (pi_zipA hg hm ha hs hpl).imp fun σ H R q => ?_
  obtain ⟨n, w, μ, e, xs, e', wf, er, ev, k⟩ := q
  unfold evI at ev
  obtain ⟨x, e1, h1, ev1⟩ := Rs.bind_ok ev
  obtain ⟨y, e2, h2, ev2⟩ := Rs.bind_ok ev1
  refine two_inA (n := n) wf er h1 h2 fun v u H1 w1 a1 an1 an2 => ?_
  split at ev2
  · rename_i d e3 h3
    obtain ⟨w2, s2, wf2, er2, r⟩ := fzS (n := n) (an1.s (Nat.le_refl n)) (drp_wf a1.wf) (drp_env a1.env) h3
    have a2 : Aft X.K n μ σ e3 H w H1 w2 := ⟨(a1.stp.trans drp_stp).trans s2, wf2, er2⟩
    split at ev2
    · rename_i d' e4 h4
      obtain ⟨w3, s3, wf3, er3, r3⟩ := fzS (n := n) ((an2.s (Nat.le_succ n)).mono s2.sh) wf2 er2 h4
      have a3 : Aft X.K n μ σ e4 H w H1 w3 := ⟨a2.stp.trans s3, wf3, er3⟩
      have r' := Rp.mono s3.sh r
      cases d with
      | list ds =>
        cases d' with
        | list ds' =>
          cases ev2
          obtain ⟨a, b, xs, ys, ea, eb, sa, sb, wk⟩ := wk_zipL r' r3
          exact ⟨a, b, xs, ys, by rw [ea, eb], .inl ⟨sa, sb, k _ H1 w3 a3 wk⟩⟩
        | _ => cases ev2
      | tuple ds =>
        cases d' with
        | tuple ds' =>
          cases ev2
          obtain ⟨a, b, xs, ys, ea, eb, sa, sb, wk⟩ := wk_zipT r' r3
          exact ⟨a, b, xs, ys, by rw [ea, eb], .inr ⟨sa, sb, k _ H1 w3 a3 wk⟩⟩
        | _ => cases ev2
      | _ => cases ev2
    · cases ev2
  · cases ev2
end
end PD
/-! PD9: loops, stores. -/
namespace PD
open PySem PySem.Spec PyProof.Rows L2
/-- the targets -/
def tgP (K : PySem.W.Frag) : Pt → TG
  | .nm i => gName i
  | .tp is => gTup K is.length (tgNs is)
section
variable {K : PySem.W.Frag} {F : List Fn} {H H' : Hp} {w w' : Wh} {μ : Nat → Option V} {σ σ' : L2.St} {e e' : En} {n m : Nat} {v : V} {d : D}
theorem stNs_len : ∀ {is : List Nat} {ds : List D} {e e' : En}, stNs is ds e = some e' → is.length = ds.length
  | [], [], _, _, _ => rfl
  | i :: is, d :: ds, e, e', h => by
    simp only [stNs] at h
    split at h
    · rename_i e1 _
      have := stNs_len h
      simp only [List.length_cons, this]
    · cases h
  | [], _ :: _, _, _, h => by cases h
  | _ :: _, [], _, _, h => by cases h
/-- a thing comes to its targets -/
theorem stPt_ok {pt : Pt} {e1 : En} {H1 : Hp} {w1 : Wh} {Q : L2.St → Hp → Prop} (a : AftS K μ e1 H w σ H1 w1) (r : Rp K H1 w1 v d) (h : stPt pt d e1 = some e') (k : ∀ σ' w', AftS K μ e' H w σ' H1 w' → Q σ' H1) : tgP K pt v σ H1 Q := by
  cases pt with
  | nm i => exact k _ _ (a.put (f := false) r h)
  | tp is =>
    cases d with
    | tuple ds =>
      obtain ⟨p, xs, e1, s, rs, _⟩ := Rr.tup (.inl r)
      have hl := stNs_len (show stNs is ds _ = some e' from h)
      exact ⟨p, xs, e1, s, by rw [rs.length, hl], stNs_ok a rs h k⟩
    | _ => cases h
end
section
variable {X : Cx} {F : List Fn} {a b c tg : Expr} {ia ib ic : IE} {it iu : IT} {pos apos cpos p1 : Pos} {ss : List Stmt} {iss : List IS} {isr : Sr}
theorem ss_for {pt : Pt} (hp : PassesOwn (model X.prog X.w) X.A X.env X.xe) (hc : X.calm = true) (hi : PI X tg a (tiI X.K F isr)) (hg : PG X tg (tgP X.K pt)) (hb : PSs X ss (tsSs X.K F iss)) (hs : ∀ x, foldedSetIterable a X.env x = pure x) :
    PS X (.For tg a ss [] pos) (tsS X.K F (.forr pt isr iss)) := by
  refine (ps_for hp hc hi hg hb hs).imp fun D σ H q => ?_
  obtain ⟨w, μ, e, wf, er, k⟩ := q
  simp only [evS] at k
  split at k
  · rename_i xs e1 h1
    refine ⟨0, w, μ, e, xs, e1, wf, er, h1, fun J H1 w1 a1 wk => ?_⟩
    obtain ⟨G, Y, wk, hG, hY⟩ := wk
    generalize hst : (fun d e2 => match stPt pt d e2 with
      | some e3 => evSs F iss e3
      | none => Ou.no) = step at k
    refine for_it wk (fun i σ' H' => ∃ w' e', AftS X.K μ e' H w σ' H' w' ∧ Sty H1 w1 H' w' ∧ OutR X.K μ H w D (forL step (xs.drop i) e')) ?_ (fun i σ' H' _ ⟨w', e', _, s, _⟩ => hG H' w' s) (fun i x σ' H' H2 hlt ⟨w', e', a2, s, k2⟩ y => ?_) (fun σ' H' ⟨w', e', a2, s, k2⟩ => ?_)
    · exact ⟨w1, e1, a1.toS, fun _ _ h e => ⟨h, e⟩, k⟩
    · obtain ⟨d, hd, s2, hk, wf2, r⟩ := hY i H' x H2 w' hlt y s a2.wf
      have st2 : Stp (fun _ => True) H' w' H2 w' := ⟨s2, fun _ _ _ => Iff.rfl, fun b l _ hb => hk b l hb⟩
      have a3 : AftS X.K μ e' H2 w' σ' H2 w' := .refl wf2 (a2.env.mono st2 fun _ => trivial)
      have b3 : Stp (keepE 0) H w H2 w' := a2.stp.trans (st2.weak fun _ _ => trivial)
      have s3 : Sty H1 w1 H2 w' := fun p o h0 h1 => let ⟨x1, x2⟩ := s p o h0 h1; s2 p o x1 x2
      have hdr : xs.drop i = d :: xs.drop (i + 1) := by
        obtain ⟨h1, h2⟩ := List.getElem?_eq_some_iff.mp hd
        rw [List.drop_eq_getElem_cons h1, h2]
      rw [hdr] at k2
      simp only [forL] at k2
      subst hst
      cases hpt : stPt pt d e' with
      | none => simp only [hpt] at k2; exact k2.elim
      | some e3 =>
        simp only [hpt] at k2
        refine stPt_ok a3 r hpt fun σ3 w3 a4 => ⟨w3, μ, e3, a4.wf, a4.env, ?_⟩
        have b4 := b3.trans a4.stp
        have go : ∀ e5, OutR X.K μ H w D (forL (fun d e2 => match stPt pt d e2 with
            | some e3 => evSs F iss e3
            | none => Ou.no) (xs.drop (i + 1)) e5) → ∀ σ5 H5 w5, AftS X.K μ e5 H2 w3 σ5 H5 w5 → ∃ w' e', AftS X.K μ e' H w σ5 H5 w' ∧ Sty H1 w1 H5 w' ∧ OutR X.K μ H w D (forL (fun d e2 => match stPt pt d e2 with
              | some e3 => evSs F iss e3
              | none => Ou.no) (xs.drop (i + 1)) e') := fun e5 k5 σ5 H5 w5 a5 =>
          ⟨w5, e5, ⟨b4.trans a5.stp, a5.wf, a5.env⟩, fun p o h0 h1 => let ⟨x1, x2⟩ := s3 p o h0 h1; let ⟨x3, x4⟩ := a4.stp.sh p o x1 x2; a5.stp.sh p o x3 x4, k5⟩
        cases hr : evSs F iss e3 with
        | nx e5 => simp only [hr] at k2; exact go e5 k2
        | ct e5 => simp only [hr] at k2; exact go e5 k2
        | bk e5 => simp only [hr] at k2; exact fun σ5 H5 w5 a5 => k2 σ5 H5 w5 ⟨b4.trans a5.stp, a5.wf, a5.env⟩
        | rt f d e5 => simp only [hr] at k2; exact fun v σ5 H5 w5 a5 an => k2 v σ5 H5 w5 ⟨b4.trans a5.stp, a5.wf, a5.env⟩ an
        | no => simp only [hr] at k2; exact k2
        | ex c d e5 => simp only [hr] at k2; exact k2
    · rw [List.drop_eq_nil_of_le (Nat.le_refl _)] at k2
      exact k2 _ _ _ ⟨a2.stp, a2.wf, a2.env⟩
  · exact k.elim
  · exact k.elim
theorem ss_while {n : Nat} (hp : PassesOwn (model X.prog X.w) X.A X.env X.xe) (hc : PT X c (teT X.K F it)) (hb : PSs X ss (tsSs X.K F iss)) : PS X (.While c ss [] pos) (tsS X.K F (.whl n it iss)) := by
  refine (ps_while hp hc hb).imp fun D σ H q => ?_
  obtain ⟨w, μ, e, wf, er, k⟩ := q
  simp only [evS] at k
  refine ⟨fun m σ' H' => ∃ w' e', AftS X.K μ e' H w σ' H' w' ∧ OutR X.K μ H w D (whlL (evT F it) (evSs F iss) m e'), ⟨n, w, e, .refl wf er, k⟩, ?_⟩
  rintro m σ' H' ⟨w', e', a, k⟩
  cases m with
  | zero => exact k.elim
  | succ m =>
    simp only [whlL] at k
    cases hc : evT F it e' with
    | no => rw [hc] at k; exact k.elim
    | ex c d e1 => rw [hc] at k; exact k.elim
    | ok b e1 =>
      rw [hc] at k
      refine ⟨0, w', μ, e', b, e1, a.wf, a.env, hc, fun H1 w1 a1 => ?_⟩
      cases b with
      | false => exact iteF (k σ' H1 w1 ⟨a.stp.trans a1.stp, a1.wf, a1.env⟩)
      | true =>
        refine iteT ⟨fun σ5 H5 => ∃ w' e', AftS X.K μ e' H w σ5 H5 w' ∧ OutR X.K μ H w D (whlL (evT F it) (evSs F iss) m e'), fun σ5 H5 h5 => ⟨m, Nat.lt_succ_self m, h5⟩, w1, μ, e1, a1.wf, a1.env, ?_⟩
        have b4 := a.stp.trans a1.stp
        cases hr : evSs F iss e1 with
        | nx e5 => simp only [hr] at k; exact fun σ5 H5 w5 a5 => ⟨w5, e5, ⟨b4.trans a5.stp, a5.wf, a5.env⟩, k⟩
        | ct e5 => simp only [hr] at k; exact fun σ5 H5 w5 a5 => ⟨w5, e5, ⟨b4.trans a5.stp, a5.wf, a5.env⟩, k⟩
        | bk e5 => simp only [hr] at k; exact fun σ5 H5 w5 a5 => k σ5 H5 w5 ⟨b4.trans a5.stp, a5.wf, a5.env⟩
        | rt f d e5 => simp only [hr] at k; exact fun v σ5 H5 w5 a5 an => k v σ5 H5 w5 ⟨b4.trans a5.stp, a5.wf, a5.env⟩ an
        | no => simp only [hr] at k; exact k
        | ex c d e5 => simp only [hr] at k; exact k
/-! stores -/
theorem ss_unp {is : List Nat} (ha : PE X a (teE X.K F ia)) (hg : PG X tg (tgP X.K (.tp is))) (hs : swapsWithSole [tg] a pos.line X.env = pure false) (hw : swappedStores [tg] a X.env = pure none) (h1 : (assignEach [tg] X.env).map (·.2) = [assign tg X.env]) :
    PS X (.Assign [tg] a pos) (tsS X.K F (.unp is ia)) := by
  refine (ps_asg ha hg hs hw h1).imp fun D σ H q => ?_
  obtain ⟨w, μ, e, wf, er, k⟩ := q
  simp only [evS] at k
  split at k
  · rename_i x e1 h1
    split at k
    · rename_i ds e2 h2
      split at k
      · rename_i e3 h3
        refine ⟨0, w, μ, e, _, e1, wf, er, h1, fun v H1 w1 a1 an => ?_⟩
        obtain ⟨w2, a2, r⟩ := a1.fz an (Nat.le_refl 0) h2
        exact stPt_ok (pt := .tp is) a2.toS r h3 fun σ' w' a3 => k σ' H1 w' a3
      · exact k.elim
    · exact k.elim
  · exact k.elim
  · exact k.elim
theorem ss_par {i j : Nat} {x y : Str} {px py pt : Pos} {kt k2 : Nat} {pt2 : Pos} (hc : X.calm = true) (hN : X.N.Nodup) (hi : X.N[i]? = some x) (hj : X.N[j]? = some y) (hij : i ≠ j)
    (hx : X.env.scope.names.lookup x = some .local) (hy : X.env.scope.names.lookup y = some .local) (ha : PA X [a, b] (teA X.K F [ia, ib]))
    (hw : swappedStores [.Tuple [.Name x px, .Name y py] kt pt] (.Tuple [a, b] k2 pt2) X.env = pure (some [x, y]))
    (hs : swapsWithSole [.Tuple [.Name x px, .Name y py] kt pt] (.Tuple [a, b] k2 pt2) pos.line X.env = pure false) :
    PS X (.Assign [.Tuple [.Name x px, .Name y py] kt pt] (.Tuple [a, b] k2 pt2) pos) (tsS X.K F (.par i j ia ib)) := by
  refine (ps_par hc hN hi hj hij hx hy ha hw hs).imp fun D σ H q => ?_
  obtain ⟨w, μ, e, wf, er, k⟩ := q
  simp only [evS] at k
  split at k
  · rename_i xs e1 h1
    split at k
    · rename_i d1 d2 e2 h2
      split at k
      · rename_i e3 h3
        refine ⟨0, w, μ, e, xs, e1, wf, er, h1, fun vs H1 w1 a1 an => ?_⟩
        obtain ⟨w2, a2, r⟩ := a1.fzs an (Nat.le_refl 0) h2
        cases r with
        | cons r1 r =>
          cases r with
          | cons r2 r =>
            cases r
            have h := stNs_ok (is := [i, j]) (Q := fun σ' H' => D.nx σ' H') a2.toS (.cons r1 (.cons r2 .nil)) h3 fun σ' w' a3 => k σ' H1 w' a3
            obtain ⟨v1, r1, e1, h⟩ := h
            cases e1
            obtain ⟨v2, r2, e2, h⟩ := h
            cases e2
            exact ⟨_, _, rfl, h.2⟩
      · exact k.elim
    · exact k.elim
  · exact k.elim
  · exact k.elim
def rSetK : TSet := fun o i v H Q => ∃ a H', o = .ref a ∧ DPut H a i v H' ∧ Q H'
def rSetU : TSet := fun o i v H Q => rSetL o i v H Q ∨ rSetK o i v H Q
theorem set_U (hu : X.A.units + 1 < cLine) : PSet X rSetU := by
  intro pins s σ H o i v ov iv u Q I ro ri rv h
  rcases h with h | ⟨a, H', rfl, g, q⟩
  · exact set_list pins s σ H o i v ov iv u Q I ro ri rv h
  · obtain rfl : ov = Value.ref a := ro
    exact d_setItem hu I g ri rv fun s4 I4 => ⟨H', I4, q⟩
end
section
variable {K : PySem.W.Frag} {H H' : Hp} {w : Wh}
theorem put_any {k : Key} : ∀ {kvs : List (Key × V)} {ds : List (D × D)}, RpKs K H w kvs ds → (ds.any fun kv => keyEq kv.1 (keyD k)) = kvs.any fun kv => decide (kv.1 = k)
  | _, _, .nil => rfl
  | (k', v) :: kvs, (_, d) :: ds, .cons a b => by
    rw [List.any_cons, List.any_cons, put_any b, keyEq_key]
theorem put_map {k : Key} {v : V} {d : D} (r : Rp K H w v d) : ∀ {kvs : List (Key × V)} {ds : List (D × D)}, RpKs K H w kvs ds → RpKs K H w (kvs.map (fun kv => if kv.1 = k then (kv.1, v) else kv)) (ds.map fun kv => if keyEq kv.1 (keyD k) = true then (kv.1, d) else kv)
  | _, _, .nil => .nil
  | (k', v') :: kvs, (_, d') :: ds, .cons a b => by
    rw [List.map_cons, List.map_cons, keyEq_key]
    by_cases h : k' = k
    · rw [if_pos h, if_pos (by simp [h])]
      exact .cons r (put_map r b)
    · rw [if_neg h, if_neg (by simp [h])]
      exact .cons a (put_map r b)
theorem put_app {k : Key} {v : V} {d : D} (r : Rp K H w v d) : ∀ {kvs : List (Key × V)} {ds : List (D × D)}, RpKs K H w kvs ds → RpKs K H w (kvs ++ [(k, v)]) (ds ++ [(keyD k, d)])
  | _, _, .nil => .cons r .nil
  | _, _, .cons a b => .cons a (put_app r b)
theorem put_ks {k : Key} {v : V} {d : D} (r : Rp K H w v d) {kvs : List (Key × V)} {ds : List (D × D)} (h : RpKs K H w kvs ds) : RpKs K H w (putK kvs k v) (dSet ds (keyD k) d) := by
  unfold putK dSet
  rw [put_any h]
  split
  · exact put_map r h
  · exact put_app r h
theorem putT_any {k : List Key} : ∀ {kvs : List (List Key × V)} {ds : List (D × D)}, RpTs K H w kvs ds → (ds.any fun kv => keyEq kv.1 (.tuple (k.map keyD))) = kvs.any fun kv => decide (kv.1 = k)
  | _, _, .nil => rfl
  | (k', v) :: kvs, (_, d) :: ds, .cons a b => by
    rw [List.any_cons, List.any_cons, putT_any b, keyEq_tup]
theorem putT_map {k : List Key} {v : V} {d : D} (r : Rp K H w v d) : ∀ {kvs : List (List Key × V)} {ds : List (D × D)}, RpTs K H w kvs ds → RpTs K H w (kvs.map (fun kv => if kv.1 = k then (kv.1, v) else kv)) (ds.map fun kv => if keyEq kv.1 (.tuple (k.map keyD)) = true then (kv.1, d) else kv)
  | _, _, .nil => .nil
  | (k', v') :: kvs, (_, d') :: ds, .cons a b => by
    rw [List.map_cons, List.map_cons, keyEq_tup]
    by_cases h : k' = k
    · rw [if_pos h, if_pos (by simp [h])]
      exact .cons r (putT_map r b)
    · rw [if_neg h, if_neg (by simp [h])]
      exact .cons a (putT_map r b)
theorem putT_app {k : List Key} {v : V} {d : D} (r : Rp K H w v d) : ∀ {kvs : List (List Key × V)} {ds : List (D × D)}, RpTs K H w kvs ds → RpTs K H w (kvs ++ [(k, v)]) (ds ++ [(.tuple (k.map keyD), d)])
  | _, _, .nil => .cons r .nil
  | _, _, .cons a b => .cons a (putT_app r b)
theorem put_ts {k : List Key} {v : V} {d : D} (r : Rp K H w v d) {kvs : List (List Key × V)} {ds : List (D × D)} (h : RpTs K H w kvs ds) : RpTs K H w (putK kvs k v) (dSet ds (.tuple (k.map keyD)) d) := by
  unfold putK dSet
  rw [putT_any h]
  split
  · exact putT_map r h
  · exact putT_app r h
theorem dSet_t {es : List (D × D)} {k v : D} : dSet ((.none, .none) :: es) k v = (.none, .none) :: dSet es k v := by
  have h : keyEq .none k = false := rfl
  unfold dSet
  simp only [List.any_cons, h, Bool.false_or, List.map_cons]
  split <;> simp
/-- an item is stored in a thing of one's own -/
theorem ixset_ok {l : Lab} {a : Addr} {d d' dk dv : D} {vk vv : V} {Q : Hp → Prop} (e : w a = some l) (c : Cn K H w a d) (rk : Rp K H w vk dk) (rv : Rp K H w vv dv) (hs : ixSet d dk dv = some d')
    (g : ∀ o, (∀ b, b ≠ a → upd H a o b = H b) → Cn K (upd H a o) w a d' → Q (upd H a o)) : rSetU (.ref a) vk vv H Q := by
  cases c with
  | lst n r =>
    cases dk with
    | int i =>
      simp only [ixSet] at hs
      split at hs
      · rename_i hb
        cases hs
        cases rk
        have hl := r.length
        refine .inl ⟨a, _, i, i.toNat, rfl, rfl, n, ?_, g _ (fun b hb => upd_ne hb) (.lst upd_same ((r.mono (sty_own e)).set _ (Rp.mono (sty_own e) rv)))⟩
        unfold ixN
        rw [if_pos hb.1, if_pos (by omega)]
      · cases hs
    | _ => simp [ixSet] at hs
  | dk n r =>
    simp only [ixSet] at hs
    split at hs
    · rename_i hb
      cases hs
      obtain ⟨k, rfl⟩ := key_ofK (isT_ks r) hb.1
      obtain rfl := rr_key (.inl rk)
      exact .inr ⟨a, _, rfl, DPut.k n (by rw [r.length]; exact hb.2), g _ (fun b hb => upd_ne hb) (.dk upd_same (put_ks (Rp.mono (sty_own e) rv) (r.mono (sty_own e))))⟩
    · cases hs
  | dt n r =>
    simp only [ixSet] at hs
    split at hs
    · rename_i hb
      cases hs
      obtain ⟨ks, rfl⟩ := key_ofT rfl hb.1
      obtain ⟨b, rfl, hkb⟩ := rr_tkey (.inl rk)
      refine .inr ⟨a, _, rfl, DPut.t n hkb (by rw [r.length]; have := hb.2; simp only [List.length_cons] at this; omega), g _ (fun b hb => upd_ne hb) ?_⟩
      rw [dSet_t]
      exact .dt upd_same (put_ts (Rp.mono (sty_own e) rv) (r.mono (sty_own e)))
    · cases hs
end
section
variable {X : Cx} {F : List Fn} {a b c tg : Expr} {ia ib ic : IE} {it iu : IT} {pos apos cpos p1 p2 : Pos} {ss : List Stmt} {iss : List IS} {isr : Sr}
theorem isOwn_at {e : En} {i : Nat} (h : isOwn e i = true) : ∃ o d, e[i]? = some (some ⟨o, d⟩) ∧ o ≠ .sh := by
  unfold isOwn at h
  split at h
  · rename_i d hs; exact ⟨_, d, hs, by intro z; cases z⟩
  · rename_i d hs; exact ⟨_, d, hs, by intro z; cases z⟩
  · cases h
theorem ss_ixset {i : Nat} {x : Str} (hu : X.A.units + 1 < cLine) (hx : PE X (.Name x p1) (tVar i)) (hk : PE X b (teE X.K F ib)) (hv : PE X a (teE X.K F ia))
    (hst : ∀ v, assign (.Subscript (.Name x p1) b p2) X.env v = (do
      let ov ← holding [v] (eval (.Name x p1) X.env)
      let iv ← holding [v, ov] (eval b X.env)
      standAt p2
      holding [v, ov, iv] (setItem ov iv v)
      release [v, ov, iv] []))
    (hs : swapsWithSole [.Subscript (.Name x p1) b p2] a pos.line X.env = pure false) (hw : swappedStores [.Subscript (.Name x p1) b p2] a X.env = pure none)
    (h1 : (assignEach [.Subscript (.Name x p1) b p2] X.env).map (·.2) = [assign (.Subscript (.Name x p1) b p2) X.env]) :
    PS X (.Assign [.Subscript (.Name x p1) b p2] a pos) (tsS X.K F (.ixset i ib ia)) := by
  refine (ps_asg hv (pg_sub hx hk (set_U hu) hst) hs hw h1).imp fun D σ H q => ?_
  obtain ⟨w, μ, e, wf, er, k⟩ := q
  simp only [evS] at k
  split at k
  · rename_i x1 e1 h1
    split at k
    · rename_i hown
      obtain ⟨o0, d0, hi0, ho0⟩ := isOwn_at hown
      split at k
      · rename_i y e2 h2
        refine ⟨0, w, μ, e, _, e1, wf, er, h1, fun v H1 w1 a1 an1 => ?_⟩
        obtain ⟨a0, hσ, _, _⟩ := own_at a1.env hi0 ho0
        refine ⟨_, hσ, 1, w1, μ, e1, y, e2, a1.wf, a1.env, h2, fun u H2 w2 a2 an2 => ?_⟩
        have a3 := a1.trans a2 (Nat.zero_le 1)
        have an1' := an1.mono a2.stp Nat.zero_lt_one
        split at k
        · rename_i dv e3 h3
          obtain ⟨w4, s4, wf4, er4, r4⟩ := fzS (n := 0) (an1'.s (Nat.le_refl 0)) (drp_wf a3.wf) (drp_env a3.env) h3
          have a4 : Aft X.K 0 μ σ e3 H w H2 w4 := ⟨(a3.stp.trans drp_stp).trans s4, wf4, er4⟩
          split at k
          · rename_i dk e4 h4
            obtain ⟨w5, s5, wf5, er5, r5⟩ := fzS (n := 0) ((an2.s (Nat.zero_le 1)).mono s4.sh) wf4 er4 h4
            have a5 : Aft X.K 0 μ σ e4 H w H2 w5 := ⟨a4.stp.trans s5, wf5, er5⟩
            split at k
            · exact k.elim
            · rename_i o d hns hi
              split at k
              · rename_i d' hd
                have ho : o ≠ .sh := fun z => hns z
                obtain ⟨a6, hσ6, hw6, c6⟩ := own_at a5.env hi ho
                have ea : a6 = a0 := by
                  rw [hσ] at hσ6
                  injection hσ6 with q
                  injection q with q
                  injection q with q
                  exact q.symm
                subst ea
                exact ixset_ok hw6 c6 r5 (Rp.mono s5.sh r4) hd fun u hu cn => k σ _ w5 (a5.own hi ho hσ6 hw6 u cn).toS
              · exact k.elim
            · exact k.elim
          · exact k.elim
        · exact k.elim
      · exact k.elim
      · exact k.elim
    · exact k.elim
  · exact k.elim
  · exact k.elim
end
end PD
/-! PD10: comprehensions. -/
namespace PD
open PySem PySem.Spec PyProof.Rows L2
theorem wipe_set {σ : L2.St} {i : Nat} {x : Option V} : ∀ {vs : List Nat}, i ∈ vs → wipe (σ.set i x) vs = wipe σ vs
  | v :: vs, h => by
    unfold wipe
    by_cases hv : i ∈ vs
    · rw [wipe_set hv]
    · have e : i = v := (List.mem_cons.mp h).resolve_right hv
      subst e
      have gen : ∀ us : List Nat, i ∉ us → wipe (σ.set i x) us = (wipe σ us).set i x := by
        intro us hu
        induction us with
        | nil => rfl
        | cons u us ih =>
          unfold wipe
          rw [ih (fun z => hu (List.mem_cons_of_mem _ z)), List.set_comm _ _ (by intro z; subst z; exact hu List.mem_cons_self)]
      rw [gen vs hv, List.set_set]
theorem tgNs_wipe {vs : List Nat} {τ : L2.St} : ∀ {is : List Nat} {xs : List V} {σ : L2.St} {H : Hp} {Q : L2.St → Hp → Prop}, (∀ i ∈ is, i ∈ vs) → wipe σ vs = τ → tgNs is xs σ H (fun σ2 H2 => wipe σ2 vs = τ → Q σ2 H2) → tgNs is xs σ H fun σ2 H2 => wipe σ2 vs = τ ∧ Q σ2 H2
  | [], xs, σ, H, Q, hm, h0, h => ⟨h.1, h0, h.2 h0⟩
  | i :: is, xs, σ, H, Q, hm, h0, h => by
    obtain ⟨v, r, e, h⟩ := h
    refine ⟨v, r, e, ?_⟩
    exact tgNs_wipe (fun j hj => hm j (List.mem_cons_of_mem _ hj)) ((wipe_set (hm i List.mem_cons_self)).trans h0) h
def ptIn (vs : List Nat) : Pt → Prop
  | .nm i => i ∈ vs
  | .tp is => ∀ i ∈ is, i ∈ vs
theorem tgP_wipe {K : PySem.W.Frag} {vs : List Nat} {pt : Pt} {v : V} {σ τ : L2.St} {H : Hp} {Q : L2.St → Hp → Prop} (hm : ptIn vs pt) (h0 : wipe σ vs = τ) (h : tgP K pt v σ H fun σ2 H2 => wipe σ2 vs = τ → Q σ2 H2) : tgP K pt v σ H fun σ2 H2 => wipe σ2 vs = τ ∧ Q σ2 H2 := by
  cases pt with
  | nm i => exact ⟨(wipe_set hm).trans h0, h ((wipe_set hm).trans h0)⟩
  | tp is =>
    obtain ⟨a, xs, e, s, l, h⟩ := h
    exact ⟨a, xs, e, s, l, tgNs_wipe hm h0 h⟩
theorem wipeE_length (e : En) : ∀ vs : List Nat, (wipeE e vs).length = e.length
  | [] => rfl
  | v :: vs => by unfold wipeE; rw [List.length_set, wipeE_length e vs]
theorem wipe_at {σ : L2.St} {i : Nat} : ∀ {vs : List Nat}, i ∉ vs → (wipe σ vs)[i]? = σ[i]?
  | [], _ => rfl
  | v :: vs, h => by
    unfold wipe
    rw [List.getElem?_set_ne (by intro z; subst z; exact h List.mem_cons_self), wipe_at fun z => h (List.mem_cons_of_mem _ z)]
theorem wipe_in {σ : L2.St} {i : Nat} : ∀ {vs : List Nat}, i ∈ vs → i < σ.length → (wipe σ vs)[i]? = some none
  | v :: vs, h, hl => by
    unfold wipe
    by_cases hv : i = v
    · subst hv
      exact List.getElem?_set_self (by rw [wipe_length]; exact hl)
    · rw [List.getElem?_set_ne (Ne.symm hv)]
      exact wipe_in ((List.mem_cons.mp h).resolve_left hv) hl
theorem wipe_wipe {σ : L2.St} {vs : List Nat} : wipe (wipe σ vs) vs = wipe σ vs := by
  apply List.ext_getElem?
  intro i
  by_cases hl : i < σ.length
  · by_cases hi : i ∈ vs
    · rw [wipe_in hi (by rw [wipe_length]; exact hl), wipe_in hi hl]
    · rw [wipe_at hi]
  · rw [List.getElem?_eq_none (by rw [wipe_length, wipe_length]; omega), List.getElem?_eq_none (by rw [wipe_length]; omega)]
theorem wipeE_at {e : En} {i : Nat} : ∀ {vs : List Nat}, i ∉ vs → (wipeE e vs)[i]? = e[i]?
  | [], _ => rfl
  | v :: vs, h => by
    unfold wipeE
    rw [List.getElem?_set_ne (by intro z; subst z; exact h List.mem_cons_self), wipeE_at fun z => h (List.mem_cons_of_mem _ z)]
theorem wipeE_in {e : En} {i : Nat} : ∀ {vs : List Nat}, i ∈ vs → ∀ s, (wipeE e vs)[i]? ≠ some (some s)
  | v :: vs, h, s => by
    unfold wipeE
    by_cases hv : i = v
    · subst hv
      intro z
      by_cases hl : i < (wipeE e vs).length
      · rw [List.getElem?_set_self hl] at z
        cases z
      · rw [List.getElem?_eq_none (by rw [List.length_set]; omega)] at z
        cases z
    · rw [List.getElem?_set_ne (Ne.symm hv)]
      exact wipeE_in ((List.mem_cons.mp h).resolve_left hv) s
section
variable {K : PySem.W.Frag} {F : List Fn} {H H' : Hp} {w w' : Wh} {μ : Nat → Option V} {σ σ' : L2.St} {e e' : En} {n m : Nat} {v : V} {d : D}
theorem wipe_env {vs : List Nat} (er : EnvR K H w μ σ e) : EnvR K H w μ (wipe σ vs) (wipeE e vs) := by
  refine ⟨by rw [wipe_length, wipeE_length]; exact er.len, fun i o d h => ?_⟩
  by_cases hi : i ∈ vs
  · exact absurd h (wipeE_in hi _)
  · rw [wipeE_at hi] at h
    rw [wipe_at hi]
    exact er.at_ i o d h
theorem backE_length (e0 e : En) : ∀ vs : List Nat, (backE e0 e vs).length = e.length
  | [] => rfl
  | v :: vs => by unfold backE; rw [List.length_set, backE_length e0 e vs]
theorem backE_at {e0 e : En} {i : Nat} : ∀ {vs : List Nat}, i ∉ vs → (backE e0 e vs)[i]? = e[i]?
  | [], _ => rfl
  | v :: vs, h => by
    unfold backE
    rw [List.getElem?_set_ne (by intro z; subst z; exact h List.mem_cons_self), backE_at fun z => h (List.mem_cons_of_mem _ z)]
theorem backE_in {e0 e : En} {i : Nat} {s : Sl} : ∀ {vs : List Nat}, i ∈ vs → (backE e0 e vs)[i]? = some (some s) → e0[i]? = some (some s)
  | v :: vs, h, z => by
    unfold backE at z
    by_cases hv : i = v
    · subst hv
      by_cases hl : i < (backE e0 e vs).length
      · rw [List.getElem?_set_self hl] at z
        cases h0 : e0[i]? with
        | none => rw [h0] at z; cases z
        | some x => rw [h0] at z; exact z
      · rw [List.getElem?_eq_none (by rw [List.length_set]; omega)] at z
        cases z
    · rw [List.getElem?_set_ne (Ne.symm hv)] at z
      exact backE_in ((List.mem_cons.mp h).resolve_left hv) z
/-- all but the slots' labels -/
def keepT (l : Lab) : Prop := ∀ i, l ≠ .slot i
theorem keepT_e {n : Nat} : ∀ l, keepE n l → keepT l
  | .out _, _ => fun i z => by cases z
  | .tmp k, q => fun i z => by cases z
  | .slot _, q => q.elim
theorem put0_env {i : Nat} {x : Option Sl} (er : EnvR K H w μ σ e) (hi : e[i]? = some x) (an : Rp K H w v d) : EnvR K H (shr i w) μ (σ.set i (some v)) (e.set i (some ⟨.sh, d⟩)) := by
  have hl : i < e.length := (List.getElem?_eq_some_iff.mp hi).1
  refine ⟨by rw [List.length_set, List.length_set]; exact er.len, fun j o d' h => ?_⟩
  by_cases hj : j = i
  · subst hj
    rw [List.getElem?_set_self hl] at h
    cases h
    exact ⟨v, List.getElem?_set_self (by rw [er.len]; exact hl), Rp.mono shr_stp.sh an, fun z => by cases z⟩
  · rw [List.getElem?_set_ne (Ne.symm hj)] at h
    obtain ⟨v', h1, h2, h3⟩ := er.at_ j o d' h
    refine ⟨v', by rw [List.getElem?_set_ne (Ne.symm hj)]; exact h1, h2.mono shr_stp.sh fun a q => ⟨(shr_stp (H := H) (w := w) (i := i)).kp a _ (by intro z; cases z; exact hj rfl) |>.mpr q, rfl⟩, h3⟩
theorem stNs_ok0 : ∀ {is : List Nat} {vs : List V} {ds : List D} {e1 : En} {σ : L2.St} {w1 : Wh} {Q : L2.St → Hp → Prop}, Wf H w1 → EnvR K H w1 μ σ e1 → RpAll K H w1 vs ds → stNs is ds e1 = some e' →
    (∀ σ' w', Stp keepT H w1 H w' → Wf H w' → EnvR K H w' μ σ' e' → Q σ' H) → tgNs is vs σ H Q
  | [], _, _, e1, σ, w1, Q, wf, er, .nil, h, k => by
    cases h
    exact ⟨rfl, k σ w1 Stp.refl wf er⟩
  | i :: is, _, _, e1, σ, w1, Q, wf, er, .cons r rs, h, k => by
    simp only [stNs] at h
    split at h
    · rename_i e2 h1
      obtain ⟨⟨x, hx⟩, rfl⟩ := stN_ok h1
      have st : Stp keepT H w1 H (shr i w1) := shr_stp.weak fun l hl => hl i
      exact ⟨_, _, rfl, stNs_ok0 (shr_wf wf) (put0_env er hx r) (rs.mono shr_stp.sh) h fun σ' w' s wf' er' => k σ' w' (st.trans s) wf' er'⟩
    · cases h
  | [], _, _, _, _, _, _, _, _, .cons _ _, h, _ => by cases h
  | _ :: _, _, _, _, _, _, _, _, _, .nil, h, _ => by cases h
theorem stPt_ok0 {pt : Pt} {e1 : En} {w1 : Wh} {Q : L2.St → Hp → Prop} (wf : Wf H w1) (er : EnvR K H w1 μ σ e1) (r : Rp K H w1 v d) (h : stPt pt d e1 = some e')
    (k : ∀ σ' w', Stp keepT H w1 H w' → Wf H w' → EnvR K H w' μ σ' e' → Q σ' H) : tgP K pt v σ H Q := by
  cases pt with
  | nm i =>
    obtain ⟨⟨x, hx⟩, rfl⟩ := stN_ok (show stN i _ e1 = some e' from h)
    exact k _ _ (shr_stp.weak fun l hl => hl i) (shr_wf wf) (put0_env er hx r)
  | tp is =>
    cases d with
    | tuple ds =>
      obtain ⟨p, xs, e1, s, rs, _⟩ := Rr.tup (.inl r)
      have hl := stNs_len (show stNs is ds _ = some e' from h)
      exact ⟨p, xs, e1, s, by rw [rs.length, hl], stNs_ok0 wf er rs h k⟩
    | _ => cases h
theorem ownSh_at {e : En} : ∀ {vs : List Nat} {i : Nat} {o : O} {d : D}, ownSh e vs = true → i ∈ vs → e[i]? = some (some ⟨o, d⟩) → o = .sh
  | v :: vs, i, o, d, h, hi, hs => by
    unfold ownSh at h
    rw [Bool.and_eq_true] at h
    by_cases hv : i = v
    · subst hv
      have h1 := h.1
      rw [hs] at h1
      cases o with
      | sh => rfl
      | own => cases h1
      | mu => cases h1
    · exact ownSh_at h.2 ((List.mem_cons.mp hi).resolve_left hv) hs
end
def teC (K : PySem.W.Frag) (F : List Fn) (cs : List IT) : TT := fun σ H Q => ∃ n w μ e b e', Wf H w ∧ EnvR K H w μ σ e ∧ evC F cs e = .ok b e' ∧ ∀ H' w', Aft K n μ σ e' H w H' w' → Q b H'
theorem _root_.L2.PTs.imp {X : Cx} {es : List Expr} {t t' : TT} (h : PTs X es t) (i : ∀ σ H Q, t' σ H Q → t σ H Q) : PTs X es t' := ⟨fun pins s σ H Q I q => h.run pins s σ H Q I (i σ H Q q)⟩
section
variable {X : Cx} {F : List Fn} {a b c tg el : Expr} {ia ib ic iel : IE} {it iu : IT} {pos apos cpos p1 : Pos} {ss : List Stmt} {iss : List IS} {isr : Sr} {ifs : List Expr} {cs : List IT}
theorem sc_nil : PTs X [] (teC X.K F []) := by
  refine pts_nil.imp fun σ H Q q => ?_
  obtain ⟨n, w, μ, e, b, e', wf, er, ev, k⟩ := q
  cases ev
  exact k H w (.refl wf er)
theorem sc_one (hc : PT X c (teT X.K F it)) : PTs X [c] (teC X.K F [it]) := by
  refine (pts_one hc).imp fun σ H Q q => ?_
  obtain ⟨n, w, μ, e, b, e', wf, er, ev, k⟩ := q
  unfold evC at ev
  obtain ⟨r, e1, h1, ev⟩ := Rs.bind_ok ev
  refine ⟨n, w, μ, e, r, e1, wf, er, h1, fun H1 w1 a1 => ?_⟩
  cases r with
  | true =>
    rw [if_pos rfl] at ev
    cases ev
    exact k H1 w1 a1
  | false =>
    rw [if_neg Bool.false_ne_true] at ev
    cases ev
    exact k H1 w1 a1
theorem lc_in {pt : Pt} {vs : List Nat} (hpt : ptIn vs pt) (σ : L2.St) (H : Hp) (Q : VK) (q : teE X.K F (.comp iel pt isr cs vs) σ H Q) : tLc (tiI X.K F isr) (tgP X.K pt) (teC X.K F cs) (teE X.K F iel) vs σ H Q := by
  obtain ⟨n, w, μ, e, z, e', wf, er, ev, k⟩ := q
  unfold evE at ev
  obtain ⟨xs, e1, h1, ev1⟩ := Rs.bind_ok ev
  refine ⟨n, w, μ, e, xs, e1, wf, er, h1, fun J H1 w1 a1 wk D hD => ?_⟩
  obtain ⟨G, Y, wk, hG, hY⟩ := wk
  split at ev1
  · rename_i hb
    rw [Bool.and_eq_true, decide_eq_true_eq] at hb
    obtain ⟨ds, e7, h7, ev2⟩ := Rs.bind_ok ev1
    cases ev2
    generalize hst : (fun d e2 => match stPt pt d (wipeE e2 vs) with
        | some e3 => (evC F cs e3).bind fun b e4 => if b = true then (evE F iel e4).bind fun x e5 => match fzA x e5 with
            | some (d, e6) => Rs.ok (some d) e6
            | none => .no
          else .ok none e4
        | none => Rs.no) = step at h7
    have wD := a1.wf D hD
    have st0 := own1_stp (o := .lst []) (n := n) a1.wf hD
    refine lc_it wk (fun i H' => ∃ w' e2 acc done rest, Stp (keepE n) H w H' w' ∧ Wf H' w' ∧ EnvR X.K H' w' μ (wipe σ vs) (wipeE e2 vs) ∧ Sty H1 w1 H' w' ∧ H' D = some (.lst acc) ∧ w' D = some (.tmp n) ∧ RpAll X.K H' w' acc done ∧ done.length ≤ i ∧
      compL step (xs.drop i) e2 = .ok rest e7 ∧ done ++ rest = ds) ?_ (fun i H' _ ⟨w', _, _, _, _, _, _, _, s, _⟩ => hG H' w' s) (fun i x H' H2 hlt p y => ?_) (fun H' p => ?_)
    · exact ⟨own1 w1 D (.tmp n), e1, [], [], ds, a1.stp.trans (st0.weak keepP.e), own1_wf a1.wf, wipe_env (a1.env.mono st0 fun i z => by cases z), st0.sh, upd_same, own1_at, .nil, Nat.zero_le _, h7, rfl⟩
    · obtain ⟨w', e2, acc, done, rest, sp, wf', er', s, hDl, hDw, ra, hdn, hcl, hds⟩ := p
      obtain ⟨d, hd, s2, hk, wf2, r⟩ := hY i H' x H2 w' hlt y s wf'
      have st2 : Stp (fun _ => True) H' w' H2 w' := ⟨s2, fun _ _ _ => Iff.rfl, fun b l _ hb => hk b l hb⟩
      have hdr : xs.drop i = d :: xs.drop (i + 1) := by
        obtain ⟨h1, h2⟩ := List.getElem?_eq_some_iff.mp hd
        rw [List.drop_eq_getElem_cons h1, h2]
      rw [hdr] at hcl
      simp only [compL] at hcl
      obtain ⟨rr, e5, h5, hcl⟩ := Rs.bind_ok hcl
      obtain ⟨rs, e6, h6, hcl⟩ := Rs.bind_ok hcl
      subst hst
      cases hst' : stPt pt d (wipeE e2 vs) with
      | none => simp only [hst'] at h5; cases h5
      | some e3 =>
        simp only [hst'] at h5
        obtain ⟨bb, e4, h8, h5⟩ := Rs.bind_ok h5
        have hD2 : H2 D = some (.lst acc) := (hk D _ hDw).trans hDl
        refine tgP_wipe hpt wipe_wipe (stPt_ok0 wf2 (er'.mono st2 fun _ => trivial) r hst' fun σ3 w3 s3 wf3 er3 hσ => ?_)
        have sp3 : Stp (keepE n) H w H2 w3 := (sp.trans (st2.weak fun _ _ => trivial)).trans (s3.weak keepT_e)
        have ss3 : Sty H' w' H2 w3 := fun p o h0 h1 => let ⟨x1, x2⟩ := s2 p o h0 h1; s3.sh p o x1 x2
        have hDw3 : w3 D = some (.tmp n) := (s3.kp D _ fun i z => by cases z).mpr hDw
        refine ⟨n + 1, w3, μ, e3, bb, e4, wf3, er3, h8, fun H4 w4 a4 => ?_⟩
        have sp4 : Stp (keepE n) H w H4 w4 := sp3.trans (a4.stp.weak (keepE.le (Nat.le_succ n)))
        have ss4 : Sty H' w' H4 w4 := fun p o h0 h1 => let ⟨x1, x2⟩ := ss3 p o h0 h1; a4.stp.sh p o x1 x2
        have hD4 : H4 D = some (.lst acc) := (a4.stp.kh D (.tmp n) (Nat.lt_succ_self n) hDw3).trans hD2
        have hDw4 : w4 D = some (.tmp n) := (a4.stp.kp D (.tmp n) (Nat.lt_succ_self n)).mpr hDw3
        cases bb with
        | false =>
          rw [if_neg Bool.false_ne_true] at h5
          cases h5
          rw [h6] at hcl
          cases hcl
          refine iteF ⟨w4, _, acc, done, _, sp4, a4.wf, hσ ▸ wipe_env a4.env, fun p o h0 h1 => let ⟨x1, x2⟩ := s p o h0 h1; ss4 p o x1 x2, hD4, hDw4, ra.mono ss4, Nat.le_succ_of_le hdn, h6, hds⟩
        | true =>
          rw [if_pos rfl] at h5
          obtain ⟨x5, e5', h9, h10⟩ := Rs.bind_ok h5
          refine iteT ⟨n + 1, w4, μ, e4, x5, e5', a4.wf, a4.env, h9, fun yv H5 w5 a5 an5 => ?_⟩
          cases hf : fzA x5 e5' with
          | none => rw [hf] at h10; cases h10
          | some p =>
            obtain ⟨dd, e8⟩ := p
            rw [hf] at h10
            cases h10
            rw [h6] at hcl
            cases hcl
            obtain ⟨w6, a6, r6⟩ := a5.fz an5 (Nat.le_refl (n + 1)) hf
            have sp6 : Stp (keepE n) H w H5 w6 := sp4.trans (a6.stp.weak (keepE.le (Nat.le_succ n)))
            have ss6 : Sty H' w' H5 w6 := fun p o h0 h1 => let ⟨x1, x2⟩ := ss4 p o h0 h1; a6.stp.sh p o x1 x2
            have hD6 : H5 D = some (.lst acc) := (a6.stp.kh D (.tmp n) (Nat.lt_succ_self n) hDw4).trans hD4
            have hDw6 : w6 D = some (.tmp n) := (a6.stp.kp D (.tmp n) (Nat.lt_succ_self n)).mpr hDw4
            have su : Stp (keepP n) H5 w6 (upd H5 D (.lst (acc ++ [yv]))) w6 := ⟨sty_own hDw6, fun _ _ _ => Iff.rfl, fun b l hl hb => upd_ne fun z => by
              rw [z, hDw6] at hb
              exact hl (Option.some.inj hb).symm⟩
            refine ⟨acc, hD6, by rw [ra.length]; omega, w6, _, acc ++ [yv], done ++ [dd], _, sp6.trans (su.weak keepP.e), fun b hb => ?_, ?_, fun p o h0 h1 => let ⟨x1, x2⟩ := s p o h0 h1; let ⟨x3, x4⟩ := ss6 p o x1 x2; su.sh p o x3 x4, upd_same, hDw6, ((ra.mono ss6).mono su.sh).append (.cons (Rp.mono su.sh r6) .nil), by rw [List.length_append]; exact Nat.succ_le_succ hdn, h6, by rw [← hds, List.append_assoc]; rfl⟩
            · by_cases z : b = D
              · rw [z, upd_same] at hb; cases hb
              · rw [upd_ne z] at hb; exact a6.wf b hb
            · exact hσ ▸ wipe_env (a6.env.mono su fun i z => by cases z)
    · obtain ⟨w', e2, acc, done, rest, sp, wf', er', s, hDl, hDw, ra, hdn, hcl, hds⟩ := p
      rw [List.drop_eq_nil_of_le (Nat.le_refl _)] at hcl
      cases hcl
      rw [List.append_nil] at hds
      subst hds
      refine k (.ref D) H' w' ⟨sp, wf', ⟨by rw [backE_length]; have := er'.len; rw [wipe_length, wipeE_length] at this; exact this, fun i o d h => ?_⟩⟩ ⟨D, rfl, hDw, .lst hDl ra⟩
      by_cases hi : i ∈ vs
      · have h0 := backE_in hi h
        have ho := ownSh_at hb.1 hi h0
        subst ho
        obtain ⟨v, v1, v2, v3⟩ := a1.env.at_ i _ d h0
        exact ⟨v, v1, Rp.mono s v2, v3⟩
      · rw [backE_at hi] at h
        obtain ⟨v, v1, v2, v3⟩ := er'.at_ i o d (by rw [wipeE_at hi]; exact h)
        rw [wipe_at hi] at v1
        exact ⟨v, v1, v2, v3⟩
  · cases ev1
end
end PD
/-! PD10b: a list of one's own is walked, and stays one's own. -/
namespace PD
open PySem PySem.Spec PyProof.Rows L2
def mu1 (μ : Nat → Option V) (i : Nat) (v : V) : Nat → Option V := fun j => if j = i then some v else μ j
def itK (K : PySem.W.Frag) (en : Bool) (a : Addr) : It := if en = true then Ite K a else Itl K a
def tiK (K : PySem.W.Frag) (F : List Fn) (en : Bool) (i : Nat) : TI := fun σ H R => ∃ n w μ e o xs, Wf H w ∧ EnvR K H w μ σ e ∧ e[i]? = some (some ⟨o, .list xs⟩) ∧ o ≠ .sh ∧ ∀ a H1 w1, Aft K n μ σ e H w H1 w1 → σ[i]? = some (some (.ref a)) → R (itK K en a) H1
section
variable {K : PySem.W.Frag} {F : List Fn} {H H' H2 : Hp} {w w' : Wh} {μ : Nat → Option V} {σ σ' : L2.St} {e e' : En} {n m i : Nat} {v x : V} {d : D} {o : O} {xs ys : List D}
theorem lkG_at (h : lkG e i = some (o, xs)) : e[i]? = some (some ⟨o, .list xs⟩) ∧ o ≠ .sh := by
  unfold lkG at h
  split at h
  · rename_i ys hs; cases h; exact ⟨hs, by intro z; cases z⟩
  · rename_i ys hs; cases h; exact ⟨hs, by intro z; cases z⟩
  · cases h
theorem lkN_at (h : lkN e i = some xs) : e[i]? = some (some ⟨.mu, .list xs⟩) := by
  unfold lkN at h
  split at h
  · rename_i ys hs; cases h; exact hs
  · cases h
theorem ow_ns {l : Lab} (ho : o ≠ .sh) (h : RpO K H w l o v d) : Ow K H w l v d := by
  cases o with
  | sh => exact absurd rfl ho
  | own => exact h
  | mu => exact h
theorem ow_to {l : Lab} (ho : o ≠ .sh) (h : Ow K H w l v d) : RpO K H w l o v d := by
  cases o with
  | sh => exact absurd rfl ho
  | own => exact h
  | mu => exact h
theorem lk_slot {a : Addr} (er : EnvR K H w μ σ e) (hi : e[i]? = some (some ⟨o, d⟩)) (ho : o ≠ .sh) (hσ : σ[i]? = some (some (.ref a))) : w a = some (.slot i) ∧ Cn K H w a d ∧ (o = .mu → μ i = some (.ref a)) := by
  obtain ⟨v, h1, h2, h3⟩ := er.at_ i o d hi
  rw [h1] at hσ
  cases hσ
  obtain ⟨b, e1, f, c⟩ := ow_ns ho h2
  cases e1
  exact ⟨f, c, h3⟩
theorem lk_ref (er : EnvR K H w μ σ e) (hi : e[i]? = some (some ⟨o, d⟩)) (ho : o ≠ .sh) : ∃ a, σ[i]? = some (some (.ref a)) := by
  obtain ⟨v, h1, h2, h3⟩ := er.at_ i o d hi
  obtain ⟨b, e1, f, c⟩ := ow_ns ho h2
  exact ⟨b, by rw [h1, e1]⟩
theorem cn_list {a : Addr} (c : Cn K H w a (.list xs)) : ∃ vs, H a = some (.lst vs) ∧ RpAll K H w vs xs := by
  cases c with
  | lst h r => exact ⟨_, h, r⟩
theorem lk_env {a : Addr} (er : EnvR K H w μ σ e) (hi : e[i]? = some (some ⟨o, d⟩)) (ho : o ≠ .sh) (hσ : σ[i]? = some (some (.ref a))) : EnvR K H w (mu1 μ i (.ref a)) σ (e.set i (some ⟨.mu, d⟩)) := by
  refine ⟨by rw [List.length_set]; exact er.len, fun j o' d' h => ?_⟩
  by_cases hj : j = i
  · subst hj
    rw [List.getElem?_set_self (List.getElem?_eq_some_iff.mp hi).1] at h
    cases h
    obtain ⟨f, c, _⟩ := lk_slot er hi ho hσ
    exact ⟨_, hσ, ⟨a, rfl, f, c⟩, fun _ => by unfold mu1; rw [if_pos rfl]⟩
  · rw [List.getElem?_set_ne (Ne.symm hj)] at h
    obtain ⟨v, h1, h2, h3⟩ := er.at_ j o' d' h
    exact ⟨v, h1, h2, fun z => by unfold mu1; rw [if_neg hj]; exact h3 z⟩
theorem unlk_env {e1 : En} (er : EnvR K H w (mu1 μ i v) σ e) (h : unlk o i e = some e1) (ho : o ≠ .sh) (hv : o = .mu → μ i = some v) : EnvR K H w μ σ e1 := by
  unfold unlk at h
  split at h
  · rename_i d hs
    cases h
    refine ⟨by rw [List.length_set]; exact er.len, fun j o' d' h => ?_⟩
    by_cases hj : j = i
    · subst hj
      rw [List.getElem?_set_self (List.getElem?_eq_some_iff.mp hs).1] at h
      cases h
      obtain ⟨u, h1, h2, h3⟩ := er.at_ j _ _ hs
      have h4 := h3 rfl
      unfold mu1 at h4
      rw [if_pos rfl] at h4
      cases h4
      exact ⟨_, h1, ow_to ho h2, hv⟩
    · rw [List.getElem?_set_ne (Ne.symm hj)] at h
      obtain ⟨u, h1, h2, h3⟩ := er.at_ j o' d' h
      exact ⟨u, h1, h2, fun z => by have := h3 z; unfold mu1 at this; rw [if_neg hj] at this; exact this⟩
  · cases h
theorem unl_out {D : Ends} {r : Ou} (ho : o ≠ .sh) (hv : o = .mu → μ i = some v) (h : OutR K μ H w D (Ou.unl o i r)) : OutR K (mu1 μ i v) H w D r := by
  cases r with
  | nx e1 =>
    simp only [Ou.unl] at h
    split at h
    · rename_i e2 h2
      exact fun σ' H' w' a => h σ' H' w' ⟨a.stp, a.wf, unlk_env a.env h2 ho hv⟩
    · exact h.elim
  | ct e1 =>
    simp only [Ou.unl] at h
    split at h
    · rename_i e2 h2
      exact fun σ' H' w' a => h σ' H' w' ⟨a.stp, a.wf, unlk_env a.env h2 ho hv⟩
    · exact h.elim
  | bk e1 =>
    simp only [Ou.unl] at h
    split at h
    · rename_i e2 h2
      exact fun σ' H' w' a => h σ' H' w' ⟨a.stp, a.wf, unlk_env a.env h2 ho hv⟩
    · exact h.elim
  | rt f d e1 =>
    simp only [Ou.unl] at h
    split at h
    · rename_i e2 h2
      exact fun v σ' H' w' a an => h v σ' H' w' ⟨a.stp, a.wf, unlk_env a.env h2 ho hv⟩ an
    · exact h.elim
  | no => exact h
  | ex c d e1 => exact h
/-- a turn of such a walk -/
theorem itK_stop {en : Bool} {a : Addr} {vs : List V} {t : Nat} (h : H a = some (.lst vs)) (hl : vs.length ≤ t) : (itK K en a).stop t H := by
  unfold itK
  cases en with
  | true => exact ⟨vs, .inl (.inl h), hl⟩
  | false => exact ⟨vs, .inl (.inl h), hl⟩
theorem itK_go {en : Bool} {a : Addr} {vs : List V} {t : Nat} (h : H a = some (.lst vs)) (hl : vs[t]? = some x) : (itK K en a).go t H := by
  unfold itK
  cases en with
  | true => exact ⟨vs, x, .inl (.inl h), hl⟩
  | false => exact ⟨vs, x, .inl (.inl h), hl⟩
theorem itK_yld {en : Bool} {a : Addr} {vs : List V} {t : Nat} (wf : Wf H w) (h : H a = some (.lst vs)) (hl : vs[t]? = some v) (r : Rp K H w v d) (y : (itK K en a).yld t H x H2) :
    Sty H w H2 w ∧ (∀ a l, w a = some l → H2 a = H a) ∧ Wf H2 w ∧ Rp K H2 w x (kItm en t d) := by
  unfold itK at y
  cases en with
  | true =>
    obtain ⟨T, x1, rfl, hT, rfl, hx⟩ := y
    have hx1 : some x1 = some v := (hx vs (.inl (.inl h))).symm.trans hl
    cases hx1
    obtain ⟨s2, wf2, r2⟩ := new_tup (n := 0) wf hT (.cons (.int (t : Int)) (.cons r .nil))
    exact ⟨s2.sh, (fun a l ha => upd_ne fun z => by rw [z, wf T hT] at ha; cases ha), wf2, r2⟩
  | false =>
    obtain ⟨rfl, hx⟩ := y
    have hx1 : some x = some v := (hx vs (.inl (.inl h))).symm.trans hl
    cases hx1
    exact ⟨fun _ _ h e => ⟨h, e⟩, fun _ _ _ => rfl, wf, r⟩
end
section
variable {X : Cx} {F : List Fn} {a b c tg el : Expr} {ia ib ic iel : IE} {it iu : IT} {pos apos cpos p1 p2 : Pos} {ss : List Stmt} {iss : List IS} {isr : Sr} {i : Nat} {cs : List IT}
theorem si_kseq (ha : PE X a (teE X.K F (.var i))) : PI X tg a (tiK X.K F false i) := by
  refine (pi_seq ha).imp fun σ H R q => ?_
  obtain ⟨n, w, μ, e, o, xs, wf, er, hi, ho, k⟩ := q
  refine ⟨n, w, μ, e, .pl i, e, wf, er, ?_, fun v H1 w1 a1 an => ?_⟩
  · unfold evE
    rw [hi]
    cases o with
    | sh => exact absurd rfl ho
    | own => rfl
    | mu => rfl
  · have hσ : σ[i]? = some (some v) := an
    obtain ⟨a', hr⟩ := lk_ref a1.env hi ho
    rw [hr] at hσ
    cases hσ
    obtain ⟨_, c, _⟩ := lk_slot a1.env hi ho hr
    obtain ⟨vs, hH, _⟩ := cn_list c
    exact .inl ⟨a', vs, rfl, .inl (.inl hH), k a' H1 w1 a1 hr⟩
theorem si_kenum {es : List Expr} {kk : Nat} {tp : Pos} (hg : Gl X "enumerate") (hm : X.mg "enumerate" = none) (ha : PA X [a] (teA X.K F [.var i])) (hs : starEach [a] X.env = [(false, eval a X.env)]) :
    PI X (.Tuple es kk tp) (.Call (.Name "enumerate" p1) [a] [] pos) (tiK X.K F true i) := by
  refine (pi_enumA hg hm ha hs).imp fun σ H R q => ?_
  obtain ⟨n, w, μ, e, o, xs, wf, er, hi, ho, k⟩ := q
  refine one_in ⟨n, w, μ, e, .pl i, e, wf, er, ?_, fun v H1 w1 a1 an => ?_⟩
  · unfold evE
    rw [hi]
    cases o with
    | sh => exact absurd rfl ho
    | own => rfl
    | mu => rfl
  · have hσ : σ[i]? = some (some v) := an
    obtain ⟨a', hr⟩ := lk_ref a1.env hi ho
    rw [hr] at hσ
    cases hσ
    obtain ⟨_, c, _⟩ := lk_slot a1.env hi ho hr
    obtain ⟨vs, hH, _⟩ := cn_list c
    exact ⟨a', vs, rfl, .inl ⟨.inl (.inl hH), k a' H1 w1 a1 hr⟩⟩
theorem ss_forK {pt : Pt} {en : Bool} (hp : PassesOwn (model X.prog X.w) X.A X.env X.xe) (hc : X.calm = true) (hi : PI X tg a (tiK X.K F en i)) (hg : PG X tg (tgP X.K pt)) (hb : PSs X ss (tsSs X.K F iss)) (hs : ∀ x, foldedSetIterable a X.env x = pure x) :
    PS X (.For tg a ss [] pos) (tsS X.K F (.forrk pt en i iss)) := by
  refine (ps_for hp hc hi hg hb hs).imp fun D σ H q => ?_
  obtain ⟨w, μ, e, wf, er, k⟩ := q
  simp only [evS] at k
  split at k
  · rename_i o xs hl
    obtain ⟨hi', ho⟩ := lkG_at hl
    refine ⟨0, w, μ, e, o, xs, wf, er, hi', ho, fun p H1 w1 a1 hσ => ?_⟩
    obtain ⟨_, _, hv⟩ := lk_slot a1.env hi' ho hσ
    have er1 := lk_env a1.env hi' ho hσ
    replace k := unl_out (v := .ref p) ho hv k
    generalize hst : (fun d e2 => match stPt pt d e2 with
      | some e3 => evSs F iss e3
      | none => Ou.no) = step at k
    refine ⟨fun t m σ' H' => ∃ w' e', AftS X.K (mu1 μ i (.ref p)) e' H w σ' H' w' ∧ OutR X.K (mu1 μ i (.ref p)) H w D (forK i en step m t e'), ⟨sizeLine + 1, w1, _, ⟨a1.stp, a1.wf, er1⟩, k⟩, ?_⟩
    rintro t m σ' H' ⟨w', e', a2, k2⟩
    cases m with
    | zero => exact k2.elim
    | succ m =>
      simp only [forK] at k2
      cases hx : lkN e' i with
      | none => simp only [hx] at k2; exact k2.elim
      | some zs =>
        simp only [hx] at k2
        have hs' := lkN_at hx
        have hmu : (mu1 μ i (.ref p)) i = some (.ref p) := by unfold mu1; rw [if_pos rfl]
        obtain ⟨u, u1, u2, u3⟩ := a2.env.at_ i _ _ hs'
        have hu := u3 rfl
        rw [hmu] at hu
        cases hu
        obtain ⟨_, c, _⟩ := lk_slot a2.env hs' (by intro z; cases z) u1
        obtain ⟨vs, hH, ra⟩ := cn_list c
        cases hz : zs[t]? with
        | none =>
          simp only [hz] at k2
          refine .inl ⟨itK_stop hH ?_, k2 _ _ _ a2⟩
          rw [ra.length]
          exact List.getElem?_eq_none_iff.mp hz
        | some d =>
          simp only [hz] at k2
          obtain ⟨xv, hxv, r⟩ := ra.get hz
          refine .inr ⟨itK_go hH hxv, fun σ' H' => ∃ w' e', AftS X.K (mu1 μ i (.ref p)) e' H w σ' H' w' ∧ OutR X.K (mu1 μ i (.ref p)) H w D (forK i en step m (t + 1) e'), fun σ5 H5 h5 => ⟨m, Nat.lt_succ_self m, h5⟩, fun x H2 y => ?_⟩
          obtain ⟨s2, hk, wf2, r2⟩ := itK_yld a2.wf hH hxv r y
          have st2 : Stp (fun _ => True) H' w' H2 w' := ⟨s2, fun _ _ _ => Iff.rfl, fun b l _ hb => hk b l hb⟩
          have a3 : AftS X.K (mu1 μ i (.ref p)) e' H2 w' σ' H2 w' := .refl wf2 (a2.env.mono st2 fun _ => trivial)
          have b3 : Stp (keepE 0) H w H2 w' := a2.stp.trans (st2.weak fun _ _ => trivial)
          subst hst
          cases hpt : stPt pt (kItm en t d) e' with
          | none => simp only [hpt] at k2; exact k2.elim
          | some e3 =>
            simp only [hpt] at k2
            refine stPt_ok a3 r2 hpt fun σ3 w3 a4 => ⟨w3, mu1 μ i (.ref p), e3, a4.wf, a4.env, ?_⟩
            have b4 := b3.trans a4.stp
            cases hr : evSs F iss e3 with
            | nx e5 => simp only [hr] at k2; exact fun σ5 H5 w5 a5 => ⟨w5, e5, ⟨b4.trans a5.stp, a5.wf, a5.env⟩, k2⟩
            | ct e5 => simp only [hr] at k2; exact fun σ5 H5 w5 a5 => ⟨w5, e5, ⟨b4.trans a5.stp, a5.wf, a5.env⟩, k2⟩
            | bk e5 => simp only [hr] at k2; exact fun σ5 H5 w5 a5 => k2 σ5 H5 w5 ⟨b4.trans a5.stp, a5.wf, a5.env⟩
            | rt f d e5 => simp only [hr] at k2; exact fun v σ5 H5 w5 a5 an => k2 v σ5 H5 w5 ⟨b4.trans a5.stp, a5.wf, a5.env⟩ an
            | no => simp only [hr] at k2; exact k2
            | ex c d e5 => simp only [hr] at k2; exact k2
  · exact k.elim
theorem lc_inK {pt : Pt} {en : Bool} {vs : List Nat} (hpt : ptIn vs pt) (σ : L2.St) (H : Hp) (Q : VK) (q : teE X.K F (.compk iel pt en i cs vs) σ H Q) : tLc (tiK X.K F en i) (tgP X.K pt) (teC X.K F cs) (teE X.K F iel) vs σ H Q := by
  obtain ⟨n, w, μ, e, z, e', wf, er, ev, k⟩ := q
  unfold evE at ev
  split at ev
  · rename_i o xs hl
    obtain ⟨hi', ho⟩ := lkG_at hl
    refine ⟨n, w, μ, e, o, xs, wf, er, hi', ho, fun p H1 w1 a1 hσ D hD => ?_⟩
    obtain ⟨_, _, hv⟩ := lk_slot a1.env hi' ho hσ
    have er1 := lk_env a1.env hi' ho hσ
    generalize he1 : e.set i (some ⟨.mu, .list xs⟩) = e1 at ev er1
    have hie : e1[i]? = some (some ⟨.mu, .list xs⟩) := by
      rw [← he1]
      exact List.getElem?_set_self (List.getElem?_eq_some_iff.mp hi').1
    split at ev
    · rename_i hb
      have hni : i ∉ vs := fun z => by
        have := ownSh_at hb z hie
        cases this
      obtain ⟨ds, e7, h7, ev2⟩ := Rs.bind_ok ev
      split at ev2
      · rename_i e8 h8
        cases ev2
        generalize hst : (fun d e2 => match stPt pt d (wipeE e2 vs) with
            | some e3 => (evC F cs e3).bind fun b e4 => if b = true then (evE F iel e4).bind fun x e5 => match fzA x e5 with
                | some (d, e6) => Rs.ok (some d) e6
                | none => .no
              else .ok none e4
            | none => Rs.no) = step at h7
        have wD := a1.wf D hD
        have st0 := own1_stp (o := .lst []) (n := n) a1.wf hD
        refine ⟨fun t m H' => ∃ w' e2 acc done rest, Stp (keepE n) H w H' w' ∧ Wf H' w' ∧ EnvR X.K H' w' (mu1 μ i (.ref p)) (wipe σ vs) (wipeE e2 vs) ∧ Sty H1 w1 H' w' ∧ H' D = some (.lst acc) ∧ w' D = some (.tmp n) ∧ RpAll X.K H' w' acc done ∧ done.length ≤ t ∧ m + t = sizeLine + 1 ∧
          compK i en step m t e2 = .ok rest e7 ∧ done ++ rest = ds, ⟨sizeLine + 1, own1 w1 D (.tmp n), e1, [], [], ds, a1.stp.trans (st0.weak keepP.e), own1_wf a1.wf, wipe_env (er1.mono st0 fun i z => by cases z), st0.sh, upd_same, own1_at, .nil, Nat.zero_le _, rfl, h7, rfl⟩, ?_⟩
        rintro t m H' ⟨w', e2, acc, done, rest, sp, wf', er', s, hDl, hDw, ra, hdn, hmt, hcl, hds⟩
        cases m with
        | zero => cases hcl
        | succ m =>
          simp only [compK] at hcl
          cases hx : lkN e2 i with
          | none => simp only [hx] at hcl; cases hcl
          | some zs =>
            simp only [hx] at hcl
            have hs2 := lkN_at hx
            have hs' : (wipeE e2 vs)[i]? = some (some ⟨.mu, .list zs⟩) := by rw [wipeE_at hni]; exact hs2
            have hmu : (mu1 μ i (.ref p)) i = some (.ref p) := by unfold mu1; rw [if_pos rfl]
            obtain ⟨u, u1, u2, u3⟩ := er'.at_ i _ _ hs'
            have hu := u3 rfl
            rw [hmu] at hu
            cases hu
            obtain ⟨_, c, _⟩ := lk_slot er' hs' (by intro z; cases z) u1
            obtain ⟨ws, hH, rw'⟩ := cn_list c
            cases hz : zs[t]? with
            | none =>
              simp only [hz] at hcl
              cases hcl
              rw [List.append_nil] at hds
              subst hds
              refine .inl ⟨itK_stop hH ?_, ?_⟩
              · rw [rw'.length]
                exact List.getElem?_eq_none_iff.mp hz
              · refine k (.ref D) H' w' ⟨sp, wf', unlk_env (v := .ref p) ⟨by rw [backE_length]; have := er'.len; rw [wipe_length, wipeE_length] at this; exact this, fun j o d h => ?_⟩ h8 ho hv⟩ ⟨D, rfl, hDw, .lst hDl ra⟩
                by_cases hj : j ∈ vs
                · have h0 := backE_in hj h
                  have ho := ownSh_at hb hj h0
                  subst ho
                  obtain ⟨v, v1, v2, v3⟩ := er1.at_ j _ d h0
                  exact ⟨v, v1, Rp.mono s v2, v3⟩
                · rw [backE_at hj] at h
                  obtain ⟨v, v1, v2, v3⟩ := er'.at_ j o d (by rw [wipeE_at hj]; exact h)
                  rw [wipe_at hj] at v1
                  exact ⟨v, v1, v2, v3⟩
            | some d =>
              simp only [hz] at hcl
              obtain ⟨xv, hxv, r⟩ := rw'.get hz
              refine .inr ⟨itK_go hH hxv, fun H' => ∃ w' e2 acc done rest, Stp (keepE n) H w H' w' ∧ Wf H' w' ∧ EnvR X.K H' w' (mu1 μ i (.ref p)) (wipe σ vs) (wipeE e2 vs) ∧ Sty H1 w1 H' w' ∧ H' D = some (.lst acc) ∧ w' D = some (.tmp n) ∧ RpAll X.K H' w' acc done ∧ done.length ≤ t + 1 ∧ m + (t + 1) = sizeLine + 1 ∧
                compK i en step m (t + 1) e2 = .ok rest e7 ∧ done ++ rest = ds, fun H5 h5 => ⟨m, Nat.lt_succ_self m, h5⟩, fun x H2 y => ?_⟩
              obtain ⟨s2, hk, wf2, r2⟩ := itK_yld wf' hH hxv r y
              have st2 : Stp (fun _ => True) H' w' H2 w' := ⟨s2, fun _ _ _ => Iff.rfl, fun b l _ hb => hk b l hb⟩
              obtain ⟨rr, e5, h5, hcl⟩ := Rs.bind_ok hcl
              obtain ⟨rs, e6, h6, hcl⟩ := Rs.bind_ok hcl
              have hmp : 1 ≤ m := by
                cases m with
                | zero => cases h6
                | succ m => omega
              subst hst
              cases hst' : stPt pt (kItm en t d) (wipeE e2 vs) with
              | none => simp only [hst'] at h5; cases h5
              | some e3 =>
                simp only [hst'] at h5
                obtain ⟨bb, e4, h8', h5⟩ := Rs.bind_ok h5
                have hD2 : H2 D = some (.lst acc) := (hk D _ hDw).trans hDl
                refine tgP_wipe hpt wipe_wipe (stPt_ok0 wf2 (er'.mono st2 fun _ => trivial) r2 hst' fun σ3 w3 s3 wf3 er3 hσ3 => ?_)
                have sp3 : Stp (keepE n) H w H2 w3 := (sp.trans (st2.weak fun _ _ => trivial)).trans (s3.weak keepT_e)
                have ss3 : Sty H' w' H2 w3 := fun p o h0 h1 => let ⟨x1, x2⟩ := s2 p o h0 h1; s3.sh p o x1 x2
                have hDw3 : w3 D = some (.tmp n) := (s3.kp D _ fun i z => by cases z).mpr hDw
                refine ⟨n + 1, w3, mu1 μ i (.ref p), e3, bb, e4, wf3, er3, h8', fun H4 w4 a4 => ?_⟩
                have sp4 : Stp (keepE n) H w H4 w4 := sp3.trans (a4.stp.weak (keepE.le (Nat.le_succ n)))
                have ss4 : Sty H' w' H4 w4 := fun p o h0 h1 => let ⟨x1, x2⟩ := ss3 p o h0 h1; a4.stp.sh p o x1 x2
                have hD4 : H4 D = some (.lst acc) := (a4.stp.kh D (.tmp n) (Nat.lt_succ_self n) hDw3).trans hD2
                have hDw4 : w4 D = some (.tmp n) := (a4.stp.kp D (.tmp n) (Nat.lt_succ_self n)).mpr hDw3
                cases bb with
                | false =>
                  rw [if_neg Bool.false_ne_true] at h5
                  cases h5
                  rw [h6] at hcl
                  cases hcl
                  refine iteF ⟨w4, _, acc, done, _, sp4, a4.wf, hσ3 ▸ wipe_env a4.env, fun p o h0 h1 => let ⟨x1, x2⟩ := s p o h0 h1; ss4 p o x1 x2, hD4, hDw4, ra.mono ss4, Nat.le_succ_of_le hdn, by omega, h6, hds⟩
                | true =>
                  rw [if_pos rfl] at h5
                  obtain ⟨x5, e5', h9, h10⟩ := Rs.bind_ok h5
                  refine iteT ⟨n + 1, w4, mu1 μ i (.ref p), e4, x5, e5', a4.wf, a4.env, h9, fun yv H5 w5 a5 an5 => ?_⟩
                  cases hf : fzA x5 e5' with
                  | none => rw [hf] at h10; cases h10
                  | some p =>
                    obtain ⟨dd, e8⟩ := p
                    rw [hf] at h10
                    cases h10
                    rw [h6] at hcl
                    cases hcl
                    obtain ⟨w6, a6, r6⟩ := a5.fz an5 (Nat.le_refl (n + 1)) hf
                    have sp6 : Stp (keepE n) H w H5 w6 := sp4.trans (a6.stp.weak (keepE.le (Nat.le_succ n)))
                    have ss6 : Sty H' w' H5 w6 := fun p o h0 h1 => let ⟨x1, x2⟩ := ss4 p o h0 h1; a6.stp.sh p o x1 x2
                    have hD6 : H5 D = some (.lst acc) := (a6.stp.kh D (.tmp n) (Nat.lt_succ_self n) hDw4).trans hD4
                    have hDw6 : w6 D = some (.tmp n) := (a6.stp.kp D (.tmp n) (Nat.lt_succ_self n)).mpr hDw4
                    have su : Stp (keepP n) H5 w6 (upd H5 D (.lst (acc ++ [yv]))) w6 := ⟨sty_own hDw6, fun _ _ _ => Iff.rfl, fun b l hl hb => upd_ne fun z => by
                      rw [z, hDw6] at hb
                      exact hl (Option.some.inj hb).symm⟩
                    refine ⟨acc, hD6, by rw [ra.length]; omega, w6, _, acc ++ [yv], done ++ [dd], _, sp6.trans (su.weak keepP.e), fun b hb => ?_, ?_, fun p o h0 h1 => let ⟨x1, x2⟩ := s p o h0 h1; let ⟨x3, x4⟩ := ss6 p o x1 x2; su.sh p o x3 x4, upd_same, hDw6, ((ra.mono ss6).mono su.sh).append (.cons (Rp.mono su.sh r6) .nil), by rw [List.length_append]; exact Nat.succ_le_succ hdn, by omega, h6, by rw [← hds, List.append_assoc]; rfl⟩
                    · by_cases z : b = D
                      · rw [z, upd_same] at hb; cases hb
                      · rw [upd_ne z] at hb; exact a6.wf b hb
                    · exact hσ3 ▸ wipe_env (a6.env.mono su fun i z => by cases z)
      · cases ev2
    · cases ev
  · cases ev
end
end PD
/-! PD6f: a dict written with its entries. -/
namespace PD
open PySem PySem.Spec PyProof.Rows L2
section
variable {K : PySem.W.Frag} {F : List Fn}
def trsOf (K : PySem.W.Frag) (F : List Fn) : List Key → List IE → List (TE × TE)
  | k :: ks, i :: is => (tC (kV k), teE K F i) :: trsOf K F ks is
  | _, _ => []
theorem pairs_in : ∀ {ks : List Key} {is : List IE} {σ : L2.St} {H : Hp} {Q : List (V × V) → Hp → Prop} {n : Nat} {w : Wh} {μ : Nat → Option V} {e : En} {as : List Ans} {e' : En}, ks.length = is.length → Wf H w → EnvR K H w μ σ e → evEs F is e = .ok as e' →
    (∀ vs H' w', Aft K n μ σ e' H w H' w' → AnsRs K H' w' σ n vs as → Q (List.zipWith (fun k v => (kV k, v)) ks vs) H') → tPairs (trsOf K F ks is) σ H Q
  | [], [], σ, H, Q, n, w, μ, e, as, e', hl, wf, er, ev, k => by
    cases ev
    exact k [] H w (.refl wf er) (.nil n)
  | kk :: ks, i :: is, σ, H, Q, n, w, μ, e, as, e', hl, wf, er, ev, k => by
    unfold evEs at ev
    obtain ⟨x, e1, h1, ev⟩ := Rs.bind_ok ev
    obtain ⟨xs, e2, h2, ev⟩ := Rs.bind_ok ev
    cases ev
    show tC (kV kk) σ H fun kx H1 => teE K F i σ H1 fun v H2 => tPairs (trsOf K F ks is) σ H2 fun ps H3 => Q ((kx, v) :: ps) H3
    refine ⟨n, w, μ, e, x, e1, wf, er, h1, fun v H1 w1 a1 an1 => ?_⟩
    exact pairs_in (n := n + 1) (by simpa using hl) a1.wf a1.env h2 fun vs H2 w2 a2 an2 => k (v :: vs) H2 w2 (a1.trans a2 (Nat.le_succ n)) (.cons (an1.mono a2.stp (Nat.lt_succ_self n)) an2)
  | [], _ :: _, _, _, _, _, _, _, _, _, _, hl, _, _, _, _ => by simp at hl
  | _ :: _, [], _, _, _, _, _, _, _, _, _, hl, _, _, _, _ => by simp at hl
theorem merge_ks {H : Hp} {w : Wh} : ∀ {ks : List Key} {vs : List V} {ds : List D} {acc : List (Key × V)} {ad : List (D × D)}, RpAll K H w vs ds → ks.length = vs.length → RpKs K H w acc ad → RpKs K H w (mergeK acc (List.zipWith (fun k v => (k, v)) ks vs)) (zipDic (ks.map keyD) ds ad)
  | [], _, _, acc, ad, .nil, _, h => h
  | k :: ks, v :: vs, d :: ds, acc, ad, .cons a b, hl, h => by
    have q := merge_ks (ks := ks) b (by simpa using hl) (put_ks (k := k) a h)
    exact q
  | [], _, _, _, _, .cons _ _, hl, _ => by simp at hl
  | _ :: _, _, _, _, _, .nil, hl, _ => by simp at hl
end
section
variable {X : Cx} {F : List Fn} {pos : Pos}
/-- the written keys -/
inductive KeyE (X : Cx) : List (Option Expr) → List Key → Prop
  | nil : KeyE X [] []
  | cons {e : Expr} {k : Key} {es : List (Option Expr)} {ks : List Key} : PE X e (tC (kV k)) → KeyE X es ks → KeyE X (some e :: es) (k :: ks)
inductive ValE (X : Cx) (F : List Fn) : List Expr → List IE → Prop
  | nil : ValE X F [] []
  | cons {e : Expr} {i : IE} {es : List Expr} {is : List IE} : PE X e (teE X.K F i) → ValE X F es is → ValE X F (e :: es) (i :: is)
theorem pps_of : ∀ {kes : List (Option Expr)} {ks : List Key} {ves : List Expr} {is : List IE}, KeyE X kes ks → ValE X F ves is → ks.length = is.length → PPs X pos kes ves (trsOf X.K F ks is)
  | _, _, _, _, .nil, .nil, _ => pps_nil
  | _, _, _, _, .cons a b, .cons c d, hl => pps_cons a c (pps_of b d (by simpa using hl))
  | _, _, _, _, .nil, .cons _ _, hl => by simp at hl
  | _, _, _, _, .cons _ _, .nil, hl => by simp at hl
theorem keyE_all : ∀ {kes : List (Option Expr)} {ks : List Key}, KeyE X kes ks → kes.all (·.isSome) = true ∧ kes.length = ks.length
  | _, _, .nil => ⟨rfl, rfl⟩
  | _, _, .cons _ b => ⟨(keyE_all b).1, congrArg (· + 1) (keyE_all b).2⟩
theorem valE_len : ∀ {es : List Expr} {is : List IE}, ValE X F es is → es.length = is.length
  | _, _, .nil => rfl
  | _, _, .cons _ b => congrArg (· + 1) (valE_len b)
theorem evEs_len : ∀ {is : List IE} {e e' : En} {as : List Ans}, evEs F is e = .ok as e' → as.length = is.length
  | [], e, e', as, h => by cases h; rfl
  | i :: is, e, e', as, h => by
    unfold evEs at h
    obtain ⟨x, e1, h1, h⟩ := Rs.bind_ok h
    obtain ⟨xs, e2, h2, h⟩ := Rs.bind_ok h
    cases h
    exact congrArg (· + 1) (evEs_len h2)
theorem ansRs_len {K : PySem.W.Frag} {H : Hp} {w : Wh} {σ : L2.St} : ∀ {n : Nat} {vs : List V} {as : List Ans}, AnsRs K H w σ n vs as → vs.length = as.length
  | _, _, _, .nil _ => rfl
  | _, _, _, .cons _ b => congrArg (· + 1) (ansRs_len b)
theorem zip_map {ks : List Key} {vs : List V} : List.zipWith (fun k v => (kV k, v)) ks vs = (List.zipWith (fun k v => (k, v)) ks vs).map fun kv => (kV kv.1, kv.2) := by
  induction ks generalizing vs with
  | nil => rfl
  | cons k ks ih =>
    cases vs with
    | nil => rfl
    | cons v vs => simp only [List.zipWith_cons_cons, List.map_cons, ih]
theorem se_dic {kes : List (Option Expr)} {ks : List Key} {ves : List Expr} {is : List IE} (hk : KeyE X kes ks) (hv : ValE X F ves is) (hl : ks.length = is.length) (h0 : kes ≠ []) (h15 : kes.length ≤ 15) : PE X (.Dict kes ves pos) (teE X.K F (.dic (ks.map keyD) is)) := by
  have hkl := keyE_all hk
  refine (pe_disp (pps_of hk hv hl) hkl.1 (by rw [hkl.2, hl, valE_len hv]) h0 h15).imp fun σ H Q q => ?_
  obtain ⟨n, w, μ, e, z, e', wf, er, ev, k⟩ := q
  unfold evE at ev
  obtain ⟨as, e1, h1, ev⟩ := Rs.bind_ok ev
  split at ev
  · rename_i ds e2 hf
    cases ev
    intro p hp
    have s0 := own1_stp (o := .dK []) (n := n) wf hp
    have wf0 : Wf (upd H p (.dK [])) (own1 w p (.tmp n)) := own1_wf wf
    refine pairs_in (n := n + 1) hl wf0 (er.mono s0 fun i z => by cases z) h1 fun vs H2 w2 a2 an2 => ?_
    obtain ⟨w3, a3, r3⟩ := a2.fzs an2 (Nat.le_refl (n + 1)) hf
    have hH : H2 p = some (.dK []) := (a3.stp.kh p (.tmp n) (Nat.lt_succ_self n) own1_at).trans upd_same
    have hw : w3 p = some (.tmp n) := (a3.stp.kp p (.tmp n) (Nat.lt_succ_self n)).mpr own1_at
    have hvl : vs.length = ks.length := by rw [r3.length, hl, ← evEs_len h1, ← ansRs_len an2, r3.length]
    refine ⟨hH, List.zipWith (fun k v => (k, v)) ks vs, zip_map, ?_, ?_⟩
    · rw [List.length_zipWith, hvl, Nat.min_self, ← hkl.2]
      exact h15
    · have su : Stp (keepP n) H2 w3 (upd H2 p (.dK (mergeK [] (List.zipWith (fun k v => (k, v)) ks vs)))) w3 := ⟨sty_own hw, fun _ _ _ => Iff.rfl, fun b l hl hb => upd_ne fun z => by
        rw [z, hw] at hb
        exact hl (Option.some.inj hb).symm⟩
      refine k _ _ w3 ⟨((s0.weak keepP.e).trans (a3.stp.weak (keepE.le (Nat.le_succ n)))).trans (su.weak keepP.e), fun b hb => ?_, a3.env.mono su fun i z => by cases z⟩ ⟨p, rfl, hw, .dk upd_same (merge_ks (r3.mono su.sh) hvl.symm .nil)⟩
      by_cases z : b = p
      · rw [z, upd_same] at hb; cases hb
      · rw [upd_ne z] at hb; exact a3.wf b hb
  · cases ev
end
end PD
/-! PD3e: a list or tuple times a whole number; turned about. -/
namespace PD
open PySem PySem.Spec PyProof.Rows L2
theorem tuple_mulW1 (l : Addr) (items : Array Value) (n : Nat) (dd : Option Addr) (sl : Array (Option Value)) (x : Int) (u : Tok) (c0 : (decide (x < -(2 ^ 63)) || decide (x ≥ 2 ^ 63)) = false) (c1 : (items.isEmpty || x == 1) = true) :
    Meets (Builtin.«tuple.__mul__» ⟨[.ref l, .int x u], []⟩) (fun _ R s => s.heap.get? l = some { cls := .type "tuple", dict := dd, data := .seq items n, slots := sl } ∧
      R (.ok (.ret (Value.ref l))) { s with heap := s.heap, toks := s.toks }) :=
  .of_wp fun prog w A R s h => by
    obtain ⟨hp, g, d, tk, os⟩ := s
    obtain ⟨hl, h⟩ := h
    have f1 := AutoSeq1.idx_int
    wp_walk using wpAny_loadPart' hl
    repeat (first
      | (refine wpAny_ite_false (decide_eq_false (by rw [c0]; exact Bool.false_ne_true)) ?_; wp_walk using wpAny_loadPart' hl)
      | (refine wpAny_ite_true (decide_eq_true c1) ?_; wp_walk using wpAny_loadPart' hl))
    exact ⟨_, rfl, h⟩
theorem tuple_mulW2 (l : Addr) (items : Array Value) (n : Nat) (dd : Option Addr) (sl : Array (Option Value)) (x : Int) (u : Tok) (c0 : (decide (x < -(2 ^ 63)) || decide (x ≥ 2 ^ 63)) = false) (c1 : (items.isEmpty || x == 1) = false) (c2 : (decide (x ≤ 0) || items.isEmpty) = true) :
    Meets (Builtin.«tuple.__mul__» ⟨[.ref l, .int x u], []⟩) (fun _ R s => s.heap.get? l = some { cls := .type "tuple", dict := dd, data := .seq items n, slots := sl } ∧
      R (.ok (.ret (Value.ref s.heap.objs.size))) { s with heap := s.heap.push { cls := Value.type "tuple", data := Data.seq #[] }, toks := s.toks }) :=
  .of_wp fun prog w A R s h => by
    obtain ⟨hp, g, d, tk, os⟩ := s
    obtain ⟨hl, h⟩ := h
    have f1 := AutoSeq1.idx_int
    wp_walk using wpAny_loadPart' hl
    repeat (first
      | (refine wpAny_ite_false (decide_eq_false (by rw [c0]; exact Bool.false_ne_true)) ?_; wp_walk using wpAny_loadPart' hl)
      | (refine wpAny_ite_false (decide_eq_false (by rw [c1]; exact Bool.false_ne_true)) ?_; wp_walk using wpAny_loadPart' hl)
      | (refine wpAny_ite_true (decide_eq_true c2) ?_; wp_walk using wpAny_loadPart' hl))
    all_goals first
      | exact ⟨_, rfl, h⟩
      | (refine wpAny_ite_false (decide_eq_false (Nat.not_lt.mpr (Nat.zero_le _))) ?_; wp_walk using wpAny_loadPart' hl; exact ⟨_, rfl, h⟩)
theorem list_mulW (l : Addr) (items : Array Value) (n : Nat) (dd : Option Addr) (sl : Array (Option Value)) (x : Int) (u : Tok) (hc0 : ¬(!Builtin.List.listFitsIndex x) = true) (hc1 : ¬items.size * x.toNat > (2 ^ 63 - 1) / 8) (hc2 : ¬Builtin.List.listTooLong (items.size * x.toNat) = true) :
    Meets (Builtin.«list.__mul__» ⟨[.ref l, .int x u], []⟩) (fun _ R s => s.heap.get? l = some { cls := .type "list", dict := dd, data := .seq items n, slots := sl } ∧ R (.ok (.ret (Value.ref s.heap.objs.size))) { s with heap := s.heap.push { cls := Value.type "list", data := Data.seq (List.foldl (fun x1 x2 => x1 ++ x2) #[] (List.replicate (if items.isEmpty = true then 0 else x.toNat) items)) }, toks := s.toks }) :=
  .of_wp fun prog w A R s h => by
    obtain ⟨hp, g, d, tk, os⟩ := s; obtain ⟨hl, h⟩ := h
    have hsz := AutoListH.joined_fits hc2
    wp_walk using wpAny_loadPart' hl; refine wpAny_ite_false (decide_eq_false (Nat.not_lt.mpr hsz)) ?_; wp_walk using wpAny_loadPart' hl; exact ⟨_, rfl, h⟩
theorem int_rmul_list (a : Int) (t : Tok) (l : Addr) (items : Array Value) (n : Nat) (dd : Option Addr) (sl : Array (Option Value)) :
    Meets (Builtin.«int.__rmul__» ⟨[.int a t, .ref l], []⟩) (fun _ R s => s.heap.get? l = some { cls := .type "list", dict := dd, data := .seq items n, slots := sl } ∧ R (.ok (.ret Value.notImplemented)) s) :=
  .of_wp fun prog w A R s h => by obtain ⟨hp, g, d, tk, os⟩ := s; obtain ⟨hl, h⟩ := h; wp_walk using wpAny_loadPart' hl; exact ⟨_, rfl, h⟩
section
variable {X : Cx}
def rRepS (K : PySem.W.Frag) : R2 := fun x y H Q => ∃ l k xs, x = .ref l ∧ y = .int k ∧ SqL K H l xs ∧ -(2 ^ 62) < k ∧ k < 2 ^ 62 ∧ xs.length * k.toNat ≤ sizeLine ∧
  ∀ p, H p = none → Q (.ref p) (upd H p (.lst (List.replicate k.toNat xs).flatten))
theorem op_repS : OpR X (binaryOp .Mult) (rRepS X.K) := by
  intro pins s σ H x y v u Q I rx ry h
  obtain ⟨l, k, xs, rfl, rfl, hH, h1, h2, hz, q⟩ := h
  cases rx
  obtain ⟨t, rfl⟩ := ry
  obtain ⟨its, r, ⟨⟨cls, dd, data, sl⟩, n, e, ec, ed, edt⟩, hl'⟩ := I.list hH
  simp only at ec ed edt
  subst ec ed edt
  have hl : its.length = xs.length := r.length.symm
  have hlen : its.toArray.size * k.toNat ≤ sizeLine := by rw [List.size_toArray, hl]; exact hz
  have hcap : ¬ its.toArray.size * k.toNat > (2 ^ 63 - 1) / 8 := by
    have : (sizeLine : Nat) ≤ (2 ^ 63 - 1) / 8 := by decide
    omega
  have hfit : ¬ (!Builtin.List.listFitsIndex k) = true := by
    rw [fitsIndex_both (by omega) (by omega)]
    exact Bool.false_ne_true
  have hlong : ¬ Builtin.List.listTooLong (its.toArray.size * k.toNat) = true := by
    rw [notLongL hlen]
    exact Bool.false_ne_true
  have hnew : List.foldl (fun x1 x2 => x1 ++ x2) #[] (List.replicate (if its.toArray.isEmpty = true then 0 else k.toNat) its.toArray) = (List.replicate k.toNat its).flatten.toArray := by
    rw [size_rep]
    cases its with
    | nil => simp
    | cons a r' => rw [if_neg (by simp)]
  refine wpAny_binaryOp_repeat_ref (T := "list") (U := "int") (by decide) ⟨_, e, rfl⟩ (fun s' => typeIs_int s' k t) noFill_list_mul F.fills_int_mul F.slot_int_rmul repeat_list F.slot_int_index.lookup
    (call_meets F.slot_int_rmul (typeIs_int s k t) F.entry_int_rmul (F.args_int_rmul_2 _ _) (int_rmul_list k t l its.toArray n none sl)
      ⟨e, rfl, ⟨_, e, rfl⟩, call_meets F.slot_list_mul ⟨_, e, rfl⟩ F.entry_list_mul (F.args_list_mul_2 _ _) (list_mulW l its.toArray n none sl k t hfit hcap hlong) ⟨e, ?_⟩⟩)
  rw [hnew]
  exact ⟨.ref _, _, I.lnew (t' := s.toks) (r.rep k.toNat) (by rw [PyProof.Rows.lm_len_rep_flat, Nat.mul_comm]; exact hz), rfl, q _ I.fresh⟩
def rRepA (K : PySem.W.Frag) : R2 := fun x y H Q => ∃ l k xs, x = .ref l ∧ y = .int k ∧ SqT K H l xs ∧ -(2 ^ 62) < k ∧ k < 2 ^ 62 ∧ xs.length * k.toNat ≤ sizeLine ∧
  (xs = [] ∨ k = 1 → Q (.ref l) H) ∧ ∀ p, H p = none → Q (.ref p) (upd H p (.tup (List.replicate k.toNat xs).flatten))
theorem op_repA : OpR X (binaryOp .Mult) (rRepA X.K) := by
  intro pins s σ H x y v u Q I rx ry h
  obtain ⟨l, k, xs, rfl, rfl, hT, h1, h2, hz, q0, q⟩ := h
  cases rx
  obtain ⟨t, rfl⟩ := ry
  obtain ⟨its, r, ⟨⟨cls, dd, data, sl⟩, ho, hc, n, hd⟩, hs⟩ := I.tuple hT
  simp only at hc hd
  subst hc hd
  have hle : its.length = xs.length := r.length.symm
  have hsz0 : its.toArray.size = xs.length := by rw [List.size_toArray, hle]
  have c0 : (decide (k < -(2 ^ 63)) || decide (k ≥ 2 ^ 63)) = false := by
    rw [decide_eq_false (by omega), decide_eq_false (by omega)] <;> rfl
  have flen : (List.replicate k.toNat its).flatten.length ≤ sizeLine := by
    rw [PyProof.Rows.lm_len_rep_flat, hle, Nat.mul_comm]
    exact hz
  have road : ∀ {Q' : Value → Shared → Prop}, _ → wpAny (model X.prog X.w) X.A (binaryOp .Mult (.ref l) (.int k t)) Q' X.xe s := fun {Q'} m =>
    wpAny_binaryOp_repeat_ref (T := "tuple") (U := "int") (by decide) ⟨_, ho, rfl⟩ (fun s' => typeIs_int s' k t) noFill_tuple_mul F.fills_int_mul F.slot_int_rmul repeat_tuple F.slot_int_index.lookup
      (call_meets F.slot_int_rmul (typeIs_int s k t) F.entry_int_rmul (F.args_int_rmul_2 _ _) (int_rmul_tuple k t l its.toArray n dd sl)
        ⟨ho, rfl, ⟨_, ho, rfl⟩, m⟩)
  by_cases c1 : (its.toArray.isEmpty || k == 1) = true
  · refine road (call_meets F.slot_tuple_mul ⟨_, ho, rfl⟩ F.entry_tuple_mul (F.args_tuple_mul_2 _ _) (tuple_mulW1 l its.toArray n dd sl k t c0 c1) ⟨ho, ?_⟩)
    refine ⟨.ref l, H, I, rfl, q0 ?_⟩
    rw [Bool.or_eq_true] at c1
    rcases c1 with c1 | c1
    · have : its = [] := by simpa using c1
      subst this
      exact .inl (List.eq_nil_of_length_eq_zero hle.symm)
    · exact .inr (by simpa using c1)
  · have c1 : (its.toArray.isEmpty || k == 1) = false := Bool.eq_false_iff.mpr c1
    have hi : its.toArray.isEmpty = false := (Bool.or_eq_false_iff.mp c1).1
    have hk1 : k ≠ 1 := beq_eq_false_iff_ne.mp (Bool.or_eq_false_iff.mp c1).2
    have hpos : 0 < xs.length := by
      rw [← hle]
      cases its with
      | nil => cases hi
      | cons a b => exact Nat.succ_pos _
    by_cases hk : k ≤ 0
    · have c2 : (decide (k ≤ 0) || its.toArray.isEmpty) = true := by rw [decide_eq_true hk]; rfl
      refine road (call_meets F.slot_tuple_mul ⟨_, ho, rfl⟩ F.entry_tuple_mul (F.args_tuple_mul_2 _ _) (tuple_mulW2 l its.toArray n dd sl k t c0 c1 c2) ⟨ho, ?_⟩)
      have e0 : k.toNat = 0 := by omega
      rw [e0] at q
      refine ⟨.ref s.heap.objs.size, _, I.laid (t' := s.toks) (o := .tup []) (fun b ob q => Heap.get?_push_of_some _ q) (Nat.le_refl _) ?_, rfl, q _ (I.hok.fresh (Nat.le_refl _))⟩
      exact ⟨Nat.zero_le _, _, .nil, IsTup.new _ _⟩
    · have c2 : (decide (k ≤ 0) || its.toArray.isEmpty) = false := by rw [decide_eq_false hk, hi]; rfl
      have hm : ((its.toArray.size : Nat) : Int) * k = ((xs.length * k.toNat : Nat) : Int) := by
        rw [hsz0, Int.natCast_mul, Int.toNat_of_nonneg (by omega)]
      have c3 : ¬ ((its.toArray.size : Nat) : Int) * k > (2 ^ 63 - 1) / 8 := by
        rw [hm]
        have : (sizeLine : Nat) ≤ 1152921504606846975 := by decide
        omega
      have c4 : Builtin.Tuple.tupleTooMany (((its.toArray.size : Nat) : Int) * k) = false := by
        unfold Builtin.Tuple.tupleTooMany
        rw [hm]
        exact decide_eq_false (by omega)
      refine road (call_meets F.slot_tuple_mul ⟨_, ho, rfl⟩ F.entry_tuple_mul (F.args_tuple_mul_2 _ _) (tuple_mulW l its.toArray n dd sl k t c0 c1 c2 c3 c4 (by rw [size_rep, List.size_toArray]; exact flen)) ⟨ho, ?_⟩)
      rw [size_rep]
      refine ⟨.ref s.heap.objs.size, _, I.laid (t' := s.toks) (o := .tup (List.replicate k.toNat xs).flatten) (fun b ob q => Heap.get?_push_of_some _ q) (Nat.le_refl _) ?_, rfl, q _ (I.hok.fresh (Nat.le_refl _))⟩
      exact ⟨by rw [PyProof.Rows.lm_len_rep_flat, Nat.mul_comm]; exact hz, _, r.rep k.toNat, IsTup.new _ _⟩
def rMulU (K : PySem.W.Frag) : R2 := fun x y H Q => rI CMul (fun i j => .int (i * j)) x y H Q ∨ rRepS K x y H Q ∨ rRepA K x y H Q
theorem op_mulU : OpR X (binaryOp .Mult) (rMulU X.K) := OpR.or op_mul (OpR.or op_repS op_repA)
theorem pok_mul {K : PySem.W.Frag} : Pok2 K .mul (rMulU K) := by
  intro n H w v u x y d f Q wf hx hy hp g
  simp only [prim] at hp
  unfold pMul at hp
  split at hp
  · obtain rfl := hx.int
    obtain rfl := hy.int
    exact .inl (pok_mulI n H w _ _ d f Q wf hp g)
  · obtain ⟨a, xs, rfl, sx, rx⟩ := hx.list
    obtain rfl := hy.int
    split at hp
    · rename_i h
      cases hp
      exact .inr (.inl ⟨a, _, xs, rfl, rfl, sx, h.1, h.2.1, by rw [rx.length]; exact h.2.2, g.lst wf (rx.rep _)⟩)
    · cases hp
  · obtain ⟨a, xs, rfl, sx, rx, px⟩ := hx.tup
    obtain rfl := hy.int
    split at hp
    · rename_i h
      cases hp
      refine .inr (.inr ⟨a, _, xs, rfl, rfl, sx, h.1, h.2.1, by rw [rx.length]; exact h.2.2, fun e => ?_, g.tup wf (rx.rep _)⟩)
      rcases e with e | e
      · subst e
        cases rx
        rw [List.flatten_eq_nil_iff.mpr fun l hl => (List.mem_replicate.mp hl).2] at g
        exact g.same wf px
      · subst e
        simp only [Int.toNat_one, List.replicate_one, List.flatten_cons, List.flatten_nil, List.append_nil] at g
        exact g.same wf px
    · cases hp
  · cases hp
end
end PD
/-! PD6g: turned about by a slice. -/
namespace PD
open PySem PySem.Spec PyProof.Rows L2
section
variable {prog : Program} {w : World} {A : Around} {E : Value → Shared → Prop} {s : Shared}
theorem sliceApplied_rev {sl : Addr} {n : Nat} {t : Tok} {Q : Int × Int × Nat → Shared → Prop} (hs : s.heap.IsSliceOf sl .none .none (.int (-1) t))
    (h : Q ((n : Int) - 1, -1, n) s) : wpAny (model prog w) A (Builtin.Slice.sliceApplied (.ref sl) (pure (n : Int))) Q E s := by
  obtain ⟨os, hos, hcs, hds⟩ := id hs
  unfold Builtin.Slice.sliceApplied Builtin.Slice.sliceFields
  refine wpAny_bind (wpAny_bind (wpAny_field hos hds (x := .none) rfl (wpAny_bind (wpAny_field hos hds (x := .none) rfl (wpAny_bind (wpAny_field hos hds (x := .int (-1) t) rfl (wpAny_pure ?_)))))))
  refine wpAny_bind (HT.slicePart_ (.int (-1) t) ?_)
  show wpAny _ _ (if ((-1 : Int) == 0) = true then _ else _) _ _ s
  rw [if_neg (by decide)]
  refine wpAny_bind (HT.slicePart_ .none (wpAny_bind (HT.slicePart_ .none (wpAny_bind (wpAny_pure ?_)))))
  show wpAny _ _ (match Builtin.Slice.sliceAdjust none none (-1) (n : Int) with | (lo, hi) => pure (lo, (-1 : Int), Builtin.Slice.slicePlaces lo hi (-1))) _ _ s
  have e : Builtin.Slice.sliceAdjust none none (-1) (n : Int) = ((n : Int) - 1, -1) := by
    unfold Builtin.Slice.sliceAdjust
    rfl
  rw [e]
  show wpAny _ _ (pure ((n : Int) - 1, (-1 : Int), Builtin.Slice.slicePlaces ((n : Int) - 1) (-1) (-1))) _ _ s
  have e2 : Builtin.Slice.slicePlaces ((n : Int) - 1) (-1) (-1) = n := by
    unfold Builtin.Slice.slicePlaces
    rw [if_neg (by decide)]
    show (if (n : Int) - 1 > -1 then ((n : Int) - 1 - -1 - 1) / 1 + 1 else 0).toNat = n
    rw [Int.ediv_one]
    split <;> omega
  rw [e2]
  exact wpAny_pure h
theorem pick_rev (xs : Array Value) : ((List.range xs.size).filterMap fun (m : Nat) => xs[(((xs.size : Int) - 1) + (m : Int) * (-1)).toNat]?) = xs.toList.reverse := by
  have key : ∀ k : Nat, k ≤ xs.size → ((List.range k).filterMap fun (m : Nat) => xs[(((xs.size : Int) - 1) + (m : Int) * (-1)).toNat]?) = xs.toList.reverse.take k := by
    intro k
    induction k with
    | zero => intro _; rfl
    | succ k ih =>
      intro h
      rw [List.range_succ, List.filterMap_append, ih (by omega), List.take_succ]
      congr 1
      have e : (((xs.size : Int) - 1) + (k : Int) * (-1)).toNat = xs.size - 1 - k := by omega
      have e3 : xs.toList.reverse[k]? = xs[xs.size - 1 - k]? := by
        rw [List.getElem?_reverse (by rw [Array.length_toList]; omega), Array.length_toList, Array.getElem?_toList]
      show List.filterMap _ [k] = _
      rw [e3]
      simp only [List.filterMap_cons, List.filterMap_nil, e]
      cases xs[xs.size - 1 - k]? <;> rfl
  rw [key _ (Nat.le_refl _)]
  exact List.take_of_length_le (by simp)
theorem getItem_tuple_rev {t sl : Addr} {items : Array Value} {u : Tok} {Q : Value → Shared → Prop} (ht : IsTup s.heap t items) (hs : s.heap.IsSliceOf sl .none .none (.int (-1) u))
    (h : Q (.ref s.heap.objs.size) { s with heap := s.heap.push { cls := .type "tuple", data := .seq items.toList.reverse.toArray } })
    (hsz : items.size ≤ sizeLine) : wpAny (model prog w) A (getItem (.ref t) (.ref sl)) Q E s := by
  have htake : sizeOk (.seq items.toList.reverse.toArray) := by
    show items.toList.reverse.toArray.size ≤ sizeLine
    rw [List.size_toArray, List.length_reverse, Array.length_toList]
    omega
  obtain ⟨os, hos, hcs, hds⟩ := id hs
  have hTs : s.TypeIs (.ref sl) "slice" := ⟨os, hos, hcs⟩
  unfold getItem
  try with_reducible refine wpAny_holding ?_
  first | refine wpAny_bind (wpAny_pure ?_) | skip
  refine wpAny_bind (wpAny_sequenceKey ht.typeIs (by decide) ?_)
  refine wpAny_bind (wpAny_callSpecial?_slot (name := Str.ofString "__getitem__") ht.typeIs PyProof.Rows.slot_tuple_getitem
    (wpAny_call_entry PyProof.Rows.slot_tuple_getitem ht.typeIs entry_tuple_getitem ?_ (args_tuple_getitem _ _)))
  show wpAny _ _ (Builtin.Tuple.tupleItemsOf (.ref t) >>= _) _ _ s
  refine wpAny_bind (tupleItemsOf_ ht ?_)
  refine wpAny_bind (wpAny_typeOf hTs ?_)
  rw [if_pos (by decide)]
  refine wpAny_bind (sliceApplied_rev hs ?_)
  have hno : ¬ ((((items.size : Int) - 1) == 0 && (-1 : Int) == 1 && items.size == items.size) = true) := by
    intro q
    rw [Bool.and_eq_true, Bool.and_eq_true] at q
    exact absurd q.1.2 (by decide)
  show wpAny _ _ (if (((items.size : Int) - 1) == 0 && (-1 : Int) == 1 && items.size == items.size) = true then _ else _) _ _ s
  rw [if_neg hno, pick_rev]
  first
    | exact wpAny_bind (m := Builtin.Tuple.tupleExact _) (wpAny_newObj_type (wpAny_pure ⟨_, rfl, wpAny_pure h⟩) htake)
    | exact wpAny_bind (m := Builtin.Tuple.tupleExact _) (wpAny_newObj_type (wpAny_bind (wpAny_pure (wpAny_pure ⟨_, rfl, wpAny_pure h⟩))) htake)
    | exact wpAny_bind (wpAny_bind (m := Builtin.Tuple.tupleExact _) (wpAny_newObj_type (wpAny_pure (wpAny_pure ⟨_, rfl, wpAny_pure h⟩)) htake))
    | exact wpAny_bind (wpAny_bind (m := Builtin.Tuple.tupleExact _) (wpAny_newObj_type (wpAny_pure ⟨_, rfl, wpAny_pure h⟩) htake))
end
section
variable {X : Cx}
def rRev (K : PySem.W.Frag) : V → Hp → VK → Prop := fun x H Q => ∃ a xs, x = .ref a ∧ ((SqL K H a xs ∧ ∀ p, H p = none → Q (.ref p) (upd H p (.lst xs.reverse))) ∨ (SqT K H a xs ∧ ∀ p, H p = none → Q (.ref p) (upd H p (.tup xs.reverse))))
theorem pe_rev {e : Expr} {te : TE} {k : Nat} {p1 p2 p3 pos : Pos} (he : PE X e te) : PE X (.Subscript e (.Slice none none (some (.UnaryOp .USub (.Constant (.int 1) k p1) p2)) p3) pos) (fun σ H Q => te σ H fun x H1 => rRev X.K x H1 Q) := by
  refine ⟨fun pins s σ H Q I h => ?_⟩
  refine Subscript_ (thn (he.run pins s σ H _ I h) fun v s1 ⟨x, H1, I1, r1, q1⟩ => ?_)
  obtain ⟨a, xs, ex, hx⟩ := q1
  subst ex
  cases r1
  have hst : PO X (some (.UnaryOp .USub (.Constant (.int 1) k p1) p2)) (tPart (tUn (rU fun i => .int (-i)) (tC (.int 1)))) := po_some (pe_un un_neg pe_int)
  refine wpAny_Slice (thn (po_none.run pins s1 σ H1 (fun o H2 => o = none ∧ H2 = H1) I1 ⟨rfl, rfl⟩) fun vl s2 ⟨l, H2, I2, pl, el, e2⟩ => ?_)
  subst el e2
  refine thn (po_none.run pins s2 σ H2 (fun o H3 => o = none ∧ H3 = H2) I2 ⟨rfl, rfl⟩) fun vu s3 ⟨u, H3, I3, pu, eu, e3⟩ => ?_
  subst eu e3
  refine thn (hst.run pins s3 σ H3 (fun o H4 => o = some (-1) ∧ H4 = H3) I3 ⟨1, rfl, -1, rfl, rfl, rfl⟩) fun vs s4 ⟨o, H4, I4, ps, eo, e4⟩ => ?_
  subst eo e4
  have I5 : Inv X pins σ H4 { s4 with heap := s4.heap.push { cls := .type "slice", data := .fields #[vl, vu, vs] } } := I4.kept (t' := s4.toks) fun b ob q => Heap.get?_push_of_some _ q
  show wpAny (model X.prog X.w) X.A (subscriptTail e (.Slice none none (some (.UnaryOp .USub (.Constant (.int 1) k p1) p2)) p3) (.ref a) (.ref s4.heap.objs.size)) (EP X pins σ Q) X.xe { s4 with heap := s4.heap.push { cls := .type "slice", data := .fields #[vl, vu, vs] } }
  rcases hx with ⟨hx, q⟩ | ⟨hx, q⟩
  · obtain ⟨its, r, ht, hz⟩ := I5.list hx
    have hlen := r.length
    refine tail_any (ops := [.ref a, .ref s4.heap.objs.size]) ht.isList.typeIs (PySem.slot_list_getitem.lookup) ?_ (by with_unfolding_all rfl)
    refine wpAny_getItem_list_slice ht.isList (Heap.IsSliceOf.new _ vl vu vs) pl pu ps (by decide) ?_ (by rw [List.size_toArray]; omega)
    rw [PySem.W.krv_pick]
    refine ⟨.ref _, _, I5.laid (t' := s4.toks) (o := .lst xs.reverse) (fun b ob q => Heap.get?_push_of_some _ q) (Nat.le_refl _) ?_, rfl, q _ (I5.hok.fresh (Nat.le_refl _))⟩
    exact ⟨by rw [List.length_reverse]; exact hz, _, 0, r.reverse, Heap.get?_push_size _ rfl⟩
  · obtain ⟨its, r, ht, hz⟩ := I5.tuple hx
    have hlen := r.length
    cases pl
    cases pu
    cases ps
    refine tail_any (ops := [.ref a, .ref s4.heap.objs.size]) ht.typeIs (PyProof.Rows.slot_tuple_getitem.lookup) ?_ (by with_unfolding_all rfl)
    refine getItem_tuple_rev ht (Heap.IsSliceOf.new ..) ?_ (by rw [List.size_toArray]; omega)
    refine ⟨.ref _, _, I5.laid (t' := s4.toks) (o := .tup xs.reverse) (fun b ob q => Heap.get?_push_of_some _ q) (Nat.le_refl _) ?_, rfl, q _ (I5.hok.fresh (Nat.le_refl _))⟩
    exact ⟨by rw [List.length_reverse]; exact hz, _, r.reverse, IsTup.new _ _⟩
variable {F : List Fn} {a : Expr} {ia : IE}
theorem se_rev {k : Nat} {p1 p2 p3 pos : Pos} (ha : PE X a (teE X.K F ia)) : PE X (.Subscript a (.Slice none none (some (.UnaryOp .USub (.Constant (.int 1) k p1) p2)) p3) pos) (teE X.K F (.un .rev ia)) := by
  refine (pe_rev ha).imp fun σ H Q q => ?_
  obtain ⟨n, w, μ, e, z, e', wf, er, ev, k⟩ := q
  unfold evE at ev
  obtain ⟨x, e1, h1, h3⟩ := Rs.bind_ok ev
  obtain ⟨ds, f, d, h4, h5, rfl, rfl⟩ := prA_ok h3
  obtain ⟨dx, hx, rfl⟩ := rd1 h4
  refine ⟨n, w, μ, e, x, e', wf, er, h1, fun v H1 w1 a1 an1 => ?_⟩
  have hr := rd_rr (Nat.le_refl n) an1 a1.env hx
  have g := pgo_fin a1 k
  cases dx <;> simp only [prim] at h5 <;> first | cases h5 | skip
  · obtain ⟨p, xs, rfl, s, r⟩ := hr.list
    exact ⟨p, xs, rfl, .inl ⟨s, g.lst (drp_wf a1.wf) r.reverse⟩⟩
  · obtain ⟨p, xs, rfl, s, r, rp⟩ := hr.tup
    exact ⟨p, xs, rfl, .inr ⟨s, g.tup (drp_wf a1.wf) r.reverse⟩⟩
end
end PD
/-! PD11: the look whether a piece of syntax is what a term of the pure language says. -/
namespace PD
open PySem PySem.Spec PyProof.Rows L2
/-- what a def leans on: its names by slot, the defs it calls (with what may fill up its arguments), the built-ins, the module's constants -/
structure Ck where
  N : List Str
  L : List (Str × List (List D))
  B : List Str
  G : List (Str × D)
def visB (sc : Scope) (x : Str) : Bool := match sc.names.lookup x with
  | some .local => true
  | some .cell => true
  | some .free => true
  | _ => false
/-- a name that may be stored; b: also one that inner blocks read -/
def locB (b : Bool) (sc : Scope) (x : Str) : Bool := match sc.names.lookup x with
  | some .local => true
  | some .cell => b
  | _ => false
def glB (sc : Scope) (x : Str) : Bool := match sc.names.lookup x with
  | some .globalImplicit => true
  | _ => false
def relab (scope sc : Scope) : Scope := { scope with names := scope.names.map fun (n, k) => if (k == NameKind.free && sc.kind == .function && sc.names.lookup n == some .cell) then (n, NameKind.cell) else (n, k) }
def plainName (x : Str) : Bool := (x == ("__debug__" : Str)) == false && (x == ("__classdict__" : Str)) == false && !(decide (x = ("__name__" : Str)))
def isStar : Expr → Bool
  | .Starred .. => true
  | _ => false
def isSet : Expr → Bool
  | .Set .. => true
  | _ => false
def isTup : Expr → Bool
  | .Tuple .. => true
  | _ => false
def isSlice : Expr → Bool
  | .Slice .. => true
  | _ => false
def isComp : Expr → Bool
  | .ListComp .. => true
  | .SetComp .. => true
  | .DictComp .. => true
  | _ => false
/-- no form whose test is another one than its value's truth -/
def isTst : Expr → Bool
  | .UnaryOp .. => true
  | .BoolOp .. => true
  | .IfExp .. => true
  | .Compare .. => true
  | _ => false
def opB : Pr → Operator → Bool
  | .add, .Add => true
  | .sub, .Sub => true
  | .mul, .Mult => true
  | .mod, .Mod => true
  | .fdiv, .FloorDiv => true
  | .pow, .Pow => true
  | _, _ => false
def cmB : Pr → CmpOp → Bool
  | .eq, .Eq => true
  | .ne, .NotEq => true
  | .lt, .Lt => true
  | .le, .LtE => true
  | .gt, .Gt => true
  | .ge, .GtE => true
  | .isin, .In => true
  | .notin, .NotIn => true
  | .isN, .Is => true
  | .notN, .IsNot => true
  | .isB, .Is => true
  | .notB, .IsNot => true
  | _, _ => false
def fnS : Pr → Option Str
  | .len => some "len"
  | .abs => some "abs"
  | .min2 => some "min"
  | .max2 => some "max"
  | .tuple => some "tuple"
  | .list => some "list"
  | .all => some "all"
  | .int => some "int"
  | _ => none
def mtS : Mt → Option Str
  | .append => some "append"
  | .extend => some "extend"
  | .pop0 => some "pop"
  | .reverse => some "reverse"
  | .clear => some "clear"
  | .insert => some "insert"
  | _ => none
def litB : D → Const → Bool
  | .none, .none => true
  | .bool a, .bool b => a == b
  | .int a, .int b => a == b
  | .str a, .str b => a == b
  | _, _ => false
def litEq : D → D → Bool
  | .none, .none => true
  | .bool a, .bool b => a == b
  | .int a, .int b => a == b
  | .str a, .str b => a == b
  | _, _ => false
def litsEq : List D → List D → Bool
  | [], [] => true
  | x :: xs, y :: ys => litEq x y && litsEq xs ys
  | _, _ => false
def Mt.zero : Mt → Bool
  | .pop0 => true
  | .reverse => true
  | .clear => true
  | _ => false
/-- written keys -/
def keysB : List D → List (Option Expr) → Bool
  | [], [] => true
  | .int i :: ks, some (.Constant (.int j) _ _) :: es => decide (i = j) && keysB ks es
  | .str i :: ks, some (.Constant (.str j) _ _) :: es => decide (i = j) && keysB ks es
  | _, _ => false
def nmB (C : Ck) (sc : Scope) (i : Nat) (x : Str) : Bool := decide (C.N[i]? = some x) && visB sc x && plainName x
def tgB (C : Ck) (b : Bool) (sc : Scope) (i : Nat) : Expr → Bool
  | .Name x _ => decide (C.N[i]? = some x) && locB b sc x
  | _ => false
def tgsB (C : Ck) (b : Bool) (sc : Scope) : List Nat → List Expr → Bool
  | [], [] => true
  | i :: is, e :: es => tgB C b sc i e && tgsB C b sc is es
  | _, _ => false
def ptB (C : Ck) (b : Bool) (sc : Scope) : Pt → Expr → Bool
  | .nm i, e => tgB C b sc i e
  | .tp is, .Tuple es _ _ => tgsB C b sc is es
  | .tp _, _ => false
def ptInB (own : List Nat) : Pt → Bool
  | .nm i => own.contains i
  | .tp is => is.all own.contains
def ownL (C : Ck) (own : List Nat) : List (Str × Nat) := own.map fun i => (C.N.getD i "", i)
def gB (C : Ck) (sc : Scope) (x : Str) : Bool := C.B.contains x && glB sc x && plainName x
/-- a place of one's own that is walked -/
def ckK (C : Ck) (sc : Scope) (en : Bool) (i : Nat) : Expr → Expr → Bool
  | .Name x _, _ => !en && nmB C sc i x
  | .Call (.Name x _) [.Name y _] [] _, tg => en && isTup tg && decide (x = "enumerate") && gB C sc x && nmB C sc i y
  | _, _ => false
mutual
def ckE (C : Ck) (sc : Scope) : IE → Expr → Bool
  | .var i, .Name x _ => nmB C sc i x
  | .lit d, .Constant c _ _ => litB d c
  | .gl x d, .Name y _ => decide (x = y) && C.G.any (fun p => decide (p.1 = x) && litEq p.2 d) && glB sc x && plainName x
  | .un .neg a, .UnaryOp .USub x _ => ckE C sc a x
  | .un .rev a, .Subscript x (.Slice none none (some (.UnaryOp .USub (.Constant (.int j) _ _) _)) _) _ => decide (j = 1) && ckE C sc a x
  | .bi p a b, .BinOp x op y _ => opB p op && ckE C sc a x && ckE C sc b y
  | .cm p a b, .Compare x [op] [y] _ => cmB p op && ckE C sc a x && ckE C sc b y && !isSet y
  | .chn p q a b c, .Compare x [op, op2] [y, z] _ => cmB p op && cmB q op2 && ckE C sc a x && ckE C sc b y && ckE C sc c z && !isSet y && !isSet z
  | .and es, .BoolOp .And xs _ => ckEs C sc es xs && !xs.isEmpty
  | .or es, .BoolOp .Or xs _ => ckEs C sc es xs && !xs.isEmpty
  | .not a, .UnaryOp .Not x _ => ckE C sc a x
  | .ite c a b, .IfExp t x y _ => ckT C sc c t && ckE C sc a x && ckE C sc b y
  | .tup es, .Tuple xs _ _ => ckEs C sc es xs
  | .lst es, .List xs _ => ckEs C sc es xs
  | .dic ks vs, .Dict kes ves _ => keysB ks kes && ckEs C sc vs ves && decide (kes.length ≤ 15) && decide (ks.length = vs.length) && !kes.isEmpty
  | .dnew _, .Dict [] [] _ => true
  | .ix a b, .Subscript x y _ => ckE C sc a x && ckE C sc b y && !isSlice y
  | .sl a lo hi, .Subscript x (.Slice l h none _) _ => ckE C sc a x && ckO C sc lo l && ckO C sc hi h
  | .fn p es, .Call (.Name x _) xs [] _ => decide (fnS p = some x) && gB C sc x && ckEs C sc es xs && !xs.isEmpty
  | .isI k a, .Call (.Name x _) [e, .Name y _] [] _ => decide (x = "isinstance") && gB C sc x && decide (y = (kdTy k : Str)) && gB C sc y && ckE C sc a e && !isStar e
  | .call i es dv, .Call (.Name x _) xs [] _ => (match C.L[i]? with
      | some p => decide (p.1 = x) && p.2.any (fun l => litsEq l dv)
      | none => false) && glB sc x && plainName x && ckEs C sc es xs
  | .mt m i es, .Call (.Attribute (.Name x _) nm apos) xs [] cpos => nmB C sc i x && decide (mtS m = some nm) && (apos.endLine == cpos.line) && ckEs C sc es xs && decide (xs.length < 20) && (m.zero == xs.isEmpty)
  | .comp el pt src cs own, .ListComp e [⟨tg, iter, ifs, 0⟩] scope _ => ckI C sc src iter tg && ptB C false (relab scope sc) pt tg && ckTs C (relab scope sc) cs ifs && decide (cs.length ≤ 1) && ckE C (relab scope sc) el e && blkC C.N sc scope (ownL C own) && ptInB own pt && !isSet iter
  | .compk el pt en i cs own, .ListComp e [⟨tg, iter, ifs, 0⟩] scope _ => ckK C sc en i iter tg && ptB C false (relab scope sc) pt tg && ckTs C (relab scope sc) cs ifs && decide (cs.length ≤ 1) && ckE C (relab scope sc) el e && blkC C.N sc scope (ownL C own) && ptInB own pt && !isSet iter
  | _, _ => false
def ckEs (C : Ck) (sc : Scope) : List IE → List Expr → Bool
  | [], [] => true
  | a :: as, x :: xs => ckE C sc a x && !isStar x && ckEs C sc as xs
  | _, _ => false
def ckO (C : Ck) (sc : Scope) : Option IE → Option Expr → Bool
  | none, none => true
  | some a, some x => ckE C sc a x
  | _, _ => false
def ckT (C : Ck) (sc : Scope) : IT → Expr → Bool
  | .v a, x => ckE C sc a x && !isTst x
  | .cm p a b, .Compare x [op] [y] _ => cmB p op && ckE C sc a x && ckE C sc b y && !isSet y
  | .chn p q a b c, .Compare x [op, op2] [y, z] _ => cmB p op && cmB q op2 && ckE C sc a x && ckE C sc b y && ckE C sc c z && !isSet y && !isSet z
  | .not t, .UnaryOp .Not x _ => ckT C sc t x
  | .and ts, .BoolOp .And xs _ => ckTs C sc ts xs && !xs.isEmpty
  | .or ts, .BoolOp .Or xs _ => ckTs C sc ts xs && !xs.isEmpty
  | _, _ => false
def ckTs (C : Ck) (sc : Scope) : List IT → List Expr → Bool
  | [], [] => true
  | t :: ts, x :: xs => ckT C sc t x && ckTs C sc ts xs
  | _, _ => false
def ckI (C : Ck) (sc : Scope) : Sr → Expr → Expr → Bool
  | .seq a, x, _ => ckE C sc a x
  | .rng a, .Call (.Name x _) [e] [] _, _ => decide (x = "range") && gB C sc x && ckE C sc a e && !isStar e
  | .rng2 a b, .Call (.Name x _) [e, f] [] _, _ => decide (x = "range") && gB C sc x && ckE C sc a e && ckE C sc b f && !isStar e && !isStar f
  | .enum a, .Call (.Name x _) [e] [] _, tg => isTup tg && decide (x = "enumerate") && gB C sc x && ckE C sc a e && !isStar e
  | .zip a b, .Call (.Name x _) [e, f] [] _, tg => isTup tg && decide (x = "zip") && gB C sc x && ckE C sc a e && ckE C sc b f && !isStar e && !isStar f
  | _, _, _ => false
end
end PD
/-! PD12: the look is right, for expressions. -/
namespace PD
open PySem PySem.Spec PyProof.Rows L2
structure Gd (C : Ck) (F : List Fn) (X : Cx) : Prop where
  hN : X.N = C.N
  nd : X.N.Nodup
  calm : X.calm = true
  hu : X.A.units + 130 < cLine
  blt : ∀ x ∈ C.B, X.mg x = none
  glb : ∀ p : Str × D, p ∈ C.G → ∃ u v, X.mg p.1 = some u ∧ litV p.2 = some v ∧ RelV v u
  lnk : ∀ (i : Nat) (p : Str × List (List D)), C.L[i]? = some p → ∃ fn, F[i]? = some fn ∧ ∃ (k : Nat) (f : Addr) (fd : FuncData) (ps : List Str), Room k X.A ∧ FnOk X.prog X.w X.K X.mg X.base CX0 k f fd ps (spF X.K fn) ∧ X.mg p.1 = some (.ref f) ∧ PySem.W.keepIn X.K (.ref f) = true ∧
    ∀ dv ∈ p.2, ∃ dvs ds, Paired (fun v d => litV d = some v) dvs dv ∧ Binds X.K fd ps ds ∧ Vals dvs ds
structure Gs (b : Bool) (X : Cx) (sc : Scope) : Prop where
  scope : X.env.scope = sc
  fn : b = true → ∀ x, X.fn x = true
theorem gd_blk {C : Ck} {F : List Fn} {X : Cx} (g : Gd C F X) (s : Shared) (H : Hp) (scope : Scope) (ce : Env) (fp : List Addr) : Gd C F (X.blk s H scope ce fp) := ⟨g.hN, g.nd, g.calm, g.hu, g.blt, g.glb, g.lnk⟩
section
variable {C : Ck} {F : List Fn} {b : Bool}
theorem gl_of {X : Cx} {sc : Scope} (s : Gs b X sc) {x : Str} (h : glB sc x = true) : Gl X x := by
  unfold Gl Env.kindOf
  rw [s.scope]
  unfold glB at h
  split at h
  · assumption
  · cases h
theorem vis_of {X : Cx} {sc : Scope} (s : Gs b X sc) {x : Str} (h : visB sc x = true) : Vis X.env.scope x := by
  unfold Vis
  rw [s.scope]
  unfold visB at h
  split at h
  · exact .inl (by assumption)
  · exact .inr (.inl (by assumption))
  · exact .inr (.inr (by assumption))
  · cases h
theorem loc_of {X : Cx} {sc : Scope} (s : Gs b X sc) {x : Str} (h : locB b sc x = true) : L2.Loc X.env.scope x ∧ (X.fn x = true ∨ X.env.scope.names.lookup x = some .local) := by
  unfold L2.Loc
  rw [s.scope]
  unfold locB at h
  split at h
  · rename_i q; exact ⟨.inl q, .inr q⟩
  · rename_i q; exact ⟨.inr q, .inl (s.fn h x)⟩
  · cases h
theorem plain_of {x : Str} (h : plainName x = true) : (x == ("__debug__" : Str)) = false ∧ (x == ("__classdict__" : Str)) = false ∧ x ≠ "__name__" := by
  unfold plainName at h
  simp only [Bool.and_eq_true, Bool.not_eq_true', decide_eq_false_iff_not] at h
  exact ⟨by simpa using h.1.1, by simpa using h.1.2, h.2⟩
theorem nm_of {X : Cx} {sc : Scope} (g : Gd C F X) (s : Gs b X sc) {i : Nat} {x : Str} {p : Pos} (h : nmB C sc i x = true) : PE X (.Name x p) (tVar i) := by
  unfold nmB at h
  simp only [Bool.and_eq_true, decide_eq_true_eq] at h
  obtain ⟨⟨h1, h2⟩, h3⟩ := h
  obtain ⟨p1, p2, _⟩ := plain_of h3
  exact pe_var (by rw [g.hN]; exact h1) (vis_of s h2) p1 p2
theorem star_cons {x : Expr} {xs : List Expr} {env : Env} (h : isStar x = false) : starEach (x :: xs) env = (false, eval x env) :: starEach xs env := by
  cases x <;> first | rfl | cases h
theorem fold_of {x : Expr} {env : Env} (h : isSet x = false) (v : Value) : foldedSetIterable x env v = pure v := by
  cases x <;> first | rfl | cases h
theorem beh_of {op : CmpOp} {x : Expr} (h : isSet x = false) : behindInMarks op x = false := by
  cases x <;> first | rfl | cases h
theorem ix_of {x : Expr} (h : isSlice x = false) : PlainIx x := by
  intro o i
  cases x <;> first | rfl | cases h
theorem tst_of {x : Expr} {env : Env} (h : isTst x = false) (whole : Sem Value) : isTrue x env whole = (do let v ← whole; standAt x.pos; holding [v] (truthy v)) := by
  cases x <;> first | rfl | cases h
theorem swap_of {x : Expr} {env : Env} {t : Option Expr} {n : Nat} (h : isComp x = false) : swapsWith x t n env = pure false := by
  cases x <;> first | rfl | cases h
/-- no stars among the arguments -/
def noStar : List Expr → Prop
  | [] => True
  | x :: xs => isStar x = false ∧ noStar xs
theorem any_star {env : Env} {pos : Pos} : ∀ {xs : List Expr}, noStar xs → (backTo pos (starEach xs env)).any (·.1) = false
  | [], _ => rfl
  | x :: xs, h => by
    rw [star_cons h.1]
    show (false || (backTo pos (starEach xs env)).any (·.1)) = false
    rw [any_star h.2]
    rfl
theorem all_star {env : Env} {pos : Pos} : ∀ {xs : List Expr}, noStar xs → (backTo pos (starEach xs env)).all (fun x => !x.1) = true
  | [], _ => rfl
  | x :: xs, h => by
    rw [star_cons h.1]
    show (true && (backTo pos (starEach xs env)).all (fun x => !x.1)) = true
    rw [all_star h.2]
    rfl
theorem ckEs_star {sc : Scope} : ∀ {es : List IE} {xs : List Expr}, ckEs C sc es xs = true → noStar xs
  | [], [], _ => trivial
  | a :: as, x :: xs, h => by
    simp only [ckEs, Bool.and_eq_true, Bool.not_eq_true'] at h
    exact ⟨h.1.2, ckEs_star h.2⟩
  | [], _ :: _, h => by simp [ckEs] at h
  | _ :: _, [], h => by simp [ckEs] at h
theorem tg_of {X : Cx} {sc : Scope} (g : Gd C F X) (s : Gs b X sc) {i : Nat} {e : Expr} (h : tgB C b sc i e = true) : PG X e (gName i) := by
  cases e with
  | Name x p =>
    simp only [tgB, Bool.and_eq_true, decide_eq_true_eq] at h
    exact pg_name g.nd (by rw [g.hN]; exact h.1) (loc_of s h.2).1 (loc_of s h.2).2
  | _ => simp [tgB] at h
theorem asg_names {sc : Scope} {env : Env} : ∀ {is : List Nat} {es : List Expr}, tgsB C b sc is es = true → (assignEach es env).length = is.length ∧ (assignEach es env).findIdx? (·.1) = none
  | [], [], _ => ⟨rfl, rfl⟩
  | i :: is, e :: es, h => by
    simp only [tgsB, Bool.and_eq_true] at h
    obtain ⟨h1, h2⟩ := asg_names (env := env) h.2
    cases e with
    | Name x p =>
      have q : assignEach (.Name x p :: es) env = (false, assign (.Name x p) env) :: assignEach es env := rfl
      rw [q]
      exact ⟨by rw [List.length_cons, List.length_cons, h1], by rw [List.findIdx?_cons, if_neg Bool.false_ne_true, h2]; rfl⟩
    | _ => simp [tgB] at h
  | [], _ :: _, h => by simp [tgsB] at h
  | _ :: _, [], h => by simp [tgsB] at h
theorem tgs_of {X : Cx} {sc : Scope} (g : Gd C F X) (s : Gs b X sc) : ∀ {is : List Nat} {es : List Expr}, tgsB C b sc is es = true → PGs X es (tgNs is)
  | [], [], _ => pgs_nil
  | i :: is, e :: es, h => by
    simp only [tgsB, Bool.and_eq_true] at h
    have h1 := tg_of g s h.1
    have h2 := tgs_of g s h.2
    cases e with
    | Name x p => exact pgs_cons h1 h2 (by rfl)
    | _ => simp [tgB] at h
  | [], _ :: _, h => by simp [tgsB] at h
  | _ :: _, [], h => by simp [tgsB] at h
theorem pt_of {X : Cx} {sc : Scope} (g : Gd C F X) (s : Gs b X sc) {pt : Pt} {e : Expr} (h : ptB C b sc pt e = true) : PG X e (tgP X.K pt) := by
  cases pt with
  | nm i => exact tg_of g s (by simpa [ptB] using h)
  | tp is =>
    cases e with
    | Tuple es k p =>
      simp only [ptB] at h
      obtain ⟨h1, h2⟩ := asg_names (env := X.env) h
      exact pg_tup g.calm (tgs_of g s h) h1 h2
    | _ => simp [ptB] at h
theorem ptIn_of {own : List Nat} {pt : Pt} (h : ptInB own pt = true) : ptIn own pt := by
  cases pt with
  | nm i => simpa [ptInB, ptIn] using h
  | tp is => simpa [ptInB, ptIn] using h
theorem litB_of {X : Cx} {d : D} {c : Const} {k : Nat} {p : Pos} (h : litB d c = true) : ∃ v, litV d = some v ∧ PE X (.Constant c k p) (tC v) := by
  cases d <;> cases c <;> simp only [litB] at h <;> first | cases h | skip
  · exact ⟨_, rfl, pe_non⟩
  · rename_i a b
    have : a = b := by simpa using h
    subst this
    exact ⟨_, rfl, pe_bl⟩
  · rename_i a b
    have : a = b := by simpa using h
    subst this
    exact ⟨_, rfl, pe_int⟩
  · rename_i a b
    have : a = b := by simpa using h
    subst this
    exact ⟨_, rfl, pe_str⟩
theorem litEq_of {a b : D} (h : litEq a b = true) : a = b := by
  cases a <;> cases b <;> simp only [litEq] at h <;> first | cases h | skip
  · rfl
  · rename_i y z
    have q : y = z := by simpa using h
    rw [q]
  · rename_i y z
    have q : y = z := by simpa using h
    rw [q]
  · rename_i y z
    have q : y = z := by simpa using h
    rw [q]
theorem litsEq_of : ∀ {a b : List D}, litsEq a b = true → a = b
  | [], [], _ => rfl
  | x :: xs, y :: ys, h => by
    simp only [litsEq, Bool.and_eq_true] at h
    rw [litEq_of h.1, litsEq_of h.2]
  | [], _ :: _, h => by cases h
  | _ :: _, [], h => by cases h
/-- a binary operation's rule -/
theorem op_of {X : Cx} {p : Pr} {op : Operator} (h : opB p op = true) : ∃ r, OpR X (binaryOp op) r ∧ Pok2 X.K p r := by
  cases p <;> cases op <;> simp only [opB] at h <;> first | cases h | skip
  · exact ⟨_, op_addU, pok_add⟩
  · exact ⟨_, op_sub, pok_sub⟩
  · exact ⟨_, op_mulU, pok_mul⟩
  · exact ⟨_, op_mod, pok_mod⟩
  · exact ⟨_, op_fdiv, pok_fdiv⟩
  · exact ⟨_, op_pow, pok_pow⟩
theorem cm_of {X : Cx} (hu : X.A.units + 130 < cLine) {p : Pr} {op : CmpOp} (h : cmB p op = true) : ∃ r, OpR X (compareOp op) r ∧ Pok2 X.K p r := by
  cases p <;> cases op <;> simp only [cmB] at h <;> first | cases h | skip
  · exact ⟨_, op_eqD (by omega), pok_eq⟩
  · exact ⟨_, op_neD (by omega), pok_ne⟩
  · exact ⟨_, op_ltU (by omega), pok_lt⟩
  · exact ⟨_, op_le, pok_le⟩
  · exact ⟨_, op_gt, pok_gt⟩
  · exact ⟨_, op_ge, pok_ge⟩
  · exact ⟨_, op_inU (by omega), pok_in⟩
  · exact ⟨_, op_notInU (by omega), pok_notin⟩
  · exact ⟨_, op_isN, pok_isN⟩
  · exact ⟨_, op_notN, pok_notN⟩
  · exact ⟨_, op_isBl, pok_isB⟩
  · exact ⟨_, op_notBl, pok_notB⟩
theorem fn_of' {X : Cx} (hc : X.calm = true) {p : Pr} {x : Str} (h : fnS p = some x) : ∃ r, Pok X.K p r ∧ ((∃ id, CallR X (.builtin id) r ∧ bootBuiltins x = some (.builtin id)) ∨ ∃ id, CallR X (.type id) r ∧ bootBuiltins x = some (.type id)) := by
  cases p <;> simp only [fnS] at h <;> first | cases h | skip
  · exact ⟨_, pok_len, .inl ⟨"len", call_lenU, by decide +kernel⟩⟩
  · exact ⟨_, pok_abs, .inl ⟨"abs", call_abs, by decide +kernel⟩⟩
  · exact ⟨_, pok_min2, .inl ⟨"min", call_min2 hc, by decide +kernel⟩⟩
  · exact ⟨_, pok_max2, .inl ⟨"max", call_max2 hc, by decide +kernel⟩⟩
  · exact ⟨_, pok_tuple, .inr ⟨"tuple", call_tuple_of, by decide +kernel⟩⟩
  · exact ⟨_, pok_list, .inr ⟨"list", call_list_of, by decide +kernel⟩⟩
  · exact ⟨_, pok_all, .inl ⟨"all", cr_all hc, by decide +kernel⟩⟩
  · exact ⟨_, pok_int, .inr ⟨"int", call_int1, by decide +kernel⟩⟩
theorem kd_boot (k : Kd) : bootBuiltins (kdTy k : Str) = some (.type (kdTy k)) := by
  cases k <;> decide +kernel
theorem mt_of {X : Cx} {m : Mt} {x : Str} (h : mtS m = some x) : ∃ r id, Mok X.K m r ∧ Slot "list" x id ∧ typeOf (.builtin id) = pure (.type "method_descriptor") ∧ MtR X id r := by
  cases m <;> simp only [mtS] at h <;> first | cases h | skip
  · exact ⟨_, _, mok_append, PySem.F.slot_list_append, PySem.F.type_list_append, mt_append⟩
  · exact ⟨_, _, mok_extend, PySem.F.slot_list_extend, PySem.F.type_list_extend, mt_extS⟩
  · exact ⟨_, _, mok_pop0, PySem.F.slot_list_pop, PySem.F.type_list_pop, mt_pop⟩
  · exact ⟨_, _, mok_reverse, PySem.F.slot_list_reverse, PySem.F.type_list_reverse, mt_reverse⟩
  · exact ⟨_, _, mok_clear, PySem.F.slot_list_clear, PySem.F.type_list_clear, mt_clear⟩
  · exact ⟨_, _, mok_insert, PySem.F.slot_list_insert, PySem.F.type_list_insert, mt_insert⟩
theorem keysB_of {X : Cx} : ∀ {ds : List D} {es : List (Option Expr)}, keysB ds es = true → ∃ ks : List Key, ds = ks.map keyD ∧ KeyE X es ks
  | [], [], _ => ⟨[], rfl, .nil⟩
  | d :: ds, e :: es, h => by
    match d, e, h with
    | .int i, some (.Constant (.int j) k p), h =>
      simp only [keysB, Bool.and_eq_true, decide_eq_true_eq] at h
      obtain ⟨rfl, h⟩ := h
      obtain ⟨ks, e1, e2⟩ := keysB_of (X := X) h
      exact ⟨.inl i :: ks, by rw [e1]; rfl, .cons pe_int e2⟩
    | .str i, some (.Constant (.str j) k p), h =>
      simp only [keysB, Bool.and_eq_true, decide_eq_true_eq] at h
      obtain ⟨rfl, h⟩ := h
      obtain ⟨ks, e1, e2⟩ := keysB_of (X := X) h
      exact ⟨.inr i :: ks, by rw [e1]; rfl, .cons pe_str e2⟩
  | [], _ :: _, h => by cases h
  | _ :: _, [], h => by simp [keysB] at h
theorem ckK_ok {X : Cx} {sc : Scope} {b : Bool} {en : Bool} {i : Nat} {e tg : Expr} (g : Gd C F X) (s : Gs b X sc) (h : ckK C sc en i e tg = true) : PI X tg e (tiK X.K F en i) := by
  match e, h with
  | .Name x p, h =>
    simp only [ckK, Bool.and_eq_true, Bool.not_eq_true'] at h
    obtain ⟨h1, h2⟩ := h
    subst h1
    exact si_kseq (se_var (nm_of g s h2))
  | .Call (.Name x _) [.Name y p] [] _, h =>
    simp only [ckK, gB, Bool.and_eq_true, decide_eq_true_eq] at h
    obtain ⟨⟨⟨⟨h0, h1⟩, h4⟩, h2⟩, h3⟩ := h
    subst h0
    subst h4
    cases tg with
    | Tuple es k tp => exact si_kenum (gl_of s h2.1.2) (g.blt _ (by simpa using h2.1.1)) (sa_cons (se_var (nm_of g s h3)) sa_nil (star_cons rfl)) (star_cons rfl)
    | _ => cases h1
/-! ### the whole look -/
mutual
theorem ckE_ok : ∀ {ie : IE} {e : Expr} {X : Cx} {sc : Scope} {b : Bool}, Gd C F X → Gs b X sc → ckE C sc ie e = true → PE X e (teE X.K F ie)
  | .var i, e, X, sc, b, g, s, h => by
    cases e with
    | Name x p => exact se_var (nm_of g s (by simpa only [ckE] using h))
    | _ => simp [ckE] at h
  | .lit d, e, X, sc, b, g, s, h => by
    cases e with
    | Constant c k p =>
      obtain ⟨v, h1, h2⟩ := litB_of (X := X) (k := k) (p := p) (show litB d c = true by simpa only [ckE] using h)
      exact se_lit h1 h2
    | _ => simp [ckE] at h
  | .gl x d, e, X, sc, b, g, s, h => by
    cases e with
    | Name y p =>
      simp only [ckE, Bool.and_eq_true, decide_eq_true_eq] at h
      obtain ⟨⟨⟨rfl, h2⟩, h3⟩, h4⟩ := h
      obtain ⟨q, hq, h5⟩ := List.any_eq_true.mp h2
      simp only [Bool.and_eq_true, decide_eq_true_eq] at h5
      obtain ⟨rfl, h6⟩ := h5
      obtain rfl := litEq_of h6
      obtain ⟨u, v, m1, m2, m3⟩ := g.glb q hq
      exact se_gl m2 (pe_glob (gl_of s h3) m1 m3 (plain_of h4).1)
    | _ => simp [ckE] at h
  | .un p a, e, X, sc, b, g, s, h => by
    cases p <;> first | (simp [ckE] at h; done) | skip
    · cases e with
      | UnaryOp op x ps =>
        cases op <;> first | (simp [ckE] at h; done) | skip
        exact se_un un_neg pok_neg (ckE_ok g s (by simpa only [ckE] using h))
      | _ => simp [ckE] at h
    · match e, h with
      | .Subscript x (.Slice none none (some (.UnaryOp .USub (.Constant (.int j) _ _) _)) _) _, h =>
        simp only [ckE, Bool.and_eq_true, decide_eq_true_eq] at h
        obtain ⟨rfl, h⟩ := h
        exact se_rev (ckE_ok g s h)
  | .bi p a b', e, X, sc, b, g, s, h => by
    cases e with
    | BinOp x op y ps =>
      simp only [ckE, Bool.and_eq_true] at h
      obtain ⟨r, h1, h2⟩ := op_of (X := X) h.1.1
      exact se_bi h1 h2 (ckE_ok g s h.1.2) (ckE_ok g s h.2)
    | _ => simp [ckE] at h
  | .cm p a b', e, X, sc, b, g, s, h => by
    cases e with
    | Compare x ops ys ps =>
      match ops, ys, h with
      | [op], [y], h =>
        simp only [ckE, Bool.and_eq_true, Bool.not_eq_true'] at h
        obtain ⟨r, h1, h2⟩ := cm_of (X := X) g.hu h.1.1.1
        exact se_cm h1 h2 (ckE_ok g s h.1.1.2) (ckE_ok g s h.1.2) (beh_of h.2)
      | [], _, h => simp [ckE] at h
      | [_], [], h => simp [ckE] at h
      | [_], _ :: _ :: _, h => simp [ckE] at h
      | _ :: _ :: _, _, h => simp [ckE] at h
    | _ => simp [ckE] at h
  | .chn p q a b' c, e, X, sc, b, g, s, h => by
    cases e with
    | Compare x ops ys ps =>
      match ops, ys, h with
      | [op, op2], [y, z], h =>
        simp only [ckE, Bool.and_eq_true, Bool.not_eq_true'] at h
        obtain ⟨r, h1, h2⟩ := cm_of (X := X) g.hu h.1.1.1.1.1.1
        obtain ⟨r', h1', h2'⟩ := cm_of (X := X) g.hu h.1.1.1.1.1.2
        exact se_chn h1 h1' h2 h2' (ckE_ok g s h.1.1.1.1.2) (ckE_ok g s h.1.1.1.2) (ckE_ok g s h.1.1.2) (by
          show behindInMarks op2 z = false
          exact beh_of h.2)
      | [], _, h => simp [ckE] at h
      | [_], _, h => simp [ckE] at h
      | [_, _], [], h => simp [ckE] at h
      | [_, _], [_], h => simp [ckE] at h
      | [_, _], _ :: _ :: _ :: _, h => simp [ckE] at h
      | _ :: _ :: _ :: _, _, h => simp [ckE] at h
    | _ => simp [ckE] at h
  | .and es, e, X, sc, b, g, s, h => by
    cases e with
    | BoolOp op xs ps =>
      cases op with
      | And =>
        simp only [ckE, Bool.and_eq_true, Bool.not_eq_true'] at h
        exact ckAnd_ok g s h.1 h.2
      | Or => simp [ckE] at h
    | _ => simp [ckE] at h
  | .or es, e, X, sc, b, g, s, h => by
    cases e with
    | BoolOp op xs ps =>
      cases op with
      | Or =>
        simp only [ckE, Bool.and_eq_true, Bool.not_eq_true'] at h
        exact ckOr_ok g s h.1 h.2
      | And => simp [ckE] at h
    | _ => simp [ckE] at h
  | .not a, e, X, sc, b, g, s, h => by
    cases e with
    | UnaryOp op x ps =>
      cases op <;> first | (simp [ckE] at h; done) | skip
      exact se_not (ckE_ok g s (by simpa only [ckE] using h))
    | _ => simp [ckE] at h
  | .ite c a b', e, X, sc, b, g, s, h => by
    cases e with
    | IfExp t x y ps =>
      simp only [ckE, Bool.and_eq_true] at h
      exact se_ite (ckT_ok g s h.1.1) (ckE_ok g s h.1.2) (ckE_ok g s h.2)
    | _ => simp [ckE] at h
  | .tup es, e, X, sc, b, g, s, h => by
    cases e with
    | Tuple xs k ps => exact se_tup (ckEs_ok g s (by simpa only [ckE] using h))
    | _ => simp [ckE] at h
  | .lst es, e, X, sc, b, g, s, h => by
    cases e with
    | List xs ps => exact se_lst (ckEs_ok g s (by simpa only [ckE] using h))
    | _ => simp [ckE] at h
  | .dic ks vs, e, X, sc, b, g, s, h => by
    cases e with
    | Dict kes ves ps =>
      simp only [ckE, Bool.and_eq_true, Bool.not_eq_true', decide_eq_true_eq] at h
      obtain ⟨⟨⟨⟨h1, h2⟩, h3⟩, h5⟩, h4⟩ := h
      obtain ⟨kk, rfl, hk⟩ := keysB_of (X := X) h1
      have hv := ckV_ok g s h2
      refine se_dic hk hv ?_ (by intro z; subst z; cases h4) h3
      rw [← List.length_map (as := kk) keyD]
      exact h5
    | _ => simp [ckE] at h
  | .dnew t, e, X, sc, b, g, s, h => by
    cases e with
    | Dict ks vs ps =>
      match ks, vs, h with
      | [], [], h =>
        cases t with
        | false => exact se_dnewK
        | true => exact se_dnewT
      | [], _ :: _, h => simp [ckE] at h
      | _ :: _, _, h => simp [ckE] at h
    | _ => simp [ckE] at h
  | .ix a b', e, X, sc, b, g, s, h => by
    cases e with
    | Subscript x y ps =>
      simp only [ckE, Bool.and_eq_true, Bool.not_eq_true'] at h
      exact se_ix (by have := g.hu; omega) (ckE_ok g s h.1.1) (ckE_ok g s h.1.2) (ix_of h.2)
    | _ => simp [ckE] at h
  | .sl a lo hi, e, X, sc, b, g, s, h => by
    cases e with
    | Subscript x y ps =>
      cases y with
      | Slice l u st p2 =>
        cases st with
        | none =>
          simp only [ckE, Bool.and_eq_true] at h
          exact se_sl (ckE_ok g s h.1.1) (ckO_ok g s h.1.2) (ckO_ok g s h.2)
        | some _ => simp [ckE] at h
      | _ => simp [ckE] at h
    | _ => simp [ckE] at h
  | .fn p es, e, X, sc, b, g, s, h => by
    cases e with
    | Call f xs kws ps =>
      cases f with
      | Name x p1 =>
        cases kws with
        | nil =>
          simp only [ckE, gB, Bool.and_eq_true, Bool.not_eq_true', decide_eq_true_eq] at h
          obtain ⟨⟨⟨h1, h2⟩, h3⟩, h4⟩ := h
          cases xs with
          | nil => cases h4
          | cons y ys =>
            have ns := ckEs_star h3
            have ha := ckEs_ok g s h3
            have pn := plain_of h2.2
            have hm := g.blt x (by simpa using h2.1.1)
            obtain ⟨r, p1, ⟨id, c1, c2⟩ | ⟨id, c1, c2⟩⟩ := fn_of' (X := X) g.calm h1
            · exact se_fnB p1 c1 (gl_of s h2.1.2) hm c2 ha pn.2.2 pn.1 (star_cons ns.1) (any_star ns.2)
            · exact se_fnT p1 c1 (gl_of s h2.1.2) hm c2 ha pn.2.2 pn.1 (star_cons ns.1) (any_star ns.2)
        | cons _ _ => simp [ckE] at h
      | _ => simp [ckE] at h
    | _ => simp [ckE] at h
  | .isI k a, e, X, sc, b, g, s, h => by
    cases e with
    | Call f xs kws ps =>
      cases f with
      | Name x p1 =>
        match xs, kws, h with
        | [y, zz], [], h =>
          cases zz with
          | Name z p2 =>
            simp only [ckE, gB, Bool.and_eq_true, Bool.not_eq_true', decide_eq_true_eq] at h
            obtain ⟨⟨⟨⟨⟨h1, h2⟩, h3⟩, h4⟩, h5⟩, h6⟩ := h
            subst h1 h3
            have pn := plain_of h2.2
            have pn2 := plain_of h4.2
            exact se_isI (gl_of s h2.1.2) (g.blt _ (by simpa using h2.1.1)) (by decide +kernel) (gl_of s h4.1.2) (g.blt _ (by simpa using h4.1.1)) (kd_boot k) (ckE_ok g s h5) pn.2.2 pn.1 pn2.2.2 pn2.1 (star_cons h6)
          | _ => simp [ckE] at h
        | [], _, h => simp [ckE] at h
        | [_], _, h => simp [ckE] at h
        | _ :: _ :: _ :: _, _, h => simp [ckE] at h
        | [_, z], _ :: _, h => cases z <;> simp [ckE] at h
      | _ => simp [ckE] at h
    | _ => simp [ckE] at h
  | .call i es dv, e, X, sc, b, g, s, h => by
    cases e with
    | Call f xs kws ps =>
      cases f with
      | Name x p1 =>
        cases kws with
        | nil =>
          simp only [ckE, Bool.and_eq_true] at h
          obtain ⟨⟨⟨h1, h2⟩, h3⟩, h4⟩ := h
          have pn := plain_of h3
          cases hp : C.L[i]? with
          | none => rw [hp] at h1; cases h1
          | some p =>
            rw [hp] at h1
            simp only [Bool.and_eq_true, decide_eq_true_eq] at h1
            obtain ⟨rfl, h5⟩ := h1
            obtain ⟨l, hl, h6⟩ := List.any_eq_true.mp h5
            obtain rfl := litsEq_of h6
            obtain ⟨fn, f1, k, f, fd, ps', f2, f3, f4, f5, f6⟩ := g.lnk i p hp
            obtain ⟨dvs, ds, f7, f8, f9⟩ := f6 l hl
            cases xs with
            | nil =>
              cases es with
              | nil => exact se_call0 f3 f1 f7 f2 (gl_of s h2) f4 f5 f8 f9 pn.1
              | cons _ _ => simp [ckEs] at h4
            | cons y ys =>
              have ns := ckEs_star h4
              exact se_call f3 f1 f7 f2 (gl_of s h2) f4 f5 f8 f9 (ckEs_ok g s h4) pn.1 (star_cons ns.1) (any_star ns.2)
        | cons _ _ => simp [ckE] at h
      | _ => simp [ckE] at h
    | _ => simp [ckE] at h
  | .mt m i es, e, X, sc, b, g, s, h => by
    cases e with
    | Call f xs kws ps =>
      cases f with
      | Attribute o nm apos =>
        cases o with
        | Name x p1 =>
          cases kws with
          | nil =>
            simp only [ckE, Bool.and_eq_true, decide_eq_true_eq] at h
            obtain ⟨⟨⟨⟨⟨h1, h2⟩, h3⟩, h4⟩, h5⟩, h6⟩ := h
            obtain ⟨r, id, m1, m2, m3, m4⟩ := mt_of (X := X) h2
            cases xs with
            | nil =>
              cases es with
              | nil => exact se_mt0 m1 (nm_of g s h1) m2 m3 m4 h3
              | cons _ _ => simp [ckEs] at h4
            | cons y ys =>
              have ns := ckEs_star h4
              refine se_mt m1 (nm_of g s h1) m2 m3 m4 (ckEs_ok g s h4) ?_ h3 (star_cons ns.1) (any_star ns.2)
              rw [Bool.and_eq_true, Bool.and_eq_true]
              refine ⟨⟨all_star ns, rfl⟩, decide_eq_true ?_⟩
              show (y :: ys).length + 0 + 0 < 30
              omega
          | cons _ _ => simp [ckE] at h
        | _ => simp [ckE] at h
      | _ => simp [ckE] at h
    | _ => simp [ckE] at h
  | .comp el pt src cs own, e, X, sc, b, g, s, h => by
    cases e with
    | ListComp x gens scope ps =>
      match gens, h with
      | [⟨tg, iter, ifs, as⟩], h =>
        by_cases h0 : as = 0
        · subst h0
          simp only [ckE, Bool.and_eq_true, Bool.not_eq_true', decide_eq_true_eq] at h
          obtain ⟨⟨⟨⟨⟨⟨⟨h1, h2⟩, h3⟩, h4⟩, h5⟩, h6⟩, h7⟩, h8⟩ := h
          have ow : (ownL C own).map (·.2) = own := by
            unfold ownL
            rw [List.map_map]
            exact List.map_id own
          have gb : ∀ (s' : Shared) (H : Hp) (D : Addr) (cl : List (Str × Addr)) (fp : List Addr), Gs false (X.blk s' H scope (compEnvC scope cl D X.env) fp) (relab scope sc) := fun s' H D cl fp => ⟨by
            show relabel scope X.env = relab scope sc
            unfold relabel relab Env.kindOf
            rw [s.scope], fun z => by cases z⟩
          have q := pe_lc (pos := ps) (wi := tiI X.K F src) (g := tgP X.K pt) (tt := teC X.K F cs) (te := teE X.K F el) g.calm g.nd (ckI_ok g s h1) (by rw [g.hN, s.scope]; exact blkOk_by h6) (fun s' H D cl fp => pt_of (gd_blk g s' H scope _ fp) (gb s' H D cl fp) h2) (fun s' H D cl fp => ckC_ok (gd_blk g s' H scope _ fp) (gb s' H D cl fp) h3 h4)
            (fun s' H D cl fp => ckE_ok (gd_blk g s' H scope _ fp) (gb s' H D cl fp) h5) (fun v => fold_of h8 v)
          refine q.imp fun σ H Q z => ?_
          rw [ow]
          exact lc_in (ptIn_of h7) σ H Q z
        · simp [ckE, h0] at h
      | [], h => simp [ckE] at h
      | _ :: _ :: _, h => simp [ckE] at h
    | _ => simp [ckE] at h
  | .compk el pt en ik cs own, e, X, sc, b, g, s, h => by
    cases e with
    | ListComp x gens scope ps =>
      match gens, h with
      | [⟨tg, iter, ifs, as⟩], h =>
        by_cases h0 : as = 0
        · subst h0
          simp only [ckE, Bool.and_eq_true, Bool.not_eq_true', decide_eq_true_eq] at h
          obtain ⟨⟨⟨⟨⟨⟨⟨h1, h2⟩, h3⟩, h4⟩, h5⟩, h6⟩, h7⟩, h8⟩ := h
          have ow : (ownL C own).map (·.2) = own := by
            unfold ownL
            rw [List.map_map]
            exact List.map_id own
          have gb : ∀ (s' : Shared) (H : Hp) (D : Addr) (cl : List (Str × Addr)) (fp : List Addr), Gs false (X.blk s' H scope (compEnvC scope cl D X.env) fp) (relab scope sc) := fun s' H D cl fp => ⟨by
            show relabel scope X.env = relab scope sc
            unfold relabel relab Env.kindOf
            rw [s.scope], fun z => by cases z⟩
          have q := pe_lc (pos := ps) (wi := tiK X.K F en ik) (g := tgP X.K pt) (tt := teC X.K F cs) (te := teE X.K F el) g.calm g.nd (ckK_ok g s h1) (by rw [g.hN, s.scope]; exact blkOk_by h6) (fun s' H D cl fp => pt_of (gd_blk g s' H scope _ fp) (gb s' H D cl fp) h2) (fun s' H D cl fp => ckC_ok (gd_blk g s' H scope _ fp) (gb s' H D cl fp) h3 h4)
            (fun s' H D cl fp => ckE_ok (gd_blk g s' H scope _ fp) (gb s' H D cl fp) h5) (fun v => fold_of h8 v)
          refine q.imp fun σ H Q z => ?_
          rw [ow]
          exact lc_inK (ptIn_of h7) σ H Q z
        · simp [ckE, h0] at h
      | [], h => simp [ckE] at h
      | _ :: _ :: _, h => simp [ckE] at h
    | _ => simp [ckE] at h
theorem ckEs_ok : ∀ {es : List IE} {xs : List Expr} {X : Cx} {sc : Scope} {b : Bool}, Gd C F X → Gs b X sc → ckEs C sc es xs = true → PA X xs (teA X.K F es)
  | [], [], X, sc, b, g, s, h => sa_nil
  | a :: as, x :: xs, X, sc, b, g, s, h => by
    simp only [ckEs, Bool.and_eq_true, Bool.not_eq_true'] at h
    exact sa_cons (ckE_ok g s h.1.1) (ckEs_ok g s h.2) (star_cons h.1.2)
  | [], _ :: _, X, sc, b, g, s, h => by simp [ckEs] at h
  | _ :: _, [], X, sc, b, g, s, h => by simp [ckEs] at h
theorem ckV_ok : ∀ {es : List IE} {xs : List Expr} {X : Cx} {sc : Scope} {b : Bool}, Gd C F X → Gs b X sc → ckEs C sc es xs = true → ValE X F xs es
  | [], [], X, sc, b, g, s, h => .nil
  | a :: as, x :: xs, X, sc, b, g, s, h => by
    simp only [ckEs, Bool.and_eq_true, Bool.not_eq_true'] at h
    exact .cons (ckE_ok g s h.1.1) (ckV_ok g s h.2)
  | [], _ :: _, X, sc, b, g, s, h => by simp [ckEs] at h
  | _ :: _, [], X, sc, b, g, s, h => by simp [ckEs] at h
theorem ckAnd_ok : ∀ {es : List IE} {xs : List Expr} {X : Cx} {sc : Scope} {b : Bool} {ps : Pos}, Gd C F X → Gs b X sc → ckEs C sc es xs = true → xs.isEmpty = false → PE X (.BoolOp .And xs ps) (teE X.K F (.and es))
  | [], [], X, sc, b, ps, g, s, h, h2 => by cases h2
  | [a], [x], X, sc, b, ps, g, s, h, h2 => by
    simp only [ckEs, Bool.and_eq_true, Bool.not_eq_true'] at h
    exact se_and1 (ckE_ok g s h.1.1)
  | a :: a2 :: as, x :: y :: xs, X, sc, b, ps, g, s, h, h2 => by
    have h' : ckEs C sc (a2 :: as) (y :: xs) = true := by
      rw [ckEs, Bool.and_eq_true] at h
      exact h.2
    rw [ckEs, Bool.and_eq_true, Bool.and_eq_true] at h
    exact se_and (ckE_ok g s h.1.1) (ckAnd_ok g s h' rfl)
  | [], _ :: _, X, sc, b, ps, g, s, h, h2 => by simp [ckEs] at h
  | _ :: _, [], X, sc, b, ps, g, s, h, h2 => by simp [ckEs] at h
  | [_], _ :: _ :: _, X, sc, b, ps, g, s, h, h2 => by simp [ckEs] at h
  | _ :: _ :: _, [_], X, sc, b, ps, g, s, h, h2 => by simp [ckEs] at h
theorem ckOr_ok : ∀ {es : List IE} {xs : List Expr} {X : Cx} {sc : Scope} {b : Bool} {ps : Pos}, Gd C F X → Gs b X sc → ckEs C sc es xs = true → xs.isEmpty = false → PE X (.BoolOp .Or xs ps) (teE X.K F (.or es))
  | [], [], X, sc, b, ps, g, s, h, h2 => by cases h2
  | [a], [x], X, sc, b, ps, g, s, h, h2 => by
    simp only [ckEs, Bool.and_eq_true, Bool.not_eq_true'] at h
    exact se_or1 (ckE_ok g s h.1.1)
  | a :: a2 :: as, x :: y :: xs, X, sc, b, ps, g, s, h, h2 => by
    have h' : ckEs C sc (a2 :: as) (y :: xs) = true := by
      rw [ckEs, Bool.and_eq_true] at h
      exact h.2
    rw [ckEs, Bool.and_eq_true, Bool.and_eq_true] at h
    exact se_or (ckE_ok g s h.1.1) (ckOr_ok g s h' rfl)
  | [], _ :: _, X, sc, b, ps, g, s, h, h2 => by simp [ckEs] at h
  | _ :: _, [], X, sc, b, ps, g, s, h, h2 => by simp [ckEs] at h
  | [_], _ :: _ :: _, X, sc, b, ps, g, s, h, h2 => by simp [ckEs] at h
  | _ :: _ :: _, [_], X, sc, b, ps, g, s, h, h2 => by simp [ckEs] at h
theorem ckO_ok : ∀ {io : Option IE} {o : Option Expr} {X : Cx} {sc : Scope} {b : Bool}, Gd C F X → Gs b X sc → ckO C sc io o = true → PO X o (teO X.K F io)
  | none, none, X, sc, b, g, s, h => so_none
  | some a, some x, X, sc, b, g, s, h => so_some (ckE_ok g s (by simpa only [ckO] using h))
  | none, some _, X, sc, b, g, s, h => by simp [ckO] at h
  | some _, none, X, sc, b, g, s, h => by simp [ckO] at h
theorem ckT_ok : ∀ {it : IT} {e : Expr} {X : Cx} {sc : Scope} {b : Bool}, Gd C F X → Gs b X sc → ckT C sc it e = true → PT X e (teT X.K F it)
  | .v a, e, X, sc, b, g, s, h => by
    simp only [ckT, Bool.and_eq_true, Bool.not_eq_true'] at h
    exact st_v (ckE_ok g s h.1) (tst_of h.2)
  | .cm p a b', e, X, sc, b, g, s, h => by
    cases e with
    | Compare x ops ys ps =>
      match ops, ys, h with
      | [op], [y], h =>
        simp only [ckT, Bool.and_eq_true, Bool.not_eq_true'] at h
        obtain ⟨r, h1, h2⟩ := cm_of (X := X) g.hu h.1.1.1
        exact st_cm h1 h2 (ckE_ok g s h.1.1.2) (ckE_ok g s h.1.2) (beh_of h.2)
      | [], _, h => simp [ckT] at h
      | [_], [], h => simp [ckT] at h
      | [_], _ :: _ :: _, h => simp [ckT] at h
      | _ :: _ :: _, _, h => simp [ckT] at h
    | _ => simp [ckT] at h
  | .chn p q a b' c, e, X, sc, b, g, s, h => by
    cases e with
    | Compare x ops ys ps =>
      match ops, ys, h with
      | [op, op2], [y, z], h =>
        simp only [ckT, Bool.and_eq_true, Bool.not_eq_true'] at h
        obtain ⟨r, h1, h2⟩ := cm_of (X := X) g.hu h.1.1.1.1.1.1
        obtain ⟨r', h1', h2'⟩ := cm_of (X := X) g.hu h.1.1.1.1.1.2
        exact st_chn h1 h1' h2 h2' (ckE_ok g s h.1.1.1.1.2) (ckE_ok g s h.1.1.1.2) (ckE_ok g s h.1.1.2) (by
          show behindInMarks op2 z = false
          exact beh_of h.2)
      | [], _, h => simp [ckT] at h
      | [_], _, h => simp [ckT] at h
      | [_, _], [], h => simp [ckT] at h
      | [_, _], [_], h => simp [ckT] at h
      | [_, _], _ :: _ :: _ :: _, h => simp [ckT] at h
      | _ :: _ :: _ :: _, _, h => simp [ckT] at h
    | _ => simp [ckT] at h
  | .not t, e, X, sc, b, g, s, h => by
    cases e with
    | UnaryOp op x ps =>
      cases op <;> first | (simp [ckT] at h; done) | skip
      exact st_not (ckT_ok g s (by simpa only [ckT] using h))
    | _ => simp [ckT] at h
  | .and ts, e, X, sc, b, g, s, h => by
    cases e with
    | BoolOp op xs ps =>
      cases op with
      | And =>
        simp only [ckT, Bool.and_eq_true, Bool.not_eq_true'] at h
        exact (ckTA_ok g s h.1 h.2).pt
      | Or => simp [ckT] at h
    | _ => simp [ckT] at h
  | .or ts, e, X, sc, b, g, s, h => by
    cases e with
    | BoolOp op xs ps =>
      cases op with
      | Or =>
        simp only [ckT, Bool.and_eq_true, Bool.not_eq_true'] at h
        exact (ckTO_ok g s h.1 h.2).pt
      | And => simp [ckT] at h
    | _ => simp [ckT] at h
theorem ckTA_ok : ∀ {ts : List IT} {xs : List Expr} {X : Cx} {sc : Scope} {b : Bool} {ps : Pos}, Gd C F X → Gs b X sc → ckTs C sc ts xs = true → xs.isEmpty = false → PW X (.BoolOp .And xs ps) (teT X.K F (.and ts))
  | [], [], X, sc, b, ps, g, s, h, h2 => by cases h2
  | [a], [x], X, sc, b, ps, g, s, h, h2 => by
    simp only [ckTs, Bool.and_eq_true] at h
    exact sw_and1 (ckT_ok g s h.1)
  | a :: a2 :: as, x :: y :: xs, X, sc, b, ps, g, s, h, h2 => by
    rw [ckTs, Bool.and_eq_true] at h
    exact sw_and (ckT_ok g s h.1) (ckTA_ok g s h.2 rfl)
  | [], _ :: _, X, sc, b, ps, g, s, h, h2 => by simp [ckTs] at h
  | _ :: _, [], X, sc, b, ps, g, s, h, h2 => by simp [ckTs] at h
  | [_], _ :: _ :: _, X, sc, b, ps, g, s, h, h2 => by simp [ckTs] at h
  | _ :: _ :: _, [_], X, sc, b, ps, g, s, h, h2 => by simp [ckTs] at h
theorem ckTO_ok : ∀ {ts : List IT} {xs : List Expr} {X : Cx} {sc : Scope} {b : Bool} {ps : Pos}, Gd C F X → Gs b X sc → ckTs C sc ts xs = true → xs.isEmpty = false → PW X (.BoolOp .Or xs ps) (teT X.K F (.or ts))
  | [], [], X, sc, b, ps, g, s, h, h2 => by cases h2
  | [a], [x], X, sc, b, ps, g, s, h, h2 => by
    simp only [ckTs, Bool.and_eq_true] at h
    exact sw_or1 (ckT_ok g s h.1)
  | a :: a2 :: as, x :: y :: xs, X, sc, b, ps, g, s, h, h2 => by
    rw [ckTs, Bool.and_eq_true] at h
    exact sw_or (ckT_ok g s h.1) (ckTO_ok g s h.2 rfl)
  | [], _ :: _, X, sc, b, ps, g, s, h, h2 => by simp [ckTs] at h
  | _ :: _, [], X, sc, b, ps, g, s, h, h2 => by simp [ckTs] at h
  | [_], _ :: _ :: _, X, sc, b, ps, g, s, h, h2 => by simp [ckTs] at h
  | _ :: _ :: _, [_], X, sc, b, ps, g, s, h, h2 => by simp [ckTs] at h
theorem ckC_ok : ∀ {ts : List IT} {xs : List Expr} {X : Cx} {sc : Scope} {b : Bool}, Gd C F X → Gs b X sc → ckTs C sc ts xs = true → ts.length ≤ 1 → PTs X xs (teC X.K F ts)
  | [], [], X, sc, b, g, s, h, h2 => sc_nil
  | [a], [x], X, sc, b, g, s, h, h2 => by
    simp only [ckTs, Bool.and_eq_true] at h
    exact sc_one (ckT_ok g s h.1)
  | _ :: _ :: _, _, X, sc, b, g, s, h, h2 => by simp at h2
  | [], _ :: _, X, sc, b, g, s, h, h2 => by simp [ckTs] at h
  | [_], [], X, sc, b, g, s, h, h2 => by simp [ckTs] at h
  | [_], _ :: _ :: _, X, sc, b, g, s, h, h2 => by simp [ckTs] at h
theorem ckI_ok : ∀ {r : Sr} {e tg : Expr} {X : Cx} {sc : Scope} {b : Bool}, Gd C F X → Gs b X sc → ckI C sc r e tg = true → PI X tg e (tiI X.K F r)
  | .seq a, e, tg, X, sc, b, g, s, h => si_seq (ckE_ok g s (by simpa only [ckI] using h))
  | .rng a, e, tg, X, sc, b, g, s, h => by
    cases e with
    | Call f xs kws ps =>
      cases f with
      | Name x p1 =>
        match xs, kws, h with
        | [y], [], h =>
          simp only [ckI, gB, Bool.and_eq_true, Bool.not_eq_true', decide_eq_true_eq] at h
          obtain ⟨⟨⟨rfl, h2⟩, h3⟩, h4⟩ := h
          exact si_rng (gl_of s h2.1.2) (g.blt _ (by simpa using h2.1.1)) (sa_cons (ckE_ok g s h3) sa_nil (star_cons h4)) (star_cons h4)
        | [], _, h => simp [ckI] at h
        | [_], _ :: _, h => simp [ckI] at h
        | _ :: _ :: _, _, h => simp [ckI] at h
      | _ => simp [ckI] at h
    | _ => simp [ckI] at h
  | .rng2 a a2, e, tg, X, sc, b, g, s, h => by
    cases e with
    | Call f xs kws ps =>
      cases f with
      | Name x p1 =>
        match xs, kws, h with
        | [y, z], [], h =>
          simp only [ckI, gB, Bool.and_eq_true, Bool.not_eq_true', decide_eq_true_eq] at h
          obtain ⟨⟨⟨⟨⟨rfl, h2⟩, h3⟩, h4⟩, h5⟩, h6⟩ := h
          exact si_rng2 (gl_of s h2.1.2) (g.blt _ (by simpa using h2.1.1)) (sa_cons (ckE_ok g s h3) (sa_cons (ckE_ok g s h4) sa_nil (star_cons h6)) (star_cons h5)) (by rw [star_cons h5, star_cons h6]; rfl) (by rw [star_cons h6]; rfl)
        | [], _, h => simp [ckI] at h
        | [_], _, h => simp [ckI] at h
        | [_, _], _ :: _, h => simp [ckI] at h
        | _ :: _ :: _ :: _, _, h => simp [ckI] at h
      | _ => simp [ckI] at h
    | _ => simp [ckI] at h
  | .enum a, e, tg, X, sc, b, g, s, h => by
    cases e with
    | Call f xs kws ps =>
      cases f with
      | Name x p1 =>
        match xs, kws, h with
        | [y], [], h =>
          simp only [ckI, gB, Bool.and_eq_true, Bool.not_eq_true', decide_eq_true_eq] at h
          obtain ⟨⟨⟨⟨h0, rfl⟩, h2⟩, h3⟩, h4⟩ := h
          cases tg with
          | Tuple es k tp => exact si_enum (gl_of s h2.1.2) (g.blt _ (by simpa using h2.1.1)) (sa_cons (ckE_ok g s h3) sa_nil (star_cons h4)) (star_cons h4)
          | _ => cases h0
        | [], _, h => simp [ckI] at h
        | [_], _ :: _, h => simp [ckI] at h
        | _ :: _ :: _, _, h => simp [ckI] at h
      | _ => simp [ckI] at h
    | _ => simp [ckI] at h
  | .zip a a2, e, tg, X, sc, b, g, s, h => by
    cases e with
    | Call f xs kws ps =>
      cases f with
      | Name x p1 =>
        match xs, kws, h with
        | [y, z], [], h =>
          simp only [ckI, gB, Bool.and_eq_true, Bool.not_eq_true', decide_eq_true_eq] at h
          obtain ⟨⟨⟨⟨⟨⟨h0, rfl⟩, h2⟩, h3⟩, h4⟩, h5⟩, h6⟩ := h
          cases tg with
          | Tuple es k tp => exact si_zip (gl_of s h2.1.2) (g.blt _ (by simpa using h2.1.1)) (sa_cons (ckE_ok g s h3) (sa_cons (ckE_ok g s h4) sa_nil (star_cons h6)) (star_cons h5)) (star_cons h5) (any_star ⟨h6, trivial⟩)
          | _ => cases h0
        | [], _, h => simp [ckI] at h
        | [_], _, h => simp [ckI] at h
        | [_, _], _ :: _, h => simp [ckI] at h
        | _ :: _ :: _ :: _, _, h => simp [ckI] at h
      | _ => simp [ckI] at h
    | _ => simp [ckI] at h
end
end
end PD
/-! PD13: the look at statements; a def's promise. -/
namespace PD
open PySem PySem.Spec PyProof.Rows L2
/-- whether the value of a comprehension goes to its name on the spot -/
def swapB (sc : Scope) (t : Str) (tp : Pos) (v : Expr) : Bool := match v with
  | .ListComp _ _ s p => (sc.names.lookup t == some .local) && tp.line == p.line && !(s.names.any fun (n, k) => n == t && (k == .local || k == .cell))
  | _ => false
def isTupE : Expr → Bool
  | .Tuple .. => true
  | .List .. => true
  | _ => false
def isSetC : Expr → Bool
  | .SetComp .. => true
  | .DictComp .. => true
  | _ => false
mutual
def ckS (C : Ck) (sc : Scope) : IS → Stmt → Bool
  | .set i a, .Assign [.Name x p] e _ => decide (C.N[i]? = some x) && locB true sc x && ckE C sc a e && !isSetC e
  | .unp is a, .Assign [.Tuple es k p] e _ => ckE C sc a e && tgsB C true sc is es && !isTupE e && !isComp e
  | .exp a, .Expr e _ => ckE C sc a e && !isComp e
  | .ret a, .Return (some e) _ => ckE C sc a e
  | .retN, .Return none _ => true
  | .iff c a b, .If t x y _ => ckT C sc c t && ckSs C sc a x && ckSs C sc b y
  | .forr pt r body, .For tg it b [] _ => ckI C sc r it tg && ptB C true sc pt tg && ckSs C sc body b && !isSet it
  | .forrk pt en i body, .For tg it b [] _ => ckK C sc en i it tg && ptB C true sc pt tg && ckSs C sc body b && !isSet it
  | .whl _ c body, .While t b [] _ => ckT C sc c t && ckSs C sc body b
  | .ixset i k v, .Assign [.Subscript (.Name x p) ke p2] e _ => nmB C sc i x && ckE C sc k ke && ckE C sc v e && !isSlice ke && !isComp e
  | .pass, .Pass _ => true
  | .brk, .Break _ => true
  | .cont, .Continue _ => true
  | .doc, .Expr (.Constant (.str _) _ _) _ => true
  | _, _ => false
def ckSs (C : Ck) (sc : Scope) : List IS → List Stmt → Bool
  | [], [] => true
  | s :: ss, x :: xs => ckS C sc s x && ckSs C sc ss xs
  | _, _ => false
end
section
variable {C : Ck} {F : List Fn}
theorem swapS_of {x : Expr} {env : Env} {ts : List Expr} {n : Nat} (h : isComp x = false) : swapsWithSole ts x n env = pure false := by
  match ts with
  | [] => rfl
  | [t] => exact swap_of h
  | _ :: _ :: _ => rfl
theorem swapped_none {x : Expr} {env : Env} {ts : List Expr} (h : isTupE x = false) : swappedStores ts x env = pure none := by
  unfold swappedStores
  cases x <;> first | (cases h; done) | (split <;> first | rfl | (rename_i h1 h2; simp_all) | skip)
theorem swapped_sub {x o i : Expr} {p : Pos} {env : Env} : swappedStores [.Subscript o i p] x env = pure none := by
  unfold swappedStores
  cases x <;> rfl
theorem swap_name {sc : Scope} {X : Cx} (s : Gs true X sc) (hk : sc.kind = .function) {e : Expr} {t : Str} {tp : Pos} {n : Nat} (hc : isSetC e = false) : swapsWith e (some (.Name t tp)) n X.env = pure (swapB sc t tp e) := by
  cases e <;> first | rfl | (cases hc; done) | skip
  unfold swapsWith swapB Env.blockKind Env.kindOf
  simp only [s.scope, hk]
  rfl
theorem set_in {K : PySem.W.Frag} {i : Nat} {ia : IE} (D : Ends) (σ : L2.St) (H : Hp) (q : tsS K F (.set i ia) D σ H) : tAsg (teE K F ia) (gName i) D σ H := by
  obtain ⟨w, μ, e, wf, er, k⟩ := q
  simp only [evS] at k
  split at k
  · rename_i f d e1 h1
    split at k
    · rename_i e2 h2
      exact ⟨0, w, μ, e, _, e1, wf, er, h1, fun v H1 w1 a1 an => k _ H1 _ (a1.toS.put an.any h2)⟩
    · exact k.elim
  · rename_i j e1 h1
    split at k
    · rename_i d e2 h2
      split at k
      · rename_i e3 h3
        refine ⟨0, w, μ, e, _, e1, wf, er, h1, fun v H1 w1 a1 an => ?_⟩
        obtain ⟨w2, a2, r⟩ := a1.fz an (Nat.le_refl 0) h2
        exact k _ H1 _ (a2.toS.put (f := false) r h3)
      · exact k.elim
    · exact k.elim
  · exact k.elim
  · exact k.elim
theorem comp_of {sc : Scope} {a : IE} {x : Expr} {gs : List Comprehension} {scope : Scope} {p : Pos} (h : ckE C sc a (.ListComp x gs scope p) = true) : (∃ el pt src cs own, a = .comp el pt src cs own) ∨ ∃ el pt en i cs own, a = .compk el pt en i cs own := by
  cases a with
  | comp el pt src cs own => exact .inl ⟨el, pt, src, cs, own, rfl⟩
  | compk el pt en i cs own => exact .inr ⟨el, pt, en, i, cs, own, rfl⟩
  | un p a => cases p <;> simp [ckE] at h
  | _ => simp [ckE] at h
mutual
theorem ckS_ok : ∀ {i : IS} {st : Stmt} {X : Cx} {sc : Scope}, Gd C F X → Gs true X sc → sc.kind = .function → PassesOwn (model X.prog X.w) X.A X.env X.xe → ckS C sc i st = true → PS X st (tsS X.K F i)
  | .set i a, st, X, sc, g, s, hk, hp, h => by
    cases st with
    | Assign ts e ps =>
      match ts, h with
      | [t], h =>
        cases t with
        | Name x p =>
          simp only [ckS, Bool.and_eq_true, Bool.not_eq_true', decide_eq_true_eq] at h
          obtain ⟨⟨⟨h1, h2⟩, h3⟩, h4⟩ := h
          have hl := loc_of s h2
          have hs := swap_name (tp := p) (t := x) (n := ps.line) s hk h4
          cases hw : swapB sc x p e with
          | false =>
            rw [hw] at hs
            exact ss_set g.nd (by rw [g.hN]; exact h1) hl.1 hl.2 (ckE_ok g s h3) hs
          | true =>
            rw [hw] at hs
            cases e with
            | ListComp el gens scope cp =>
              rcases comp_of h3 with ⟨iel, pt, src, cs, own, rfl⟩ | ⟨iel, pt, en, ik, cs, own, rfl⟩
              · match gens, h3 with
                | [⟨tg, iter, ifs, as⟩], h3 =>
                  by_cases h0 : as = 0
                  · subst h0
                    simp only [ckE, Bool.and_eq_true, Bool.not_eq_true', decide_eq_true_eq] at h3
                    obtain ⟨⟨⟨⟨⟨⟨⟨k1, k2⟩, k3⟩, k4⟩, k5⟩, k6⟩, k7⟩, k8⟩ := h3
                    have ow : (ownL C own).map (·.2) = own := by
                      unfold ownL
                      rw [List.map_map]
                      exact List.map_id own
                    have gb : ∀ (s' : Shared) (H : Hp) (D : Addr) (cl : List (Str × Addr)) (fp : List Addr), Gs false (X.blk s' H scope (compEnvC scope cl D X.env) fp) (relab scope sc) := fun s' H D cl fp => ⟨by
                      show relabel scope X.env = relab scope sc
                      unfold relabel relab Env.kindOf
                      rw [s.scope], fun z => by cases z⟩
                    have hxl : X.env.scope.names.lookup x = some .local := by
                      rw [s.scope]
                      unfold swapB at hw
                      simp only [Bool.and_eq_true, beq_iff_eq] at hw
                      exact hw.1.1
                    have q := ps_setLc (pos := cp) (spos := ps) (py := p) (wi := tiI X.K F src) (g := tgP X.K pt) (tt := teC X.K F cs) (te := teE X.K F iel) g.calm g.nd (by rw [g.hN]; exact h1) hxl hs (ckI_ok g s k1) (by rw [g.hN, s.scope]; exact blkOk_by k6) (fun s' H D cl fp => pt_of (gd_blk g s' H scope _ fp) (gb s' H D cl fp) k2) (fun s' H D cl fp => ckC_ok (gd_blk g s' H scope _ fp) (gb s' H D cl fp) k3 k4)
                      (fun s' H D cl fp => ckE_ok (gd_blk g s' H scope _ fp) (gb s' H D cl fp) k5) (fun v => fold_of k8 v)
                    refine q.imp fun D σ H z => ?_
                    rw [ow]
                    exact lc_in (ptIn_of k7) σ H _ (set_in D σ H z)
                  · simp [ckE, h0] at h3
                | [], h3 => simp [ckE] at h3
                | _ :: _ :: _, h3 => simp [ckE] at h3
              · match gens, h3 with
                | [⟨tg, iter, ifs, as⟩], h3 =>
                  by_cases h0 : as = 0
                  · subst h0
                    simp only [ckE, Bool.and_eq_true, Bool.not_eq_true', decide_eq_true_eq] at h3
                    obtain ⟨⟨⟨⟨⟨⟨⟨k1, k2⟩, k3⟩, k4⟩, k5⟩, k6⟩, k7⟩, k8⟩ := h3
                    have ow : (ownL C own).map (·.2) = own := by
                      unfold ownL
                      rw [List.map_map]
                      exact List.map_id own
                    have gb : ∀ (s' : Shared) (H : Hp) (D : Addr) (cl : List (Str × Addr)) (fp : List Addr), Gs false (X.blk s' H scope (compEnvC scope cl D X.env) fp) (relab scope sc) := fun s' H D cl fp => ⟨by
                      show relabel scope X.env = relab scope sc
                      unfold relabel relab Env.kindOf
                      rw [s.scope], fun z => by cases z⟩
                    have hxl : X.env.scope.names.lookup x = some .local := by
                      rw [s.scope]
                      unfold swapB at hw
                      simp only [Bool.and_eq_true, beq_iff_eq] at hw
                      exact hw.1.1
                    have q := ps_setLc (pos := cp) (spos := ps) (py := p) (wi := tiK X.K F en ik) (g := tgP X.K pt) (tt := teC X.K F cs) (te := teE X.K F iel) g.calm g.nd (by rw [g.hN]; exact h1) hxl hs (ckK_ok g s k1) (by rw [g.hN, s.scope]; exact blkOk_by k6) (fun s' H D cl fp => pt_of (gd_blk g s' H scope _ fp) (gb s' H D cl fp) k2) (fun s' H D cl fp => ckC_ok (gd_blk g s' H scope _ fp) (gb s' H D cl fp) k3 k4)
                      (fun s' H D cl fp => ckE_ok (gd_blk g s' H scope _ fp) (gb s' H D cl fp) k5) (fun v => fold_of k8 v)
                    refine q.imp fun D σ H z => ?_
                    rw [ow]
                    exact lc_inK (ptIn_of k7) σ H _ (set_in D σ H z)
                  · simp [ckE, h0] at h3
                | [], h3 => simp [ckE] at h3
                | _ :: _ :: _, h3 => simp [ckE] at h3
            | _ => simp [swapB] at hw
        | _ => simp [ckS] at h
      | [], h => exact absurd (show false = true from h) Bool.false_ne_true
      | t :: _ :: _, h =>
        cases t with
        | Subscript o _ _ => cases o <;> exact absurd (show false = true from h) Bool.false_ne_true
        | _ => exact absurd (show false = true from h) Bool.false_ne_true
    | _ => simp [ckS] at h
  | .unp is a, st, X, sc, g, s, hk, hp, h => by
    cases st with
    | Assign ts e ps =>
      match ts, h with
      | [t], h =>
        cases t with
        | Tuple es k p =>
          simp only [ckS, Bool.and_eq_true, Bool.not_eq_true'] at h
          obtain ⟨⟨⟨h1, h2⟩, h3⟩, h4⟩ := h
          exact ss_unp (ckE_ok g s h1) (pt_of (pt := .tp is) g s (by simpa only [ptB] using h2)) (swapS_of h4) (swapped_none h3) (by rfl)
        | _ => simp [ckS] at h
      | [], h => exact absurd (show false = true from h) Bool.false_ne_true
      | t :: _ :: _, h =>
        cases t with
        | Subscript o _ _ => cases o <;> exact absurd (show false = true from h) Bool.false_ne_true
        | _ => exact absurd (show false = true from h) Bool.false_ne_true
    | _ => simp [ckS] at h
  | .par _ _ _ _, st, X, sc, g, s, hk, hp, h => by cases st <;> simp [ckS] at h
  | .exp a, st, X, sc, g, s, hk, hp, h => by
    cases st with
    | Expr e ps =>
      simp only [ckS, Bool.and_eq_true, Bool.not_eq_true'] at h
      exact ss_exp (ckE_ok g s h.1) (swap_of h.2)
    | _ => simp [ckS] at h
  | .ret a, st, X, sc, g, s, hk, hp, h => by
    cases st with
    | Return v ps =>
      cases v with
      | some e => exact ss_ret (ckE_ok g s (by simpa only [ckS] using h))
      | none => simp [ckS] at h
    | _ => simp [ckS] at h
  | .retN, st, X, sc, g, s, hk, hp, h => by
    cases st with
    | Return v ps =>
      cases v with
      | none => exact ss_retN
      | some _ => simp [ckS] at h
    | _ => simp [ckS] at h
  | .iff c a b, st, X, sc, g, s, hk, hp, h => by
    cases st with
    | If t x y ps =>
      simp only [ckS, Bool.and_eq_true] at h
      exact ss_if (ckT_ok g s h.1.1) (ckSs_ok g s hk hp h.1.2) (ckSs_ok g s hk hp h.2)
    | _ => simp [ckS] at h
  | .forr pt r body, st, X, sc, g, s, hk, hp, h => by
    cases st with
    | For tg it b oe ps =>
      cases oe with
      | nil =>
        simp only [ckS, Bool.and_eq_true, Bool.not_eq_true'] at h
        exact ss_for hp g.calm (ckI_ok g s h.1.1.1) (pt_of g s h.1.1.2) (ckSs_ok g s hk hp h.1.2) (fun v => fold_of h.2 v)
      | cons _ _ => simp [ckS] at h
    | _ => simp [ckS] at h
  | .forrk pt en ik body, st, X, sc, g, s, hk, hp, h => by
    cases st with
    | For tg it b oe ps =>
      cases oe with
      | nil =>
        simp only [ckS, Bool.and_eq_true, Bool.not_eq_true'] at h
        exact ss_forK hp g.calm (ckK_ok g s h.1.1.1) (pt_of g s h.1.1.2) (ckSs_ok g s hk hp h.1.2) (fun v => fold_of h.2 v)
      | cons _ _ => simp [ckS] at h
    | _ => simp [ckS] at h
  | .whl n c body, st, X, sc, g, s, hk, hp, h => by
    cases st with
    | While t b oe ps =>
      cases oe with
      | nil =>
        simp only [ckS, Bool.and_eq_true] at h
        exact ss_while hp (ckT_ok g s h.1) (ckSs_ok g s hk hp h.2)
      | cons _ _ => simp [ckS] at h
    | _ => simp [ckS] at h
  | .ixset i k v, st, X, sc, g, s, hk, hp, h => by
    cases st with
    | Assign ts e ps =>
      match ts, h with
      | [t], h =>
        cases t with
        | Subscript o ke p2 =>
          cases o with
          | Name x p =>
            simp only [ckS, Bool.and_eq_true, Bool.not_eq_true'] at h
            obtain ⟨⟨⟨⟨h1, h2⟩, h3⟩, h4⟩, h5⟩ := h
            exact ss_ixset (by have := g.hu; omega) (nm_of g s h1) (ckE_ok g s h2) (ckE_ok g s h3) (fun v => by cases ke <;> first | rfl | cases h4) (swapS_of h5) swapped_sub (by rfl)
          | _ => simp [ckS] at h
        | _ => simp [ckS] at h
      | [], h => exact absurd (show false = true from h) Bool.false_ne_true
      | t :: _ :: _, h =>
        cases t with
        | Subscript o _ _ => cases o <;> exact absurd (show false = true from h) Bool.false_ne_true
        | _ => exact absurd (show false = true from h) Bool.false_ne_true
    | _ => simp [ckS] at h
  | .aug _ _ _, st, X, sc, g, s, hk, hp, h => by cases st <;> simp [ckS] at h
  | .pass, st, X, sc, g, s, hk, hp, h => by
    cases st with
    | Pass ps => exact ss_pass
    | _ => simp [ckS] at h
  | .brk, st, X, sc, g, s, hk, hp, h => by
    cases st with
    | Break ps => exact ss_brk
    | _ => simp [ckS] at h
  | .cont, st, X, sc, g, s, hk, hp, h => by
    cases st with
    | Continue ps => exact ss_cont
    | _ => simp [ckS] at h
  | .doc, st, X, sc, g, s, hk, hp, h => by
    cases st with
    | Expr e ps =>
      cases e with
      | Constant c k p =>
        cases c with
        | str z => exact ss_doc
        | _ => simp [ckS] at h
      | _ => simp [ckS] at h
    | _ => simp [ckS] at h
theorem ckSs_ok : ∀ {is : List IS} {sts : List Stmt} {X : Cx} {sc : Scope}, Gd C F X → Gs true X sc → sc.kind = .function → PassesOwn (model X.prog X.w) X.A X.env X.xe → ckSs C sc is sts = true → PSs X sts (tsSs X.K F is)
  | [], [], X, sc, g, s, hk, hp, h => ss_nil
  | i :: is, st :: sts, X, sc, g, s, hk, hp, h => by
    rw [ckSs, Bool.and_eq_true] at h
    exact ss_cons (ckS_ok g s hk hp h.1) (ckSs_ok g s hk hp h.2)
  | [], _ :: _, X, sc, g, s, hk, hp, h => by simp [ckSs] at h
  | _ :: _, [], X, sc, g, s, hk, hp, h => by simp [ckSs] at h
end
end
end PD
/-! PD14: a def's promise by its term; the law's end. -/
namespace PD
open PySem PySem.Spec PyProof.Rows L2
theorem argR_len {K : PySem.W.Frag} {H : Hp} {w : Wh} : ∀ {j : Nat} {ms : List Bool} {vs : List V} {ds : List D}, ArgR K H w j ms vs ds → vs.length = ms.length ∧ ds.length = ms.length
  | _, _, _, _, .nil j => ⟨rfl, rfl⟩
  | _, _, _, _, .ro _ r => ⟨congrArg (· + 1) (argR_len r).1, congrArg (· + 1) (argR_len r).2⟩
  | _, _, _, _, .mu _ r => ⟨congrArg (· + 1) (argR_len r).1, congrArg (· + 1) (argR_len r).2⟩
theorem argR_at {K : PySem.W.Frag} {H : Hp} {w : Wh} : ∀ {j : Nat} {ms : List Bool} {vs : List V} {ds : List D}, ArgR K H w j ms vs ds → ∀ (i : Nat) (m : Bool) (d : D), ms[i]? = some m → ds[i]? = some d → ∃ v, vs[i]? = some v ∧ RpO K H w (.slot (j + i)) (if m = true then .mu else .sh) v d
  | _, _, _, _, .nil j, i, m, d, h, _ => by simp at h
  | j, _, _, _, .ro a r, 0, m, d, h1, h2 => by
    simp at h1 h2
    subst h1 h2
    exact ⟨_, rfl, a⟩
  | j, _, _, _, .mu a r, 0, m, d, h1, h2 => by
    simp at h1 h2
    subst h1 h2
    exact ⟨_, rfl, a⟩
  | j, _, _, _, .ro a r, i + 1, m, d, h1, h2 => by
    obtain ⟨v, e, q⟩ := argR_at r i m d (by simpa using h1) (by simpa using h2)
    exact ⟨v, by simpa using e, by rw [show j + (i + 1) = j + 1 + i by omega]; exact q⟩
  | j, _, _, _, .mu a r, i + 1, m, d, h1, h2 => by
    obtain ⟨v, e, q⟩ := argR_at r i m d (by simpa using h1) (by simpa using h2)
    exact ⟨v, by simpa using e, by rw [show j + (i + 1) = j + 1 + i by omega]; exact q⟩
theorem lastMs_ok {K : PySem.W.Frag} {H : Hp} {w : Wh} {μ : Nat → Option V} {σ : L2.St} {e : En} (er : EnvR K H w μ σ e) : ∀ {modes : List Bool} {vs : List V} {j : Nat} {ms : List D}, lastMs modes j e = some ms → modes.length = vs.length → (∀ i, i < vs.length → μ (j + i) = vs[i]?) → MsR K H w j modes vs ms
  | [], [], j, ms, h, _, _ => by
    cases h
    exact .nil j
  | false :: modes, v :: vs, j, ms, h, hl, hm => by
    refine .ro (lastMs_ok er (show lastMs modes (j + 1) e = some ms from h) (by simpa using hl) fun i hi => ?_)
    rw [show j + 1 + i = j + (i + 1) by omega, hm (i + 1) (by simp only [List.length_cons]; omega)]
    simp
  | true :: modes, v :: vs, j, ms, h, hl, hm => by
    simp only [lastMs] at h
    split at h
    · rename_i d ds h1 h2
      cases h
      obtain ⟨v', v1, v2, v3⟩ := er.at_ j _ d h1
      have hv := hm 0 (by simp)
      rw [Nat.add_zero, v3 rfl] at hv
      have ev : v' = v := by simpa using hv
      subst ev
      refine .mu v2 (lastMs_ok er h2 (by simpa using hl) fun i hi => ?_)
      rw [show j + 1 + i = j + (i + 1) by omega, hm (i + 1) (by simp only [List.length_cons]; omega)]
      simp
    · cases h
  | [], _ :: _, _, _, _, hl, _ => by simp at hl
  | _ :: _, [], _, _, _, hl, _ => by simp at hl
section
variable {P : Program} {w : World} {K : PySem.W.Frag} {mg : Str → Option Value} {base : Heap}
/-- what a callee is known by -/
def LnkOk (P : Program) (w : World) (K : PySem.W.Frag) (mg : Str → Option Value) (base : Heap) (k : Nat) (p : Str × List (List D)) (fn : Fn) : Prop :=
  ∃ (f : Addr) (fd : FuncData) (ps : List Str), FnOk P w K mg base CX0 k f fd ps (spF K fn) ∧ mg p.1 = some (.ref f) ∧ PySem.W.keepIn K (.ref f) = true ∧
    ∀ dv ∈ p.2, ∃ dvs ds, Paired (fun v d => litV d = some v) dvs dv ∧ Binds K fd ps ds ∧ Vals dvs ds
theorem fn_pd {x qual : Str} {st : Stmt} {f : Addr} {fd : FuncData} {N ps : List Str} {k : Nat} {C : Ck} {Fs : List Fn} {modes : List Bool} {body : List IS} (F : Fun K x qual st f fd) (S : FnScope N ps (defScope st)) (hN : C.N = N) (hm : modes.length = ps.length)
    (hck : ckSs C (defScope st) body (defBody st) = true) (blt : ∀ x ∈ C.B, mg x = none) (glb : ∀ p : Str × D, p ∈ C.G → ∃ u v, mg p.1 = some u ∧ litV p.2 = some v ∧ RelV v u)
    (lnk : ∀ (i : Nat) (p : Str × List (List D)), C.L[i]? = some p → ∃ fn, Fs[i]? = some fn ∧ LnkOk P w K mg base k p fn) : FnOk P w K mg base CX0 (k + 1) f fd ps (spF K ⟨modes, runF Fs modes N.length body⟩) := by
  refine F.ok S (fun vs H Q E h => ?_) (fun cdv A outer s H vs Q E hr h => ⟨tsSs K Fs body, ?_, ?_⟩)
  · obtain ⟨w, ds, wf, ar, _⟩ := h
    rw [(argR_len ar).1, hm]
  · refine ckSs_ok (X := (cxOf CX0 P w K mg base N qual (defScope st) f cdv A outer s H E).nox) (sc := defScope st) ⟨hN.symm, S.nd, rfl, ?_, blt, glb, fun i p hp => ?_⟩ ⟨rfl, fun _ _ => rfl⟩ S.kind PassesOwn.never hck
    · have := hr.un
      show (A.deeper (envOfC qual (defScope st) s.heap.objs.size f cdv)).units + 130 < cLine
      omega
    · obtain ⟨fn, h1, f', fd', ps', h2, h3, h4, h5⟩ := lnk i p hp
      exact ⟨fn, h1, k, f', fd', ps', hr, h2, h3, h4, h5⟩
  · obtain ⟨w, ds, wf, ar, sem⟩ := h
    obtain ⟨l1, l2⟩ := argR_len ar
    simp only at l1 l2 sem
    split at sem
    · rename_i fr d0 ms0 heq
      unfold runF at heq
      have hlen : ds.length = modes.length ∧ modes.length ≤ N.length := by
        split at heq
        · assumption
        · cases heq
      rw [if_pos hlen] at heq
      have er : EnvR K H w (fun j => vs[j]?) (L2.start N vs) (startE modes ds N.length) := by
        have zl : (List.zipWith (fun m d => some (Sl.mk (if m = true then .mu else .sh) d)) modes ds).length = modes.length := by
          rw [List.length_zipWith, l2, Nat.min_self]
        refine ⟨?_, fun i o d h => ?_⟩
        · unfold L2.start startE
          rw [List.length_append, List.length_append, List.length_map, List.length_replicate, List.length_replicate, zl, l1, l2]
        · unfold startE at h
          by_cases hi : i < modes.length
          · rw [List.getElem?_append_left (by rw [zl]; exact hi), List.getElem?_zipWith] at h
            have h1 : modes[i]? = some modes[i] := List.getElem?_eq_getElem hi
            have h2 : ds[i]? = some (ds[i]'(by omega)) := List.getElem?_eq_getElem (by omega)
            rw [h1, h2] at h
            cases h
            obtain ⟨v, v1, v2⟩ := argR_at ar i _ _ h1 h2
            refine ⟨v, ?_, by rw [Nat.zero_add] at v2; exact v2, fun _ => v1⟩
            unfold L2.start
            rw [List.getElem?_append_left (by rw [List.length_map, l1]; exact hi), List.getElem?_map, v1]
            rfl
          · rw [List.getElem?_append_right (by rw [zl]; omega), List.getElem?_replicate] at h
            split at h <;> cases h
      refine ⟨w, fun j => vs[j]?, _, wf, er, ?_⟩
      have fin : ∀ {f : Bool} {d : D} {e : En} {ms : List D} {v : V} {σ' : L2.St} {H' : Hp} {w' : Wh}, lastMs modes 0 e = some ms → AftS K (fun j => vs[j]?) e H w σ' H' w' → AnsR K 0 H' w' [] v (.val f d) →
          (∀ v H' w', Stp (keepE 0) H w H' w' → Wf H' w' → AnsR K 0 H' w' [] v (.val f d) → MsR K H' w' 0 modes vs ms → Q v H') → Q v H' := fun hms a an k =>
        k _ _ _ a.stp a.wf an (lastMs_ok a.env hms (by rw [l1]) fun i hi => by rw [Nat.zero_add])
      cases hr : evSs Fs body (startE modes ds N.length) with
      | nx e =>
        rw [hr] at heq
        simp only at heq
        cases hms : lastMs modes 0 e with
        | none => rw [hms] at heq; cases heq
        | some ms =>
          rw [hms] at heq
          cases heq
          exact fun σ' H' w' a => fin (d := .none) (f := false) hms a .non sem
      | rt f d e =>
        rw [hr] at heq
        simp only at heq
        cases hms : lastMs modes 0 e with
        | none => rw [hms] at heq; cases heq
        | some ms =>
          rw [hms] at heq
          cases heq
          exact fun v σ' H' w' a an => fin hms a an sem
      | no => rw [hr] at heq; cases heq
      | bk e => rw [hr] at heq; cases heq
      | ct e => rw [hr] at heq; cases heq
      | ex c d e =>
        rw [hr] at heq
        simp only at heq
        cases hms : lastMs modes 0 e with
        | none => rw [hms] at heq; cases heq
        | some ms => rw [hms] at heq; cases heq
    · exact sem.elim
/-- what is asked of the law's def -/
def spLaw (K : PySem.W.Frag) : Sp := fun vs H Q _ => ∃ (a : Addr) (ns : List Int), vs = [.ref a] ∧ SqL K H a (ns.map V.int) ∧ ns.length ≤ 63 ∧ ∀ H', Q (.bl true) H'
theorem law_pd {k : Nat} {f : Addr} {fd : FuncData} {ps : List Str} {fn : Fn} (G : FnOk P w K mg base CX0 k f fd ps (spF K fn)) (hm : fn.modes = [false]) (hs : ∀ ns : List Int, ns.length ≤ 63 → ∃ fr, fn.sem [.list (ns.map .int)] = .ok fr (.bool true) []) :
    FnOk P w K mg base CX0 k f fd ps (spLaw K) := by
  refine G.imp fun vs H Q E h => ?_
  obtain ⟨a, ns, rfl, hS, hl, k⟩ := h
  obtain ⟨fr, hs⟩ := hs ns hl
  have ri : ∀ ns : List Int, RpAll K H (fun _ => none) (ns.map V.int) (ns.map PyData.int) := by
    intro ns
    induction ns with
    | nil => exact .nil
    | cons n ns ih => exact .cons (.int n) ih
  refine ⟨fun _ => none, [.list (ns.map .int)], fun _ _ => rfl, ?_, ?_⟩
  · rw [hm]
    refine .ro (.lst ?_ (ri ns)) (.nil 1)
    exact hS.imp (fun h => ⟨h, rfl⟩) fun h => h
  · rw [hs]
    intro v H' w' _ _ an _
    rw [ans_bl an]
    exact k H'
end
end PD
/-! PD15: defs put together. -/
namespace PD
open PySem PySem.Spec PyProof.Rows L2
/-- a def that stands in the module -/
def Kn (K : PySem.W.Frag) (mg : Str → Option Value) (x : Str) (st : Stmt) (ps : List Str) : Prop :=
  ∃ (f : Addr) (fd : FuncData), Fun K x x st f fd ∧ Binds K fd ps [] ∧ mg x = some (.ref f) ∧ PySem.W.keepIn K (.ref f) = true
section
variable {P : Program} {w : World} {K : PySem.W.Frag} {mg : Str → Option Value} {base : Heap}
theorem kn_mk {x : Str} {st : Stmt} {f : Addr} {h : Heap} {ps : List Str} {oc : Value} {od an : Option Addr} {osl : Array (Option Value)} {kV doc pm cdv ct : Value} (X : K.In h) (G : h.Ns mainGlobals mg)
    (a : PySem.W.nsIn K mainGlobals x = some (some (.ref f)))
    (l : K.lookup f = some ⟨oc, od, .func (PySem.W.fnOf x x (defArgs st) (defBody st) (defScope st) .none kV doc pm an cdv ct), osl⟩)
    (c : PySem.W.codeIn K cdv x = true) (k : PySem.W.keepIn K (.ref f) = true)
    (hb : ∀ (kV doc pm : Value) (an : Option Addr) (cdv ct : Value) (us : List Value), us.length = ps.length → bindArgs (PySem.W.fnOf x x (defArgs st) (defBody st) (defScope st) .none kV doc pm an cdv ct) ⟨us, []⟩ = pure (ps.zip us)) : Kn K mg x st ps :=
  ⟨f, _, fun_mk l c k, (fun_mk l c k).binds hb, PySem.W.mg_of X G a, k⟩
def LnkL (P : Program) (w : World) (K : PySem.W.Frag) (mg : Str → Option Value) (base : Heap) (k : Nat) : List (Str × List (List D)) → List Fn → Prop
  | [], [] => True
  | p :: ps, f :: fs => LnkOk P w K mg base k p f ∧ LnkL P w K mg base k ps fs
  | _, _ => False
theorem LnkL.at {k : Nat} : ∀ {L : List (Str × List (List D))} {fs : List Fn}, LnkL P w K mg base k L fs → ∀ (i : Nat) (p : Str × List (List D)), L[i]? = some p → ∃ fn, fs[i]? = some fn ∧ LnkOk P w K mg base k p fn
  | [], [], _, i, p, h => by simp at h
  | q :: L, f :: fs, hl, 0, p, h => by
    simp at h
    subst h
    exact ⟨f, rfl, hl.1⟩
  | q :: L, f :: fs, hl, i + 1, p, h => by
    obtain ⟨fn, h1, h2⟩ := LnkL.at hl.2 i p (by simpa using h)
    exact ⟨fn, by simpa using h1, h2⟩
theorem LnkOk.mono {j k : Nat} {p : Str × List (List D)} {fn : Fn} (h : LnkOk P w K mg base j p fn) (hj : j ≤ k) : LnkOk P w K mg base k p fn := by
  obtain ⟨f, fd, ps, h1, h2⟩ := h
  exact ⟨f, fd, ps, h1.mono hj, h2⟩
theorem lnk_pd {x : Str} {st : Stmt} {N ps : List Str} {k : Nat} {C : Ck} {Fs : List Fn} {modes : List Bool} {body : List IS} (n : Kn K mg x st ps) (S : FnScope N ps (defScope st)) (hN : C.N = N) (hm : modes.length = ps.length)
    (hck : ckSs C (defScope st) body (defBody st) = true) (blt : ∀ x ∈ C.B, mg x = none) (glb : ∀ p : Str × D, p ∈ C.G → ∃ u v, mg p.1 = some u ∧ litV p.2 = some v ∧ RelV v u)
    (lnk : LnkL P w K mg base k C.L Fs) : LnkOk P w K mg base (k + 1) (x, [[]]) ⟨modes, runF Fs modes N.length body⟩ := by
  obtain ⟨f, fd, F, hb, h1, h2⟩ := n
  refine ⟨f, fd, ps, fn_pd F S hN hm hck blt glb lnk.at, h1, h2, fun dv hd => ?_⟩
  rw [List.mem_singleton] at hd
  subst hd
  exact ⟨[], [], .nil, hb, .nil⟩
theorem law_end {N ps : List Str} {k : Nat} {fa : Addr} {x : Str} {st : Stmt} {oc : Value} {od an : Option Addr} {osl : Array (Option Value)} {kV doc pm cdv ct : Value} (S : FnScope N ps (defScope st))
    (l : K.lookup fa = some ⟨oc, od, .func (PySem.W.fnOf x x (defArgs st) (defBody st) (defScope st) .none kV doc pm an cdv ct), osl⟩)
    (c : PySem.W.codeIn K cdv x = true) (kk : PySem.W.keepIn K (.ref fa) = true) {C : Ck} {Fs : List Fn} {body : List IS} (hN : C.N = N) (hp : ps.length = 1)
    (hck : ckSs C (defScope st) body (defBody st) = true) (blt : ∀ x ∈ C.B, mg x = none) (glb : ∀ p : Str × D, p ∈ C.G → ∃ u v, mg p.1 = some u ∧ litV p.2 = some v ∧ RelV v u)
    (lnk : LnkL P w K mg base k C.L Fs) (hs : ∀ ns : List Int, ns.length ≤ 63 → ∃ fr, runF Fs [false] N.length body [.list (ns.map .int)] = .ok fr (.bool true) []) :
    FnOk P w K mg base CX0 (k + 1) fa (PySem.W.fnOf x x (defArgs st) (defBody st) (defScope st) .none kV doc pm an cdv ct) ps (spLaw K) :=
  law_pd (fn_pd (modes := [false]) (fun_mk l c kk) S hN (by rw [hp]; rfl) hck blt glb lnk.at) rfl hs
end
end PD
namespace CM
open PySem PD
def b__law_pen : List IS := [
  .ret (.dic [(.str "cells"), (.str "at"), (.str "left")] [(.sl (.var 0) none (some (.lit (.int 63)))), (.lit (.int 0)), (.lit (.int 0))])]
def f__law_pen : Fn := ⟨[false], runF [] [false] 1 b__law_pen⟩
@[simp] theorem m__law_pen : f__law_pen.modes = [false] := rfl
theorem e__law_pen (ds : List D) : f__law_pen.sem ds = runF [] [false] 1 b__law_pen ds := rfl
def b__law_draw : List IS := [
  .iff (.cm .gt (.ix (.var 0) (.lit (.str "left"))) (.lit (.int 0))) [
    .set 2 (.bi .mod (.ix (.var 0) (.lit (.str "left"))) (.var 1)),
    .ixset 0 (.lit (.str "left")) (.bi .fdiv (.ix (.var 0) (.lit (.str "left"))) (.var 1)),
    .ret (.var 2)] [],
  .set 3 (.ix (.var 0) (.lit (.str "at"))),
  .ixset 0 (.lit (.str "at")) (.bi .add (.var 3) (.lit (.int 1))),
  .set 4 (.bi .add (.bi .mul (.lit (.int 41)) (.var 3)) (.lit (.int 13))),
  .iff (.cm .gt (.fn .len [(.ix (.var 0) (.lit (.str "cells")))]) (.lit (.int 0))) [
    .set 4 (.ix (.ix (.var 0) (.lit (.str "cells"))) (.bi .mod (.var 3) (.fn .len [(.ix (.var 0) (.lit (.str "cells")))])))] [],
  .iff (.and [(.cm .lt (.var 3) (.fn .len [(.ix (.var 0) (.lit (.str "cells")))])), (.cm .ge (.fn .abs [(.var 4)]) (.bi .pow (.lit (.int 10)) (.lit (.int 18))))]) [
    .ixset 0 (.lit (.str "left")) (.bi .fdiv (.fn .abs [(.var 4)]) (.var 1)),
    .ret (.bi .mod (.fn .abs [(.var 4)]) (.var 1))] [],
  .set 5 (.ix (.tup [(.lit (.int 2147483647)), (.lit (.int 2147483629)), (.lit (.int 2147483587)), (.lit (.int 2147483579)), (.lit (.int 2147483563)), (.lit (.int 2147483549)), (.lit (.int 2147483543))]) (.bi .mod (.var 3) (.lit (.int 7)))),
  .set 6 (.bi .mod (.bi .pow (.bi .add (.bi .add (.bi .add (.bi .mod (.var 4) (.lit (.int 2147483489))) (.bi .mul (.bi .mul (.lit (.int 60013)) (.var 3)) (.var 3))) (.bi .mul (.lit (.int 40009)) (.var 3))) (.lit (.int 733))) (.lit (.int 3))) (.var 5)),
  .set 6 (.bi .mod (.bi .pow (.bi .add (.bi .add (.var 6) (.bi .mul (.lit (.int 17)) (.var 3))) (.lit (.int 3))) (.lit (.int 2))) (.lit (.int 2147483477))),
  .ret (.bi .mod (.bi .fdiv (.bi .mod (.bi .mul (.var 6) (.lit (.int 69997))) (.lit (.int 2147483423))) (.lit (.int 1013))) (.var 1))]
def f__law_draw : Fn := ⟨[true, false], runF [] [true, false] 7 b__law_draw⟩
@[simp] theorem m__law_draw : f__law_draw.modes = [true, false] := rfl
theorem e__law_draw (ds : List D) : f__law_draw.sem ds = runF [] [true, false] 7 b__law_draw ds := rfl
def b__law_size : List IS := [
  .set 1 (.lit (.int 1)),
  .forr (.nm 2) (.seq (.var 0)) [
    .set 1 (.bi .mul (.var 1) (.var 2))],
  .ret (.var 1)]
def f__law_size : Fn := ⟨[false], runF [] [false] 3 b__law_size⟩
@[simp] theorem m__law_size : f__law_size.modes = [false] := rfl
theorem e__law_size (ds : List D) : f__law_size.sem ds = runF [] [false] 3 b__law_size ds := rfl
def b__law_room : List IS := [
  .set 2 (.call 0 [(.var 0), (.lit (.int 6))] []),
  .set 3 (.ix (.lst [(.lit (.int 8)), (.lit (.int 4)), (.lit (.int 1)), (.lit (.int 8)), (.lit (.int 3)), (.bi .add (.lit (.int 1)) (.call 0 [(.var 0), (.lit (.int 8))] []))]) (.var 2)),
  .set 4 (.tup []),
  .forr (.nm 5) (.rng (.var 3)) [
    .set 6 (.ix (.lst [(.lit (.int 2)), (.lit (.int 4)), (.bi .add (.lit (.int 2)) (.call 0 [(.var 0), (.lit (.int 3))] []))]) (.fn .min2 [(.var 2), (.lit (.int 2))])),
    .iff (.cm .le (.bi .mul (.call 1 [(.var 4)] []) (.var 6)) (.var 1)) [
      .set 4 (.bi .add (.var 4) (.tup [(.var 6)]))] []],
  .ret (.var 4)]
def f__law_room : Fn := ⟨[true, false], runF [f__law_draw, f__law_size] [true, false] 7 b__law_room⟩
@[simp] theorem m__law_room : f__law_room.modes = [true, false] := rfl
theorem e__law_room (ds : List D) : f__law_room.sem ds = runF [f__law_draw, f__law_size] [true, false] 7 b__law_room ds := rfl
def b__law_all : List IS := [
  .set 1 (.lst []),
  .forr (.nm 2) (.rng (.call 0 [(.var 0)] [])) [
    .set 3 (.lst []),
    .forr (.nm 4) (.seq (.un .rev (.var 0))) [
      .exp (.mt .append 3 [(.bi .mod (.var 2) (.var 4))]),
      .set 2 (.bi .fdiv (.var 2) (.var 4))],
    .exp (.mt .append 1 [(.fn .tuple [(.un .rev (.var 3))])])],
  .ret (.var 1)]
def f__law_all : Fn := ⟨[false], runF [f__law_size] [false] 5 b__law_all⟩
@[simp] theorem m__law_all : f__law_all.modes = [false] := rfl
theorem e__law_all (ds : List D) : f__law_all.sem ds = runF [f__law_size] [false] 5 b__law_all ds := rfl
def b_lengthened : List IS := [
  .set 2 (.lst []),
  .forr (.nm 3) (.seq (.var 0)) [
    .exp (.mt .extend 2 [(.comp (.bi .add (.var 3) (.tup [(.var 4)])) (.nm 4) (.rng (.var 1)) [] [4])])],
  .ret (.var 2)]
def f_lengthened : Fn := ⟨[false, false], runF [] [false, false] 5 b_lengthened⟩
@[simp] theorem m_lengthened : f_lengthened.modes = [false, false] := rfl
theorem e_lengthened (ds : List D) : f_lengthened.sem ds = runF [] [false, false] 5 b_lengthened ds := rfl
def b_standings : List IS := [
  .set 1 (.lst [(.tup [])]),
  .forr (.nm 2) (.seq (.var 0)) [
    .set 1 (.call 0 [(.var 1), (.var 2)] [])],
  .ret (.var 1)]
def f_standings : Fn := ⟨[false], runF [f_lengthened] [false] 3 b_standings⟩
@[simp] theorem m_standings : f_standings.modes = [false] := rfl
theorem e_standings (ds : List D) : f_standings.sem ds = runF [f_lengthened] [false] 3 b_standings ds := rfl
def b_number : List IS := [
  .set 2 (.lit (.int 0)),
  .forr (.tp [3, 4]) (.zip (.var 0) (.var 1)) [
    .set 2 (.bi .add (.bi .mul (.var 2) (.var 3)) (.var 4))],
  .ret (.var 2)]
def f_number : Fn := ⟨[false, false], runF [] [false, false] 5 b_number⟩
@[simp] theorem m_number : f_number.modes = [false, false] := rfl
theorem e_number (ds : List D) : f_number.sem ds = runF [] [false, false] 5 b_number ds := rfl
def b__law_is_whole : List IS := [
  .ret (.and [(.isI .int (.var 0)), (.not (.isI .bool (.var 0)))])]
def f__law_is_whole : Fn := ⟨[false], runF [] [false] 1 b__law_is_whole⟩
@[simp] theorem m__law_is_whole : f__law_is_whole.modes = [false] := rfl
theorem e__law_is_whole (ds : List D) : f__law_is_whole.sem ds = runF [] [false] 1 b__law_is_whole ds := rfl
def b__law_is_standing : List IS := [
  .iff (.or [(.not (.v (.isI .tuple (.var 1)))), (.cm .ne (.fn .len [(.var 1)]) (.fn .len [(.var 0)]))]) [
    .ret (.lit (.bool false))] [],
  .ret (.fn .all [(.comp (.and [(.call 0 [(.var 2)] []), (.chn .le .lt (.lit (.int 0)) (.var 2) (.var 3))]) (.tp [2, 3]) (.zip (.var 1) (.var 0)) [] [2, 3])])]
def f__law_is_standing : Fn := ⟨[false, false], runF [f__law_is_whole] [false, false] 4 b__law_is_standing⟩
@[simp] theorem m__law_is_standing : f__law_is_standing.modes = [false, false] := rfl
theorem e__law_is_standing (ds : List D) : f__law_is_standing.sem ds = runF [f__law_is_whole] [false, false] 4 b__law_is_standing ds := rfl
def b__law_list_right : List IS := [
  .set 1 (.call 0 [(.var 0)] []),
  .iff (.or [(.not (.v (.isI .list (.var 1)))), (.cm .ne (.fn .len [(.var 1)]) (.call 1 [(.var 0)] []))]) [
    .ret (.lit (.bool false))] [],
  .forr (.nm 2) (.rng (.fn .len [(.var 1)])) [
    .iff (.or [(.not (.v (.call 2 [(.var 0), (.ix (.var 1) (.var 2))] []))), (.and [(.cm .gt (.var 2) (.lit (.int 0))), (.not (.cm .lt (.ix (.var 1) (.bi .sub (.var 2) (.lit (.int 1)))) (.ix (.var 1) (.var 2))))])]) [
      .ret (.lit (.bool false))] []],
  .exp (.mt .reverse 1 []),
  .exp (.mt .pop0 1 []),
  .exp (.mt .append 1 [(.lit .none)]),
  .ret (.lit (.bool true))]
def f__law_list_right : Fn := ⟨[false], runF [f_standings, f__law_size, f__law_is_standing] [false] 3 b__law_list_right⟩
@[simp] theorem m__law_list_right : f__law_list_right.modes = [false] := rfl
theorem e__law_list_right (ds : List D) : f__law_list_right.sem ds = runF [f_standings, f__law_size, f__law_is_standing] [false] 3 b__law_list_right ds := rfl
def b_changed : List IS := [
  .ret (.bi .add (.bi .add (.sl (.var 0) none (some (.var 1))) (.tup [(.var 2)])) (.sl (.var 0) (some (.bi .add (.var 1) (.lit (.int 1)))) none))]
def f_changed : Fn := ⟨[false, false, false], runF [] [false, false, false] 3 b_changed⟩
@[simp] theorem m_changed : f_changed.modes = [false, false, false] := rfl
theorem e_changed (ds : List D) : f_changed.sem ds = runF [] [false, false, false] 3 b_changed ds := rfl
def b__law_changed_right : List IS := [
  .set 4 (.call 0 [(.var 1), (.var 2), (.var 3)] []),
  .iff (.or [(.not (.v (.call 1 [(.var 0), (.var 4)] []))), (.cm .ne (.ix (.var 4) (.var 2)) (.var 3))]) [
    .ret (.lit (.bool false))] [],
  .ret (.cm .eq (.comp (.var 5) (.nm 5) (.rng (.fn .len [(.var 0)])) [(.and [(.cm .ne (.var 5) (.var 2)), (.cm .ne (.ix (.var 4) (.var 5)) (.ix (.var 1) (.var 5)))])] [5]) (.lst []))]
def f__law_changed_right : Fn := ⟨[false, false, false, false], runF [f_changed, f__law_is_standing] [false, false, false, false] 6 b__law_changed_right⟩
@[simp] theorem m__law_changed_right : f__law_changed_right.modes = [false, false, false, false] := rfl
theorem e__law_changed_right (ds : List D) : f__law_changed_right.sem ds = runF [f_changed, f__law_is_standing] [false, false, false, false] 6 b__law_changed_right ds := rfl
def b_law : List IS := [
  .set 1 (.call 0 [(.var 0)] []),
  .forr (.nm 2) (.rng (.lit (.int 4))) [
    .set 3 (.call 1 [(.var 1), (.ix (.lst [(.lit (.int 256)), (.lit (.int 256)), (.lit (.int 48))]) (.call 2 [(.var 1), (.lit (.int 3))] []))] []),
    .iff (.or [(.not (.v (.call 3 [(.var 3)] []))), (.not (.v (.call 3 [(.var 3)] [])))]) [
      .ret (.lit (.bool false))] [],
    .set 4 (.call 4 [(.var 3)] []),
    .iff (.cm .ne (.call 5 [(.var 3)] []) (.var 4)) [
      .ret (.lit (.bool false))] [],
    .forr (.nm 5) (.rng (.lit (.int 12))) [
      .set 6 (.ix (.lst [(.lit (.int 0)), (.bi .sub (.fn .len [(.var 4)]) (.lit (.int 1))), (.call 2 [(.var 1), (.fn .len [(.var 4)])] [])]) (.fn .min2 [(.var 5), (.lit (.int 2))])),
      .set 7 (.call 6 [(.var 3), (.ix (.var 4) (.var 6))] []),
      .iff (.or [(.not (.v (.call 7 [(.var 7)] []))), (.cm .ne (.var 7) (.var 6))]) [
        .ret (.lit (.bool false))] [],
      .set 8 (.call 2 [(.var 1), (.fn .len [(.var 3)])] []),
      .set 9 (.call 2 [(.var 1), (.ix (.var 3) (.var 8))] []),
      .iff (.not (.v (.call 8 [(.var 3), (.ix (.var 4) (.var 6)), (.var 8), (.var 9)] []))) [
        .ret (.lit (.bool false))] [],
      .iff (.not (.v (.call 8 [(.var 3), (.ix (.var 4) (.var 6)), (.bi .sub (.fn .len [(.var 3)]) (.lit (.int 1))), (.ix (.ix (.var 4) (.var 6)) (.un .neg (.lit (.int 1))))] []))) [
        .ret (.lit (.bool false))] []]],
  .ret (.lit (.bool true))]
def f_law : Fn := ⟨[false], runF [f__law_pen, f__law_room, f__law_draw, f__law_list_right, f__law_all, f_standings, f_number, f__law_is_whole, f__law_changed_right] [false] 10 b_law⟩
@[simp] theorem m_law : f_law.modes = [false] := rfl
theorem e_law (ds : List D) : f_law.sem ds = runF [f__law_pen, f__law_room, f__law_draw, f__law_list_right, f__law_all, f_standings, f_number, f__law_is_whole, f__law_changed_right] [false] 10 b_law ds := rfl
def b__law_given : List IS := [
  .set 3 (.call 0 [(.var 0), (.lit (.int 5))] []),
  .set 4 (.call 0 [(.var 0), (.fn .len [(.var 1)])] []),
  .set 5 (.lst []),
  .forr (.tp [6, 7]) (.enum (.var 1)) [
    .set 8 (.call 0 [(.var 0), (.var 7)] []),
    .set 9 (.ix (.lst [(.lit (.bool false)), (.lit (.bool true)), (.cm .eq (.var 6) (.var 4)), (.cm .eq (.call 0 [(.var 0), (.lit (.int 2))] []) (.lit (.int 0))), (.cm .eq (.call 0 [(.var 0), (.lit (.int 4))] []) (.lit (.int 0)))]) (.var 3)),
    .iff (.and [(.v (.var 9)), (.cm .ne (.var 6) (.var 2))]) [
      .exp (.mt .append 5 [(.tup [(.var 6), (.var 8)])])] []],
  .ret (.fn .tuple [(.var 5)])]
def f__law_given : Fn := ⟨[true, false, false], runF [f__law_draw] [true, false, false] 10 b__law_given⟩
@[simp] theorem m__law_given : f__law_given.modes = [true, false, false] := rfl
theorem e__law_given (ds : List D) : f__law_given.sem ds = runF [f__law_draw] [true, false, false] 10 b__law_given ds := rfl
def b_is_whole : List IS := [
  .ret (.and [(.isI .int (.var 0)), (.not (.isI .bool (.var 0)))])]
def f_is_whole : Fn := ⟨[false], runF [] [false] 1 b_is_whole⟩
@[simp] theorem m_is_whole : f_is_whole.modes = [false] := rfl
theorem e_is_whole (ds : List D) : f_is_whole.sem ds = runF [] [false] 1 b_is_whole ds := rfl
def b_is_box : List IS := [
  .ret (.and [(.call 0 [(.var 1)] []), (.chn .le .lt (.lit (.int 0)) (.var 1) (.fn .len [(.var 0)]))])]
def f_is_box : Fn := ⟨[false, false], runF [f_is_whole] [false, false] 2 b_is_box⟩
@[simp] theorem m_is_box : f_is_box.modes = [false, false] := rfl
theorem e_is_box (ds : List D) : f_is_box.sem ds = runF [f_is_whole] [false, false] 2 b_is_box ds := rfl
def b_is_worth : List IS := [
  .ret (.and [(.call 0 [(.var 2)] []), (.chn .le .lt (.lit (.int 0)) (.var 2) (.ix (.var 0) (.var 1)))])]
def f_is_worth : Fn := ⟨[false, false, false], runF [f_is_whole] [false, false, false] 3 b_is_worth⟩
@[simp] theorem m_is_worth : f_is_worth.modes = [false, false, false] := rfl
theorem e_is_worth (ds : List D) : f_is_worth.sem ds = runF [f_is_whole] [false, false, false] 3 b_is_worth ds := rfl
def b_is_given : List IS := [
  .iff (.not (.v (.isI .tuple (.var 1)))) [
    .ret (.lit (.bool false))] [],
  .set 2 (.un .neg (.lit (.int 1))),
  .forr (.nm 3) (.seq (.var 1)) [
    .iff (.or [(.not (.v (.isI .tuple (.var 3)))), (.cm .ne (.fn .len [(.var 3)]) (.lit (.int 2))), (.not (.v (.call 0 [(.var 0), (.ix (.var 3) (.lit (.int 0)))] [])))]) [
      .ret (.lit (.bool false))] [],
    .iff (.or [(.cm .le (.ix (.var 3) (.lit (.int 0))) (.var 2)), (.not (.v (.call 1 [(.var 0), (.ix (.var 3) (.lit (.int 0))), (.ix (.var 3) (.lit (.int 1)))] [])))]) [
      .ret (.lit (.bool false))] [],
    .set 2 (.ix (.var 3) (.lit (.int 0)))],
  .ret (.lit (.bool true))]
def f_is_given : Fn := ⟨[false, false], runF [f_is_box, f_is_worth] [false, false] 4 b_is_given⟩
@[simp] theorem m_is_given : f_is_given.modes = [false, false] := rfl
theorem e_is_given (ds : List D) : f_is_given.sem ds = runF [f_is_box, f_is_worth] [false, false] 4 b_is_given ds := rfl
def b__law_bad : List IS := [
  .set 2 (.call 0 [(.var 0), (.lit (.int 10))] []),
  .set 3 (.call 0 [(.var 0), (.bi .pow (.lit (.int 10)) (.lit (.int 6)))] []),
  .ret (.ix (.lst [(.var 1), (.bi .add (.var 1) (.lit (.int 1))), (.bi .sub (.bi .sub (.lit (.int 0)) (.lit (.int 1))) (.var 3)), (.bi .add (.bi .pow (.lit (.int 10)) (.lit (.int 29))) (.var 3)), (.lit (.bool true)), (.lit (.bool false)), (.lit .none), (.lit (.str "1")), (.lst [(.lit (.int 0))]), (.lit (.int 0))]) (.var 2))]
def f__law_bad : Fn := ⟨[true, false], runF [f__law_draw] [true, false] 4 b__law_bad⟩
@[simp] theorem m__law_bad : f__law_bad.modes = [true, false] := rfl
theorem e__law_bad (ds : List D) : f__law_bad.sem ds = runF [f__law_draw] [true, false] 4 b__law_bad ds := rfl
def b__law_entry : List IS := [
  .set 3 (.call 0 [(.var 0), (.lit (.int 6))] []),
  .unp [4, 5] (.var 2),
  .set 6 (.lst [(.tup [(.call 1 [(.var 0), (.fn .len [(.var 1)])] []), (.var 5)]), (.tup [(.var 4), (.call 1 [(.var 0), (.ix (.var 1) (.var 4))] [])]), (.tup [(.var 4)]), (.tup [(.var 4), (.var 5), (.lit (.int 0))])]),
  .ret (.ix (.bi .add (.var 6) (.lst [(.lst [(.var 4), (.var 5)]), (.lit .none)])) (.var 3))]
def f__law_entry : Fn := ⟨[true, false, false], runF [f__law_draw, f__law_bad] [true, false, false] 7 b__law_entry⟩
@[simp] theorem m__law_entry : f__law_entry.modes = [true, false, false] := rfl
theorem e__law_entry (ds : List D) : f__law_entry.sem ds = runF [f__law_draw, f__law_bad] [true, false, false] 7 b__law_entry ds := rfl
def b__law_spoilt : List IS := [
  .set 3 (.call 0 [(.var 0), (.lit (.int 5))] []),
  .set 4 (.call 0 [(.var 0), (.fn .len [(.var 1)])] []),
  .set 5 (.tup [(.var 4), (.call 0 [(.var 0), (.ix (.var 1) (.var 4))] [])]),
  .iff (.cm .eq (.var 2) (.tup [])) [
    .ret (.ix (.lst [(.tup [(.var 5), (.var 5)]), (.tup [(.lit .none)]), (.tup [(.tup [])]), (.var 5), (.tup [(.sl (.var 5) (some (.lit (.int 1))) none)])]) (.var 3))] [],
  .set 6 (.call 0 [(.var 0), (.fn .len [(.var 2)])] []),
  .set 7 (.call 0 [(.var 0), (.fn .len [(.var 2)])] []),
  .set 8 (.tup [(.ix (.ix (.var 2) (.var 6)) (.lit (.int 0))), (.call 0 [(.var 0), (.ix (.var 1) (.ix (.ix (.var 2) (.var 6)) (.lit (.int 0))))] [])]),
  .iff (.cm .eq (.var 3) (.lit (.int 0))) [
    .ret (.bi .add (.bi .add (.sl (.var 2) none (some (.var 6))) (.tup [(.call 1 [(.var 0), (.var 1), (.ix (.var 2) (.var 6))] [])])) (.sl (.var 2) (some (.bi .add (.var 6) (.lit (.int 1)))) none))] [],
  .iff (.cm .eq (.var 3) (.lit (.int 1))) [
    .ret (.bi .add (.bi .add (.sl (.var 2) none (some (.var 6))) (.tup [(.var 8)])) (.sl (.var 2) (some (.var 6)) none))] [],
  .iff (.cm .eq (.var 3) (.lit (.int 2))) [
    .ret (.bi .add (.bi .add (.sl (.var 2) none (some (.var 6))) (.sl (.var 2) (some (.bi .add (.var 6) (.lit (.int 1)))) none)) (.tup [(.ix (.var 2) (.var 6))]))] [],
  .iff (.cm .eq (.var 3) (.lit (.int 3))) [
    .ret (.bi .add (.var 2) (.tup [(.ix (.var 2) (.var 7))]))] [],
  .ret (.bi .add (.var 2) (.tup [(.var 5)]))]
def f__law_spoilt : Fn := ⟨[true, false, false], runF [f__law_draw, f__law_entry] [true, false, false] 9 b__law_spoilt⟩
@[simp] theorem m__law_spoilt : f__law_spoilt.modes = [true, false, false] := rfl
theorem e__law_spoilt (ds : List D) : f__law_spoilt.sem ds = runF [f__law_draw, f__law_entry] [true, false, false] 9 b__law_spoilt ds := rfl
def b__law_deep : List IS := [
  .set 0 (.tup [(.lit (.int 0))]),
  .forr (.nm 1) (.rng (.lit (.int 38))) [
    .set 0 (.tup [(.var 0)])],
  .ret (.var 0)]
def f__law_deep : Fn := ⟨[], runF [] [] 2 b__law_deep⟩
@[simp] theorem m__law_deep : f__law_deep.modes = [] := rfl
theorem e__law_deep (ds : List D) : f__law_deep.sem ds = runF [] [] 2 b__law_deep ds := rfl
def b__law_truth : List IS := [
  .ret (.and [(.isI .bool (.var 0)), (.cm .eq (.var 0) (.var 1))])]
def f__law_truth : Fn := ⟨[false, false], runF [] [false, false] 2 b__law_truth⟩
@[simp] theorem m__law_truth : f__law_truth.modes = [false, false] := rfl
theorem e__law_truth (ds : List D) : f__law_truth.sem ds = runF [] [false, false] 2 b__law_truth ds := rfl
def b__law_is_given : List IS := [
  .iff (.not (.v (.isI .tuple (.var 1)))) [
    .ret (.lit (.bool false))] [],
  .set 2 (.un .neg (.lit (.int 1))),
  .forr (.nm 3) (.seq (.var 1)) [
    .iff (.or [(.not (.v (.isI .tuple (.var 3)))), (.cm .ne (.fn .len [(.var 3)]) (.lit (.int 2)))]) [
      .ret (.lit (.bool false))] [],
    .iff (.or [(.not (.v (.call 0 [(.ix (.var 3) (.lit (.int 0)))] []))), (.not (.v (.call 0 [(.ix (.var 3) (.lit (.int 1)))] []))), (.not (.chn .lt .lt (.var 2) (.ix (.var 3) (.lit (.int 0))) (.fn .len [(.var 0)])))]) [
      .ret (.lit (.bool false))] [],
    .iff (.or [(.cm .lt (.ix (.var 3) (.lit (.int 1))) (.lit (.int 0))), (.cm .ge (.ix (.var 3) (.lit (.int 1))) (.ix (.var 0) (.ix (.var 3) (.lit (.int 0)))))]) [
      .ret (.lit (.bool false))] [],
    .set 2 (.ix (.var 3) (.lit (.int 0)))],
  .ret (.lit (.bool true))]
def f__law_is_given : Fn := ⟨[false, false], runF [f__law_is_whole] [false, false] 4 b__law_is_given⟩
@[simp] theorem m__law_is_given : f__law_is_given.modes = [false, false] := rfl
theorem e__law_is_given (ds : List D) : f__law_is_given.sem ds = runF [f__law_is_whole] [false, false] 4 b__law_is_given ds := rfl
def b__law_right : List IS := [
  .ret (.call 0 [(.call 1 [(.var 0), (.var 1)] []), (.call 2 [(.var 0), (.var 1)] [])] [])]
def f__law_right : Fn := ⟨[false, false], runF [f__law_truth, f_is_given, f__law_is_given] [false, false] 2 b__law_right⟩
@[simp] theorem m__law_right : f__law_right.modes = [false, false] := rfl
theorem e__law_right (ds : List D) : f__law_right.sem ds = runF [f__law_truth, f_is_given, f__law_is_given] [false, false] 2 b__law_right ds := rfl
def b_law_v2 : List IS := [
  .set 1 (.call 0 [(.var 0)] []),
  .iff (.or [(.cm .notB (.call 1 [(.tup [(.lit (.int 2)), (.lit (.int 2))]), (.bi .mul (.tup [(.tup [(.lit (.int 0)), (.lit (.int 0))])]) (.lit (.int 3000)))] []) (.lit (.bool false))), (.cm .notB (.call 1 [(.tup [(.lit (.int 2))]), (.call 2 [] [])] []) (.lit (.bool false)))]) [
    .ret (.lit (.bool false))] [],
  .forr (.nm 2) (.rng (.lit (.int 12))) [
    .set 3 (.call 3 [(.var 1), (.lit (.int 256))] []),
    .set 4 (.call 4 [(.var 1), (.var 3), (.ix (.lst [(.un .neg (.lit (.int 1))), (.lit (.int 0))]) (.call 5 [(.var 1), (.lit (.int 2))] []))] []),
    .iff (.or [(.cm .notB (.call 1 [(.var 3), (.var 4)] []) (.lit (.bool true))), (.not (.v (.call 6 [(.call 3 [(.var 1), (.lit (.int 256))] []), (.var 4)] [])))]) [
      .ret (.lit (.bool false))] [],
    .forr (.nm 5) (.rng (.lit (.int 5))) [
      .set 6 (.call 7 [(.var 1), (.var 3), (.var 4)] []),
      .iff (.or [(.not (.v (.call 6 [(.var 3), (.var 6)] []))), (.cm .notB (.call 1 [(.var 3), (.var 4)] []) (.lit (.bool true)))]) [
        .ret (.lit (.bool false))] []],
    .set 7 (.fn .list [(.var 4)]),
    .iff (.or [(.cm .notB (.call 1 [(.var 3), (.var 7)] []) (.lit (.bool false))), (.cm .ne (.var 7) (.fn .list [(.var 4)])), (.cm .notB (.call 1 [(.var 3), (.tup [])] []) (.lit (.bool true)))]) [
      .ret (.lit (.bool false))] [],
    .set 8 (.lst [(.lit .none), (.lit (.bool true)), (.lit (.int 0)), (.lit (.str "")), (.lit (.str "0=1")), (.lst []), (.dnew false), (.dic [(.int 0)] [(.lit (.int 0))]), (.tup [(.tup [(.lit (.int 0))])]), (.tup [(.lit (.int 0)), (.lit (.int 0))]), (.tup [(.lst [(.lit (.int 0)), (.lit (.int 0))])]), (.tup [(.tup [(.lit (.int 0)), (.lit (.int 0))]), (.lit .none)])]),
    .iff (.cm .ne (.comp (.var 9) (.nm 9) (.seq (.var 8)) [(.cm .notB (.call 1 [(.var 3), (.var 9)] []) (.lit (.bool false)))] [9]) (.lst [])) [
      .ret (.lit (.bool false))] []],
  .ret (.lit (.bool true))]
def f_law_v2 : Fn := ⟨[false], runF [f__law_pen, f_is_given, f__law_deep, f__law_room, f__law_given, f__law_draw, f__law_right, f__law_spoilt] [false] 10 b_law_v2⟩
@[simp] theorem m_law_v2 : f_law_v2.modes = [false] := rfl
theorem e_law_v2 (ds : List D) : f_law_v2.sem ds = runF [f__law_pen, f_is_given, f__law_deep, f__law_room, f__law_given, f__law_draw, f__law_right, f__law_spoilt] [false] 10 b_law_v2 ds := rfl
def b__law_standing : List IS := [
  .set 2 (.call 0 [(.var 0), (.lit (.int 5))] []),
  .set 3 (.comp (.call 0 [(.var 0), (.var 4)] []) (.nm 4) (.seq (.var 1)) [] [4]),
  .iff (.cm .eq (.var 2) (.lit (.int 0))) [
    .ret (.bi .mul (.tup [(.lit (.int 0))]) (.fn .len [(.var 1)]))] [],
  .iff (.cm .eq (.var 2) (.lit (.int 1))) [
    .ret (.fn .tuple [(.comp (.bi .sub (.var 4) (.lit (.int 1))) (.nm 4) (.seq (.var 1)) [] [4])])] [],
  .ret (.fn .tuple [(.var 3)])]
def f__law_standing : Fn := ⟨[true, false], runF [f__law_draw] [true, false] 5 b__law_standing⟩
@[simp] theorem m__law_standing : f__law_standing.modes = [true, false] := rfl
theorem e__law_standing (ds : List D) : f__law_standing.sem ds = runF [f__law_draw] [true, false] 5 b__law_standing ds := rfl
def b__law_near : List IS := [
  .set 3 (.call 0 [(.var 0), (.lit (.int 4))] []),
  .set 4 (.call 0 [(.var 0), (.fn .len [(.var 1)])] []),
  .set 5 (.fn .list [(.call 1 [(.var 0), (.var 1)] [])]),
  .set 6 (.call 0 [(.var 0), (.ix (.var 1) (.var 4))] []),
  .iff (.cm .gt (.var 3) (.lit (.int 0))) [
    .forr (.tp [7, 8]) (.seq (.var 2)) [
      .ixset 5 (.var 7) (.var 8)]] [],
  .iff (.cm .eq (.var 3) (.lit (.int 2))) [
    .ixset 5 (.var 4) (.var 6)] [],
  .ret (.fn .tuple [(.var 5)])]
def f__law_near : Fn := ⟨[true, false, false], runF [f__law_draw, f__law_standing] [true, false, false] 9 b__law_near⟩
@[simp] theorem m__law_near : f__law_near.modes = [true, false, false] := rfl
theorem e__law_near (ds : List D) : f__law_near.sem ds = runF [f__law_draw, f__law_standing] [true, false, false] 9 b__law_near ds := rfl
def b_keeps : List IS := [
  .ret (.fn .all [(.comp (.cm .eq (.ix (.var 0) (.var 2)) (.var 3)) (.tp [2, 3]) (.seq (.var 1)) [] [2, 3])])]
def f_keeps : Fn := ⟨[false, false], runF [] [false, false] 4 b_keeps⟩
@[simp] theorem m_keeps : f_keeps.modes = [false, false] := rfl
theorem e_keeps (ds : List D) : f_keeps.sem ds = runF [] [false, false] 4 b_keeps ds := rfl
def b_keeping : List IS := [
  .ret (.comp (.var 2) (.nm 2) (.seq (.call 0 [(.var 0)] [])) [(.v (.call 1 [(.var 2), (.var 1)] []))] [2])]
def f_keeping : Fn := ⟨[false, false], runF [f_standings, f_keeps] [false, false] 3 b_keeping⟩
@[simp] theorem m_keeping : f_keeping.modes = [false, false] := rfl
theorem e_keeping (ds : List D) : f_keeping.sem ds = runF [f_standings, f_keeps] [false, false] 3 b_keeping ds := rfl
def b__law_keeps : List IS := [
  .ret (.cm .eq (.comp (.var 2) (.nm 2) (.seq (.var 1)) [(.cm .ne (.ix (.var 0) (.ix (.var 2) (.lit (.int 0)))) (.ix (.var 2) (.lit (.int 1))))] [2]) (.lst []))]
def f__law_keeps : Fn := ⟨[false, false], runF [] [false, false] 3 b__law_keeps⟩
@[simp] theorem m__law_keeps : f__law_keeps.modes = [false, false] := rfl
theorem e__law_keeps (ds : List D) : f__law_keeps.sem ds = runF [] [false, false] 3 b__law_keeps ds := rfl
def b__law_list_right_v2 : List IS := [
  .set 3 (.call 0 [(.var 0), (.var 1)] []),
  .iff (.or [(.not (.v (.isI .list (.var 3)))), (.cm .ne (.var 3) (.var 2))]) [
    .ret (.lit (.bool false))] [],
  .iff (.cm .ne (.comp (.var 4) (.nm 4) (.seq (.var 3)) [(.or [(.not (.v (.isI .tuple (.var 4)))), (.not (.v (.fn .all [(.comp (.call 1 [(.var 5)] []) (.nm 5) (.seq (.var 4)) [] [5])])))])] [4]) (.lst [])) [
    .ret (.lit (.bool false))] [],
  .exp (.mt .reverse 3 []),
  .exp (.mt .append 3 [(.tup [])]),
  .ret (.lit (.bool true))]
def f__law_list_right_v2 : Fn := ⟨[false, false, false], runF [f_keeping, f__law_is_whole] [false, false, false] 6 b__law_list_right_v2⟩
@[simp] theorem m__law_list_right_v2 : f__law_list_right_v2.modes = [false, false, false] := rfl
theorem e__law_list_right_v2 (ds : List D) : f__law_list_right_v2.sem ds = runF [f_keeping, f__law_is_whole] [false, false, false] 6 b__law_list_right_v2 ds := rfl
def b_law_v3 : List IS := [
  .set 1 (.call 0 [(.var 0)] []),
  .forr (.nm 2) (.rng (.lit (.int 4))) [
    .set 3 (.call 1 [(.var 1), (.ix (.lst [(.lit (.int 256)), (.lit (.int 48)), (.lit (.int 48))]) (.call 2 [(.var 1), (.lit (.int 3))] []))] []),
    .set 4 (.call 3 [(.var 3)] []),
    .forr (.nm 5) (.rng (.lit (.int 3))) [
      .set 6 (.call 4 [(.var 1), (.var 3), (.ix (.lst [(.un .neg (.lit (.int 1))), (.lit (.int 0))]) (.call 2 [(.var 1), (.lit (.int 2))] []))] []),
      .set 7 (.comp (.var 8) (.nm 8) (.seq (.var 4)) [(.v (.call 5 [(.var 8), (.var 6)] []))] [8]),
      .iff (.or [(.not (.v (.call 6 [(.var 3), (.var 6), (.var 7)] []))), (.not (.v (.call 6 [(.var 3), (.var 6), (.var 7)] [])))]) [
        .ret (.lit (.bool false))] [],
      .forr (.nm 9) (.rng (.lit (.int 6))) [
        .set 8 (.call 7 [(.var 1), (.var 3), (.var 6)] []),
        .iff (.not (.v (.call 8 [(.call 9 [(.var 8), (.var 6)] []), (.call 5 [(.var 8), (.var 6)] [])] []))) [
          .ret (.lit (.bool false))] []]],
    .iff (.or [(.cm .ne (.call 10 [(.var 3), (.tup [])] []) (.var 4)), (.cm .notB (.call 9 [(.ix (.var 4) (.un .neg (.lit (.int 1)))), (.tup [])] []) (.lit (.bool true)))]) [
      .ret (.lit (.bool false))] []],
  .ret (.lit (.bool true))]
def f_law_v3 : Fn := ⟨[false], runF [f__law_pen, f__law_room, f__law_draw, f__law_all, f__law_given, f__law_keeps, f__law_list_right_v2, f__law_near, f__law_truth, f_keeps, f_keeping] [false] 10 b_law_v3⟩
@[simp] theorem m_law_v3 : f_law_v3.modes = [false] := rfl
theorem e_law_v3 (ds : List D) : f_law_v3.sem ds = runF [f__law_pen, f__law_room, f__law_draw, f__law_all, f__law_given, f__law_keeps, f__law_list_right_v2, f__law_near, f__law_truth, f_keeps, f_keeping] [false] 10 b_law_v3 ds := rfl
def b__law_wish : List IS := [
  .set 2 (.call 0 [(.var 0), (.fn .len [(.var 1)])] []),
  .set 3 (.call 0 [(.var 0), (.ix (.var 1) (.var 2))] []),
  .set 4 (.bi .mod (.bi .add (.bi .add (.var 3) (.lit (.int 1))) (.call 0 [(.var 0), (.bi .sub (.ix (.var 1) (.var 2)) (.lit (.int 1)))] [])) (.ix (.var 1) (.var 2))),
  .ret (.tup [(.call 1 [(.var 0), (.var 1), (.var 2)] []), (.var 2), (.var 4), (.var 3)])]
def f__law_wish : Fn := ⟨[true, false], runF [f__law_draw, f__law_given] [true, false] 5 b__law_wish⟩
@[simp] theorem m__law_wish : f__law_wish.modes = [true, false] := rfl
theorem e__law_wish (ds : List D) : f__law_wish.sem ds = runF [f__law_draw, f__law_given] [true, false] 5 b__law_wish ds := rfl
def b__law_book : List IS := [
  .set 3 (.call 0 [(.var 0), (.lit (.int 4))] []),
  .set 4 (.ix (.lst [(.lit (.int 0)), (.bi .add (.lit (.int 1)) (.call 0 [(.var 0), (.lit (.int 3))] [])), (.var 2), (.call 0 [(.var 0), (.bi .add (.var 2) (.lit (.int 1)))] [])]) (.var 3)),
  .set 5 (.lst []),
  .forr (.nm 6) (.rng (.var 4)) [
    .set 7 (.call 0 [(.var 0), (.lit (.int 8))] []),
    .set 8 (.call 1 [(.var 0), (.var 1)] []),
    .iff (.and [(.cm .lt (.var 7) (.lit (.int 3))), (.cm .ne (.var 5) (.lst []))]) [
      .unp [9, 10, 11, 12] (.ix (.var 5) (.call 0 [(.var 0), (.fn .len [(.var 5)])] [])),
      .set 8 (.ix (.lst [(.tup [(.var 9), (.var 10), (.var 11), (.var 12)]), (.tup [(.sl (.var 9) (some (.lit (.int 1))) none), (.var 10), (.var 11), (.var 12)]), (.tup [(.var 9), (.var 10), (.var 12), (.var 11)])]) (.var 7))] [],
    .exp (.mt .append 5 [(.var 8)])],
  .ret (.fn .tuple [(.var 5)])]
def f__law_book : Fn := ⟨[true, false, false], runF [f__law_draw, f__law_wish] [true, false, false] 13 b__law_book⟩
@[simp] theorem m__law_book : f__law_book.modes = [true, false, false] := rfl
theorem e__law_book (ds : List D) : f__law_book.sem ds = runF [f__law_draw, f__law_wish] [true, false, false] 13 b__law_book ds := rfl
def b__law_no_wish : List IS := [
  .set 3 (.call 0 [(.var 0), (.lit (.int 10))] []),
  .unp [4, 5, 6, 7] (.var 2),
  .set 8 (.ix (.var 1) (.var 5)),
  .set 9 (.bi .add (.lit (.int 1)) (.call 0 [(.var 0), (.bi .pow (.lit (.int 10)) (.lit (.int 6)))] [])),
  .set 10 (.lst [(.tup [(.var 4), (.var 5), (.var 8), (.var 7)]), (.tup [(.var 4), (.var 5), (.var 6), (.bi .sub (.lit (.int 0)) (.var 9))]), (.tup [(.var 4), (.fn .len [(.var 1)]), (.var 6), (.var 7)])]),
  .set 10 (.bi .add (.var 10) (.lst [(.tup [(.var 4), (.bi .sub (.lit (.int 0)) (.var 9)), (.var 6), (.var 7)]), (.tup [(.var 4), (.var 5), (.var 6), (.var 6)]), (.tup [(.var 4), (.lit (.bool true)), (.var 6), (.var 7)])])),
  .set 10 (.bi .add (.var 10) (.lst [(.tup [(.tup [(.tup [(.var 5), (.var 7)])]), (.var 5), (.var 6), (.var 7)]), (.tup [(.var 4), (.var 5), (.lit .none), (.var 7)]), (.fn .list [(.var 2)]), (.lit .none)])),
  .ret (.ix (.var 10) (.var 3))]
def f__law_no_wish : Fn := ⟨[true, false, false], runF [f__law_draw] [true, false, false] 11 b__law_no_wish⟩
@[simp] theorem m__law_no_wish : f__law_no_wish.modes = [true, false, false] := rfl
theorem e__law_no_wish (ds : List D) : f__law_no_wish.sem ds = runF [f__law_draw] [true, false, false] 11 b__law_no_wish ds := rfl
def b_is_wish : List IS := [
  .iff (.or [(.not (.v (.isI .tuple (.var 1)))), (.cm .ne (.fn .len [(.var 1)]) (.lit (.int 4))), (.not (.v (.call 0 [(.var 0), (.ix (.var 1) (.lit (.int 0)))] [])))]) [
    .ret (.lit (.bool false))] [],
  .unp [2, 3, 4, 5] (.var 1),
  .iff (.or [(.not (.v (.call 1 [(.var 0), (.var 3)] []))), (.cm .isin (.var 3) (.comp (.ix (.var 6) (.lit (.int 0))) (.nm 6) (.seq (.var 2)) [] [6]))]) [
    .ret (.lit (.bool false))] [],
  .ret (.and [(.call 2 [(.var 0), (.var 3), (.var 4)] []), (.call 2 [(.var 0), (.var 3), (.var 5)] []), (.cm .ne (.var 4) (.var 5))])]
def f_is_wish : Fn := ⟨[false, false], runF [f_is_given, f_is_box, f_is_worth] [false, false] 7 b_is_wish⟩
@[simp] theorem m_is_wish : f_is_wish.modes = [false, false] := rfl
theorem e_is_wish (ds : List D) : f_is_wish.sem ds = runF [f_is_given, f_is_box, f_is_worth] [false, false] 7 b_is_wish ds := rfl
def b_is_book : List IS := [
  .iff (.or [(.not (.v (.isI .tuple (.var 1)))), (.cm .gt (.fn .len [(.var 1)]) (.gl "MOST_WISHES" (.int 600)))]) [
    .ret (.lit (.bool false))] [],
  .ret (.fn .all [(.comp (.call 0 [(.var 0), (.var 2)] []) (.nm 2) (.seq (.var 1)) [] [2])])]
def f_is_book : Fn := ⟨[false, false], runF [f_is_wish] [false, false] 3 b_is_book⟩
@[simp] theorem m_is_book : f_is_book.modes = [false, false] := rfl
theorem e_is_book (ds : List D) : f_is_book.sem ds = runF [f_is_wish] [false, false] 3 b_is_book ds := rfl
def b__law_right_v2 : List IS := [
  .iff (.cm .notB (.call 0 [(.var 0), (.var 1)] []) (.lit (.bool true))) [
    .ret (.lit (.bool false))] [],
  .iff (.cm .ne (.comp (.var 3) (.nm 3) (.seq (.bi .add (.sl (.var 1) none (some (.lit (.int 9)))) (.sl (.var 1) (some (.un .neg (.lit (.int 1)))) none))) [(.cm .notB (.call 1 [(.var 0), (.var 3)] []) (.lit (.bool true)))] [3]) (.lst [])) [
    .ret (.lit (.bool false))] [],
  .ret (.cm .isB (.call 1 [(.var 0), (.var 2)] []) (.lit (.bool false)))]
def f__law_right_v2 : Fn := ⟨[false, false, false], runF [f_is_book, f_is_wish] [false, false, false] 4 b__law_right_v2⟩
@[simp] theorem m__law_right_v2 : f__law_right_v2.modes = [false, false, false] := rfl
theorem e__law_right_v2 (ds : List D) : f__law_right_v2.sem ds = runF [f_is_book, f_is_wish] [false, false, false] 4 b__law_right_v2 ds := rfl
def b__law_truthful : List IS := [
  .unp [1, 2, 3, 4] (.var 0),
  .iff (.cm .lt (.var 3) (.lit (.int 2))) [
    .ret (.tup [(.var 1), (.var 2), (.cm .eq (.var 3) (.lit (.int 1))), (.var 4)])] [],
  .iff (.cm .lt (.var 4) (.lit (.int 2))) [
    .ret (.tup [(.var 1), (.var 2), (.var 3), (.cm .eq (.var 4) (.lit (.int 1)))])] [],
  .iff (.cm .lt (.var 2) (.lit (.int 2))) [
    .ret (.tup [(.var 1), (.cm .eq (.var 2) (.lit (.int 1))), (.var 3), (.var 4)])] [],
  .ret (.lit .none)]
def f__law_truthful : Fn := ⟨[false], runF [] [false] 5 b__law_truthful⟩
@[simp] theorem m__law_truthful : f__law_truthful.modes = [false] := rfl
theorem e__law_truthful (ds : List D) : f__law_truthful.sem ds = runF [] [false] 5 b__law_truthful ds := rfl
def b_law_v4 : List IS := [
  .set 1 (.call 0 [(.var 0)] []),
  .set 2 (.call 1 [(.var 1), (.lit (.int 8))] []),
  .forr (.nm 3) (.rng (.lit (.int 4))) [
    .set 4 (.call 2 [(.var 1), (.lit (.int 256))] []),
    .set 5 (.call 3 [(.var 1), (.var 4), (.lit (.int 40))] []),
    .set 6 (.call 4 [(.var 1), (.var 4), (.call 5 [(.var 1), (.var 4)] [])] []),
    .iff (.cm .eq (.var 2) (.var 3)) [
      .set 5 (.bi .mul (.bi .add (.var 5) (.tup [(.call 5 [(.var 1), (.var 4)] [])])) (.lit (.int 601))),
      .iff (.or [(.cm .notB (.call 6 [(.var 4), (.sl (.var 5) none (some (.lit (.int 601))))] []) (.lit (.bool false))), (.cm .notB (.call 6 [(.var 4), (.sl (.var 5) none (some (.lit (.int 600))))] []) (.lit (.bool true)))]) [
        .ret (.lit (.bool false))] [],
      .set 5 (.sl (.var 5) none (some (.lit (.int 600))))] [],
    .set 7 (.call 1 [(.var 1), (.bi .add (.fn .len [(.var 5)]) (.lit (.int 1)))] []),
    .set 8 (.bi .add (.bi .add (.sl (.var 5) none (some (.var 7))) (.tup [(.var 6)])) (.sl (.var 5) (some (.bi .add (.var 7) (.lit (.int 1)))) none)),
    .iff (.or [(.not (.v (.call 7 [(.var 4), (.var 5), (.var 6)] []))), (.cm .notB (.call 6 [(.var 4), (.var 8)] []) (.lit (.bool false)))]) [
      .ret (.lit (.bool false))] [],
    .set 9 (.bi .add (.bi .add (.sl (.var 5) none (some (.var 7))) (.fn .tuple [(.comp (.call 8 [(.var 10)] []) (.nm 10) (.seq (.sl (.var 5) (some (.var 7)) (some (.bi .add (.var 7) (.lit (.int 1)))))) [] [10])])) (.sl (.var 5) (some (.bi .add (.var 7) (.lit (.int 1)))) none)),
    .iff (.and [(.cm .lt (.var 7) (.fn .len [(.var 5)])), (.cm .notB (.call 6 [(.var 4), (.var 9)] []) (.lit (.bool false)))]) [
      .ret (.lit (.bool false))] [],
    .set 11 (.fn .list [(.var 5)]),
    .iff (.or [(.cm .notB (.call 6 [(.var 4), (.var 11)] []) (.lit (.bool false))), (.cm .ne (.var 11) (.fn .list [(.var 5)]))]) [
      .ret (.lit (.bool false))] [],
    .set 12 (.call 5 [(.var 1), (.var 4)] []),
    .iff (.or [(.cm .notB (.call 6 [(.var 4), (.tup [(.var 12)])] []) (.lit (.bool true))), (.cm .notB (.call 6 [(.var 4), (.tup [(.var 12), (.var 12)])] []) (.lit (.bool true)))]) [
      .ret (.lit (.bool false))] [],
    .forr (.nm 13) (.seq (.lst [(.lit .none), (.lit (.bool true)), (.lit (.int 0)), (.lit (.str "")), (.lst []), (.dnew false), (.var 12), (.tup [(.var 5)]), (.tup [(.var 12), (.lst [(.var 12)])]), (.tup [(.tup [])]), (.tup [(.lit .none)])])) [
      .iff (.cm .notB (.call 6 [(.var 4), (.var 13)] []) (.lit (.bool false))) [
        .ret (.lit (.bool false))] []]],
  .iff (.or [(.cm .notB (.call 6 [(.tup [(.lit (.int 2))]), (.bi .mul (.tup [(.tup [(.tup []), (.lit (.int 0)), (.lit (.int 1)), (.lit (.int 0))])]) (.lit (.int 1200)))] []) (.lit (.bool false))), (.cm .notB (.call 6 [(.tup [(.lit (.int 2))]), (.call 9 [] [])] []) (.lit (.bool false)))]) [
    .ret (.lit (.bool false))] [],
  .ret (.cm .isB (.call 6 [(.tup [(.lit (.int 2))]), (.tup [])] []) (.lit (.bool true)))]
def f_law_v4 : Fn := ⟨[false], runF [f__law_pen, f__law_draw, f__law_room, f__law_book, f__law_no_wish, f__law_wish, f_is_book, f__law_right_v2, f__law_truthful, f__law_deep] [false] 14 b_law_v4⟩
@[simp] theorem m_law_v4 : f_law_v4.modes = [false] := rfl
theorem e_law_v4 (ds : List D) : f_law_v4.sem ds = runF [f__law_pen, f__law_draw, f__law_room, f__law_book, f__law_no_wish, f__law_wish, f_is_book, f__law_right_v2, f__law_truthful, f__law_deep] [false] 14 b_law_v4 ds := rfl
def b_turned : List IS := [
  .ret (.fn .tuple [(.comp (.tup [(.var 1), (.var 2), (.var 4), (.var 3)]) (.tp [1, 2, 3, 4]) (.seq (.var 0)) [] [1, 2, 3, 4])])]
def f_turned : Fn := ⟨[false], runF [] [false] 5 b_turned⟩
@[simp] theorem m_turned : f_turned.modes = [false] := rfl
theorem e_turned (ds : List D) : f_turned.sem ds = runF [] [false] 5 b_turned ds := rfl
def b__law_right_v3 : List IS := [
  .set 2 (.call 0 [(.var 1)] []),
  .iff (.or [(.not (.v (.isI .tuple (.var 2)))), (.cm .ne (.fn .len [(.var 2)]) (.fn .len [(.var 1)])), (.cm .notB (.call 1 [(.var 0), (.var 2)] []) (.lit (.bool true)))]) [
    .ret (.lit (.bool false))] [],
  .forr (.tp [3, 4]) (.zip (.var 2) (.var 1)) [
    .iff (.or [(.not (.v (.isI .tuple (.var 3)))), (.cm .ne (.fn .len [(.var 3)]) (.lit (.int 4))), (.not (.v (.fn .all [(.comp (.call 2 [(.var 5)] []) (.nm 5) (.seq (.sl (.var 3) (some (.lit (.int 1))) none)) [] [5])])))]) [
      .ret (.lit (.bool false))] [],
    .iff (.or [(.cm .ne (.ix (.var 3) (.lit (.int 0))) (.ix (.var 4) (.lit (.int 0)))), (.cm .ne (.ix (.var 3) (.lit (.int 1))) (.ix (.var 4) (.lit (.int 1)))), (.cm .ne (.ix (.var 3) (.lit (.int 2))) (.ix (.var 4) (.lit (.int 3)))), (.cm .ne (.ix (.var 3) (.lit (.int 3))) (.ix (.var 4) (.lit (.int 2))))]) [
      .ret (.lit (.bool false))] []],
  .ret (.cm .eq (.call 0 [(.var 2)] []) (.var 1))]
def f__law_right_v3 : Fn := ⟨[false, false], runF [f_turned, f_is_book, f__law_is_whole] [false, false] 6 b__law_right_v3⟩
@[simp] theorem m__law_right_v3 : f__law_right_v3.modes = [false, false] := rfl
theorem e__law_right_v3 (ds : List D) : f__law_right_v3.sem ds = runF [f_turned, f_is_book, f__law_is_whole] [false, false] 6 b__law_right_v3 ds := rfl
def b_law_v5 : List IS := [
  .set 1 (.call 0 [(.var 0)] []),
  .set 2 (.tup [(.tup []), (.tup [])]),
  .forr (.nm 3) (.rng (.lit (.int 6))) [
    .set 4 (.call 1 [(.var 1), (.lit (.int 256))] []),
    .set 5 (.call 2 [(.var 1), (.var 4), (.lit (.int 40))] []),
    .set 6 (.call 2 [(.var 1), (.var 4), (.lit (.int 8))] []),
    .iff (.or [(.not (.v (.call 3 [(.var 4), (.var 5)] []))), (.not (.v (.call 3 [(.var 4), (.var 6)] []))), (.cm .ne (.call 4 [(.ix (.var 2) (.lit (.int 0)))] []) (.ix (.var 2) (.lit (.int 1))))]) [
      .ret (.lit (.bool false))] [],
    .iff (.or [(.cm .ne (.call 4 [(.bi .add (.var 5) (.var 6))] []) (.bi .add (.call 4 [(.var 5)] []) (.call 4 [(.var 6)] []))), (.not (.v (.call 3 [(.var 4), (.var 5)] [])))]) [
      .ret (.lit (.bool false))] [],
    .set 2 (.tup [(.var 5), (.call 4 [(.var 5)] [])])],
  .ret (.cm .eq (.call 4 [(.tup [])] []) (.tup []))]
def f_law_v5 : Fn := ⟨[false], runF [f__law_pen, f__law_room, f__law_book, f__law_right_v3, f_turned] [false] 7 b_law_v5⟩
@[simp] theorem m_law_v5 : f_law_v5.modes = [false] := rfl
theorem e_law_v5 (ds : List D) : f_law_v5.sem ds = runF [f__law_pen, f__law_room, f__law_book, f__law_right_v3, f_turned] [false] 7 b_law_v5 ds := rfl
def b__law_near_v2 : List IS := [
  .set 3 (.call 0 [(.var 0), (.lit (.int 4))] []),
  .set 4 (.fn .list [(.call 1 [(.var 0), (.var 1)] [])]),
  .iff (.and [(.cm .ne (.var 2) (.tup [])), (.cm .gt (.var 3) (.lit (.int 0)))]) [
    .unp [5, 6, 7, 8] (.ix (.var 2) (.call 0 [(.var 0), (.fn .len [(.var 2)])] [])),
    .forr (.tp [9, 10]) (.seq (.var 5)) [
      .ixset 4 (.var 9) (.var 10)],
    .ixset 4 (.var 6) (.var 8)] [],
  .ret (.fn .tuple [(.var 4)])]
def f__law_near_v2 : Fn := ⟨[true, false, false], runF [f__law_draw, f__law_standing] [true, false, false] 11 b__law_near_v2⟩
@[simp] theorem m__law_near_v2 : f__law_near_v2.modes = [true, false, false] := rfl
theorem e__law_near_v2 (ds : List D) : f__law_near_v2.sem ds = runF [f__law_draw, f__law_standing] [true, false, false] 11 b__law_near_v2 ds := rfl
def b__law_goal : List IS := [
  .unp [2, 3, 4, 5] (.var 0),
  .iff (.or [(.cm .ne (.ix (.var 1) (.var 3)) (.var 5)), (.cm .ne (.comp (.var 6) (.nm 6) (.seq (.var 2)) [(.cm .ne (.ix (.var 1) (.ix (.var 6) (.lit (.int 0)))) (.ix (.var 6) (.lit (.int 1))))] [6]) (.lst []))]) [
    .ret (.lit .none)] [],
  .ret (.bi .add (.bi .add (.sl (.var 1) none (some (.var 3))) (.tup [(.var 4)])) (.sl (.var 1) (some (.bi .add (.var 3) (.lit (.int 1)))) none))]
def f__law_goal : Fn := ⟨[false, false], runF [] [false, false] 7 b__law_goal⟩
@[simp] theorem m__law_goal : f__law_goal.modes = [false, false] := rfl
theorem e__law_goal (ds : List D) : f__law_goal.sem ds = runF [] [false, false] 7 b__law_goal ds := rfl
def b__law_other : List IS := [
  .set 4 (.call 0 [(.var 0), (.lit (.int 5))] []),
  .set 5 (.call 0 [(.var 0), (.fn .len [(.var 1)])] []),
  .set 6 (.call 0 [(.var 0), (.ix (.var 1) (.var 5))] []),
  .set 7 (.comp (.call 1 [(.var 8), (.var 3)] []) (.nm 8) (.seq (.var 2)) [] [8]),
  .set 7 (.comp (.var 9) (.nm 9) (.seq (.var 7)) [(.cm .notN (.var 9) (.lit .none))] [9]),
  .set 10 (.call 2 [(.var 0), (.var 1)] []),
  .iff (.and [(.cm .lt (.var 4) (.lit (.int 2))), (.cm .ne (.var 7) (.lst []))]) [
    .ret (.ix (.var 7) (.call 0 [(.var 0), (.fn .len [(.var 7)])] []))] [],
  .iff (.cm .eq (.var 4) (.lit (.int 2))) [
    .ret (.var 10)] [],
  .iff (.cm .eq (.var 4) (.lit (.int 3))) [
    .ret (.var 3)] [],
  .ret (.bi .add (.bi .add (.sl (.var 3) none (some (.var 5))) (.tup [(.var 6)])) (.sl (.var 3) (some (.bi .add (.var 5) (.lit (.int 1)))) none))]
def f__law_other : Fn := ⟨[true, false, false, false], runF [f__law_draw, f__law_goal, f__law_standing] [true, false, false, false] 11 b__law_other⟩
@[simp] theorem m__law_other : f__law_other.modes = [true, false, false, false] := rfl
theorem e__law_other (ds : List D) : f__law_other.sem ds = runF [f__law_draw, f__law_goal, f__law_standing] [true, false, false, false] 11 b__law_other ds := rfl
def b_bettered_by : List IS := [
  .unp [2, 3, 4, 5] (.var 0),
  .iff (.and [(.cm .eq (.ix (.var 1) (.var 3)) (.var 5)), (.v (.call 0 [(.var 1), (.var 2)] []))]) [
    .ret (.call 1 [(.var 1), (.var 3), (.var 4)] [])] [],
  .ret (.lit .none)]
def f_bettered_by : Fn := ⟨[false, false], runF [f_keeps, f_changed] [false, false] 6 b_bettered_by⟩
@[simp] theorem m_bettered_by : f_bettered_by.modes = [false, false] := rfl
theorem e_bettered_by (ds : List D) : f_bettered_by.sem ds = runF [f_keeps, f_changed] [false, false] 6 b_bettered_by ds := rfl
def b_why : List IS := [
  .forr (.tp [3, 4]) (.enum (.var 0)) [
    .iff (.cm .eq (.call 0 [(.var 4), (.var 1)] []) (.var 2)) [
      .ret (.var 3)] []],
  .ret (.lit .none)]
def f_why : Fn := ⟨[false, false, false], runF [f_bettered_by] [false, false, false] 5 b_why⟩
@[simp] theorem m_why : f_why.modes = [false, false, false] := rfl
theorem e_why (ds : List D) : f_why.sem ds = runF [f_bettered_by] [false, false, false] 5 b_why ds := rfl
def b__law_due : List IS := [
  .forr (.tp [3, 4]) (.enum (.var 0)) [
    .iff (.cm .eq (.call 0 [(.var 4), (.var 1)] []) (.var 2)) [
      .ret (.var 3)] []],
  .ret (.lit .none)]
def f__law_due : Fn := ⟨[false, false, false], runF [f__law_goal] [false, false, false] 5 b__law_due⟩
@[simp] theorem m__law_due : f__law_due.modes = [false, false, false] := rfl
theorem e__law_due (ds : List D) : f__law_due.sem ds = runF [f__law_goal] [false, false, false] 5 b__law_due ds := rfl
def b__law_right_v4 : List IS := [
  .set 3 (.call 0 [(.var 0), (.var 1), (.var 2)] []),
  .set 4 (.call 1 [(.var 0), (.var 1), (.var 2)] []),
  .iff (.cm .isN (.var 3) (.lit .none)) [
    .ret (.cm .isN (.var 4) (.lit .none))] [],
  .ret (.and [(.call 2 [(.var 4)] []), (.cm .eq (.var 4) (.var 3))])]
def f__law_right_v4 : Fn := ⟨[false, false, false], runF [f__law_due, f_why, f__law_is_whole] [false, false, false] 5 b__law_right_v4⟩
@[simp] theorem m__law_right_v4 : f__law_right_v4.modes = [false, false, false] := rfl
theorem e__law_right_v4 (ds : List D) : f__law_right_v4.sem ds = runF [f__law_due, f_why, f__law_is_whole] [false, false, false] 5 b__law_right_v4 ds := rfl
def b_law_v6 : List IS := [
  .set 1 (.call 0 [(.var 0)] []),
  .set 2 (.call 1 [(.var 1), (.lit (.int 16))] []),
  .forr (.nm 3) (.rng (.lit (.int 6))) [
    .set 4 (.call 2 [(.var 1), (.lit (.int 256))] []),
    .set 5 (.call 3 [(.var 1), (.var 4), (.lit (.int 40))] []),
    .set 6 (.call 3 [(.var 1), (.var 4), (.lit (.int 4))] []),
    .iff (.cm .eq (.var 2) (.var 3)) [
      .set 5 (.bi .add (.bi .mul (.bi .add (.var 6) (.sl (.var 5) none (some (.lit (.int 1))))) (.lit (.int 80))) (.var 5))] [],
    .forr (.nm 7) (.rng (.ix (.lst [(.lit (.int 8)), (.lit (.int 2))]) (.fn .int [(.cm .eq (.var 2) (.var 3))]))) [
      .set 8 (.call 4 [(.var 1), (.var 4), (.var 5)] []),
      .set 9 (.call 5 [(.var 1), (.var 4), (.var 5), (.var 8)] []),
      .iff (.or [(.not (.v (.call 6 [(.var 5), (.var 8), (.var 9)] []))), (.not (.v (.call 6 [(.var 5), (.var 9), (.var 8)] []))), (.cm .notN (.call 7 [(.var 5), (.var 8), (.var 8)] []) (.lit .none))]) [
        .ret (.lit (.bool false))] [],
      .iff (.cm .ne (.call 7 [(.call 8 [(.var 5)] []), (.var 9), (.var 8)] []) (.call 9 [(.var 5), (.var 8), (.var 9)] [])) [
        .ret (.lit (.bool false))] [],
      .iff (.or [(.not (.v (.call 6 [(.bi .add (.bi .add (.var 6) (.var 5)) (.var 6)), (.var 8), (.var 9)] []))), (.not (.v (.call 6 [(.un .rev (.var 5)), (.var 8), (.var 9)] [])))]) [
        .ret (.lit (.bool false))] [],
      .iff (.or [(.cm .notN (.call 7 [(.tup []), (.var 8), (.var 9)] []) (.lit .none)), (.not (.v (.call 6 [(.var 5), (.var 8), (.var 9)] [])))]) [
        .ret (.lit (.bool false))] []]],
  .ret (.lit (.bool true))]
def f_law_v6 : Fn := ⟨[false], runF [f__law_pen, f__law_draw, f__law_room, f__law_book, f__law_near_v2, f__law_other, f__law_right_v4, f_why, f_turned, f__law_due] [false] 10 b_law_v6⟩
@[simp] theorem m_law_v6 : f_law_v6.modes = [false] := rfl
theorem e_law_v6 (ds : List D) : f_law_v6.sem ds = runF [f__law_pen, f__law_draw, f__law_room, f__law_book, f__law_near_v2, f__law_other, f__law_right_v4, f_why, f_turned, f__law_due] [false] 10 b_law_v6 ds := rfl
end CM
namespace K04
open PySem PySem.Spec PyProof.Rows L2 PD CM
def topS (i : Nat) : Stmt := PySem.Challenge.pw_allelse_k04_givens_known.main.body.getD i (.Pass ⟨0, 0, 0, 0⟩)
abbrev s__law_pen : Stmt := topS 7
def C__law_pen : Ck := ⟨["_law_script"], [], [], []⟩
theorem sc__law_pen : FnScope ["_law_script"] ["_law_script"] (defScope s__law_pen) := ⟨rfl, rfl, rfl, by decide +kernel, rfl, by decide +kernel, by decide +kernel⟩
theorem ck__law_pen : ckSs C__law_pen (defScope s__law_pen) b__law_pen (defBody s__law_pen) = true := by decide +kernel
abbrev s__law_draw : Stmt := topS 8
def C__law_draw : Ck := ⟨["_law_pen_here", "_law_many", "_law_found", "_law_at", "_law_cell", "_law_prime", "_law_mixed"], [], ["len", "abs"], []⟩
theorem sc__law_draw : FnScope ["_law_pen_here", "_law_many", "_law_found", "_law_at", "_law_cell", "_law_prime", "_law_mixed"] ["_law_pen_here", "_law_many"] (defScope s__law_draw) := ⟨rfl, rfl, rfl, by decide +kernel, rfl, by decide +kernel, by decide +kernel⟩
theorem ck__law_draw : ckSs C__law_draw (defScope s__law_draw) b__law_draw (defBody s__law_draw) = true := by decide +kernel
abbrev s__law_size : Stmt := topS 11
def C__law_size : Ck := ⟨["_law_room_here", "_law_found", "_law_many"], [], [], []⟩
theorem sc__law_size : FnScope ["_law_room_here", "_law_found", "_law_many"] ["_law_room_here"] (defScope s__law_size) := ⟨rfl, rfl, rfl, by decide +kernel, rfl, by decide +kernel, by decide +kernel⟩
theorem ck__law_size : ckSs C__law_size (defScope s__law_size) b__law_size (defBody s__law_size) = true := by decide +kernel
abbrev s__law_room : Stmt := topS 12
def C__law_room : Ck := ⟨["_law_pen_here", "_law_most", "_law_way", "_law_many", "_law_found", "_law_k", "_law_one"], [("_law_draw", [[]]), ("_law_size", [[]])], ["range", "min"], []⟩
theorem sc__law_room : FnScope ["_law_pen_here", "_law_most", "_law_way", "_law_many", "_law_found", "_law_k", "_law_one"] ["_law_pen_here", "_law_most"] (defScope s__law_room) := ⟨rfl, rfl, rfl, by decide +kernel, rfl, by decide +kernel, by decide +kernel⟩
theorem ck__law_room : ckSs C__law_room (defScope s__law_room) b__law_room (defBody s__law_room) = true := by decide +kernel
abbrev s__law_given : Stmt := topS 15
def C__law_given : Ck := ⟨["_law_pen_here", "_law_room_here", "_law_apart", "_law_way", "_law_lone", "_law_found", "_law_box", "_law_many", "_law_worth", "_law_some"], [("_law_draw", [[]])], ["len", "enumerate", "tuple"], []⟩
theorem sc__law_given : FnScope ["_law_pen_here", "_law_room_here", "_law_apart", "_law_way", "_law_lone", "_law_found", "_law_box", "_law_many", "_law_worth", "_law_some"] ["_law_pen_here", "_law_room_here", "_law_apart"] (defScope s__law_given) := ⟨rfl, rfl, rfl, by decide +kernel, rfl, by decide +kernel, by decide +kernel⟩
theorem ck__law_given : ckSs C__law_given (defScope s__law_given) b__law_given (defBody s__law_given) = true := by decide +kernel
abbrev s_is_whole : Stmt := topS 1
def C_is_whole : Ck := ⟨["thing"], [], ["isinstance", "int", "bool"], []⟩
theorem sc_is_whole : FnScope ["thing"] ["thing"] (defScope s_is_whole) := ⟨rfl, rfl, rfl, by decide +kernel, rfl, by decide +kernel, by decide +kernel⟩
theorem ck_is_whole : ckSs C_is_whole (defScope s_is_whole) b_is_whole (defBody s_is_whole) = true := by decide +kernel
abbrev s_is_box : Stmt := topS 3
def C_is_box : Ck := ⟨["room", "thing"], [("is_whole", [[]])], ["len"], []⟩
theorem sc_is_box : FnScope ["room", "thing"] ["room", "thing"] (defScope s_is_box) := ⟨rfl, rfl, rfl, by decide +kernel, rfl, by decide +kernel, by decide +kernel⟩
theorem ck_is_box : ckSs C_is_box (defScope s_is_box) b_is_box (defBody s_is_box) = true := by decide +kernel
abbrev s_is_worth : Stmt := topS 2
def C_is_worth : Ck := ⟨["room", "box", "thing"], [("is_whole", [[]])], [], []⟩
theorem sc_is_worth : FnScope ["room", "box", "thing"] ["room", "box", "thing"] (defScope s_is_worth) := ⟨rfl, rfl, rfl, by decide +kernel, rfl, by decide +kernel, by decide +kernel⟩
theorem ck_is_worth : ckSs C_is_worth (defScope s_is_worth) b_is_worth (defBody s_is_worth) = true := by decide +kernel
abbrev s_is_given : Stmt := topS 5
def C_is_given : Ck := ⟨["room", "thing", "last", "one"], [("is_box", [[]]), ("is_worth", [[]])], ["isinstance", "tuple", "len"], []⟩
theorem sc_is_given : FnScope ["room", "thing", "last", "one"] ["room", "thing"] (defScope s_is_given) := ⟨rfl, rfl, rfl, by decide +kernel, rfl, by decide +kernel, by decide +kernel⟩
theorem ck_is_given : ckSs C_is_given (defScope s_is_given) b_is_given (defBody s_is_given) = true := by decide +kernel
abbrev s__law_bad : Stmt := topS 17
def C__law_bad : Ck := ⟨["_law_pen_here", "_law_many", "_law_way", "_law_far"], [("_law_draw", [[]])], [], []⟩
theorem sc__law_bad : FnScope ["_law_pen_here", "_law_many", "_law_way", "_law_far"] ["_law_pen_here", "_law_many"] (defScope s__law_bad) := ⟨rfl, rfl, rfl, by decide +kernel, rfl, by decide +kernel, by decide +kernel⟩
theorem ck__law_bad : ckSs C__law_bad (defScope s__law_bad) b__law_bad (defBody s__law_bad) = true := by decide +kernel
abbrev s__law_entry : Stmt := topS 18
def C__law_entry : Ck := ⟨["_law_pen_here", "_law_room_here", "_law_entry_here", "_law_way", "_law_box", "_law_worth", "_law_some"], [("_law_draw", [[]]), ("_law_bad", [[]])], ["len"], []⟩
theorem sc__law_entry : FnScope ["_law_pen_here", "_law_room_here", "_law_entry_here", "_law_way", "_law_box", "_law_worth", "_law_some"] ["_law_pen_here", "_law_room_here", "_law_entry_here"] (defScope s__law_entry) := ⟨rfl, rfl, rfl, by decide +kernel, rfl, by decide +kernel, by decide +kernel⟩
theorem ck__law_entry : ckSs C__law_entry (defScope s__law_entry) b__law_entry (defBody s__law_entry) = true := by decide +kernel
abbrev s__law_spoilt : Stmt := topS 19
def C__law_spoilt : Ck := ⟨["_law_pen_here", "_law_room_here", "_law_base", "_law_way", "_law_box", "_law_more", "_law_at", "_law_other", "_law_twice"], [("_law_draw", [[]]), ("_law_entry", [[]])], ["len"], []⟩
theorem sc__law_spoilt : FnScope ["_law_pen_here", "_law_room_here", "_law_base", "_law_way", "_law_box", "_law_more", "_law_at", "_law_other", "_law_twice"] ["_law_pen_here", "_law_room_here", "_law_base"] (defScope s__law_spoilt) := ⟨rfl, rfl, rfl, by decide +kernel, rfl, by decide +kernel, by decide +kernel⟩
theorem ck__law_spoilt : ckSs C__law_spoilt (defScope s__law_spoilt) b__law_spoilt (defBody s__law_spoilt) = true := by decide +kernel
abbrev s__law_deep : Stmt := topS 21
def C__law_deep : Ck := ⟨["_law_found", "_law_turn"], [], ["range"], []⟩
theorem sc__law_deep : FnScope ["_law_found", "_law_turn"] [] (defScope s__law_deep) := ⟨rfl, rfl, rfl, by decide +kernel, rfl, by decide +kernel, by decide +kernel⟩
theorem ck__law_deep : ckSs C__law_deep (defScope s__law_deep) b__law_deep (defBody s__law_deep) = true := by decide +kernel
abbrev s__law_truth : Stmt := topS 10
def C__law_truth : Ck := ⟨["_law_found", "_law_due"], [], ["isinstance", "bool"], []⟩
theorem sc__law_truth : FnScope ["_law_found", "_law_due"] ["_law_found", "_law_due"] (defScope s__law_truth) := ⟨rfl, rfl, rfl, by decide +kernel, rfl, by decide +kernel, by decide +kernel⟩
theorem ck__law_truth : ckSs C__law_truth (defScope s__law_truth) b__law_truth (defBody s__law_truth) = true := by decide +kernel
abbrev s__law_is_whole : Stmt := topS 9
def C__law_is_whole : Ck := ⟨["_law_thing"], [], ["isinstance", "int", "bool"], []⟩
theorem sc__law_is_whole : FnScope ["_law_thing"] ["_law_thing"] (defScope s__law_is_whole) := ⟨rfl, rfl, rfl, by decide +kernel, rfl, by decide +kernel, by decide +kernel⟩
theorem ck__law_is_whole : ckSs C__law_is_whole (defScope s__law_is_whole) b__law_is_whole (defBody s__law_is_whole) = true := by decide +kernel
abbrev s__law_is_given : Stmt := topS 16
def C__law_is_given : Ck := ⟨["_law_room_here", "_law_thing", "_law_last", "_law_one"], [("_law_is_whole", [[]])], ["isinstance", "tuple", "len"], []⟩
theorem sc__law_is_given : FnScope ["_law_room_here", "_law_thing", "_law_last", "_law_one"] ["_law_room_here", "_law_thing"] (defScope s__law_is_given) := ⟨rfl, rfl, rfl, by decide +kernel, rfl, by decide +kernel, by decide +kernel⟩
theorem ck__law_is_given : ckSs C__law_is_given (defScope s__law_is_given) b__law_is_given (defBody s__law_is_given) = true := by decide +kernel
abbrev s__law_right : Stmt := topS 20
def C__law_right : Ck := ⟨["_law_room_here", "_law_thing"], [("_law_truth", [[]]), ("is_given", [[]]), ("_law_is_given", [[]])], [], []⟩
theorem sc__law_right : FnScope ["_law_room_here", "_law_thing"] ["_law_room_here", "_law_thing"] (defScope s__law_right) := ⟨rfl, rfl, rfl, by decide +kernel, rfl, by decide +kernel, by decide +kernel⟩
theorem ck__law_right : ckSs C__law_right (defScope s__law_right) b__law_right (defBody s__law_right) = true := by decide +kernel
abbrev s_law : Stmt := topS 22
def C_law : Ck := ⟨["_law_script", "_law_pen_here", "_law_k", "_law_room_here", "_law_base", "_law_j", "_law_bent", "_law_handed", "_law_things", "_law_thing"], [("_law_pen", [[]]), ("is_given", [[]]), ("_law_deep", [[]]), ("_law_room", [[]]), ("_law_given", [[]]), ("_law_draw", [[]]), ("_law_right", [[]]), ("_law_spoilt", [[]])], ["range", "list"], []⟩
theorem sc_law : FnScope ["_law_script", "_law_pen_here", "_law_k", "_law_room_here", "_law_base", "_law_j", "_law_bent", "_law_handed", "_law_things", "_law_thing"] ["_law_script"] (defScope s_law) := ⟨rfl, rfl, rfl, by decide +kernel, rfl, by decide +kernel, by decide +kernel⟩
theorem ck_law : ckSs C_law (defScope s_law) b_law_v2 (defBody s_law) = true := by decide +kernel
theorem all_mk {l : PySem.W.OpenLaw} {w : World} {K : PySem.W.Frag} {h : Heap} {mg : Str → Option Value} {fa : Addr} (X : K.In h) (G : h.Ns mainGlobals mg) (hfa : mg "law" = some (.ref fa))
    {fa0 : Addr} {od0 an0 : Option Addr} {sl0 : Array (Option Value)} {oc0 kV0 dc0 pm0 cd0 ct0 : Value}
    (a0 : PySem.W.nsIn K mainGlobals "_law_pen" = some (some (.ref fa0))) (l0 : K.lookup fa0 = some ⟨oc0, od0, .func (PySem.W.fnOf "_law_pen" "_law_pen" (defArgs s__law_pen) (defBody s__law_pen) (defScope s__law_pen) .none kV0 dc0 pm0 an0 cd0 ct0), sl0⟩) (c0 : PySem.W.codeIn K cd0 "_law_pen" = true) (k0 : PySem.W.keepIn K (.ref fa0) = true)
    {fa1 : Addr} {od1 an1 : Option Addr} {sl1 : Array (Option Value)} {oc1 kV1 dc1 pm1 cd1 ct1 : Value}
    (a1 : PySem.W.nsIn K mainGlobals "_law_draw" = some (some (.ref fa1))) (l1 : K.lookup fa1 = some ⟨oc1, od1, .func (PySem.W.fnOf "_law_draw" "_law_draw" (defArgs s__law_draw) (defBody s__law_draw) (defScope s__law_draw) .none kV1 dc1 pm1 an1 cd1 ct1), sl1⟩) (c1 : PySem.W.codeIn K cd1 "_law_draw" = true) (k1 : PySem.W.keepIn K (.ref fa1) = true)
    {fa2 : Addr} {od2 an2 : Option Addr} {sl2 : Array (Option Value)} {oc2 kV2 dc2 pm2 cd2 ct2 : Value}
    (a2 : PySem.W.nsIn K mainGlobals "_law_size" = some (some (.ref fa2))) (l2 : K.lookup fa2 = some ⟨oc2, od2, .func (PySem.W.fnOf "_law_size" "_law_size" (defArgs s__law_size) (defBody s__law_size) (defScope s__law_size) .none kV2 dc2 pm2 an2 cd2 ct2), sl2⟩) (c2 : PySem.W.codeIn K cd2 "_law_size" = true) (k2 : PySem.W.keepIn K (.ref fa2) = true)
    {fa3 : Addr} {od3 an3 : Option Addr} {sl3 : Array (Option Value)} {oc3 kV3 dc3 pm3 cd3 ct3 : Value}
    (a3 : PySem.W.nsIn K mainGlobals "_law_room" = some (some (.ref fa3))) (l3 : K.lookup fa3 = some ⟨oc3, od3, .func (PySem.W.fnOf "_law_room" "_law_room" (defArgs s__law_room) (defBody s__law_room) (defScope s__law_room) .none kV3 dc3 pm3 an3 cd3 ct3), sl3⟩) (c3 : PySem.W.codeIn K cd3 "_law_room" = true) (k3 : PySem.W.keepIn K (.ref fa3) = true)
    {fa4 : Addr} {od4 an4 : Option Addr} {sl4 : Array (Option Value)} {oc4 kV4 dc4 pm4 cd4 ct4 : Value}
    (a4 : PySem.W.nsIn K mainGlobals "_law_given" = some (some (.ref fa4))) (l4 : K.lookup fa4 = some ⟨oc4, od4, .func (PySem.W.fnOf "_law_given" "_law_given" (defArgs s__law_given) (defBody s__law_given) (defScope s__law_given) .none kV4 dc4 pm4 an4 cd4 ct4), sl4⟩) (c4 : PySem.W.codeIn K cd4 "_law_given" = true) (k4 : PySem.W.keepIn K (.ref fa4) = true)
    {fa5 : Addr} {od5 an5 : Option Addr} {sl5 : Array (Option Value)} {oc5 kV5 dc5 pm5 cd5 ct5 : Value}
    (a5 : PySem.W.nsIn K mainGlobals "is_whole" = some (some (.ref fa5))) (l5 : K.lookup fa5 = some ⟨oc5, od5, .func (PySem.W.fnOf "is_whole" "is_whole" (defArgs s_is_whole) (defBody s_is_whole) (defScope s_is_whole) .none kV5 dc5 pm5 an5 cd5 ct5), sl5⟩) (c5 : PySem.W.codeIn K cd5 "is_whole" = true) (k5 : PySem.W.keepIn K (.ref fa5) = true)
    {fa6 : Addr} {od6 an6 : Option Addr} {sl6 : Array (Option Value)} {oc6 kV6 dc6 pm6 cd6 ct6 : Value}
    (a6 : PySem.W.nsIn K mainGlobals "is_box" = some (some (.ref fa6))) (l6 : K.lookup fa6 = some ⟨oc6, od6, .func (PySem.W.fnOf "is_box" "is_box" (defArgs s_is_box) (defBody s_is_box) (defScope s_is_box) .none kV6 dc6 pm6 an6 cd6 ct6), sl6⟩) (c6 : PySem.W.codeIn K cd6 "is_box" = true) (k6 : PySem.W.keepIn K (.ref fa6) = true)
    {fa7 : Addr} {od7 an7 : Option Addr} {sl7 : Array (Option Value)} {oc7 kV7 dc7 pm7 cd7 ct7 : Value}
    (a7 : PySem.W.nsIn K mainGlobals "is_worth" = some (some (.ref fa7))) (l7 : K.lookup fa7 = some ⟨oc7, od7, .func (PySem.W.fnOf "is_worth" "is_worth" (defArgs s_is_worth) (defBody s_is_worth) (defScope s_is_worth) .none kV7 dc7 pm7 an7 cd7 ct7), sl7⟩) (c7 : PySem.W.codeIn K cd7 "is_worth" = true) (k7 : PySem.W.keepIn K (.ref fa7) = true)
    {fa8 : Addr} {od8 an8 : Option Addr} {sl8 : Array (Option Value)} {oc8 kV8 dc8 pm8 cd8 ct8 : Value}
    (a8 : PySem.W.nsIn K mainGlobals "is_given" = some (some (.ref fa8))) (l8 : K.lookup fa8 = some ⟨oc8, od8, .func (PySem.W.fnOf "is_given" "is_given" (defArgs s_is_given) (defBody s_is_given) (defScope s_is_given) .none kV8 dc8 pm8 an8 cd8 ct8), sl8⟩) (c8 : PySem.W.codeIn K cd8 "is_given" = true) (k8 : PySem.W.keepIn K (.ref fa8) = true)
    {fa9 : Addr} {od9 an9 : Option Addr} {sl9 : Array (Option Value)} {oc9 kV9 dc9 pm9 cd9 ct9 : Value}
    (a9 : PySem.W.nsIn K mainGlobals "_law_bad" = some (some (.ref fa9))) (l9 : K.lookup fa9 = some ⟨oc9, od9, .func (PySem.W.fnOf "_law_bad" "_law_bad" (defArgs s__law_bad) (defBody s__law_bad) (defScope s__law_bad) .none kV9 dc9 pm9 an9 cd9 ct9), sl9⟩) (c9 : PySem.W.codeIn K cd9 "_law_bad" = true) (k9 : PySem.W.keepIn K (.ref fa9) = true)
    {fa10 : Addr} {od10 an10 : Option Addr} {sl10 : Array (Option Value)} {oc10 kV10 dc10 pm10 cd10 ct10 : Value}
    (a10 : PySem.W.nsIn K mainGlobals "_law_entry" = some (some (.ref fa10))) (l10 : K.lookup fa10 = some ⟨oc10, od10, .func (PySem.W.fnOf "_law_entry" "_law_entry" (defArgs s__law_entry) (defBody s__law_entry) (defScope s__law_entry) .none kV10 dc10 pm10 an10 cd10 ct10), sl10⟩) (c10 : PySem.W.codeIn K cd10 "_law_entry" = true) (k10 : PySem.W.keepIn K (.ref fa10) = true)
    {fa11 : Addr} {od11 an11 : Option Addr} {sl11 : Array (Option Value)} {oc11 kV11 dc11 pm11 cd11 ct11 : Value}
    (a11 : PySem.W.nsIn K mainGlobals "_law_spoilt" = some (some (.ref fa11))) (l11 : K.lookup fa11 = some ⟨oc11, od11, .func (PySem.W.fnOf "_law_spoilt" "_law_spoilt" (defArgs s__law_spoilt) (defBody s__law_spoilt) (defScope s__law_spoilt) .none kV11 dc11 pm11 an11 cd11 ct11), sl11⟩) (c11 : PySem.W.codeIn K cd11 "_law_spoilt" = true) (k11 : PySem.W.keepIn K (.ref fa11) = true)
    {fa12 : Addr} {od12 an12 : Option Addr} {sl12 : Array (Option Value)} {oc12 kV12 dc12 pm12 cd12 ct12 : Value}
    (a12 : PySem.W.nsIn K mainGlobals "_law_deep" = some (some (.ref fa12))) (l12 : K.lookup fa12 = some ⟨oc12, od12, .func (PySem.W.fnOf "_law_deep" "_law_deep" (defArgs s__law_deep) (defBody s__law_deep) (defScope s__law_deep) .none kV12 dc12 pm12 an12 cd12 ct12), sl12⟩) (c12 : PySem.W.codeIn K cd12 "_law_deep" = true) (k12 : PySem.W.keepIn K (.ref fa12) = true)
    {fa13 : Addr} {od13 an13 : Option Addr} {sl13 : Array (Option Value)} {oc13 kV13 dc13 pm13 cd13 ct13 : Value}
    (a13 : PySem.W.nsIn K mainGlobals "_law_truth" = some (some (.ref fa13))) (l13 : K.lookup fa13 = some ⟨oc13, od13, .func (PySem.W.fnOf "_law_truth" "_law_truth" (defArgs s__law_truth) (defBody s__law_truth) (defScope s__law_truth) .none kV13 dc13 pm13 an13 cd13 ct13), sl13⟩) (c13 : PySem.W.codeIn K cd13 "_law_truth" = true) (k13 : PySem.W.keepIn K (.ref fa13) = true)
    {fa14 : Addr} {od14 an14 : Option Addr} {sl14 : Array (Option Value)} {oc14 kV14 dc14 pm14 cd14 ct14 : Value}
    (a14 : PySem.W.nsIn K mainGlobals "_law_is_whole" = some (some (.ref fa14))) (l14 : K.lookup fa14 = some ⟨oc14, od14, .func (PySem.W.fnOf "_law_is_whole" "_law_is_whole" (defArgs s__law_is_whole) (defBody s__law_is_whole) (defScope s__law_is_whole) .none kV14 dc14 pm14 an14 cd14 ct14), sl14⟩) (c14 : PySem.W.codeIn K cd14 "_law_is_whole" = true) (k14 : PySem.W.keepIn K (.ref fa14) = true)
    {fa15 : Addr} {od15 an15 : Option Addr} {sl15 : Array (Option Value)} {oc15 kV15 dc15 pm15 cd15 ct15 : Value}
    (a15 : PySem.W.nsIn K mainGlobals "_law_is_given" = some (some (.ref fa15))) (l15 : K.lookup fa15 = some ⟨oc15, od15, .func (PySem.W.fnOf "_law_is_given" "_law_is_given" (defArgs s__law_is_given) (defBody s__law_is_given) (defScope s__law_is_given) .none kV15 dc15 pm15 an15 cd15 ct15), sl15⟩) (c15 : PySem.W.codeIn K cd15 "_law_is_given" = true) (k15 : PySem.W.keepIn K (.ref fa15) = true)
    {fa16 : Addr} {od16 an16 : Option Addr} {sl16 : Array (Option Value)} {oc16 kV16 dc16 pm16 cd16 ct16 : Value}
    (a16 : PySem.W.nsIn K mainGlobals "_law_right" = some (some (.ref fa16))) (l16 : K.lookup fa16 = some ⟨oc16, od16, .func (PySem.W.fnOf "_law_right" "_law_right" (defArgs s__law_right) (defBody s__law_right) (defScope s__law_right) .none kV16 dc16 pm16 an16 cd16 ct16), sl16⟩) (c16 : PySem.W.codeIn K cd16 "_law_right" = true) (k16 : PySem.W.keepIn K (.ref fa16) = true)
    {fa17 : Addr} {od17 an17 : Option Addr} {sl17 : Array (Option Value)} {oc17 kV17 dc17 pm17 cd17 ct17 : Value}
    (a17 : PySem.W.nsIn K mainGlobals "law" = some (some (.ref fa17))) (l17 : K.lookup fa17 = some ⟨oc17, od17, .func (PySem.W.fnOf "law" "law" (defArgs s_law) (defBody s_law) (defScope s_law) .none kV17 dc17 pm17 an17 cd17 ct17), sl17⟩) (c17 : PySem.W.codeIn K cd17 "law" = true) (k17 : PySem.W.keepIn K (.ref fa17) = true)
    (z0 : PySem.W.nsIn K mainGlobals "len" = some none)
    (z1 : PySem.W.nsIn K mainGlobals "abs" = some none)
    (z2 : PySem.W.nsIn K mainGlobals "range" = some none)
    (z3 : PySem.W.nsIn K mainGlobals "min" = some none)
    (z4 : PySem.W.nsIn K mainGlobals "enumerate" = some none)
    (z5 : PySem.W.nsIn K mainGlobals "tuple" = some none)
    (z6 : PySem.W.nsIn K mainGlobals "isinstance" = some none)
    (z7 : PySem.W.nsIn K mainGlobals "int" = some none)
    (z8 : PySem.W.nsIn K mainGlobals "bool" = some none)
    (z9 : PySem.W.nsIn K mainGlobals "list" = some none)
    (sem : ∀ ns : List Int, ns.length ≤ 63 → ∃ fr, f_law_v2.sem [.list (ns.map .int)] = .ok fr (.bool true) []) :
    ∃ fd : FuncData, (∀ (s : Shared) (v : Value), BindsTo s fd ⟨[v], []⟩ [("_law_script", v)]) ∧ ∀ base : Heap, K.In base → base.Ns mainGlobals mg → FnOk l.prog w K mg base CX0 5 fa fd ["_law_script"] (spLaw K) := by
  have e := hfa.symm.trans (PySem.W.mg_of X G a17)
  cases e
  have hB : ∀ x ∈ (["len", "abs", "range", "min", "enumerate", "tuple", "isinstance", "int", "bool", "list"] : List Str), mg x = none := by
    intro x hx
    simp only [List.mem_cons, List.not_mem_nil, or_false] at hx
    rcases hx with rfl | rfl | rfl | rfl | rfl | rfl | rfl | rfl | rfl | rfl
    · exact PySem.W.mg_none_of X G z0
    · exact PySem.W.mg_none_of X G z1
    · exact PySem.W.mg_none_of X G z2
    · exact PySem.W.mg_none_of X G z3
    · exact PySem.W.mg_none_of X G z4
    · exact PySem.W.mg_none_of X G z5
    · exact PySem.W.mg_none_of X G z6
    · exact PySem.W.mg_none_of X G z7
    · exact PySem.W.mg_none_of X G z8
    · exact PySem.W.mg_none_of X G z9
  have hG : ∀ p : Str × D, p ∈ ([] : List (Str × D)) → ∃ u v, mg p.1 = some u ∧ litV p.2 = some v ∧ RelV v u := by
    intro p hp
    simp only [List.mem_cons, List.not_mem_nil, or_false] at hp
  have n0 : Kn K mg "_law_pen" s__law_pen ["_law_script"] := kn_mk X G a0 l0 c0 k0 fun _ _ _ _ _ _ us hl => match us, hl with | [_], _ => rfl
  have n1 : Kn K mg "_law_draw" s__law_draw ["_law_pen_here", "_law_many"] := kn_mk X G a1 l1 c1 k1 fun _ _ _ _ _ _ us hl => match us, hl with | [_, _], _ => rfl
  have n2 : Kn K mg "_law_size" s__law_size ["_law_room_here"] := kn_mk X G a2 l2 c2 k2 fun _ _ _ _ _ _ us hl => match us, hl with | [_], _ => rfl
  have n3 : Kn K mg "_law_room" s__law_room ["_law_pen_here", "_law_most"] := kn_mk X G a3 l3 c3 k3 fun _ _ _ _ _ _ us hl => match us, hl with | [_, _], _ => rfl
  have n4 : Kn K mg "_law_given" s__law_given ["_law_pen_here", "_law_room_here", "_law_apart"] := kn_mk X G a4 l4 c4 k4 fun _ _ _ _ _ _ us hl => match us, hl with | [_, _, _], _ => rfl
  have n5 : Kn K mg "is_whole" s_is_whole ["thing"] := kn_mk X G a5 l5 c5 k5 fun _ _ _ _ _ _ us hl => match us, hl with | [_], _ => rfl
  have n6 : Kn K mg "is_box" s_is_box ["room", "thing"] := kn_mk X G a6 l6 c6 k6 fun _ _ _ _ _ _ us hl => match us, hl with | [_, _], _ => rfl
  have n7 : Kn K mg "is_worth" s_is_worth ["room", "box", "thing"] := kn_mk X G a7 l7 c7 k7 fun _ _ _ _ _ _ us hl => match us, hl with | [_, _, _], _ => rfl
  have n8 : Kn K mg "is_given" s_is_given ["room", "thing"] := kn_mk X G a8 l8 c8 k8 fun _ _ _ _ _ _ us hl => match us, hl with | [_, _], _ => rfl
  have n9 : Kn K mg "_law_bad" s__law_bad ["_law_pen_here", "_law_many"] := kn_mk X G a9 l9 c9 k9 fun _ _ _ _ _ _ us hl => match us, hl with | [_, _], _ => rfl
  have n10 : Kn K mg "_law_entry" s__law_entry ["_law_pen_here", "_law_room_here", "_law_entry_here"] := kn_mk X G a10 l10 c10 k10 fun _ _ _ _ _ _ us hl => match us, hl with | [_, _, _], _ => rfl
  have n11 : Kn K mg "_law_spoilt" s__law_spoilt ["_law_pen_here", "_law_room_here", "_law_base"] := kn_mk X G a11 l11 c11 k11 fun _ _ _ _ _ _ us hl => match us, hl with | [_, _, _], _ => rfl
  have n12 : Kn K mg "_law_deep" s__law_deep [] := kn_mk X G a12 l12 c12 k12 fun _ _ _ _ _ _ us hl => match us, hl with | [], _ => rfl
  have n13 : Kn K mg "_law_truth" s__law_truth ["_law_found", "_law_due"] := kn_mk X G a13 l13 c13 k13 fun _ _ _ _ _ _ us hl => match us, hl with | [_, _], _ => rfl
  have n14 : Kn K mg "_law_is_whole" s__law_is_whole ["_law_thing"] := kn_mk X G a14 l14 c14 k14 fun _ _ _ _ _ _ us hl => match us, hl with | [_], _ => rfl
  have n15 : Kn K mg "_law_is_given" s__law_is_given ["_law_room_here", "_law_thing"] := kn_mk X G a15 l15 c15 k15 fun _ _ _ _ _ _ us hl => match us, hl with | [_, _], _ => rfl
  have n16 : Kn K mg "_law_right" s__law_right ["_law_room_here", "_law_thing"] := kn_mk X G a16 l16 c16 k16 fun _ _ _ _ _ _ us hl => match us, hl with | [_, _], _ => rfl
  refine ⟨PySem.W.fnOf "law" "law" (defArgs s_law) (defBody s_law) (defScope s_law) .none kV17 dc17 pm17 an17 cd17 ct17, fun s v => .of_eq rfl, fun base _ _ => ?_⟩
  have G0 : LnkOk l.prog w K mg base 1 ("_law_pen", [[]]) f__law_pen := lnk_pd n0 sc__law_pen rfl rfl ck__law_pen (fun x hx => hB x ((by decide +kernel : ∀ y ∈ C__law_pen.B, y ∈ (["len", "abs", "range", "min", "enumerate", "tuple", "isinstance", "int", "bool", "list"] : List Str)) x hx)) (fun p hp => absurd hp List.not_mem_nil) trivial
  have G1 : LnkOk l.prog w K mg base 1 ("_law_draw", [[]]) f__law_draw := lnk_pd n1 sc__law_draw rfl rfl ck__law_draw (fun x hx => hB x ((by decide +kernel : ∀ y ∈ C__law_draw.B, y ∈ (["len", "abs", "range", "min", "enumerate", "tuple", "isinstance", "int", "bool", "list"] : List Str)) x hx)) (fun p hp => absurd hp List.not_mem_nil) trivial
  have G2 : LnkOk l.prog w K mg base 1 ("_law_size", [[]]) f__law_size := lnk_pd n2 sc__law_size rfl rfl ck__law_size (fun x hx => hB x ((by decide +kernel : ∀ y ∈ C__law_size.B, y ∈ (["len", "abs", "range", "min", "enumerate", "tuple", "isinstance", "int", "bool", "list"] : List Str)) x hx)) (fun p hp => absurd hp List.not_mem_nil) trivial
  have G3 : LnkOk l.prog w K mg base 2 ("_law_room", [[]]) f__law_room := lnk_pd n3 sc__law_room rfl rfl ck__law_room (fun x hx => hB x ((by decide +kernel : ∀ y ∈ C__law_room.B, y ∈ (["len", "abs", "range", "min", "enumerate", "tuple", "isinstance", "int", "bool", "list"] : List Str)) x hx)) (fun p hp => absurd hp List.not_mem_nil) ⟨(G1.mono (by decide)), (G2.mono (by decide)), trivial⟩
  have G4 : LnkOk l.prog w K mg base 2 ("_law_given", [[]]) f__law_given := lnk_pd n4 sc__law_given rfl rfl ck__law_given (fun x hx => hB x ((by decide +kernel : ∀ y ∈ C__law_given.B, y ∈ (["len", "abs", "range", "min", "enumerate", "tuple", "isinstance", "int", "bool", "list"] : List Str)) x hx)) (fun p hp => absurd hp List.not_mem_nil) ⟨(G1.mono (by decide)), trivial⟩
  have G5 : LnkOk l.prog w K mg base 1 ("is_whole", [[]]) f_is_whole := lnk_pd n5 sc_is_whole rfl rfl ck_is_whole (fun x hx => hB x ((by decide +kernel : ∀ y ∈ C_is_whole.B, y ∈ (["len", "abs", "range", "min", "enumerate", "tuple", "isinstance", "int", "bool", "list"] : List Str)) x hx)) (fun p hp => absurd hp List.not_mem_nil) trivial
  have G6 : LnkOk l.prog w K mg base 2 ("is_box", [[]]) f_is_box := lnk_pd n6 sc_is_box rfl rfl ck_is_box (fun x hx => hB x ((by decide +kernel : ∀ y ∈ C_is_box.B, y ∈ (["len", "abs", "range", "min", "enumerate", "tuple", "isinstance", "int", "bool", "list"] : List Str)) x hx)) (fun p hp => absurd hp List.not_mem_nil) ⟨(G5.mono (by decide)), trivial⟩
  have G7 : LnkOk l.prog w K mg base 2 ("is_worth", [[]]) f_is_worth := lnk_pd n7 sc_is_worth rfl rfl ck_is_worth (fun x hx => hB x ((by decide +kernel : ∀ y ∈ C_is_worth.B, y ∈ (["len", "abs", "range", "min", "enumerate", "tuple", "isinstance", "int", "bool", "list"] : List Str)) x hx)) (fun p hp => absurd hp List.not_mem_nil) ⟨(G5.mono (by decide)), trivial⟩
  have G8 : LnkOk l.prog w K mg base 3 ("is_given", [[]]) f_is_given := lnk_pd n8 sc_is_given rfl rfl ck_is_given (fun x hx => hB x ((by decide +kernel : ∀ y ∈ C_is_given.B, y ∈ (["len", "abs", "range", "min", "enumerate", "tuple", "isinstance", "int", "bool", "list"] : List Str)) x hx)) (fun p hp => absurd hp List.not_mem_nil) ⟨(G6.mono (by decide)), (G7.mono (by decide)), trivial⟩
  have G9 : LnkOk l.prog w K mg base 2 ("_law_bad", [[]]) f__law_bad := lnk_pd n9 sc__law_bad rfl rfl ck__law_bad (fun x hx => hB x ((by decide +kernel : ∀ y ∈ C__law_bad.B, y ∈ (["len", "abs", "range", "min", "enumerate", "tuple", "isinstance", "int", "bool", "list"] : List Str)) x hx)) (fun p hp => absurd hp List.not_mem_nil) ⟨(G1.mono (by decide)), trivial⟩
  have G10 : LnkOk l.prog w K mg base 3 ("_law_entry", [[]]) f__law_entry := lnk_pd n10 sc__law_entry rfl rfl ck__law_entry (fun x hx => hB x ((by decide +kernel : ∀ y ∈ C__law_entry.B, y ∈ (["len", "abs", "range", "min", "enumerate", "tuple", "isinstance", "int", "bool", "list"] : List Str)) x hx)) (fun p hp => absurd hp List.not_mem_nil) ⟨(G1.mono (by decide)), (G9.mono (by decide)), trivial⟩
  have G11 : LnkOk l.prog w K mg base 4 ("_law_spoilt", [[]]) f__law_spoilt := lnk_pd n11 sc__law_spoilt rfl rfl ck__law_spoilt (fun x hx => hB x ((by decide +kernel : ∀ y ∈ C__law_spoilt.B, y ∈ (["len", "abs", "range", "min", "enumerate", "tuple", "isinstance", "int", "bool", "list"] : List Str)) x hx)) (fun p hp => absurd hp List.not_mem_nil) ⟨(G1.mono (by decide)), (G10.mono (by decide)), trivial⟩
  have G12 : LnkOk l.prog w K mg base 1 ("_law_deep", [[]]) f__law_deep := lnk_pd n12 sc__law_deep rfl rfl ck__law_deep (fun x hx => hB x ((by decide +kernel : ∀ y ∈ C__law_deep.B, y ∈ (["len", "abs", "range", "min", "enumerate", "tuple", "isinstance", "int", "bool", "list"] : List Str)) x hx)) (fun p hp => absurd hp List.not_mem_nil) trivial
  have G13 : LnkOk l.prog w K mg base 1 ("_law_truth", [[]]) f__law_truth := lnk_pd n13 sc__law_truth rfl rfl ck__law_truth (fun x hx => hB x ((by decide +kernel : ∀ y ∈ C__law_truth.B, y ∈ (["len", "abs", "range", "min", "enumerate", "tuple", "isinstance", "int", "bool", "list"] : List Str)) x hx)) (fun p hp => absurd hp List.not_mem_nil) trivial
  have G14 : LnkOk l.prog w K mg base 1 ("_law_is_whole", [[]]) f__law_is_whole := lnk_pd n14 sc__law_is_whole rfl rfl ck__law_is_whole (fun x hx => hB x ((by decide +kernel : ∀ y ∈ C__law_is_whole.B, y ∈ (["len", "abs", "range", "min", "enumerate", "tuple", "isinstance", "int", "bool", "list"] : List Str)) x hx)) (fun p hp => absurd hp List.not_mem_nil) trivial
  have G15 : LnkOk l.prog w K mg base 2 ("_law_is_given", [[]]) f__law_is_given := lnk_pd n15 sc__law_is_given rfl rfl ck__law_is_given (fun x hx => hB x ((by decide +kernel : ∀ y ∈ C__law_is_given.B, y ∈ (["len", "abs", "range", "min", "enumerate", "tuple", "isinstance", "int", "bool", "list"] : List Str)) x hx)) (fun p hp => absurd hp List.not_mem_nil) ⟨(G14.mono (by decide)), trivial⟩
  have G16 : LnkOk l.prog w K mg base 4 ("_law_right", [[]]) f__law_right := lnk_pd n16 sc__law_right rfl rfl ck__law_right (fun x hx => hB x ((by decide +kernel : ∀ y ∈ C__law_right.B, y ∈ (["len", "abs", "range", "min", "enumerate", "tuple", "isinstance", "int", "bool", "list"] : List Str)) x hx)) (fun p hp => absurd hp List.not_mem_nil) ⟨(G13.mono (by decide)), (G8.mono (by decide)), (G15.mono (by decide)), trivial⟩
  have lnk : LnkL l.prog w K mg base 4 C_law.L [f__law_pen, f_is_given, f__law_deep, f__law_room, f__law_given, f__law_draw, f__law_right, f__law_spoilt] := ⟨(G0.mono (by decide)), (G8.mono (by decide)), (G12.mono (by decide)), (G3.mono (by decide)), (G4.mono (by decide)), (G1.mono (by decide)), (G16.mono (by decide)), (G11.mono (by decide)), trivial⟩
  exact law_end sc_law l17 c17 k17 rfl rfl ck_law (fun x hx => hB x ((by decide +kernel : ∀ y ∈ C_law.B, y ∈ (["len", "abs", "range", "min", "enumerate", "tuple", "isinstance", "int", "bool", "list"] : List Str)) x hx)) (fun p hp => absurd hp List.not_mem_nil) lnk sem
end K04
/-! PM0: plain laws about the pure language. -/
namespace PD
open PySem
def stepF (F : List Fn) (pt : Pt) (body : List IS) (d : D) (e : En) : Ou := match stPt pt d e with
  | some e3 => evSs F body e3
  | none => .no
theorem evS_forr {F : List Fn} {pt : Pt} {src : Sr} {body : List IS} {e : En} : evS F (.forr pt src body) e = match evI F src e with
    | .ok xs e1 => forL (stepF F pt body) xs e1
    | .ex c d e1 => .ex c d e1
    | .no => .no := by
  simp only [evS]
  rfl
def stepC (F : List Fn) (el : IE) (pt : Pt) (cs : List IT) (own : List Nat) (d : D) (e2 : En) : Rs (Option D) := match stPt pt d (wipeE e2 own) with
  | some e3 => (evC F cs e3).bind fun b e4 => if b = true then (evE F el e4).bind fun x e5 => match fzA x e5 with
      | some (d, e6) => .ok (some d) e6
      | none => .no
    else .ok none e4
  | none => .no
theorem evE_comp {F : List Fn} {el : IE} {pt : Pt} {src : Sr} {cs : List IT} {own : List Nat} {e : En} : evE F (.comp el pt src cs own) e = (evI F src e).bind fun xs e1 =>
    if ownSh e1 own && decide (xs.length ≤ sizeLine) then (compL (stepC F el pt cs own) xs e1).bind fun ds e7 => .ok (.val true (.list ds)) (backE e1 e7 own) else .no := by
  simp only [evE]
  rfl
@[simp] theorem rsbind_ok {α β : Type} (a : α) (e : En) (f : α → En → Rs β) : Rs.bind (.ok a e) f = f a e := rfl
/-- a loop by what holds ahead of each turn -/
theorem forL_inv {step : D → En → Ou} : ∀ (xs : List D) (I : List D → En → Prop) (e : En), I xs e → (∀ x r e, I (x :: r) e → ∃ e', (step x e = .nx e' ∨ step x e = .ct e') ∧ I r e') → ∃ e', forL step xs e = .nx e' ∧ I [] e'
  | [], I, e, h, _ => ⟨e, rfl, h⟩
  | x :: r, I, e, h, hs => by
    obtain ⟨e1, h1, h2⟩ := hs x r e h
    obtain ⟨e2, h3, h4⟩ := forL_inv r I e1 h2 hs
    refine ⟨e2, ?_, h4⟩
    simp only [forL]
    rcases h1 with h1 | h1 <;> rw [h1] <;> exact h3
/-- the same, by the number of turns done -/
theorem forL_nat {step : D → En → Ou} {xs : List D} (I : Nat → En → Prop) {e : En} (h0 : I 0 e) (hs : ∀ (i : Nat) (x : D) (e : En), xs[i]? = some x → I i e → ∃ e', (step x e = .nx e' ∨ step x e = .ct e') ∧ I (i + 1) e') : ∃ e', forL step xs e = .nx e' ∧ I xs.length e' := by
  obtain ⟨e', h1, h2⟩ := forL_inv (step := step) xs (fun r e => ∃ i, i + r.length = xs.length ∧ xs.drop i = r ∧ I i e) e ⟨0, by simp, by simp, h0⟩ fun x r e ⟨i, hi, hd, hI⟩ => by
    have hx : xs[i]? = some x := by
      have := congrArg (·[0]?) hd
      simpa using this
    obtain ⟨e', h1, h2⟩ := hs i x e hx hI
    refine ⟨e', h1, i + 1, ?_, ?_, h2⟩
    · simp only [List.length_cons] at hi
      omega
    · have := congrArg (List.drop 1) hd
      simpa using this
  obtain ⟨i, hi, hd, hI⟩ := h2
  simp only [List.length_nil, Nat.add_zero] at hi
  subst hi
  exact ⟨e', h1, hI⟩
/-- the same where each turn comes to its end -/
theorem forL_nx {step : D → En → Ou} {xs : List D} (I : Nat → En → Prop) {e : En} (h0 : I 0 e) (hs : ∀ (i : Nat) (x : D) (e : En), xs[i]? = some x → I i e → ∃ e', step x e = .nx e' ∧ I (i + 1) e') : ∃ e', forL step xs e = .nx e' ∧ I xs.length e' :=
  forL_nat I h0 fun i x e hx hI => by
    obtain ⟨e', h1, h2⟩ := hs i x e hx hI
    exact ⟨e', .inl h1, h2⟩
theorem forL_use {step : D → En → Ou} {xs : List D} {e : En} {L : Ou} (h : forL step xs e = L) (I : Nat → En → Prop) (h0 : I 0 e) (hs : ∀ (i : Nat) (x : D) (e : En), xs[i]? = some x → I i e → ∃ e', step x e = .nx e' ∧ I (i + 1) e') : ∃ e', L = .nx e' ∧ I xs.length e' := h ▸ forL_nx I h0 hs
/-- a slot that holds nothing, or a thing that is shared -/
def ShN (y : Option Sl) : Prop := y = none ∨ ∃ d, y = some ⟨.sh, d⟩
theorem shn0 : ShN none := .inl rfl
theorem shn1 {d : D} : ShN (some ⟨.sh, d⟩) := .inr ⟨d, rfl⟩
theorem rng_at {n i : Nat} {x : D} {g : Nat → D} (h : ((List.range n).map g)[i]? = some x) : x = g i ∧ i < n := by
  rw [List.getElem?_map] at h
  by_cases hi : i < n
  · rw [List.getElem?_range hi] at h
    cases h
    exact ⟨rfl, hi⟩
  · rw [List.getElem?_eq_none (by rw [List.length_range]; omega)] at h
    cases h
theorem map_at {α : Type} {xs : List α} {i : Nat} {x : D} {g : α → D} (h : (xs.map g)[i]? = some x) : ∃ a, xs[i]? = some a ∧ x = g a := by
  rw [List.getElem?_map] at h
  cases e : xs[i]? with
  | none => rw [e] at h; cases h
  | some a => rw [e] at h; cases h; exact ⟨a, rfl, rfl⟩
/-- a loop that may return from within -/
theorem forL_ret {step : D → En → Ou} {xs : List D} (I : Nat → En → Prop) (R : Ou → Prop) {e : En} (h0 : I 0 e) (hs : ∀ (i : Nat) (x : D) (e : En), xs[i]? = some x → I i e → (∃ e', (step x e = .nx e' ∨ step x e = .ct e') ∧ I (i + 1) e') ∨ ∃ f d e', step x e = .rt f d e' ∧ R (.rt f d e')) :
    (∃ e', forL step xs e = .nx e' ∧ I xs.length e') ∨ ∃ f d e', forL step xs e = .rt f d e' ∧ R (.rt f d e') := by
  have key : ∀ (r : List D) (i : Nat) (e : En), xs.drop i = r → i + r.length = xs.length → I i e → (∃ e', forL step r e = .nx e' ∧ I xs.length e') ∨ ∃ f d e', forL step r e = .rt f d e' ∧ R (.rt f d e') := by
    intro r
    induction r with
    | nil =>
      intro i e _ hi hI
      simp only [List.length_nil, Nat.add_zero] at hi
      subst hi
      exact .inl ⟨e, rfl, hI⟩
    | cons x r ih =>
      intro i e hd hi hI
      have hx : xs[i]? = some x := by
        have := congrArg (·[0]?) hd
        simpa using this
      rcases hs i x e hx hI with ⟨e', h1, h2⟩ | ⟨f, d, e', h1, h2⟩
      · have := ih (i + 1) e' (by have := congrArg (List.drop 1) hd; simpa using this) (by simp only [List.length_cons] at hi; omega) h2
        simp only [forL]
        rcases h1 with h1 | h1 <;> rw [h1] <;> exact this
      · refine .inr ⟨f, d, e', ?_, h2⟩
        simp only [forL]
        rw [h1]
  exact key xs 0 e (by simp) (by simp) h0
/-- a comprehension that changes nothing outside -/
theorem comp_pure {step : D → En → Rs (Option D)} {own : List Nat} {g : D → Option D} {W : En} : ∀ (xs : List D) (e : En), wipeE e own = W → (∀ x ∈ xs, ∀ e, wipeE e own = W → ∃ e', step x e = .ok (g x) e' ∧ wipeE e' own = W) → ∃ e', compL step xs e = .ok (xs.filterMap g) e' ∧ wipeE e' own = W
  | [], e, h, _ => ⟨e, rfl, h⟩
  | x :: xs, e, h, hs => by
    obtain ⟨e1, h1, h2⟩ := hs x List.mem_cons_self e h
    obtain ⟨e2, h3, h4⟩ := comp_pure xs e1 h2 fun y hy => hs y (List.mem_cons_of_mem _ hy)
    refine ⟨e2, ?_, h4⟩
    simp only [compL, h1, rsbind_ok, h3]
    cases hg : g x <;> simp [hg]
theorem comp_map {α : Type} {step : D → En → Rs (Option D)} {own : List Nat} {h : α → D} {g : α → Option D} {W : En} : ∀ (xs : List α) (e : En), wipeE e own = W → (∀ x ∈ xs, ∀ e, wipeE e own = W → ∃ e', step (h x) e = .ok (g x) e' ∧ wipeE e' own = W) → ∃ e', compL step (xs.map h) e = .ok (xs.filterMap g) e' ∧ wipeE e' own = W
  | [], e, h, _ => ⟨e, rfl, h⟩
  | x :: xs, e, hw, hs => by
    obtain ⟨e1, h1, h2⟩ := hs x List.mem_cons_self e hw
    obtain ⟨e2, h3, h4⟩ := comp_map xs e1 h2 fun y hy => hs y (List.mem_cons_of_mem _ hy)
    refine ⟨e2, ?_, h4⟩
    simp only [List.map_cons, compL, h1, rsbind_ok, h3]
    cases hg : g x <;> simp [hg]
theorem fm_map {α β : Type} {g : α → β} : ∀ xs : List α, (xs.filterMap fun a => some (g a)) = xs.map g
  | [] => rfl
  | x :: xs => by simp [fm_map xs]
theorem wipe_len (e : En) : ∀ own : List Nat, (wipeE e own).length = e.length
  | [] => rfl
  | i :: own => by
    simp only [wipeE, List.length_set]
    exact wipe_len e own
theorem back_len (e0 e : En) : ∀ own : List Nat, (backE e0 e own).length = e.length
  | [] => rfl
  | i :: own => by
    simp only [backE, List.length_set]
    exact back_len e0 e own
theorem back_at (e0 e : En) : ∀ (own : List Nat) (j : Nat), (backE e0 e own)[j]? = if j ∈ own then (if j < e.length then some (match e0[j]? with | some x => x | none => none) else none) else e[j]?
  | [], j => by simp [backE]
  | i :: own, j => by
    simp only [backE, List.getElem?_set, back_len]
    by_cases h : i = j
    · subst h
      by_cases h2 : i < e.length
      · simp [h2] <;> rfl
      · simp [h2]
    · rw [if_neg h, back_at e0 e own j]
      have : (j ∈ i :: own) ↔ j ∈ own := by simp [Ne.symm h]
      simp only [this]
theorem wipe_get (e : En) : ∀ (own : List Nat) (j : Nat), (wipeE e own)[j]? = if j ∈ own then (if j < e.length then some none else none) else e[j]?
  | [], j => by simp [wipeE]
  | i :: own, j => by
    simp only [wipeE, List.getElem?_set, wipe_len]
    by_cases h : i = j
    · subst h
      by_cases h2 : i < e.length <;> simp [h2]
    · rw [if_neg h, wipe_get e own j]
      have : (j ∈ i :: own) ↔ j ∈ own := by simp [Ne.symm h]
      simp only [this]
theorem back_eq {e0 e : En} {own : List Nat} (h : wipeE e own = wipeE e0 own) : backE e0 e own = e0 := by
  have hl : e.length = e0.length := by rw [← wipe_len e own, h, wipe_len]
  refine List.ext_getElem? fun j => ?_
  rw [back_at]
  have hj := congrArg (·[j]?) h
  simp only [wipe_get] at hj
  by_cases h1 : j ∈ own
  · rw [if_pos h1]
    by_cases h2 : j < e.length
    · rw [if_pos h2, List.getElem?_eq_getElem (by omega)]
    · rw [if_neg h2, List.getElem?_eq_none (by omega)]
  · rw [if_neg h1]
    rw [if_neg h1, if_neg h1] at hj
    exact hj
theorem evE_comp_pure {F : List Fn} {el : IE} {pt : Pt} {src : Sr} {cs : List IT} {own : List Nat} {e e1 : En} {xs : List D} {g : D → Option D} (hi : evI F src e = .ok xs e1) (ho : ownSh e1 own = true) (hl : xs.length ≤ sizeLine)
    (hs : ∀ x ∈ xs, ∀ e, wipeE e own = wipeE e1 own → ∃ e', stepC F el pt cs own x e = .ok (g x) e' ∧ wipeE e' own = wipeE e1 own) : evE F (.comp el pt src cs own) e = .ok (.val true (.list (xs.filterMap g))) e1 := by
  rw [evE_comp, hi, rsbind_ok, ho, decide_eq_true hl]
  obtain ⟨e', h1, h2⟩ := comp_pure (step := stepC F el pt cs own) (own := own) xs e1 rfl hs
  simp only [Bool.and_self, if_true, h1, rsbind_ok, back_eq h2]
theorem evE_comp_map {α : Type} {F : List Fn} {el : IE} {pt : Pt} {src : Sr} {cs : List IT} {own : List Nat} {e e1 : En} {A : List α} {h : α → D} {g : α → Option D} (hi : evI F src e = .ok (A.map h) e1) (ho : ownSh e1 own = true) (hl : A.length ≤ sizeLine)
    (hs : ∀ x ∈ A, ∀ e, wipeE e own = wipeE e1 own → ∃ e', stepC F el pt cs own (h x) e = .ok (g x) e' ∧ wipeE e' own = wipeE e1 own) : evE F (.comp el pt src cs own) e = .ok (.val true (.list (A.filterMap g))) e1 := by
  rw [evE_comp, hi, rsbind_ok, ho, decide_eq_true (show (A.map h).length ≤ sizeLine by rw [List.length_map]; exact hl)]
  obtain ⟨e', h1, h2⟩ := comp_map (step := stepC F el pt cs own) (own := own) A e1 rfl hs
  simp only [Bool.and_self, if_true, h1, rsbind_ok, back_eq h2]
end PD
/-! PMR: the pure language as rewriting rules. -/
namespace PD
open PySem
def kRd : Option (Option Sl) → Option D
  | some (some s) => some s.d
  | _ => none
def kVar (i : Nat) (e : En) : Option (Option Sl) → Rs Ans
  | some (some ⟨.sh, d⟩) => .ok (.val false d) e
  | some (some _) => .ok (.pl i) e
  | _ => .no
def kBi2 (p : Pr) (x : Ans) (y : Ans) (e : En) : Rs Ans := prA p [x, y] e
def kBi (F : List Fn) (p : Pr) (b : IE) (x : Ans) (e : En) : Rs Ans := (evE F b e).bind (kBi2 p x)
def kUn (p : Pr) (x : Ans) (e : En) : Rs Ans := prA p [x] e
def kPr2 (e : En) : Option (Bool × D) → Rs Ans
  | some (f, d) => .ok (.val f d) e
  | none => .no
def kPr (p : Pr) (e : En) : Option (List D) → Rs Ans
  | some ds => kPr2 e (prim p ds)
  | none => .no
def kCo : Option D → Option (List D) → Option (List D)
  | some d, some ds => some (d :: ds)
  | _, _ => none
def kCh3 (F : List Fn) (q : Pr) (y : Ans) (c : IE) (r : Ans) (e : En) : Rs Ans := match r with
  | .val _ (.bool true) => (evE F c e).bind (kBi2 q y)
  | .val _ (.bool false) => .ok (.val false (.bool false)) e
  | _ => .no
def kCh2 (F : List Fn) (p q : Pr) (x : Ans) (c : IE) (y : Ans) (e : En) : Rs Ans := (prA p [x, y] e).bind (kCh3 F q y c)
def kCh (F : List Fn) (p q : Pr) (b c : IE) (x : Ans) (e : En) : Rs Ans := (evE F b e).bind (kCh2 F p q x c)
def kAn2 (F : List Fn) (es : List IE) (e : En) : Option D → Rs Ans
  | some (.bool true) => evAnd F es e
  | some (.bool false) => .ok (.val false (.bool false)) e
  | _ => .no
def kAn (F : List Fn) (es : List IE) (x : Ans) (e : En) : Rs Ans := kAn2 F es e (rdA x e)
def kOr2 (F : List Fn) (es : List IE) (e : En) : Option D → Rs Ans
  | some (.bool true) => .ok (.val false (.bool true)) e
  | some (.bool false) => evOr F es e
  | _ => .no
def kOr (F : List Fn) (es : List IE) (x : Ans) (e : En) : Rs Ans := kOr2 F es e (rdA x e)
def kNo2 (e : En) : Option D → Rs Ans
  | some (.bool b) => .ok (.val false (.bool (!b))) e
  | _ => .no
def kNo (x : Ans) (e : En) : Rs Ans := kNo2 e (rdA x e)
def kIt (F : List Fn) (a b : IE) (r : Bool) (e : En) : Rs Ans := if r = true then evE F a e else evE F b e
def kTu2 : Option (List D × En) → Rs Ans
  | some (ds, e) => if ds.length ≤ sizeLine then .ok (.val false (.tuple ds)) e else .no
  | none => .no
def kTu (as : List Ans) (e : En) : Rs Ans := kTu2 (fzAs as e)
def kLs2 : Option (List D × En) → Rs Ans
  | some (ds, e) => if ds.length ≤ sizeLine then .ok (.val true (.list ds)) e else .no
  | none => .no
def kLs (as : List Ans) (e : En) : Rs Ans := kLs2 (fzAs as e)
def kDi2 (ks : List D) : Option (List D × En) → Rs Ans
  | some (ds, e) => .ok (.val true (.dict (zipDic ks ds []))) e
  | none => .no
def kDi (ks : List D) (as : List Ans) (e : En) : Rs Ans := kDi2 ks (fzAs as e)
def kIx4 (e : En) : Option D → Rs Ans
  | some d => .ok (.val false d) e
  | none => .no
def kIx3 (e : En) : Option D → Option D → Rs Ans
  | some x, some y => kIx4 e (pIx x y)
  | _, _ => .no
def kIx2 (x y : Ans) (e : En) : Rs Ans := kIx3 e (rdA x e) (rdA y e)
def kIx (F : List Fn) (b : IE) (x : Ans) (e : En) : Rs Ans := (evE F b e).bind (kIx2 x)
def kSl4 (e : En) (l h : Option Int) : Option D → Rs Ans
  | some (.list xs) => .ok (.val true (.list (cutD xs l h))) e
  | some (.tuple xs) => .ok (.val false (.tuple (cutD xs l h))) e
  | _ => .no
def kSl3 (x : Ans) (l : Option Int) (h : Option Int) (e : En) : Rs Ans := kSl4 e l h (rdA x e)
def kSl2 (F : List Fn) (x : Ans) (hi : Option IE) (l : Option Int) (e : En) : Rs Ans := (evO F hi e).bind (kSl3 x l)
def kSl (F : List Fn) (lo hi : Option IE) (x : Ans) (e : En) : Rs Ans := (evO F lo e).bind (kSl2 F x hi)
def kFn (p : Pr) (as : List Ans) (e : En) : Rs Ans := prA p as e
def kIs2 (k : Kd) (e : En) : Option D → Rs Ans
  | some d => .ok (.val false (.bool (kindOf k d))) e
  | none => .no
def kIs (k : Kd) (x : Ans) (e : En) : Rs Ans := kIs2 k e (rdA x e)
def kCl2 (as : List Ans) (e : En) : Option Fn → Rs Ans
  | some f => callA f as e
  | none => .no
def kCl (F : List Fn) (k : Nat) (dv : List D) (as : List Ans) (e : En) : Rs Ans := kCl2 (as ++ dv.map (Ans.val false)) e F[k]?
def kCa5 (fr : Bool) (d : D) : Option En → Rs Ans
  | some e => .ok (.val fr d) e
  | none => .no
def kCa4 (fr : Bool) (d : D) (al : List (Nat × Nat)) (le : List Nat) : Option En → Rs Ans
  | some e => if isSc d && al.isEmpty then .ok (.val false d) e else kCa5 fr d (shareAll le e)
  | none => .no
def kCa6 (c : Str) (d : D) : Option En → Rs Ans
  | some e => .ex c d e
  | none => .no
def kCa7 (c : Str) (d : D) (le : List Nat) : Option En → Rs Ans
  | some e => kCa6 c d (shareAll le e)
  | none => .no
def kCa3 (al : List (Nat × Nat)) (le : List Nat) (e : En) : FR → Rs Ans
  | .ok fr d ms => kCa4 fr d al le (putMs al ms e)
  | .ex c d ms => kCa7 c d le (putMs al ms e)
  | .no => .no
def kCa2 (f : Fn) (e : En) : Option (List D × List (Nat × Nat) × List Nat) → Rs Ans
  | some (ds, al, le) => if noMix al le = true then kCa3 al le e (f.sem ds) else .no
  | none => .no
def kAr3 (j i : Nat) (ds : List D) (al : List (Nat × Nat)) (le : List Nat) : Option (Option Sl) → Option (List D × List (Nat × Nat) × List Nat)
  | some (some ⟨.sh, _⟩) => none
  | some (some ⟨_, d⟩) => if al.any (fun p => p.1 == i) = true then none else some (d :: ds, (i, j) :: al, le)
  | _ => none
def kAr2 (i : Nat) (ds : List D) (al : List (Nat × Nat)) (le : List Nat) : Option (Option Sl) → Option (List D × List (Nat × Nat) × List Nat)
  | some (some s) => some (s.d :: ds, al, i :: le)
  | _ => none
def kAr (j : Nat) (m : Bool) (a : Ans) (e : En) : Option (List D × List (Nat × Nat) × List Nat) → Option (List D × List (Nat × Nat) × List Nat)
  | some (ds, al, le) => match m, a with
    | false, .val _ d => some (d :: ds, al, le)
    | false, .pl i => kAr2 i ds al le e[i]?
    | true, .pl i => kAr3 j i ds al le e[i]?
    | true, .val _ _ => none
  | none => none
def kPm (ps : List (Nat × Nat)) (p : Nat) (d : D) (ds : List D) (e : En) : Option (Option Sl) → Option En
  | some (some s) => putMs ps ds (e.set p (some ⟨s.o, d⟩))
  | _ => none
def kSh (i : Nat) (is : List Nat) (e : En) : Option (Option Sl) → Option En
  | some (some ⟨.mu, _⟩) => none
  | some (some ⟨_, d⟩) => shareAll is (e.set i (some ⟨.sh, d⟩))
  | _ => none
def kFz (i : Nat) (e : En) : Option (Option Sl) → Option (D × En)
  | some (some ⟨.own, d⟩) => some (d, e.set i (some ⟨.sh, d⟩))
  | some (some ⟨.sh, d⟩) => some (d, e)
  | _ => none
def kFs3 (d : D) : Option (List D × En) → Option (List D × En)
  | some (ds, e) => some (d :: ds, e)
  | none => none
def kFs (as : List Ans) : Option (D × En) → Option (List D × En)
  | some (d, e) => kFs3 d (fzAs as e)
  | none => none
def kIsL : Option (Option Sl) → Bool
  | some (some ⟨.own, .list _⟩) => true
  | some (some ⟨.mu, .list _⟩) => true
  | _ => false
def kIsO : Option (Option Sl) → Bool
  | some (some ⟨.own, _⟩) => true
  | some (some ⟨.mu, _⟩) => true
  | _ => false
def kMt4 (i : Nat) (o : O) (e : En) : Option (D × D) → Rs Ans
  | some (d, r) => .ok (.val false r) (e.set i (some ⟨o, d⟩))
  | none => .no
def kMt3 (m : Mt) (i : Nat) (ds : List D) (e : En) : Option (Option Sl) → Rs Ans
  | some (some ⟨.sh, _⟩) => .no
  | some (some ⟨o, d⟩) => kMt4 i o e (mtd m d ds)
  | _ => .no
def kMt2 (m : Mt) (i : Nat) : Option (List D × En) → Rs Ans
  | some (ds, e) => kMt3 m i ds e e[i]?
  | none => .no
def kMt (m : Mt) (i : Nat) (as : List Ans) (e : En) : Rs Ans := kMt2 m i (fzAs as e)
def kEs2 (x : Ans) (xs : List Ans) (e : En) : Rs (List Ans) := .ok (x :: xs) e
def kEs (F : List Fn) (es : List IE) (x : Ans) (e : En) : Rs (List Ans) := (evEs F es e).bind (kEs2 x)
def kO2 (e : En) : Option D → Rs (Option Int)
  | some (.int i) => .ok (some i) e
  | _ => .no
def kO (x : Ans) (e : En) : Rs (Option Int) := kO2 e (rdA x e)
def kTv3 (e : En) : Option Bool → Rs Bool
  | some b => .ok b e
  | none => .no
def kTv2 (e : En) : Option D → Rs Bool
  | some d => kTv3 e (truthD d)
  | none => .no
def kTv (x : Ans) (e : En) : Rs Bool := kTv2 e (rdA x e)
def kTb (r : Ans) (e : En) : Rs Bool := match r with
  | .val _ (.bool b) => .ok b e
  | _ => .no
def kTn (b : Bool) (e : En) : Rs Bool := .ok (!b) e
def kTA (F : List Fn) (ts : List IT) (b : Bool) (e : En) : Rs Bool := if b = true then evTA F ts e else .ok false e
def kTO (F : List Fn) (ts : List IT) (b : Bool) (e : En) : Rs Bool := if b = true then .ok true e else evTO F ts e
def kTC (F : List Fn) (ts : List IT) (b : Bool) (e : En) : Rs Bool := if b = true then evC F ts e else .ok false e
def kSq3 (e : En) : Option (List D) → Rs (List D)
  | some xs => .ok xs e
  | none => .no
def kSq2 : Option (D × En) → Rs (List D)
  | some (d, e) => kSq3 e (seqD d)
  | none => .no
def kSq (x : Ans) (e : En) : Rs (List D) := kSq2 (fzA x e)
def kRg2 (e : En) : Option D → Rs (List D)
  | some (.int j) => kSq3 e (rngD 0 j)
  | _ => .no
def kRg (x : Ans) (e : En) : Rs (List D) := kRg2 e (rdA x e)
def kRr3 (e : En) : Option D → Option D → Rs (List D)
  | some (.int i), some (.int j) => kSq3 e (rngD i j)
  | _, _ => .no
def kRr2 (x y : Ans) (e : En) : Rs (List D) := kRr3 e (rdA x e) (rdA y e)
def kRr (F : List Fn) (b : IE) (x : Ans) (e : En) : Rs (List D) := (evE F b e).bind (kRr2 x)
def kEn2 : Option (D × En) → Rs (List D)
  | some (d, e) => match d with
    | .list xs => .ok (enumD xs) e
    | .tuple xs => .ok (enumD xs) e
    | _ => .no
  | none => .no
def kEn (x : Ans) (e : En) : Rs (List D) := kEn2 (fzA x e)
def kZi3 (d : D) : Option (D × En) → Rs (List D)
  | some (d', e) => match d, d' with
    | .list xs, .list ys => .ok (zipD xs ys) e
    | .tuple xs, .tuple ys => .ok (zipD xs ys) e
    | _, _ => .no
  | none => .no
def kZi4 (y : Ans) : Option (D × En) → Rs (List D)
  | some (d, e) => kZi3 d (fzA y e)
  | none => .no
def kZi2 (x y : Ans) (e : En) : Rs (List D) := kZi4 y (fzA x e)
def kZi (F : List Fn) (b : IE) (x : Ans) (e : En) : Rs (List D) := (evE F b e).bind (kZi2 x)
def kNx : Option En → Ou
  | some e => .nx e
  | none => .no
def kSt (i : Nat) (s : Sl) (e : En) : Option (Option Sl) → Option En
  | some (some ⟨.mu, _⟩) => none
  | some _ => some (e.set i (some s))
  | none => none
def kSe2 (i : Nat) : Option (D × En) → Ou
  | some (d, e) => kNx (stN i ⟨.sh, d⟩ e)
  | none => .no
def kSe (i : Nat) : Rs Ans → Ou
  | .ok (.val f d) e1 => kNx (stN i ⟨if f = true then .own else .sh, d⟩ e1)
  | .ok (.pl j) e1 => kSe2 i (fzA (.pl j) e1)
  | .ex c d e1 => .ex c d e1
  | .no => .no
def kUp2 (is : List Nat) : Option (D × En) → Ou
  | some (.tuple ds, e2) => kNx (stNs is ds e2)
  | _ => .no
def kUp (is : List Nat) : Rs Ans → Ou
  | .ok x e1 => kUp2 is (fzA x e1)
  | .ex c d e1 => .ex c d e1
  | .no => .no
def kEx : Rs Ans → Ou
  | .ok _ e1 => .nx e1
  | .ex c d e1 => .ex c d e1
  | .no => .no
def kRt2 (j : Nat) (e : En) : Option (Option Sl) → Ou
  | some (some ⟨.own, d⟩) => .rt true d (e.set j none)
  | _ => .no
def kRt : Rs Ans → Ou
  | .ok (.val f d) e1 => .rt f d e1
  | .ok (.pl j) e1 => kRt2 j e1 e1[j]?
  | .ex c d e1 => .ex c d e1
  | .no => .no
def kIf (F : List Fn) (a b : List IS) : Rs Bool → Ou
  | .ok true e1 => evSs F a e1
  | .ok false e1 => evSs F b e1
  | .ex k d e1 => .ex k d e1
  | .no => .no
def kFo (st : D → En → Ou) : Rs (List D) → Ou
  | .ok xs e1 => forL st xs e1
  | .ex c d e1 => .ex c d e1
  | .no => .no
def kXs5 (i : Nat) (o : O) (e : En) : Option D → Ou
  | some d => .nx (e.set i (some ⟨o, d⟩))
  | none => .no
def kXs4 (i : Nat) (dv dk : D) (e : En) : Option (Option Sl) → Ou
  | some (some ⟨.sh, _⟩) => .no
  | some (some ⟨o, d⟩) => kXs5 i o e (ixSet d dk dv)
  | _ => .no
def kXs3 (i : Nat) (dv : D) : Option (D × En) → Ou
  | some (dk, e) => kXs4 i dv dk e e[i]?
  | none => .no
def kXs6 (i : Nat) (y : Ans) : Option (D × En) → Ou
  | some (dv, e) => kXs3 i dv (fzA y e)
  | none => .no
def kXs2 (i : Nat) (x : Ans) : Rs Ans → Ou
  | .ok y e => kXs6 i y (fzA x e)
  | .ex c d e => .ex c d e
  | .no => .no
def kXs (F : List Fn) (i : Nat) (k : IE) : Rs Ans → Ou
  | .ok x e => if isOwn e i = true then kXs2 i x (evE F k e) else .no
  | .ex c d e => .ex c d e
  | .no => .no
def kSs (F : List Fn) (ss : List IS) : Ou → Ou
  | .nx e => evSs F ss e
  | r => r
def kRn2 (f : Bool) (d : D) : Option (List D) → FR
  | some ms => .ok f d ms
  | none => .no
def kRn3 (c : Str) (d : D) : Option (List D) → FR
  | some ms => .ex c d ms
  | none => .no
def kRn (modes : List Bool) : Ou → FR
  | .nx e => kRn2 false .none (lastMs modes 0 e)
  | .rt f d e => kRn2 f d (lastMs modes 0 e)
  | .ex c d e => kRn3 c d (lastMs modes 0 e)
  | _ => .no
def kLm (d? : Option (Option Sl)) (ds : Option (List D)) : Option (List D) := match d?, ds with
  | some (some ⟨.mu, d⟩), some ds => some (d :: ds)
  | _, _ => none
def kWh (c : En → Rs Bool) (b : En → Ou) (n : Nat) : Ou → Ou
  | .nx e2 => whlL c b n e2
  | .ct e2 => whlL c b n e2
  | .bk e2 => .nx e2
  | r => r
def kWc (c : En → Rs Bool) (b : En → Ou) (n : Nat) : Rs Bool → Ou
  | .ok true e1 => kWh c b n (b e1)
  | .ok false e1 => .nx e1
  | .no => .no
  | .ex k d e1 => .ex k d e1
def kSp (F : List Fn) (body : List IS) : Option En → Ou
  | some e3 => evSs F body e3
  | none => .no
def kCp4 : Option (D × En) → Rs (Option D)
  | some (d, e) => .ok (some d) e
  | none => .no
def kCp3 (x : Ans) (e : En) : Rs (Option D) := kCp4 (fzA x e)
def kCp2 (F : List Fn) (el : IE) (b : Bool) (e : En) : Rs (Option D) := if b = true then (evE F el e).bind kCp3 else .ok none e
def kCp (F : List Fn) (el : IE) (cs : List IT) : Option En → Rs (Option D)
  | some e3 => (evC F cs e3).bind (kCp2 F el)
  | none => .no
theorem rbind_assoc {α β γ : Type} {m : Rs α} {f : α → En → Rs β} {g : β → En → Rs γ} : (m.bind f).bind g = m.bind (fun x e => (f x e).bind g) := by
  cases m <;> rfl
theorem evT_cm {F : List Fn} {p : Pr} {a b : IE} {e : En} : evT F (.cm p a b) e = (evE F (.cm p a b) e).bind kTb := by
  simp only [evT, evE, rbind_assoc]
  rfl
theorem evT_chn {F : List Fn} {p q : Pr} {a b c : IE} {e : En} : evT F (.chn p q a b c) e = (evE F (.chn p q a b c) e).bind kTb := by
  simp only [evT, evE, rbind_assoc]
  congr 1
  funext x e1
  congr 1
  funext y e2
  congr 1
  funext r e3
  cases r with
  | pl i => rfl
  | val f d =>
    cases d <;> try rfl
    rename_i t
    cases t
    · rfl
    · simp only [rbind_assoc]
      congr 1
section
variable {F : List Fn} {e : En} {a b c : IE} {p q : Pr} {es : List IE} {i j k : Nat} {d dx dy : D} {f : Bool}
theorem r_rd_v  : rdA (.val f d) e = some d := rfl
theorem r_rd_p  : rdA (.pl i) e = kRd e[i]? := rfl
theorem r_krd {s : Sl} : kRd (some (some s)) = some s.d := rfl
theorem r_rds0  : rdAs [] e = some [] := rfl
theorem r_rds {y : Ans} {as : List Ans} : rdAs (y :: as) e = kCo (rdA y e) (rdAs as e) := rfl
theorem r_kco {ds : List D} : kCo (some d) (some ds) = some (d :: ds) := rfl
theorem r_pr {as : List Ans} : prA p as e = kPr p e (rdAs as e) := rfl
theorem r_kpr {ds : List D} : kPr p e (some ds) = kPr2 e (prim p ds) := rfl
theorem r_kpr2  : kPr2 e (some (f, d)) = .ok (.val f d) e := rfl
theorem r_var  : evE F (.var i) e = kVar i e e[i]? := rfl
theorem r_kvar1  : kVar i e (some (some ⟨.sh, d⟩)) = .ok (.val false d) e := rfl
theorem r_kvar2  : kVar i e (some (some ⟨.own, d⟩)) = .ok (.pl i) e := rfl
theorem r_kvar3  : kVar i e (some (some ⟨.mu, d⟩)) = .ok (.pl i) e := rfl
theorem r_lit  : evE F (.lit d) e = .ok (.val false d) e := rfl
theorem r_gl {z : Str} : evE F (.gl z d) e = .ok (.val false d) e := rfl
theorem r_un  : evE F (.un p a) e = (evE F a e).bind (kUn p) := rfl
theorem r_bi  : evE F (.bi p a b) e = (evE F a e).bind (kBi F p b) := rfl
theorem r_cm  : evE F (.cm p a b) e = (evE F a e).bind (kBi F p b) := rfl
theorem r_chn  : evE F (.chn p q a b c) e = (evE F a e).bind (kCh F p q b c) := rfl
theorem r_kch3t {y : Ans} : kCh3 F q y c (.val f (.bool true)) e = (evE F c e).bind (kBi2 q y) := rfl
theorem r_kch3f {y : Ans} : kCh3 F q y c (.val f (.bool false)) e = .ok (.val false (.bool false)) e := rfl
theorem r_and  : evE F (.and es) e = evAnd F es e := rfl
theorem r_or  : evE F (.or es) e = evOr F es e := rfl
theorem r_and1  : evAnd F [a] e = evE F a e := rfl
theorem r_and2  : evAnd F (a :: b :: es) e = (evE F a e).bind (kAn F (b :: es)) := rfl
theorem r_or1  : evOr F [a] e = evE F a e := rfl
theorem r_or2  : evOr F (a :: b :: es) e = (evE F a e).bind (kOr F (b :: es)) := rfl
theorem r_kan2t  : kAn2 F es e (some (.bool true)) = evAnd F es e := rfl
theorem r_kan2f  : kAn2 F es e (some (.bool false)) = .ok (.val false (.bool false)) e := rfl
theorem r_kor2t  : kOr2 F es e (some (.bool true)) = .ok (.val false (.bool true)) e := rfl
theorem r_kor2f  : kOr2 F es e (some (.bool false)) = evOr F es e := rfl
theorem r_not  : evE F (.not a) e = (evE F a e).bind kNo := rfl
theorem r_kno2  : kNo2 e (some (.bool f)) = .ok (.val false (.bool (!f))) e := rfl
theorem r_ite {t : IT} : evE F (.ite t a b) e = (evT F t e).bind (kIt F a b) := rfl
theorem r_tup  : evE F (.tup es) e = (evEs F es e).bind kTu := rfl
theorem r_lst  : evE F (.lst es) e = (evEs F es e).bind kLs := rfl
theorem r_ktu2 {ds : List D} : kTu2 (some (ds, e)) = if ds.length ≤ sizeLine then .ok (.val false (.tuple ds)) e else .no := rfl
theorem r_kls2 {ds : List D} : kLs2 (some (ds, e)) = if ds.length ≤ sizeLine then .ok (.val true (.list ds)) e else .no := rfl
theorem r_dic {ks : List D} : evE F (.dic ks es) e = (evEs F es e).bind (kDi ks) := rfl
theorem r_kdi2 {ks ds : List D} : kDi2 ks (some (ds, e)) = .ok (.val true (.dict (zipDic ks ds []))) e := rfl
theorem r_dnewk  : evE F (.dnew false) e = .ok (.val true (.dict [])) e := rfl
theorem r_dnewt  : evE F (.dnew true) e = .ok (.val true (.dict [(.none, .none)])) e := rfl
theorem r_ix  : evE F (.ix a b) e = (evE F a e).bind (kIx F b) := rfl
theorem r_kix3  : kIx3 e (some dx) (some dy) = kIx4 e (pIx dx dy) := rfl
theorem r_kix4  : kIx4 e (some d) = .ok (.val false d) e := rfl
theorem r_sl {lo hi : Option IE} : evE F (.sl a lo hi) e = (evE F a e).bind (kSl F lo hi) := rfl
theorem r_ksl4l {l h : Option Int} {ds : List D} : kSl4 e l h (some (.list ds)) = .ok (.val true (.list (cutD ds l h))) e := rfl
theorem r_ksl4t {l h : Option Int} {ds : List D} : kSl4 e l h (some (.tuple ds)) = .ok (.val false (.tuple (cutD ds l h))) e := rfl
theorem r_fn  : evE F (.fn p es) e = (evEs F es e).bind (kFn p) := rfl
theorem r_isI {t : Kd} : evE F (.isI t a) e = (evE F a e).bind (kIs t) := rfl
theorem r_kis2 {t : Kd} : kIs2 t e (some d) = .ok (.val false (.bool (kindOf t d))) e := rfl
theorem r_call {dv : List D} : evE F (.call k es dv) e = (evEs F es e).bind (kCl F k dv) := rfl
theorem r_kcl2 {as : List Ans} {g : Fn} : kCl2 as e (some g) = callA g as e := rfl
theorem r_calla {as : List Ans} {g : Fn} : callA g as e = kCa2 g e (argA 0 g.modes as e) := rfl
theorem r_kca2 {g : Fn} {ds : List D} {al : List (Nat × Nat)} {le : List Nat} : kCa2 g e (some (ds, al, le)) = if noMix al le = true then kCa3 al le e (g.sem ds) else .no := rfl
theorem r_kca3 {ds : List D} {al : List (Nat × Nat)} {le : List Nat} : kCa3 al le e (.ok f d ds) = kCa4 f d al le (putMs al ds e) := rfl
theorem r_kca4 {al : List (Nat × Nat)} {le : List Nat} : kCa4 f d al le (some e) = if isSc d && al.isEmpty then .ok (.val false d) e else kCa5 f d (shareAll le e) := rfl
theorem r_kca5  : kCa5 f d (some e) = .ok (.val f d) e := rfl
theorem r_arg0  : argA j [] [] e = some ([], [], []) := rfl
theorem r_arg {m : Bool} {ms : List Bool} {y : Ans} {as : List Ans} : argA j (m :: ms) (y :: as) e = kAr j m y e (argA (j + 1) ms as e) := rfl
theorem r_kar1 {ds : List D} {al : List (Nat × Nat)} {le : List Nat} : kAr j false (.val f d) e (some (ds, al, le)) = some (d :: ds, al, le) := rfl
theorem r_kar2 {ds : List D} {al : List (Nat × Nat)} {le : List Nat} : kAr j false (.pl i) e (some (ds, al, le)) = kAr2 i ds al le e[i]? := rfl
theorem r_kar3 {ds : List D} {al : List (Nat × Nat)} {le : List Nat} : kAr j true (.pl i) e (some (ds, al, le)) = kAr3 j i ds al le e[i]? := rfl
theorem r_kar4 {ds : List D} {al : List (Nat × Nat)} {le : List Nat} {s : Sl} : kAr2 i ds al le (some (some s)) = some (s.d :: ds, al, i :: le) := rfl
theorem r_kar5 {ds : List D} {al : List (Nat × Nat)} {le : List Nat} : kAr3 j i ds al le (some (some ⟨.mu, d⟩)) = if al.any (fun p => p.1 == i) = true then none else some (d :: ds, (i, j) :: al, le) := rfl
theorem r_kar6 {ds : List D} {al : List (Nat × Nat)} {le : List Nat} : kAr3 j i ds al le (some (some ⟨.own, d⟩)) = if al.any (fun p => p.1 == i) = true then none else some (d :: ds, (i, j) :: al, le) := rfl
theorem r_nomix0 {al : List (Nat × Nat)} : noMix al [] = true := rfl
theorem r_nomix1 {le : List Nat} : noMix [] le = true := by induction le with | nil => rfl | cons a b h => simpa [noMix] using h
theorem r_pm0  : putMs [] [] e = some e := rfl
theorem r_pm1 {pr : Nat × Nat} {ps : List (Nat × Nat)} {ds : List D} : putMs (pr :: ps) (d :: ds) e = kPm ps pr.1 d ds e e[pr.1]? := rfl
theorem r_kpm {ps : List (Nat × Nat)} {ds : List D} {s : Sl} : kPm ps i d ds e (some (some s)) = putMs ps ds (e.set i (some ⟨s.o, d⟩)) := rfl
theorem r_sh0  : shareAll [] e = some e := rfl
theorem r_sh1 {is : List Nat} : shareAll (i :: is) e = kSh i is e e[i]? := rfl
theorem r_ksh1 {is : List Nat} : kSh i is e (some (some ⟨.sh, d⟩)) = shareAll is (e.set i (some ⟨.sh, d⟩)) := rfl
theorem r_ksh2 {is : List Nat} : kSh i is e (some (some ⟨.own, d⟩)) = shareAll is (e.set i (some ⟨.sh, d⟩)) := rfl
theorem r_fz_v  : fzA (.val f d) e = some (d, e) := rfl
theorem r_fz_p  : fzA (.pl i) e = kFz i e e[i]? := rfl
theorem r_kfz1  : kFz i e (some (some ⟨.own, d⟩)) = some (d, e.set i (some ⟨.sh, d⟩)) := rfl
theorem r_kfz2  : kFz i e (some (some ⟨.sh, d⟩)) = some (d, e) := rfl
theorem r_fzs0  : fzAs [] e = some ([], e) := rfl
theorem r_fzs1 {y : Ans} {as : List Ans} : fzAs (y :: as) e = kFs as (fzA y e) := rfl
theorem r_kfs {as : List Ans} : kFs as (some (d, e)) = kFs3 d (fzAs as e) := rfl
theorem r_kfs3 {ds : List D} : kFs3 d (some (ds, e)) = some (d :: ds, e) := rfl
theorem r_isL  : isL e i = kIsL e[i]? := rfl
theorem r_kisl1 {ds : List D} : kIsL (some (some ⟨.own, .list ds⟩)) = true := rfl
theorem r_kisl2 {ds : List D} : kIsL (some (some ⟨.mu, .list ds⟩)) = true := rfl
theorem r_isO  : isOwn e i = kIsO e[i]? := rfl
theorem r_kiso1  : kIsO (some (some ⟨.own, d⟩)) = true := rfl
theorem r_kiso2  : kIsO (some (some ⟨.mu, d⟩)) = true := rfl
theorem r_mt {m : Mt} : evE F (.mt m i es) e = if isL e i = true then (evEs F es e).bind (kMt m i) else .no := rfl
theorem r_kmt2 {m : Mt} {ds : List D} : kMt2 m i (some (ds, e)) = kMt3 m i ds e e[i]? := rfl
theorem r_kmt31 {m : Mt} {ds : List D} : kMt3 m i ds e (some (some ⟨.own, d⟩)) = kMt4 i .own e (mtd m d ds) := rfl
theorem r_kmt32 {m : Mt} {ds : List D} : kMt3 m i ds e (some (some ⟨.mu, d⟩)) = kMt4 i .mu e (mtd m d ds) := rfl
theorem r_kmt4 {o : O} {r : D} : kMt4 i o e (some (d, r)) = .ok (.val false r) (e.set i (some ⟨o, d⟩)) := rfl
theorem r_es0  : evEs F [] e = .ok [] e := rfl
theorem r_es1  : evEs F (a :: es) e = (evE F a e).bind (kEs F es) := rfl
theorem r_o0  : evO F none e = .ok none e := rfl
theorem r_o1  : evO F (some a) e = (evE F a e).bind kO := rfl
theorem r_ko2 {z : Int} : kO2 e (some (.int z)) = .ok (some z) e := rfl
theorem r_tv  : evT F (.v a) e = (evE F a e).bind kTv := rfl
theorem r_ktv2  : kTv2 e (some d) = kTv3 e (truthD d) := rfl
theorem r_ktv3  : kTv3 e (some f) = .ok f e := rfl
theorem r_tcm  : evT F (.cm p a b) e = (evE F (.cm p a b) e).bind kTb := evT_cm
theorem r_tchn  : evT F (.chn p q a b c) e = (evE F (.chn p q a b c) e).bind kTb := evT_chn
theorem r_ktb {g : Bool} : kTb (.val f (.bool g)) e = .ok g e := rfl
theorem r_tnot {t : IT} : evT F (.not t) e = (evT F t e).bind kTn := rfl
theorem r_tand {ts : List IT} : evT F (.and ts) e = evTA F ts e := rfl
theorem r_tor {ts : List IT} : evT F (.or ts) e = evTO F ts e := rfl
theorem r_ta0  : evTA F [] e = .ok true e := rfl
theorem r_ta1 {t : IT} {ts : List IT} : evTA F (t :: ts) e = (evT F t e).bind (kTA F ts) := rfl
theorem r_to0  : evTO F [] e = .ok false e := rfl
theorem r_to1 {t : IT} {ts : List IT} : evTO F (t :: ts) e = (evT F t e).bind (kTO F ts) := rfl
theorem r_c0  : evC F [] e = .ok true e := rfl
theorem r_c1 {t : IT} {ts : List IT} : evC F (t :: ts) e = (evT F t e).bind (kTC F ts) := rfl
theorem r_seq  : evI F (.seq a) e = (evE F a e).bind kSq := rfl
theorem r_ksq2  : kSq2 (some (d, e)) = kSq3 e (seqD d) := rfl
theorem r_ksq3 {ds : List D} : kSq3 e (some ds) = .ok ds e := rfl
theorem r_rng  : evI F (.rng a) e = (evE F a e).bind kRg := rfl
theorem r_krg2 {z : Int} : kRg2 e (some (.int z)) = kSq3 e (rngD 0 z) := rfl
theorem r_rr  : evI F (.rng2 a b) e = (evE F a e).bind (kRr F b) := rfl
theorem r_krr3 {z y : Int} : kRr3 e (some (.int z)) (some (.int y)) = kSq3 e (rngD z y) := rfl
theorem r_enum  : evI F (.enum a) e = (evE F a e).bind kEn := rfl
theorem r_ken2 {ds : List D} : kEn2 (some (.list ds, e)) = .ok (enumD ds) e := rfl
theorem r_ken3 {ds : List D} : kEn2 (some (.tuple ds, e)) = .ok (enumD ds) e := rfl
theorem r_zip  : evI F (.zip a b) e = (evE F a e).bind (kZi F b) := rfl
theorem r_kzi4 {y : Ans} : kZi4 y (some (d, e)) = kZi3 d (fzA y e) := rfl
theorem r_kzi3l {xs ys : List D} : kZi3 (.list xs) (some (.list ys, e)) = .ok (zipD xs ys) e := rfl
theorem r_kzi3t {xs ys : List D} : kZi3 (.tuple xs) (some (.tuple ys, e)) = .ok (zipD xs ys) e := rfl
theorem r_seqdl {ds : List D} : seqD (.list ds) = some ds := rfl
theorem r_seqdt {ds : List D} : seqD (.tuple ds) = some ds := rfl
theorem r_set  : evS F (.set i a) e = kSe i (evE F a e) := rfl
theorem r_kse1  : kSe i (.ok (.val true d) e) = kNx (stN i ⟨.own, d⟩ e) := rfl
theorem r_kse2  : kSe i (.ok (.val false d) e) = kNx (stN i ⟨.sh, d⟩ e) := rfl
theorem r_kse3  : kSe i (.ok (.pl j) e) = kSe2 i (fzA (.pl j) e) := rfl
theorem r_kse4  : kSe2 i (some (d, e)) = kNx (stN i ⟨.sh, d⟩ e) := rfl
theorem r_knx  : kNx (some e) = .nx e := rfl
theorem r_st {s : Sl} : stN i s e = kSt i s e e[i]? := rfl
theorem r_kst1 {s : Sl} : kSt i s e (some (some ⟨.sh, d⟩)) = some (e.set i (some s)) := rfl
theorem r_kst2 {s : Sl} : kSt i s e (some (some ⟨.own, d⟩)) = some (e.set i (some s)) := rfl
theorem r_kst3 {s : Sl} : kSt i s e (some none) = some (e.set i (some s)) := rfl
theorem r_sts0  : stNs [] [] e = some e := rfl
theorem r_unp {is : List Nat} : evS F (.unp is a) e = kUp is (evE F a e) := rfl
theorem r_kup {is : List Nat} {y : Ans} : kUp is (.ok y e) = kUp2 is (fzA y e) := rfl
theorem r_kup2 {is : List Nat} {ds : List D} : kUp2 is (some (.tuple ds, e)) = kNx (stNs is ds e) := rfl
theorem r_exp  : evS F (.exp a) e = kEx (evE F a e) := rfl
theorem r_kex {y : Ans} : kEx (.ok y e) = .nx e := rfl
theorem r_ret  : evS F (.ret a) e = kRt (evE F a e) := rfl
theorem r_krt1  : kRt (.ok (.val f d) e) = .rt f d e := rfl
theorem r_krt2  : kRt (.ok (.pl j) e) = kRt2 j e e[j]? := rfl
theorem r_krt3  : kRt2 j e (some (some ⟨.own, d⟩)) = .rt true d (e.set j none) := rfl
theorem r_retn  : evS F .retN e = .rt false .none e := rfl
theorem r_iff {t : IT} {ss rr : List IS} : evS F (.iff t ss rr) e = kIf F ss rr (evT F t e) := rfl
theorem r_kif1 {ss rr : List IS} : kIf F ss rr (.ok true e) = evSs F ss e := rfl
theorem r_kif2 {ss rr : List IS} : kIf F ss rr (.ok false e) = evSs F rr e := rfl
theorem r_forr {pt : Pt} {sr : Sr} {ss : List IS} : evS F (.forr pt sr ss) e = kFo (stepF F pt ss) (evI F sr e) := rfl
theorem r_kfo {st : D → En → Ou} {ds : List D} : kFo st (.ok ds e) = forL st ds e := rfl
theorem r_step {pt : Pt} {ss : List IS} : stepF F pt ss d e = kSp F ss (stPt pt d e) := rfl
theorem r_ksp {ss : List IS} : kSp F ss (some e) = evSs F ss e := rfl
theorem r_stp1  : stPt (.nm i) d e = stN i ⟨.sh, d⟩ e := rfl
theorem r_stp2 {is : List Nat} {ds : List D} : stPt (.tp is) (.tuple ds) e = stNs is ds e := rfl
theorem r_stepc {el : IE} {pt : Pt} {cs : List IT} {own : List Nat} : stepC F el pt cs own d e = kCp F el cs (stPt pt d (wipeE e own)) := rfl
theorem r_kcp {el : IE} {cs : List IT} : kCp F el cs (some e) = (evC F cs e).bind (kCp2 F el) := rfl
theorem r_kcp4  : kCp4 (some (d, e)) = .ok (some d) e := rfl
theorem r_whl {n : Nat} {t : IT} {ss : List IS} : evS F (.whl n t ss) e = whlL (evT F t) (evSs F ss) n e := rfl
theorem r_ixs  : evS F (.ixset i a b) e = kXs F i a (evE F b e) := rfl
theorem r_kxs {y : Ans} : kXs F i a (.ok y e) = if isOwn e i = true then kXs2 i y (evE F a e) else .no := rfl
theorem r_kxs2 {y z : Ans} : kXs2 i z (.ok y e) = kXs6 i y (fzA z e) := rfl
theorem r_kxs6 {y : Ans} : kXs6 i y (some (d, e)) = kXs3 i d (fzA y e) := rfl
theorem r_kxs3  : kXs3 i dx (some (d, e)) = kXs4 i dx d e e[i]? := rfl
theorem r_kxs41  : kXs4 i dx dy e (some (some ⟨.own, d⟩)) = kXs5 i .own e (ixSet d dy dx) := rfl
theorem r_kxs42  : kXs4 i dx dy e (some (some ⟨.mu, d⟩)) = kXs5 i .mu e (ixSet d dy dx) := rfl
theorem r_kxs5 {o : O} : kXs5 i o e (some d) = .nx (e.set i (some ⟨o, d⟩)) := rfl
theorem r_pass  : evS F .pass e = .nx e := rfl
theorem r_doc  : evS F .doc e = .nx e := rfl
theorem r_brk  : evS F .brk e = .bk e := rfl
theorem r_cont  : evS F .cont e = .ct e := rfl
theorem r_ss0  : evSs F [] e = .nx e := rfl
theorem r_ss1 {s : IS} {ss : List IS} : evSs F (s :: ss) e = kSs F ss (evS F s e) := rfl
theorem r_kss1 {ss : List IS} : kSs F ss (.nx e) = evSs F ss e := rfl
theorem r_kss2 {ss : List IS} : kSs F ss (.rt f d e) = .rt f d e := rfl
theorem r_kss3 {ss : List IS} : kSs F ss (.bk e) = .bk e := rfl
theorem r_kss4 {ss : List IS} : kSs F ss (.ct e) = .ct e := rfl
theorem r_krn1 {ms : List Bool} : kRn ms (.nx e) = kRn2 false .none (lastMs ms 0 e) := rfl
theorem r_krn2 {ms : List Bool} : kRn ms (.rt f d e) = kRn2 f d (lastMs ms 0 e) := rfl
theorem r_krn3 {ds : List D} : kRn2 f d (some ds) = .ok f d ds := rfl
theorem r_lm0  : lastMs [] i e = some [] := rfl
theorem r_lm1 {ms : List Bool} : lastMs (false :: ms) i e = lastMs ms (i + 1) e := rfl
theorem r_lm2 {ms : List Bool} : lastMs (true :: ms) i e = kLm e[i]? (lastMs ms (i + 1) e) := rfl
theorem r_klm {ds : List D} : kLm (some (some ⟨.mu, d⟩)) (some ds) = some (d :: ds) := rfl
theorem p_add {y z : Int} : prim .add [.int y, .int z] = some (false, .int (y + z)) := rfl
theorem p_sub {y z : Int} : prim .sub [.int y, .int z] = some (false, .int (y - z)) := rfl
theorem p_neg {y : Int} : prim .neg [.int y] = some (false, .int (-y)) := rfl
theorem p_lt {y z : Int} : prim .lt [.int y, .int z] = some (false, .bool (decide (y < z))) := rfl
theorem p_le {y z : Int} : prim .le [.int y, .int z] = some (false, .bool (decide (y ≤ z))) := rfl
theorem p_gt {y z : Int} : prim .gt [.int y, .int z] = some (false, .bool (decide (z < y))) := rfl
theorem p_ge {y z : Int} : prim .ge [.int y, .int z] = some (false, .bool (decide (z ≤ y))) := rfl
theorem p_abs {y : Int} : prim .abs [.int y] = some (false, .int (if y < 0 then -y else y)) := rfl
theorem p_min {y z : Int} : prim .min2 [.int y, .int z] = some (false, .int (if z < y then z else y)) := rfl
theorem p_max {y z : Int} : prim .max2 [.int y, .int z] = some (false, .int (if z > y then z else y)) := rfl
theorem p_lenl {ds : List D} : prim .len [.list ds] = some (false, .int ds.length) := rfl
theorem p_lent {ds : List D} : prim .len [.tuple ds] = some (false, .int ds.length) := rfl
theorem p_tupl {ds : List D} : prim .tuple [.list ds] = some (false, .tuple ds) := rfl
theorem p_tupt {ds : List D} : prim .tuple [.tuple ds] = some (false, .tuple ds) := rfl
theorem p_lstl {ds : List D} : prim .list [.list ds] = some (true, .list ds) := rfl
theorem p_lstt {ds : List D} : prim .list [.tuple ds] = some (true, .list ds) := rfl
theorem p_revl {ds : List D} : prim .rev [.list ds] = some (true, .list ds.reverse) := rfl
theorem p_revt {ds : List D} : prim .rev [.tuple ds] = some (false, .tuple ds.reverse) := rfl
theorem p_inti {y : Int} : prim .int [.int y] = some (false, .int y) := rfl
theorem p_isN0  : prim .isN [.none, .none] = some (false, .bool true) := rfl
theorem p_notN0  : prim .notN [.none, .none] = some (false, .bool false) := rfl
theorem sc_none  : isSc .none = true := rfl
theorem sc_bool  : isSc (.bool f) = true := rfl
theorem sc_int {z : Int} : isSc (.int z) = true := rfl
theorem sc_str {z : Str} : isSc (.str z) = true := rfl
theorem sc_list {ds : List D} : isSc (.list ds) = false := rfl
theorem sc_tup {ds : List D} : isSc (.tuple ds) = false := rfl
theorem sc_dict {ds : List (D × D)} : isSc (.dict ds) = false := rfl
theorem t_bool  : truthD (.bool f) = some f := rfl
theorem m_rev {ds : List D} : mtd .reverse (.list ds) [] = some (.list ds.reverse, .none) := rfl
theorem m_clr {ds : List D} : mtd .clear (.list ds) [] = some (.list [], .none) := rfl
theorem ix_l {ds : List D} {z : Int} : pIx (.list ds) (.int z) = atD ds z := rfl
theorem ix_t {ds : List D} {z : Int} : pIx (.tuple ds) (.int z) = atD ds z := rfl
end
theorem sl_small {n : Nat} (h : n ≤ 1000) : (n ≤ sizeLine) = True := eq_true (Nat.le_trans h (by decide))
theorem slt_small {n : Nat} (h : n ≤ 1000) : (n < sizeLine) = True := eq_true (Nat.lt_of_le_of_lt h (by decide))
theorem ss_app {F : List Fn} : ∀ {xs ys : List IS} {e e1 : En}, evSs F xs e = .nx e1 → evSs F (xs ++ ys) e = evSs F ys e1
  | [], ys, e, e1, h => by
    cases h
    rfl
  | x :: xs, ys, e, e1, h => by
    simp only [List.cons_append, r_ss1] at h ⊢
    cases hx : evS F x e with
    | nx e2 =>
      rw [hx] at h
      exact ss_app (xs := xs) h
    | _ => rw [hx] at h; cases h
theorem ss_split {F : List Fn} {b : List IS} {e e1 : En} (n : Nat) (h : evSs F (b.take n) e = .nx e1) : evSs F b e = evSs F (b.drop n) e1 := by
  have := ss_app (ys := b.drop n) h
  rwa [List.take_append_drop] at this
theorem kst_any {i : Nat} {s : Sl} {e : En} {y : Option Sl} (h : ShN y) : kSt i s e (some y) = some (e.set i (some s)) := by
  rcases h with rfl | ⟨d, rfl⟩ <;> rfl
/-- a slot that may be stored anew -/
def StN (y : Option Sl) : Prop := y = none ∨ ∃ o d, y = some ⟨o, d⟩ ∧ o ≠ .mu
theorem stn0 : StN none := .inl rfl
theorem stn_sh {d : D} : StN (some ⟨.sh, d⟩) := .inr ⟨_, d, rfl, by decide⟩
theorem stn_own {d : D} : StN (some ⟨.own, d⟩) := .inr ⟨_, d, rfl, by decide⟩
theorem kst_st {i : Nat} {s : Sl} {e : En} {y : Option Sl} (h : StN y) : kSt i s e (some y) = some (e.set i (some s)) := by
  rcases h with rfl | ⟨o, d, rfl, h⟩
  · rfl
  · cases o
    · rfl
    · rfl
    · exact absurd rfl h
theorem p_mod {y z : Int} (h : 0 < z) : prim .mod [.int y, .int z] = some (false, .int (y % z)) := if_pos h
theorem p_fdiv {y z : Int} (h : 0 < z) (h2 : z < 1073741824) : prim .fdiv [.int y, .int z] = some (false, .int (y / z)) := if_pos ⟨h, h2⟩
theorem p_mul1 {y z : Int} (h : -18446744073709551616 < y) (h2 : y < 18446744073709551616) : prim .mul [.int y, .int z] = some (false, .int (y * z)) := by
  show (if okMul y z = true then io (y * z) else none) = _
  rw [if_pos]
  · rfl
  · unfold okMul
    rw [decide_eq_true (show -(2 ^ 64) < y by omega), decide_eq_true (show y < 2 ^ 64 by omega)]
    rfl
theorem p_mul2 {y z : Int} (h : -18446744073709551616 < z) (h2 : z < 18446744073709551616) : prim .mul [.int y, .int z] = some (false, .int (y * z)) := by
  show (if okMul y z = true then io (y * z) else none) = _
  rw [if_pos]
  · rfl
  · unfold okMul
    rw [decide_eq_true (show -(2 ^ 64) < z by omega), decide_eq_true (show z < 2 ^ 64 by omega)]
    simp
theorem p_pow {y z : Int} (h : 0 ≤ z) (h2 : z ≤ 1000000) (h3 : -18446744073709551616 < y) (h4 : y < 18446744073709551616) : prim .pow [.int y, .int z] = some (false, .int (y ^ z.toNat)) :=
  if_pos ⟨h, h2, by omega⟩
theorem p_eq {x y : D} (h1 : SeqAt.shaped x = true) (h2 : SeqAt.shaped y = true) : prim .eq [x, y] = some (false, .bool (PyData.eqv x y)) := by
  show (if (SeqAt.shaped x && SeqAt.shaped y) = true then bo (PyData.eqv x y) else none) = _
  rw [h1, h2]
  rfl
theorem p_ne {x y : D} (h1 : SeqAt.shaped x = true) (h2 : SeqAt.shaped y = true) : prim .ne [x, y] = some (false, .bool (!PyData.eqv x y)) := by
  show (if (SeqAt.shaped x && SeqAt.shaped y) = true then bo (!PyData.eqv x y) else none) = _
  rw [h1, h2]
  rfl
theorem p_catl {xs ys : List D} (h : xs.length + ys.length ≤ sizeLine) : prim .add [.list xs, .list ys] = some (true, .list (xs ++ ys)) := if_pos h
theorem p_catt {xs ys : List D} (h : xs.length + ys.length ≤ sizeLine) : prim .add [.tuple xs, .tuple ys] = some (false, .tuple (xs ++ ys)) := if_pos h
theorem m_app {xs : List D} {y : D} (h : xs.length < sizeLine) : mtd .append (.list xs) [y] = some (.list (xs ++ [y]), .none) := if_pos h
theorem m_ext {xs ys : List D} (h : xs.length + ys.length ≤ sizeLine) : mtd .extend (.list xs) [.list ys] = some (.list (xs ++ ys), .none) := if_pos h
theorem rng0 {z : Int} (h0 : 0 ≤ z) (h : z < 4611686018427387904) : rngD 0 z = some ((List.range z.toNat).map fun (k : Nat) => .int (k : Int)) := by
  unfold rngD
  rw [if_pos ⟨by decide, by decide, by omega, h⟩, Int.sub_zero]
  congr 2
  funext k
  rw [Int.zero_add]
theorem sts1 {e : En} {i : Nat} {is : List Nat} {d : D} {ds : List D} : stNs (i :: is) (d :: ds) e = (stN i ⟨.sh, d⟩ e).bind (stNs is ds) := by
  simp only [stNs]
  cases stN i ⟨.sh, d⟩ e <;> rfl
theorem obind_some {α β : Type} {x : α} {f : α → Option β} : (some x).bind f = f x := rfl
theorem runF_eq {F : List Fn} {modes : List Bool} {n : Nat} {body : List IS} {ds : List D} (h : ds.length = modes.length) (h2 : modes.length ≤ n) : runF F modes n body ds = kRn modes (evSs F body (startE modes ds n)) := by
  unfold runF
  rw [if_pos ⟨h, h2⟩]
  cases evSs F body (startE modes ds n) <;> rfl
theorem whl_step {c : En → Rs Bool} {b : En → Ou} {n : Nat} {e : En} : whlL c b (n + 1) e = kWc c b n (c e) := by
  simp only [whlL]
  cases c e with
  | no => rfl
  | ex _ _ _ => rfl
  | ok t e1 =>
    cases t
    · rfl
    · show (match b e1 with | .nx e2 => _ | .ct e2 => _ | .bk e2 => _ | r => _) = kWh c b n (b e1)
      cases b e1 <;> rfl
end PD
/-! PM1: the pen that draws, rooms. -/
namespace CM
open PySem PD
def penD (cs : List Int) (a l : Int) : D := .dict [(.str "cells", .list (cs.map .int)), (.str "at", .int a), (.str "left", .int l)]
theorem kne1 : decide (("cells" : Str) = "at") = false := by decide +kernel
theorem kne2 : decide (("cells" : Str) = "left") = false := by decide +kernel
theorem kne3 : decide (("at" : Str) = "left") = false := by decide +kernel
theorem kne4 : decide (("left" : Str) = "at") = false := by decide +kernel
theorem kne5 : decide (("at" : Str) = "cells") = false := by decide +kernel
theorem kne6 : decide (("left" : Str) = "cells") = false := by decide +kernel
theorem pen_cells (cs : List Int) (a l : Int) : pIx (penD cs a l) (.str "cells") = some (.list (cs.map .int)) := by
  simp [pIx, penD, keyOf, isT, keyAt, dGet, keyEq]
theorem pen_at (cs : List Int) (a l : Int) : pIx (penD cs a l) (.str "at") = some (.int a) := by
  simp [pIx, penD, keyOf, isT, keyAt, dGet, keyEq, kne1]
theorem pen_left (cs : List Int) (a l : Int) : pIx (penD cs a l) (.str "left") = some (.int l) := by
  simp [pIx, penD, keyOf, isT, keyAt, dGet, keyEq, kne2, kne3]
theorem pen_set_at (cs : List Int) (a l b : Int) : ixSet (penD cs a l) (.str "at") (.int b) = some (penD cs b l) := by
  have : (3 : Nat) < sizeLine := by decide
  simp [ixSet, penD, keyOf, isT, keyAt, dSet, keyEq, kne1, kne4, this]
theorem pen_set_left (cs : List Int) (a l b : Int) : ixSet (penD cs a l) (.str "left") (.int b) = some (penD cs a b) := by
  have : (3 : Nat) < sizeLine := by decide
  simp [ixSet, penD, keyOf, isT, keyAt, dSet, keyEq, kne2, kne3, this]
def Pen (b : Int) (d : D) : Prop := ∃ (cs : List Int) (a l : Int), d = penD cs a l ∧ 0 ≤ a ∧ a ≤ b ∧ 0 ≤ l ∧ cs.length ≤ 63
theorem Pen.mono {b c : Int} {d : D} (h : Pen b d) (hb : b ≤ c) : Pen c d := by
  obtain ⟨cs, a, l, h1, h2, h3, h4⟩ := h
  exact ⟨cs, a, l, h1, h2, by omega, h4⟩
theorem Pen.sc {b : Int} {d : D} (h : Pen b d) : isSc d = false := by
  obtain ⟨cs, a, l, rfl, _⟩ := h
  rfl
theorem atD_int {cs : List Int} {i : Int} (h0 : 0 ≤ i) (h1 : i < cs.length) : ∃ z, atD (cs.map .int) i = some (.int z) ∧ z ∈ cs := by
  unfold atD
  rw [if_pos h0, List.getElem?_map, List.getElem?_eq_getElem (by omega)]
  exact ⟨_, rfl, List.getElem_mem _⟩
theorem okMul_small {i j : Int} (h : -(2 ^ 64) < i ∧ i < 2 ^ 64) : okMul i j = true := by
  unfold okMul
  rw [decide_eq_true h.1, decide_eq_true h.2]
  rfl
theorem okMul_small2 {i j : Int} (h : -(2 ^ 64) < j ∧ j < 2 ^ 64) : okMul i j = true := by
  unfold okMul
  rw [decide_eq_true h.1, decide_eq_true h.2]
  simp
theorem draw_sem {b m : Int} {d : D} (h : Pen b d) (hb : b < 10000000) (hm : 0 < m) (hm2 : m < 1073741824) :
    ∃ v d', f__law_draw.sem [d, .int m] = .ok false (.int v) [d'] ∧ Pen (b + 1) d' ∧ 0 ≤ v ∧ v < m := by
  obtain ⟨cs, a, l, rfl, h0, h1, h2, h3⟩ := h
  rw [e__law_draw]
  rw [runF_eq rfl (by decide)]
  by_cases hl : 0 < l
  · unfold b__law_draw
    simp -implicitDefEqProofs only [r_rd_v, r_rd_p, r_krd, r_rds0, r_rds, r_kco, r_pr, r_kpr, r_kpr2, r_var, r_kvar1, r_kvar2, r_kvar3, r_lit, r_gl, r_un, r_bi, r_cm, r_chn, r_kch3t, r_kch3f, r_and, r_or, r_and1, r_and2, r_or1, r_or2, r_kan2t, r_kan2f, r_kor2t, r_kor2f, r_not, r_kno2, r_ite, r_tup, r_lst, r_ktu2, r_kls2, r_dic, r_kdi2, r_dnewk, r_dnewt, r_ix, r_kix3, r_kix4, r_sl, r_ksl4l, r_ksl4t, r_fn, r_isI, r_kis2, r_call, r_kcl2, r_calla, r_kca2, r_kca3, r_kca4, r_kca5, r_arg0, r_arg, r_kar1, r_kar2, r_kar3, r_kar4, r_kar5, r_kar6, r_nomix0, r_nomix1, r_pm0, r_pm1, r_kpm, r_sh0, r_sh1, r_ksh1, r_ksh2, r_fz_v, r_fz_p, r_kfz1, r_kfz2, r_fzs0, r_fzs1, r_kfs, r_kfs3, r_isL, r_kisl1, r_kisl2, r_isO, r_kiso1, r_kiso2, r_mt, r_kmt2, r_kmt31, r_kmt32, r_kmt4, r_es0, r_es1, r_o0, r_o1, r_ko2, r_tv, r_ktv2, r_ktv3, r_tcm, r_tchn, r_ktb, r_tnot, r_tand, r_tor, r_ta0, r_ta1, r_to0, r_to1, r_c0, r_c1, r_seq, r_ksq2, r_ksq3, r_rng, r_krg2, r_rr, r_krr3, r_enum, r_ken2, r_ken3, r_zip, r_kzi4, r_kzi3l, r_kzi3t, r_seqdl, r_seqdt, r_set, r_kse1, r_kse2, r_kse3, r_kse4, r_knx, r_st, r_kst1, r_kst2, r_kst3, r_sts0, r_unp, r_kup, r_kup2, r_exp, r_kex, r_ret, r_krt1, r_krt2, r_krt3, r_retn, r_iff, r_kif1, r_kif2, r_forr, r_kfo, r_step, r_ksp, r_stp1, r_stp2, r_stepc, r_kcp, r_kcp4, r_whl, r_ixs, r_kxs, r_kxs2, r_kxs6, r_kxs3, r_kxs41, r_kxs42, r_kxs5, r_pass, r_doc, r_brk, r_cont, r_ss0, r_ss1, r_kss1, r_kss2, r_kss3, r_kss4, r_krn1, r_krn2, r_krn3, r_lm0, r_lm1, r_lm2, r_klm, p_add, p_sub, p_neg, p_lt, p_le, p_gt, p_ge, p_abs, p_min, p_max, p_lenl, p_lent, p_tupl, p_tupt, p_lstl, p_lstt, p_revl, p_revt, p_inti, p_isN0, p_notN0, sc_none, sc_bool, sc_int, sc_str, sc_list, sc_tup, sc_dict, t_bool, m_rev, m_clr, ix_l, ix_t, kBi2, kBi, kUn, kCh2, kCh, kAn, kOr, kNo, kIt, kTu, kLs, kDi, kIx2, kIx, kSl3, kSl2, kSl, kFn, kIs, kCl, kMt, kEs2, kEs, kO, kTv, kTn, kTA, kTO, kTC, kSq, kRg, kRr2, kRr, kEn, kZi2, kZi, kCp3, kCp2, sl_small, slt_small, kst_any, kst_st, p_mod, p_fdiv, p_mul1, p_mul2, p_pow, p_eq, p_ne, p_catl, p_catt, m_app, m_ext, rng0, sts1, obind_some, rsbind_ok, List.getElem?_cons_zero, List.getElem?_cons_succ, List.set_cons_zero, List.set_cons_succ, List.map_nil, List.append_nil, List.nil_append, List.cons_append, if_true, if_false, ite_true, ite_false, Bool.false_eq_true, reduceIte, List.length_cons, List.length_nil, List.any_nil, List.any_cons, Bool.and_true, Bool.true_and, Bool.and_false, Bool.false_and, Bool.not_true, Bool.not_false, Bool.or_false, Bool.or_true, Bool.true_or, Bool.false_or, List.isEmpty_nil, List.isEmpty_cons, wipeE, startE, Nat.zero_add, Nat.reduceAdd, Nat.reduceSub, Nat.reduceLeDiff, Nat.le_refl, List.replicate_succ, List.replicate_zero, List.zipWith_cons_cons, List.zipWith_nil_left, List.zipWith_nil_right, Nat.reduceBEq, Nat.reduceEqDiff, decide_true, decide_false, Int.reduceLT, Int.reduceLE, Int.reduceNeg, Int.reduceToNat, Nat.reduceLT, List.take_succ_cons, List.take_zero, List.drop_succ_cons, List.drop_zero, eq_self, pen_left, pen_set_left, hl, hm, hm2]
    refine ⟨_, _, rfl, ⟨cs, a, l / m, rfl, h0, by omega, Int.ediv_nonneg h2 (by omega), h3⟩, Int.emod_nonneg _ (by omega), Int.emod_lt_of_pos _ hm⟩
  · have hc : ∃ c : Int, evSs [] (b__law_draw.take 5) (startE [true, false] [penD cs a l, .int m] 7) = .nx [some ⟨.mu, penD cs (a + 1) l⟩, some ⟨.sh, .int m⟩, none, some ⟨.sh, .int a⟩, some ⟨.sh, .int c⟩, none, none] := by
      unfold b__law_draw
      by_cases hz : 0 < ((cs.map PyData.int).length : Int)
      · have hz' : 0 < (cs.length : Int) := by rwa [List.length_map] at hz
        obtain ⟨z, e1, _⟩ := atD_int (cs := cs) (i := a % (cs.length : Int)) (Int.emod_nonneg _ (by omega)) (Int.emod_lt_of_pos _ hz')
        simp -implicitDefEqProofs only [r_rd_v, r_rd_p, r_krd, r_rds0, r_rds, r_kco, r_pr, r_kpr, r_kpr2, r_var, r_kvar1, r_kvar2, r_kvar3, r_lit, r_gl, r_un, r_bi, r_cm, r_chn, r_kch3t, r_kch3f, r_and, r_or, r_and1, r_and2, r_or1, r_or2, r_kan2t, r_kan2f, r_kor2t, r_kor2f, r_not, r_kno2, r_ite, r_tup, r_lst, r_ktu2, r_kls2, r_dic, r_kdi2, r_dnewk, r_dnewt, r_ix, r_kix3, r_kix4, r_sl, r_ksl4l, r_ksl4t, r_fn, r_isI, r_kis2, r_call, r_kcl2, r_calla, r_kca2, r_kca3, r_kca4, r_kca5, r_arg0, r_arg, r_kar1, r_kar2, r_kar3, r_kar4, r_kar5, r_kar6, r_nomix0, r_nomix1, r_pm0, r_pm1, r_kpm, r_sh0, r_sh1, r_ksh1, r_ksh2, r_fz_v, r_fz_p, r_kfz1, r_kfz2, r_fzs0, r_fzs1, r_kfs, r_kfs3, r_isL, r_kisl1, r_kisl2, r_isO, r_kiso1, r_kiso2, r_mt, r_kmt2, r_kmt31, r_kmt32, r_kmt4, r_es0, r_es1, r_o0, r_o1, r_ko2, r_tv, r_ktv2, r_ktv3, r_tcm, r_tchn, r_ktb, r_tnot, r_tand, r_tor, r_ta0, r_ta1, r_to0, r_to1, r_c0, r_c1, r_seq, r_ksq2, r_ksq3, r_rng, r_krg2, r_rr, r_krr3, r_enum, r_ken2, r_ken3, r_zip, r_kzi4, r_kzi3l, r_kzi3t, r_seqdl, r_seqdt, r_set, r_kse1, r_kse2, r_kse3, r_kse4, r_knx, r_st, r_kst1, r_kst2, r_kst3, r_sts0, r_unp, r_kup, r_kup2, r_exp, r_kex, r_ret, r_krt1, r_krt2, r_krt3, r_retn, r_iff, r_kif1, r_kif2, r_forr, r_kfo, r_step, r_ksp, r_stp1, r_stp2, r_stepc, r_kcp, r_kcp4, r_whl, r_ixs, r_kxs, r_kxs2, r_kxs6, r_kxs3, r_kxs41, r_kxs42, r_kxs5, r_pass, r_doc, r_brk, r_cont, r_ss0, r_ss1, r_kss1, r_kss2, r_kss3, r_kss4, r_krn1, r_krn2, r_krn3, r_lm0, r_lm1, r_lm2, r_klm, p_add, p_sub, p_neg, p_lt, p_le, p_gt, p_ge, p_abs, p_min, p_max, p_lenl, p_lent, p_tupl, p_tupt, p_lstl, p_lstt, p_revl, p_revt, p_inti, p_isN0, p_notN0, sc_none, sc_bool, sc_int, sc_str, sc_list, sc_tup, sc_dict, t_bool, m_rev, m_clr, ix_l, ix_t, kBi2, kBi, kUn, kCh2, kCh, kAn, kOr, kNo, kIt, kTu, kLs, kDi, kIx2, kIx, kSl3, kSl2, kSl, kFn, kIs, kCl, kMt, kEs2, kEs, kO, kTv, kTn, kTA, kTO, kTC, kSq, kRg, kRr2, kRr, kEn, kZi2, kZi, kCp3, kCp2, sl_small, slt_small, kst_any, kst_st, p_mod, p_fdiv, p_mul1, p_mul2, p_pow, p_eq, p_ne, p_catl, p_catt, m_app, m_ext, rng0, sts1, obind_some, rsbind_ok, List.getElem?_cons_zero, List.getElem?_cons_succ, List.set_cons_zero, List.set_cons_succ, List.map_nil, List.append_nil, List.nil_append, List.cons_append, if_true, if_false, ite_true, ite_false, Bool.false_eq_true, reduceIte, List.length_cons, List.length_nil, List.any_nil, List.any_cons, Bool.and_true, Bool.true_and, Bool.and_false, Bool.false_and, Bool.not_true, Bool.not_false, Bool.or_false, Bool.or_true, Bool.true_or, Bool.false_or, List.isEmpty_nil, List.isEmpty_cons, wipeE, startE, Nat.zero_add, Nat.reduceAdd, Nat.reduceSub, Nat.reduceLeDiff, Nat.le_refl, List.replicate_succ, List.replicate_zero, List.zipWith_cons_cons, List.zipWith_nil_left, List.zipWith_nil_right, Nat.reduceBEq, Nat.reduceEqDiff, decide_true, decide_false, Int.reduceLT, Int.reduceLE, Int.reduceNeg, Int.reduceToNat, Nat.reduceLT, List.take_succ_cons, List.take_zero, List.drop_succ_cons, List.drop_zero, eq_self, pen_left, pen_at, pen_cells, pen_set_at, hl, hz, hz', List.length_map, e1, ix_l]
        exact ⟨_, rfl⟩
      · simp -implicitDefEqProofs only [r_rd_v, r_rd_p, r_krd, r_rds0, r_rds, r_kco, r_pr, r_kpr, r_kpr2, r_var, r_kvar1, r_kvar2, r_kvar3, r_lit, r_gl, r_un, r_bi, r_cm, r_chn, r_kch3t, r_kch3f, r_and, r_or, r_and1, r_and2, r_or1, r_or2, r_kan2t, r_kan2f, r_kor2t, r_kor2f, r_not, r_kno2, r_ite, r_tup, r_lst, r_ktu2, r_kls2, r_dic, r_kdi2, r_dnewk, r_dnewt, r_ix, r_kix3, r_kix4, r_sl, r_ksl4l, r_ksl4t, r_fn, r_isI, r_kis2, r_call, r_kcl2, r_calla, r_kca2, r_kca3, r_kca4, r_kca5, r_arg0, r_arg, r_kar1, r_kar2, r_kar3, r_kar4, r_kar5, r_kar6, r_nomix0, r_nomix1, r_pm0, r_pm1, r_kpm, r_sh0, r_sh1, r_ksh1, r_ksh2, r_fz_v, r_fz_p, r_kfz1, r_kfz2, r_fzs0, r_fzs1, r_kfs, r_kfs3, r_isL, r_kisl1, r_kisl2, r_isO, r_kiso1, r_kiso2, r_mt, r_kmt2, r_kmt31, r_kmt32, r_kmt4, r_es0, r_es1, r_o0, r_o1, r_ko2, r_tv, r_ktv2, r_ktv3, r_tcm, r_tchn, r_ktb, r_tnot, r_tand, r_tor, r_ta0, r_ta1, r_to0, r_to1, r_c0, r_c1, r_seq, r_ksq2, r_ksq3, r_rng, r_krg2, r_rr, r_krr3, r_enum, r_ken2, r_ken3, r_zip, r_kzi4, r_kzi3l, r_kzi3t, r_seqdl, r_seqdt, r_set, r_kse1, r_kse2, r_kse3, r_kse4, r_knx, r_st, r_kst1, r_kst2, r_kst3, r_sts0, r_unp, r_kup, r_kup2, r_exp, r_kex, r_ret, r_krt1, r_krt2, r_krt3, r_retn, r_iff, r_kif1, r_kif2, r_forr, r_kfo, r_step, r_ksp, r_stp1, r_stp2, r_stepc, r_kcp, r_kcp4, r_whl, r_ixs, r_kxs, r_kxs2, r_kxs6, r_kxs3, r_kxs41, r_kxs42, r_kxs5, r_pass, r_doc, r_brk, r_cont, r_ss0, r_ss1, r_kss1, r_kss2, r_kss3, r_kss4, r_krn1, r_krn2, r_krn3, r_lm0, r_lm1, r_lm2, r_klm, p_add, p_sub, p_neg, p_lt, p_le, p_gt, p_ge, p_abs, p_min, p_max, p_lenl, p_lent, p_tupl, p_tupt, p_lstl, p_lstt, p_revl, p_revt, p_inti, p_isN0, p_notN0, sc_none, sc_bool, sc_int, sc_str, sc_list, sc_tup, sc_dict, t_bool, m_rev, m_clr, ix_l, ix_t, kBi2, kBi, kUn, kCh2, kCh, kAn, kOr, kNo, kIt, kTu, kLs, kDi, kIx2, kIx, kSl3, kSl2, kSl, kFn, kIs, kCl, kMt, kEs2, kEs, kO, kTv, kTn, kTA, kTO, kTC, kSq, kRg, kRr2, kRr, kEn, kZi2, kZi, kCp3, kCp2, sl_small, slt_small, kst_any, kst_st, p_mod, p_fdiv, p_mul1, p_mul2, p_pow, p_eq, p_ne, p_catl, p_catt, m_app, m_ext, rng0, sts1, obind_some, rsbind_ok, List.getElem?_cons_zero, List.getElem?_cons_succ, List.set_cons_zero, List.set_cons_succ, List.map_nil, List.append_nil, List.nil_append, List.cons_append, if_true, if_false, ite_true, ite_false, Bool.false_eq_true, reduceIte, List.length_cons, List.length_nil, List.any_nil, List.any_cons, Bool.and_true, Bool.true_and, Bool.and_false, Bool.false_and, Bool.not_true, Bool.not_false, Bool.or_false, Bool.or_true, Bool.true_or, Bool.false_or, List.isEmpty_nil, List.isEmpty_cons, wipeE, startE, Nat.zero_add, Nat.reduceAdd, Nat.reduceSub, Nat.reduceLeDiff, Nat.le_refl, List.replicate_succ, List.replicate_zero, List.zipWith_cons_cons, List.zipWith_nil_left, List.zipWith_nil_right, Nat.reduceBEq, Nat.reduceEqDiff, decide_true, decide_false, Int.reduceLT, Int.reduceLE, Int.reduceNeg, Int.reduceToNat, Nat.reduceLT, List.take_succ_cons, List.take_zero, List.drop_succ_cons, List.drop_zero, eq_self, pen_left, pen_at, pen_cells, pen_set_at, hl, hz]
        exact ⟨_, rfl⟩
    obtain ⟨c, hc⟩ := hc
    rw [ss_split 5 hc]
    have hab : 0 ≤ (if c < 0 then -c else c) := by split <;> omega
    by_cases hd : a < (cs.length : Int) ∧ 1000000000000000000 ≤ (if c < 0 then -c else c)
    · unfold b__law_draw
      simp -implicitDefEqProofs only [r_rd_v, r_rd_p, r_krd, r_rds0, r_rds, r_kco, r_pr, r_kpr, r_kpr2, r_var, r_kvar1, r_kvar2, r_kvar3, r_lit, r_gl, r_un, r_bi, r_cm, r_chn, r_kch3t, r_kch3f, r_and, r_or, r_and1, r_and2, r_or1, r_or2, r_kan2t, r_kan2f, r_kor2t, r_kor2f, r_not, r_kno2, r_ite, r_tup, r_lst, r_ktu2, r_kls2, r_dic, r_kdi2, r_dnewk, r_dnewt, r_ix, r_kix3, r_kix4, r_sl, r_ksl4l, r_ksl4t, r_fn, r_isI, r_kis2, r_call, r_kcl2, r_calla, r_kca2, r_kca3, r_kca4, r_kca5, r_arg0, r_arg, r_kar1, r_kar2, r_kar3, r_kar4, r_kar5, r_kar6, r_nomix0, r_nomix1, r_pm0, r_pm1, r_kpm, r_sh0, r_sh1, r_ksh1, r_ksh2, r_fz_v, r_fz_p, r_kfz1, r_kfz2, r_fzs0, r_fzs1, r_kfs, r_kfs3, r_isL, r_kisl1, r_kisl2, r_isO, r_kiso1, r_kiso2, r_mt, r_kmt2, r_kmt31, r_kmt32, r_kmt4, r_es0, r_es1, r_o0, r_o1, r_ko2, r_tv, r_ktv2, r_ktv3, r_tcm, r_tchn, r_ktb, r_tnot, r_tand, r_tor, r_ta0, r_ta1, r_to0, r_to1, r_c0, r_c1, r_seq, r_ksq2, r_ksq3, r_rng, r_krg2, r_rr, r_krr3, r_enum, r_ken2, r_ken3, r_zip, r_kzi4, r_kzi3l, r_kzi3t, r_seqdl, r_seqdt, r_set, r_kse1, r_kse2, r_kse3, r_kse4, r_knx, r_st, r_kst1, r_kst2, r_kst3, r_sts0, r_unp, r_kup, r_kup2, r_exp, r_kex, r_ret, r_krt1, r_krt2, r_krt3, r_retn, r_iff, r_kif1, r_kif2, r_forr, r_kfo, r_step, r_ksp, r_stp1, r_stp2, r_stepc, r_kcp, r_kcp4, r_whl, r_ixs, r_kxs, r_kxs2, r_kxs6, r_kxs3, r_kxs41, r_kxs42, r_kxs5, r_pass, r_doc, r_brk, r_cont, r_ss0, r_ss1, r_kss1, r_kss2, r_kss3, r_kss4, r_krn1, r_krn2, r_krn3, r_lm0, r_lm1, r_lm2, r_klm, p_add, p_sub, p_neg, p_lt, p_le, p_gt, p_ge, p_abs, p_min, p_max, p_lenl, p_lent, p_tupl, p_tupt, p_lstl, p_lstt, p_revl, p_revt, p_inti, p_isN0, p_notN0, sc_none, sc_bool, sc_int, sc_str, sc_list, sc_tup, sc_dict, t_bool, m_rev, m_clr, ix_l, ix_t, kBi2, kBi, kUn, kCh2, kCh, kAn, kOr, kNo, kIt, kTu, kLs, kDi, kIx2, kIx, kSl3, kSl2, kSl, kFn, kIs, kCl, kMt, kEs2, kEs, kO, kTv, kTn, kTA, kTO, kTC, kSq, kRg, kRr2, kRr, kEn, kZi2, kZi, kCp3, kCp2, sl_small, slt_small, kst_any, kst_st, p_mod, p_fdiv, p_mul1, p_mul2, p_pow, p_eq, p_ne, p_catl, p_catt, m_app, m_ext, rng0, sts1, obind_some, rsbind_ok, List.getElem?_cons_zero, List.getElem?_cons_succ, List.set_cons_zero, List.set_cons_succ, List.map_nil, List.append_nil, List.nil_append, List.cons_append, if_true, if_false, ite_true, ite_false, Bool.false_eq_true, reduceIte, List.length_cons, List.length_nil, List.any_nil, List.any_cons, Bool.and_true, Bool.true_and, Bool.and_false, Bool.false_and, Bool.not_true, Bool.not_false, Bool.or_false, Bool.or_true, Bool.true_or, Bool.false_or, List.isEmpty_nil, List.isEmpty_cons, wipeE, startE, Nat.zero_add, Nat.reduceAdd, Nat.reduceSub, Nat.reduceLeDiff, Nat.le_refl, List.replicate_succ, List.replicate_zero, List.zipWith_cons_cons, List.zipWith_nil_left, List.zipWith_nil_right, Nat.reduceBEq, Nat.reduceEqDiff, decide_true, decide_false, Int.reduceLT, Int.reduceLE, Int.reduceNeg, Int.reduceToNat, Nat.reduceLT, List.take_succ_cons, List.take_zero, List.drop_succ_cons, List.drop_zero, eq_self, pen_left, pen_at, pen_cells, pen_set_at, pen_set_left, hd.1, hd.2, List.length_map, hm, hm2, Int.reducePow]
      exact ⟨_, _, rfl, ⟨cs, a + 1, _, rfl, by omega, by omega, Int.ediv_nonneg hab (by omega), h3⟩, Int.emod_nonneg _ (by omega), Int.emod_lt_of_pos _ hm⟩
    · have ht : evSs [] (b__law_draw.drop 5 |>.take 1) [some ⟨.mu, penD cs (a + 1) l⟩, some ⟨.sh, .int m⟩, none, some ⟨.sh, .int a⟩, some ⟨.sh, .int c⟩, none, none] = .nx [some ⟨.mu, penD cs (a + 1) l⟩, some ⟨.sh, .int m⟩, none, some ⟨.sh, .int a⟩, some ⟨.sh, .int c⟩, none, none] := by
        unfold b__law_draw
        by_cases h5 : a < (cs.length : Int)
        · have h6 : ¬ 1000000000000000000 ≤ (if c < 0 then -c else c) := fun q => hd ⟨h5, q⟩
          simp -implicitDefEqProofs only [r_rd_v, r_rd_p, r_krd, r_rds0, r_rds, r_kco, r_pr, r_kpr, r_kpr2, r_var, r_kvar1, r_kvar2, r_kvar3, r_lit, r_gl, r_un, r_bi, r_cm, r_chn, r_kch3t, r_kch3f, r_and, r_or, r_and1, r_and2, r_or1, r_or2, r_kan2t, r_kan2f, r_kor2t, r_kor2f, r_not, r_kno2, r_ite, r_tup, r_lst, r_ktu2, r_kls2, r_dic, r_kdi2, r_dnewk, r_dnewt, r_ix, r_kix3, r_kix4, r_sl, r_ksl4l, r_ksl4t, r_fn, r_isI, r_kis2, r_call, r_kcl2, r_calla, r_kca2, r_kca3, r_kca4, r_kca5, r_arg0, r_arg, r_kar1, r_kar2, r_kar3, r_kar4, r_kar5, r_kar6, r_nomix0, r_nomix1, r_pm0, r_pm1, r_kpm, r_sh0, r_sh1, r_ksh1, r_ksh2, r_fz_v, r_fz_p, r_kfz1, r_kfz2, r_fzs0, r_fzs1, r_kfs, r_kfs3, r_isL, r_kisl1, r_kisl2, r_isO, r_kiso1, r_kiso2, r_mt, r_kmt2, r_kmt31, r_kmt32, r_kmt4, r_es0, r_es1, r_o0, r_o1, r_ko2, r_tv, r_ktv2, r_ktv3, r_tcm, r_tchn, r_ktb, r_tnot, r_tand, r_tor, r_ta0, r_ta1, r_to0, r_to1, r_c0, r_c1, r_seq, r_ksq2, r_ksq3, r_rng, r_krg2, r_rr, r_krr3, r_enum, r_ken2, r_ken3, r_zip, r_kzi4, r_kzi3l, r_kzi3t, r_seqdl, r_seqdt, r_set, r_kse1, r_kse2, r_kse3, r_kse4, r_knx, r_st, r_kst1, r_kst2, r_kst3, r_sts0, r_unp, r_kup, r_kup2, r_exp, r_kex, r_ret, r_krt1, r_krt2, r_krt3, r_retn, r_iff, r_kif1, r_kif2, r_forr, r_kfo, r_step, r_ksp, r_stp1, r_stp2, r_stepc, r_kcp, r_kcp4, r_whl, r_ixs, r_kxs, r_kxs2, r_kxs6, r_kxs3, r_kxs41, r_kxs42, r_kxs5, r_pass, r_doc, r_brk, r_cont, r_ss0, r_ss1, r_kss1, r_kss2, r_kss3, r_kss4, r_krn1, r_krn2, r_krn3, r_lm0, r_lm1, r_lm2, r_klm, p_add, p_sub, p_neg, p_lt, p_le, p_gt, p_ge, p_abs, p_min, p_max, p_lenl, p_lent, p_tupl, p_tupt, p_lstl, p_lstt, p_revl, p_revt, p_inti, p_isN0, p_notN0, sc_none, sc_bool, sc_int, sc_str, sc_list, sc_tup, sc_dict, t_bool, m_rev, m_clr, ix_l, ix_t, kBi2, kBi, kUn, kCh2, kCh, kAn, kOr, kNo, kIt, kTu, kLs, kDi, kIx2, kIx, kSl3, kSl2, kSl, kFn, kIs, kCl, kMt, kEs2, kEs, kO, kTv, kTn, kTA, kTO, kTC, kSq, kRg, kRr2, kRr, kEn, kZi2, kZi, kCp3, kCp2, sl_small, slt_small, kst_any, kst_st, p_mod, p_fdiv, p_mul1, p_mul2, p_pow, p_eq, p_ne, p_catl, p_catt, m_app, m_ext, rng0, sts1, obind_some, rsbind_ok, List.getElem?_cons_zero, List.getElem?_cons_succ, List.set_cons_zero, List.set_cons_succ, List.map_nil, List.append_nil, List.nil_append, List.cons_append, if_true, if_false, ite_true, ite_false, Bool.false_eq_true, reduceIte, List.length_cons, List.length_nil, List.any_nil, List.any_cons, Bool.and_true, Bool.true_and, Bool.and_false, Bool.false_and, Bool.not_true, Bool.not_false, Bool.or_false, Bool.or_true, Bool.true_or, Bool.false_or, List.isEmpty_nil, List.isEmpty_cons, wipeE, startE, Nat.zero_add, Nat.reduceAdd, Nat.reduceSub, Nat.reduceLeDiff, Nat.le_refl, List.replicate_succ, List.replicate_zero, List.zipWith_cons_cons, List.zipWith_nil_left, List.zipWith_nil_right, Nat.reduceBEq, Nat.reduceEqDiff, decide_true, decide_false, Int.reduceLT, Int.reduceLE, Int.reduceNeg, Int.reduceToNat, Nat.reduceLT, List.take_succ_cons, List.take_zero, List.drop_succ_cons, List.drop_zero, eq_self, pen_left, pen_at, pen_cells, pen_set_at, pen_set_left, h5, h6, List.length_map, hm, hm2, Int.reducePow]
        · simp -implicitDefEqProofs only [r_rd_v, r_rd_p, r_krd, r_rds0, r_rds, r_kco, r_pr, r_kpr, r_kpr2, r_var, r_kvar1, r_kvar2, r_kvar3, r_lit, r_gl, r_un, r_bi, r_cm, r_chn, r_kch3t, r_kch3f, r_and, r_or, r_and1, r_and2, r_or1, r_or2, r_kan2t, r_kan2f, r_kor2t, r_kor2f, r_not, r_kno2, r_ite, r_tup, r_lst, r_ktu2, r_kls2, r_dic, r_kdi2, r_dnewk, r_dnewt, r_ix, r_kix3, r_kix4, r_sl, r_ksl4l, r_ksl4t, r_fn, r_isI, r_kis2, r_call, r_kcl2, r_calla, r_kca2, r_kca3, r_kca4, r_kca5, r_arg0, r_arg, r_kar1, r_kar2, r_kar3, r_kar4, r_kar5, r_kar6, r_nomix0, r_nomix1, r_pm0, r_pm1, r_kpm, r_sh0, r_sh1, r_ksh1, r_ksh2, r_fz_v, r_fz_p, r_kfz1, r_kfz2, r_fzs0, r_fzs1, r_kfs, r_kfs3, r_isL, r_kisl1, r_kisl2, r_isO, r_kiso1, r_kiso2, r_mt, r_kmt2, r_kmt31, r_kmt32, r_kmt4, r_es0, r_es1, r_o0, r_o1, r_ko2, r_tv, r_ktv2, r_ktv3, r_tcm, r_tchn, r_ktb, r_tnot, r_tand, r_tor, r_ta0, r_ta1, r_to0, r_to1, r_c0, r_c1, r_seq, r_ksq2, r_ksq3, r_rng, r_krg2, r_rr, r_krr3, r_enum, r_ken2, r_ken3, r_zip, r_kzi4, r_kzi3l, r_kzi3t, r_seqdl, r_seqdt, r_set, r_kse1, r_kse2, r_kse3, r_kse4, r_knx, r_st, r_kst1, r_kst2, r_kst3, r_sts0, r_unp, r_kup, r_kup2, r_exp, r_kex, r_ret, r_krt1, r_krt2, r_krt3, r_retn, r_iff, r_kif1, r_kif2, r_forr, r_kfo, r_step, r_ksp, r_stp1, r_stp2, r_stepc, r_kcp, r_kcp4, r_whl, r_ixs, r_kxs, r_kxs2, r_kxs6, r_kxs3, r_kxs41, r_kxs42, r_kxs5, r_pass, r_doc, r_brk, r_cont, r_ss0, r_ss1, r_kss1, r_kss2, r_kss3, r_kss4, r_krn1, r_krn2, r_krn3, r_lm0, r_lm1, r_lm2, r_klm, p_add, p_sub, p_neg, p_lt, p_le, p_gt, p_ge, p_abs, p_min, p_max, p_lenl, p_lent, p_tupl, p_tupt, p_lstl, p_lstt, p_revl, p_revt, p_inti, p_isN0, p_notN0, sc_none, sc_bool, sc_int, sc_str, sc_list, sc_tup, sc_dict, t_bool, m_rev, m_clr, ix_l, ix_t, kBi2, kBi, kUn, kCh2, kCh, kAn, kOr, kNo, kIt, kTu, kLs, kDi, kIx2, kIx, kSl3, kSl2, kSl, kFn, kIs, kCl, kMt, kEs2, kEs, kO, kTv, kTn, kTA, kTO, kTC, kSq, kRg, kRr2, kRr, kEn, kZi2, kZi, kCp3, kCp2, sl_small, slt_small, kst_any, kst_st, p_mod, p_fdiv, p_mul1, p_mul2, p_pow, p_eq, p_ne, p_catl, p_catt, m_app, m_ext, rng0, sts1, obind_some, rsbind_ok, List.getElem?_cons_zero, List.getElem?_cons_succ, List.set_cons_zero, List.set_cons_succ, List.map_nil, List.append_nil, List.nil_append, List.cons_append, if_true, if_false, ite_true, ite_false, Bool.false_eq_true, reduceIte, List.length_cons, List.length_nil, List.any_nil, List.any_cons, Bool.and_true, Bool.true_and, Bool.and_false, Bool.false_and, Bool.not_true, Bool.not_false, Bool.or_false, Bool.or_true, Bool.true_or, Bool.false_or, List.isEmpty_nil, List.isEmpty_cons, wipeE, startE, Nat.zero_add, Nat.reduceAdd, Nat.reduceSub, Nat.reduceLeDiff, Nat.le_refl, List.replicate_succ, List.replicate_zero, List.zipWith_cons_cons, List.zipWith_nil_left, List.zipWith_nil_right, Nat.reduceBEq, Nat.reduceEqDiff, decide_true, decide_false, Int.reduceLT, Int.reduceLE, Int.reduceNeg, Int.reduceToNat, Nat.reduceLT, List.take_succ_cons, List.take_zero, List.drop_succ_cons, List.drop_zero, eq_self, pen_left, pen_at, pen_cells, pen_set_at, pen_set_left, h5, List.length_map, hm, hm2, Int.reducePow]
      rw [ss_split 1 ht]
      unfold b__law_draw
      simp -implicitDefEqProofs only [r_rd_v, r_rd_p, r_krd, r_rds0, r_rds, r_kco, r_pr, r_kpr, r_kpr2, r_var, r_kvar1, r_kvar2, r_kvar3, r_lit, r_gl, r_un, r_bi, r_cm, r_chn, r_kch3t, r_kch3f, r_and, r_or, r_and1, r_and2, r_or1, r_or2, r_kan2t, r_kan2f, r_kor2t, r_kor2f, r_not, r_kno2, r_ite, r_tup, r_lst, r_ktu2, r_kls2, r_dic, r_kdi2, r_dnewk, r_dnewt, r_ix, r_kix3, r_kix4, r_sl, r_ksl4l, r_ksl4t, r_fn, r_isI, r_kis2, r_call, r_kcl2, r_calla, r_kca2, r_kca3, r_kca4, r_kca5, r_arg0, r_arg, r_kar1, r_kar2, r_kar3, r_kar4, r_kar5, r_kar6, r_nomix0, r_nomix1, r_pm0, r_pm1, r_kpm, r_sh0, r_sh1, r_ksh1, r_ksh2, r_fz_v, r_fz_p, r_kfz1, r_kfz2, r_fzs0, r_fzs1, r_kfs, r_kfs3, r_isL, r_kisl1, r_kisl2, r_isO, r_kiso1, r_kiso2, r_mt, r_kmt2, r_kmt31, r_kmt32, r_kmt4, r_es0, r_es1, r_o0, r_o1, r_ko2, r_tv, r_ktv2, r_ktv3, r_tcm, r_tchn, r_ktb, r_tnot, r_tand, r_tor, r_ta0, r_ta1, r_to0, r_to1, r_c0, r_c1, r_seq, r_ksq2, r_ksq3, r_rng, r_krg2, r_rr, r_krr3, r_enum, r_ken2, r_ken3, r_zip, r_kzi4, r_kzi3l, r_kzi3t, r_seqdl, r_seqdt, r_set, r_kse1, r_kse2, r_kse3, r_kse4, r_knx, r_st, r_kst1, r_kst2, r_kst3, r_sts0, r_unp, r_kup, r_kup2, r_exp, r_kex, r_ret, r_krt1, r_krt2, r_krt3, r_retn, r_iff, r_kif1, r_kif2, r_forr, r_kfo, r_step, r_ksp, r_stp1, r_stp2, r_stepc, r_kcp, r_kcp4, r_whl, r_ixs, r_kxs, r_kxs2, r_kxs6, r_kxs3, r_kxs41, r_kxs42, r_kxs5, r_pass, r_doc, r_brk, r_cont, r_ss0, r_ss1, r_kss1, r_kss2, r_kss3, r_kss4, r_krn1, r_krn2, r_krn3, r_lm0, r_lm1, r_lm2, r_klm, p_add, p_sub, p_neg, p_lt, p_le, p_gt, p_ge, p_abs, p_min, p_max, p_lenl, p_lent, p_tupl, p_tupt, p_lstl, p_lstt, p_revl, p_revt, p_inti, p_isN0, p_notN0, sc_none, sc_bool, sc_int, sc_str, sc_list, sc_tup, sc_dict, t_bool, m_rev, m_clr, ix_l, ix_t, kBi2, kBi, kUn, kCh2, kCh, kAn, kOr, kNo, kIt, kTu, kLs, kDi, kIx2, kIx, kSl3, kSl2, kSl, kFn, kIs, kCl, kMt, kEs2, kEs, kO, kTv, kTn, kTA, kTO, kTC, kSq, kRg, kRr2, kRr, kEn, kZi2, kZi, kCp3, kCp2, sl_small, slt_small, kst_any, kst_st, p_mod, p_fdiv, p_mul1, p_mul2, p_pow, p_eq, p_ne, p_catl, p_catt, m_app, m_ext, rng0, sts1, obind_some, rsbind_ok, List.getElem?_cons_zero, List.getElem?_cons_succ, List.set_cons_zero, List.set_cons_succ, List.map_nil, List.append_nil, List.nil_append, List.cons_append, if_true, if_false, ite_true, ite_false, Bool.false_eq_true, reduceIte, List.length_cons, List.length_nil, List.any_nil, List.any_cons, Bool.and_true, Bool.true_and, Bool.and_false, Bool.false_and, Bool.not_true, Bool.not_false, Bool.or_false, Bool.or_true, Bool.true_or, Bool.false_or, List.isEmpty_nil, List.isEmpty_cons, wipeE, startE, Nat.zero_add, Nat.reduceAdd, Nat.reduceSub, Nat.reduceLeDiff, Nat.le_refl, List.replicate_succ, List.replicate_zero, List.zipWith_cons_cons, List.zipWith_nil_left, List.zipWith_nil_right, Nat.reduceBEq, Nat.reduceEqDiff, decide_true, decide_false, Int.reduceLT, Int.reduceLE, Int.reduceNeg, Int.reduceToNat, Nat.reduceLT, List.take_succ_cons, List.take_zero, List.drop_succ_cons, List.drop_zero, eq_self]
      have hp : ∃ P : Int, atD [.int 2147483647, .int 2147483629, .int 2147483587, .int 2147483579, .int 2147483563, .int 2147483549, .int 2147483543] (a % 7) = some (.int P) ∧ 2147483543 ≤ P ∧ P ≤ 2147483647 := by
        obtain ⟨z, e1, e2⟩ := atD_int (cs := [2147483647, 2147483629, 2147483587, 2147483579, 2147483563, 2147483549, 2147483543]) (i := a % 7) (by omega) (by show a % 7 < 7; omega)
        refine ⟨z, e1, ?_⟩
        simp only [List.mem_cons, List.not_mem_nil, or_false] at e2
        omega
      obtain ⟨P, hP, hP1, hP2⟩ := hp
      have haa : 60013 * a * a ≤ 60013 * 10000000 * 10000000 := Int.mul_le_mul (Int.mul_le_mul_of_nonneg_left (by omega) (by omega)) (by omega) h0 (by omega)
      have haa0 : 0 ≤ 60013 * a * a := Int.mul_nonneg (Int.mul_nonneg (by omega) h0) h0
      have ha1 : -18446744073709551616 < a := by omega
      have ha2 : a < 18446744073709551616 := by omega
      have hP3 : 0 < P := by omega
      have hc1 := Int.emod_nonneg c (show (2147483489 : Int) ≠ 0 by decide)
      have hc2 := Int.emod_lt_of_pos c (show (0 : Int) < 2147483489 by decide)
      have hx1 : -18446744073709551616 < c % 2147483489 + 60013 * a * a + 40009 * a + 733 := by omega
      have hx2 : c % 2147483489 + 60013 * a * a + 40009 * a + 733 < 18446744073709551616 := by omega
      have hq : ∀ z : Int, -18446744073709551616 < z % P + 17 * a + 3 ∧ z % P + 17 * a + 3 < 18446744073709551616 := fun z => by
        have := Int.emod_nonneg z (show P ≠ 0 by omega)
        have := Int.emod_lt_of_pos z hP3
        omega
      simp -implicitDefEqProofs only [r_rd_v, r_rd_p, r_krd, r_rds0, r_rds, r_kco, r_pr, r_kpr, r_kpr2, r_var, r_kvar1, r_kvar2, r_kvar3, r_lit, r_gl, r_un, r_bi, r_cm, r_chn, r_kch3t, r_kch3f, r_and, r_or, r_and1, r_and2, r_or1, r_or2, r_kan2t, r_kan2f, r_kor2t, r_kor2f, r_not, r_kno2, r_ite, r_tup, r_lst, r_ktu2, r_kls2, r_dic, r_kdi2, r_dnewk, r_dnewt, r_ix, r_kix3, r_kix4, r_sl, r_ksl4l, r_ksl4t, r_fn, r_isI, r_kis2, r_call, r_kcl2, r_calla, r_kca2, r_kca3, r_kca4, r_kca5, r_arg0, r_arg, r_kar1, r_kar2, r_kar3, r_kar4, r_kar5, r_kar6, r_nomix0, r_nomix1, r_pm0, r_pm1, r_kpm, r_sh0, r_sh1, r_ksh1, r_ksh2, r_fz_v, r_fz_p, r_kfz1, r_kfz2, r_fzs0, r_fzs1, r_kfs, r_kfs3, r_isL, r_kisl1, r_kisl2, r_isO, r_kiso1, r_kiso2, r_mt, r_kmt2, r_kmt31, r_kmt32, r_kmt4, r_es0, r_es1, r_o0, r_o1, r_ko2, r_tv, r_ktv2, r_ktv3, r_tcm, r_tchn, r_ktb, r_tnot, r_tand, r_tor, r_ta0, r_ta1, r_to0, r_to1, r_c0, r_c1, r_seq, r_ksq2, r_ksq3, r_rng, r_krg2, r_rr, r_krr3, r_enum, r_ken2, r_ken3, r_zip, r_kzi4, r_kzi3l, r_kzi3t, r_seqdl, r_seqdt, r_set, r_kse1, r_kse2, r_kse3, r_kse4, r_knx, r_st, r_kst1, r_kst2, r_kst3, r_sts0, r_unp, r_kup, r_kup2, r_exp, r_kex, r_ret, r_krt1, r_krt2, r_krt3, r_retn, r_iff, r_kif1, r_kif2, r_forr, r_kfo, r_step, r_ksp, r_stp1, r_stp2, r_stepc, r_kcp, r_kcp4, r_whl, r_ixs, r_kxs, r_kxs2, r_kxs6, r_kxs3, r_kxs41, r_kxs42, r_kxs5, r_pass, r_doc, r_brk, r_cont, r_ss0, r_ss1, r_kss1, r_kss2, r_kss3, r_kss4, r_krn1, r_krn2, r_krn3, r_lm0, r_lm1, r_lm2, r_klm, p_add, p_sub, p_neg, p_lt, p_le, p_gt, p_ge, p_abs, p_min, p_max, p_lenl, p_lent, p_tupl, p_tupt, p_lstl, p_lstt, p_revl, p_revt, p_inti, p_isN0, p_notN0, sc_none, sc_bool, sc_int, sc_str, sc_list, sc_tup, sc_dict, t_bool, m_rev, m_clr, ix_l, ix_t, kBi2, kBi, kUn, kCh2, kCh, kAn, kOr, kNo, kIt, kTu, kLs, kDi, kIx2, kIx, kSl3, kSl2, kSl, kFn, kIs, kCl, kMt, kEs2, kEs, kO, kTv, kTn, kTA, kTO, kTC, kSq, kRg, kRr2, kRr, kEn, kZi2, kZi, kCp3, kCp2, sl_small, slt_small, kst_any, kst_st, p_mod, p_fdiv, p_mul1, p_mul2, p_pow, p_eq, p_ne, p_catl, p_catt, m_app, m_ext, rng0, sts1, obind_some, rsbind_ok, List.getElem?_cons_zero, List.getElem?_cons_succ, List.set_cons_zero, List.set_cons_succ, List.map_nil, List.append_nil, List.nil_append, List.cons_append, if_true, if_false, ite_true, ite_false, Bool.false_eq_true, reduceIte, List.length_cons, List.length_nil, List.any_nil, List.any_cons, Bool.and_true, Bool.true_and, Bool.and_false, Bool.false_and, Bool.not_true, Bool.not_false, Bool.or_false, Bool.or_true, Bool.true_or, Bool.false_or, List.isEmpty_nil, List.isEmpty_cons, wipeE, startE, Nat.zero_add, Nat.reduceAdd, Nat.reduceSub, Nat.reduceLeDiff, Nat.le_refl, List.replicate_succ, List.replicate_zero, List.zipWith_cons_cons, List.zipWith_nil_left, List.zipWith_nil_right, Nat.reduceBEq, Nat.reduceEqDiff, decide_true, decide_false, Int.reduceLT, Int.reduceLE, Int.reduceNeg, Int.reduceToNat, Nat.reduceLT, List.take_succ_cons, List.take_zero, List.drop_succ_cons, List.drop_zero, eq_self, ix_t, hP, ha1, ha2, hP3, hx1, hx2, (hq _).1, (hq _).2, hm]
      exact ⟨_, _, rfl, ⟨cs, a + 1, l, rfl, by omega, by omega, h2, h3⟩, Int.emod_nonneg _ (by omega), Int.emod_lt_of_pos _ hm⟩
theorem is_whole_sem (d : D) : f__law_is_whole.sem [d] = .ok false (.bool (kindOf .int d && !kindOf .bool d)) [] := by
  rw [e__law_is_whole, runF_eq rfl (by decide)]
  unfold b__law_is_whole
  cases h : kindOf .int d <;> simp -implicitDefEqProofs only [r_rd_v, r_rd_p, r_krd, r_rds0, r_rds, r_kco, r_pr, r_kpr, r_kpr2, r_var, r_kvar1, r_kvar2, r_kvar3, r_lit, r_gl, r_un, r_bi, r_cm, r_chn, r_kch3t, r_kch3f, r_and, r_or, r_and1, r_and2, r_or1, r_or2, r_kan2t, r_kan2f, r_kor2t, r_kor2f, r_not, r_kno2, r_ite, r_tup, r_lst, r_ktu2, r_kls2, r_dic, r_kdi2, r_dnewk, r_dnewt, r_ix, r_kix3, r_kix4, r_sl, r_ksl4l, r_ksl4t, r_fn, r_isI, r_kis2, r_call, r_kcl2, r_calla, r_kca2, r_kca3, r_kca4, r_kca5, r_arg0, r_arg, r_kar1, r_kar2, r_kar3, r_kar4, r_kar5, r_kar6, r_nomix0, r_nomix1, r_pm0, r_pm1, r_kpm, r_sh0, r_sh1, r_ksh1, r_ksh2, r_fz_v, r_fz_p, r_kfz1, r_kfz2, r_fzs0, r_fzs1, r_kfs, r_kfs3, r_isL, r_kisl1, r_kisl2, r_isO, r_kiso1, r_kiso2, r_mt, r_kmt2, r_kmt31, r_kmt32, r_kmt4, r_es0, r_es1, r_o0, r_o1, r_ko2, r_tv, r_ktv2, r_ktv3, r_tcm, r_tchn, r_ktb, r_tnot, r_tand, r_tor, r_ta0, r_ta1, r_to0, r_to1, r_c0, r_c1, r_seq, r_ksq2, r_ksq3, r_rng, r_krg2, r_rr, r_krr3, r_enum, r_ken2, r_ken3, r_zip, r_kzi4, r_kzi3l, r_kzi3t, r_seqdl, r_seqdt, r_set, r_kse1, r_kse2, r_kse3, r_kse4, r_knx, r_st, r_kst1, r_kst2, r_kst3, r_sts0, r_unp, r_kup, r_kup2, r_exp, r_kex, r_ret, r_krt1, r_krt2, r_krt3, r_retn, r_iff, r_kif1, r_kif2, r_forr, r_kfo, r_step, r_ksp, r_stp1, r_stp2, r_stepc, r_kcp, r_kcp4, r_whl, r_ixs, r_kxs, r_kxs2, r_kxs6, r_kxs3, r_kxs41, r_kxs42, r_kxs5, r_pass, r_doc, r_brk, r_cont, r_ss0, r_ss1, r_kss1, r_kss2, r_kss3, r_kss4, r_krn1, r_krn2, r_krn3, r_lm0, r_lm1, r_lm2, r_klm, p_add, p_sub, p_neg, p_lt, p_le, p_gt, p_ge, p_abs, p_min, p_max, p_lenl, p_lent, p_tupl, p_tupt, p_lstl, p_lstt, p_revl, p_revt, p_inti, p_isN0, p_notN0, sc_none, sc_bool, sc_int, sc_str, sc_list, sc_tup, sc_dict, t_bool, m_rev, m_clr, ix_l, ix_t, kBi2, kBi, kUn, kCh2, kCh, kAn, kOr, kNo, kIt, kTu, kLs, kDi, kIx2, kIx, kSl3, kSl2, kSl, kFn, kIs, kCl, kMt, kEs2, kEs, kO, kTv, kTn, kTA, kTO, kTC, kSq, kRg, kRr2, kRr, kEn, kZi2, kZi, kCp3, kCp2, sl_small, slt_small, kst_any, kst_st, p_mod, p_fdiv, p_mul1, p_mul2, p_pow, p_eq, p_ne, p_catl, p_catt, m_app, m_ext, rng0, sts1, obind_some, rsbind_ok, List.getElem?_cons_zero, List.getElem?_cons_succ, List.set_cons_zero, List.set_cons_succ, List.map_nil, List.append_nil, List.nil_append, List.cons_append, if_true, if_false, ite_true, ite_false, Bool.false_eq_true, reduceIte, List.length_cons, List.length_nil, List.any_nil, List.any_cons, Bool.and_true, Bool.true_and, Bool.and_false, Bool.false_and, Bool.not_true, Bool.not_false, Bool.or_false, Bool.or_true, Bool.true_or, Bool.false_or, List.isEmpty_nil, List.isEmpty_cons, wipeE, startE, Nat.zero_add, Nat.reduceAdd, Nat.reduceSub, Nat.reduceLeDiff, Nat.le_refl, List.replicate_succ, List.replicate_zero, List.zipWith_cons_cons, List.zipWith_nil_left, List.zipWith_nil_right, Nat.reduceBEq, Nat.reduceEqDiff, decide_true, decide_false, Int.reduceLT, Int.reduceLE, Int.reduceNeg, Int.reduceToNat, Nat.reduceLT, List.take_succ_cons, List.take_zero, List.drop_succ_cons, List.drop_zero, eq_self, h]
def prodI (ns : List Int) : Int := ns.foldl (· * ·) 1
theorem size_sem {ns : List Int} (h : ∀ n ∈ ns, 0 < n ∧ n < 1000000) : f__law_size.sem [.tuple (ns.map .int)] = .ok false (.int (prodI ns)) [] := by
  rw [e__law_size, runF_eq rfl (by decide)]
  unfold b__law_size
  simp -implicitDefEqProofs only [r_rd_v, r_rd_p, r_krd, r_rds0, r_rds, r_kco, r_pr, r_kpr, r_kpr2, r_var, r_kvar1, r_kvar2, r_kvar3, r_lit, r_gl, r_un, r_bi, r_cm, r_chn, r_kch3t, r_kch3f, r_and, r_or, r_and1, r_and2, r_or1, r_or2, r_kan2t, r_kan2f, r_kor2t, r_kor2f, r_not, r_kno2, r_ite, r_tup, r_lst, r_ktu2, r_kls2, r_dic, r_kdi2, r_dnewk, r_dnewt, r_ix, r_kix3, r_kix4, r_sl, r_ksl4l, r_ksl4t, r_fn, r_isI, r_kis2, r_call, r_kcl2, r_calla, r_kca2, r_kca3, r_kca4, r_kca5, r_arg0, r_arg, r_kar1, r_kar2, r_kar3, r_kar4, r_kar5, r_kar6, r_nomix0, r_nomix1, r_pm0, r_pm1, r_kpm, r_sh0, r_sh1, r_ksh1, r_ksh2, r_fz_v, r_fz_p, r_kfz1, r_kfz2, r_fzs0, r_fzs1, r_kfs, r_kfs3, r_isL, r_kisl1, r_kisl2, r_isO, r_kiso1, r_kiso2, r_mt, r_kmt2, r_kmt31, r_kmt32, r_kmt4, r_es0, r_es1, r_o0, r_o1, r_ko2, r_tv, r_ktv2, r_ktv3, r_tcm, r_tchn, r_ktb, r_tnot, r_tand, r_tor, r_ta0, r_ta1, r_to0, r_to1, r_c0, r_c1, r_seq, r_ksq2, r_ksq3, r_rng, r_krg2, r_rr, r_krr3, r_enum, r_ken2, r_ken3, r_zip, r_kzi4, r_kzi3l, r_kzi3t, r_seqdl, r_seqdt, r_set, r_kse1, r_kse2, r_kse3, r_kse4, r_knx, r_st, r_kst1, r_kst2, r_kst3, r_sts0, r_unp, r_kup, r_kup2, r_exp, r_kex, r_ret, r_krt1, r_krt2, r_krt3, r_retn, r_iff, r_kif1, r_kif2, r_forr, r_kfo, r_step, r_ksp, r_stp1, r_stp2, r_stepc, r_kcp, r_kcp4, r_whl, r_ixs, r_kxs, r_kxs2, r_kxs6, r_kxs3, r_kxs41, r_kxs42, r_kxs5, r_pass, r_doc, r_brk, r_cont, r_ss0, r_ss1, r_kss1, r_kss2, r_kss3, r_kss4, r_krn1, r_krn2, r_krn3, r_lm0, r_lm1, r_lm2, r_klm, p_add, p_sub, p_neg, p_lt, p_le, p_gt, p_ge, p_abs, p_min, p_max, p_lenl, p_lent, p_tupl, p_tupt, p_lstl, p_lstt, p_revl, p_revt, p_inti, p_isN0, p_notN0, sc_none, sc_bool, sc_int, sc_str, sc_list, sc_tup, sc_dict, t_bool, m_rev, m_clr, ix_l, ix_t, kBi2, kBi, kUn, kCh2, kCh, kAn, kOr, kNo, kIt, kTu, kLs, kDi, kIx2, kIx, kSl3, kSl2, kSl, kFn, kIs, kCl, kMt, kEs2, kEs, kO, kTv, kTn, kTA, kTO, kTC, kSq, kRg, kRr2, kRr, kEn, kZi2, kZi, kCp3, kCp2, sl_small, slt_small, kst_any, kst_st, p_mod, p_fdiv, p_mul1, p_mul2, p_pow, p_eq, p_ne, p_catl, p_catt, m_app, m_ext, rng0, sts1, obind_some, rsbind_ok, List.getElem?_cons_zero, List.getElem?_cons_succ, List.set_cons_zero, List.set_cons_succ, List.map_nil, List.append_nil, List.nil_append, List.cons_append, if_true, if_false, ite_true, ite_false, Bool.false_eq_true, reduceIte, List.length_cons, List.length_nil, List.any_nil, List.any_cons, Bool.and_true, Bool.true_and, Bool.and_false, Bool.false_and, Bool.not_true, Bool.not_false, Bool.or_false, Bool.or_true, Bool.true_or, Bool.false_or, List.isEmpty_nil, List.isEmpty_cons, wipeE, startE, Nat.zero_add, Nat.reduceAdd, Nat.reduceSub, Nat.reduceLeDiff, Nat.le_refl, List.replicate_succ, List.replicate_zero, List.zipWith_cons_cons, List.zipWith_nil_left, List.zipWith_nil_right, Nat.reduceBEq, Nat.reduceEqDiff, decide_true, decide_false, Int.reduceLT, Int.reduceLE, Int.reduceNeg, Int.reduceToNat, Nat.reduceLT, List.take_succ_cons, List.take_zero, List.drop_succ_cons, List.drop_zero, eq_self]
  have loop : ∀ (ms : List Int) (z : Int) (y : Option Sl), (∀ n ∈ ms, 0 < n ∧ n < 1000000) → (y = none ∨ ∃ d, y = some ⟨.sh, d⟩) → ∃ y', forL (stepF [] (.nm 2) [.set 1 (.bi .mul (.var 1) (.var 2))]) (ms.map .int) [some ⟨.sh, .tuple (ns.map .int)⟩, some ⟨.sh, .int z⟩, y] = .nx [some ⟨.sh, .tuple (ns.map .int)⟩, some ⟨.sh, .int (ms.foldl (· * ·) z)⟩, y'] := by
    intro ms
    induction ms with
    | nil => exact fun z y _ _ => ⟨y, rfl⟩
    | cons m ms ih =>
      intro z y hm hy
      have h1 := hm m List.mem_cons_self
      have h2 : -18446744073709551616 < m := by omega
      have h3 : m < 18446744073709551616 := by omega
      obtain ⟨y', e⟩ := ih (z * m) (some ⟨.sh, .int m⟩) (fun n hn => hm n (List.mem_cons_of_mem _ hn)) (.inr ⟨_, rfl⟩)
      refine ⟨y', ?_⟩
      rcases hy with rfl | ⟨d, rfl⟩ <;> (simp only [List.map_cons, forL]; simp -implicitDefEqProofs only [r_rd_v, r_rd_p, r_krd, r_rds0, r_rds, r_kco, r_pr, r_kpr, r_kpr2, r_var, r_kvar1, r_kvar2, r_kvar3, r_lit, r_gl, r_un, r_bi, r_cm, r_chn, r_kch3t, r_kch3f, r_and, r_or, r_and1, r_and2, r_or1, r_or2, r_kan2t, r_kan2f, r_kor2t, r_kor2f, r_not, r_kno2, r_ite, r_tup, r_lst, r_ktu2, r_kls2, r_dic, r_kdi2, r_dnewk, r_dnewt, r_ix, r_kix3, r_kix4, r_sl, r_ksl4l, r_ksl4t, r_fn, r_isI, r_kis2, r_call, r_kcl2, r_calla, r_kca2, r_kca3, r_kca4, r_kca5, r_arg0, r_arg, r_kar1, r_kar2, r_kar3, r_kar4, r_kar5, r_kar6, r_nomix0, r_nomix1, r_pm0, r_pm1, r_kpm, r_sh0, r_sh1, r_ksh1, r_ksh2, r_fz_v, r_fz_p, r_kfz1, r_kfz2, r_fzs0, r_fzs1, r_kfs, r_kfs3, r_isL, r_kisl1, r_kisl2, r_isO, r_kiso1, r_kiso2, r_mt, r_kmt2, r_kmt31, r_kmt32, r_kmt4, r_es0, r_es1, r_o0, r_o1, r_ko2, r_tv, r_ktv2, r_ktv3, r_tcm, r_tchn, r_ktb, r_tnot, r_tand, r_tor, r_ta0, r_ta1, r_to0, r_to1, r_c0, r_c1, r_seq, r_ksq2, r_ksq3, r_rng, r_krg2, r_rr, r_krr3, r_enum, r_ken2, r_ken3, r_zip, r_kzi4, r_kzi3l, r_kzi3t, r_seqdl, r_seqdt, r_set, r_kse1, r_kse2, r_kse3, r_kse4, r_knx, r_st, r_kst1, r_kst2, r_kst3, r_sts0, r_unp, r_kup, r_kup2, r_exp, r_kex, r_ret, r_krt1, r_krt2, r_krt3, r_retn, r_iff, r_kif1, r_kif2, r_forr, r_kfo, r_step, r_ksp, r_stp1, r_stp2, r_stepc, r_kcp, r_kcp4, r_whl, r_ixs, r_kxs, r_kxs2, r_kxs6, r_kxs3, r_kxs41, r_kxs42, r_kxs5, r_pass, r_doc, r_brk, r_cont, r_ss0, r_ss1, r_kss1, r_kss2, r_kss3, r_kss4, r_krn1, r_krn2, r_krn3, r_lm0, r_lm1, r_lm2, r_klm, p_add, p_sub, p_neg, p_lt, p_le, p_gt, p_ge, p_abs, p_min, p_max, p_lenl, p_lent, p_tupl, p_tupt, p_lstl, p_lstt, p_revl, p_revt, p_inti, p_isN0, p_notN0, sc_none, sc_bool, sc_int, sc_str, sc_list, sc_tup, sc_dict, t_bool, m_rev, m_clr, ix_l, ix_t, kBi2, kBi, kUn, kCh2, kCh, kAn, kOr, kNo, kIt, kTu, kLs, kDi, kIx2, kIx, kSl3, kSl2, kSl, kFn, kIs, kCl, kMt, kEs2, kEs, kO, kTv, kTn, kTA, kTO, kTC, kSq, kRg, kRr2, kRr, kEn, kZi2, kZi, kCp3, kCp2, sl_small, slt_small, kst_any, kst_st, p_mod, p_fdiv, p_mul1, p_mul2, p_pow, p_eq, p_ne, p_catl, p_catt, m_app, m_ext, rng0, sts1, obind_some, rsbind_ok, List.getElem?_cons_zero, List.getElem?_cons_succ, List.set_cons_zero, List.set_cons_succ, List.map_nil, List.append_nil, List.nil_append, List.cons_append, if_true, if_false, ite_true, ite_false, Bool.false_eq_true, reduceIte, List.length_cons, List.length_nil, List.any_nil, List.any_cons, Bool.and_true, Bool.true_and, Bool.and_false, Bool.false_and, Bool.not_true, Bool.not_false, Bool.or_false, Bool.or_true, Bool.true_or, Bool.false_or, List.isEmpty_nil, List.isEmpty_cons, wipeE, startE, Nat.zero_add, Nat.reduceAdd, Nat.reduceSub, Nat.reduceLeDiff, Nat.le_refl, List.replicate_succ, List.replicate_zero, List.zipWith_cons_cons, List.zipWith_nil_left, List.zipWith_nil_right, Nat.reduceBEq, Nat.reduceEqDiff, decide_true, decide_false, Int.reduceLT, Int.reduceLE, Int.reduceNeg, Int.reduceToNat, Nat.reduceLT, List.take_succ_cons, List.take_zero, List.drop_succ_cons, List.drop_zero, eq_self, h2, h3, e, List.foldl_cons])
  obtain ⟨y', e⟩ := loop ns 1 none h (.inl rfl)
  simp -implicitDefEqProofs only [r_rd_v, r_rd_p, r_krd, r_rds0, r_rds, r_kco, r_pr, r_kpr, r_kpr2, r_var, r_kvar1, r_kvar2, r_kvar3, r_lit, r_gl, r_un, r_bi, r_cm, r_chn, r_kch3t, r_kch3f, r_and, r_or, r_and1, r_and2, r_or1, r_or2, r_kan2t, r_kan2f, r_kor2t, r_kor2f, r_not, r_kno2, r_ite, r_tup, r_lst, r_ktu2, r_kls2, r_dic, r_kdi2, r_dnewk, r_dnewt, r_ix, r_kix3, r_kix4, r_sl, r_ksl4l, r_ksl4t, r_fn, r_isI, r_kis2, r_call, r_kcl2, r_calla, r_kca2, r_kca3, r_kca4, r_kca5, r_arg0, r_arg, r_kar1, r_kar2, r_kar3, r_kar4, r_kar5, r_kar6, r_nomix0, r_nomix1, r_pm0, r_pm1, r_kpm, r_sh0, r_sh1, r_ksh1, r_ksh2, r_fz_v, r_fz_p, r_kfz1, r_kfz2, r_fzs0, r_fzs1, r_kfs, r_kfs3, r_isL, r_kisl1, r_kisl2, r_isO, r_kiso1, r_kiso2, r_mt, r_kmt2, r_kmt31, r_kmt32, r_kmt4, r_es0, r_es1, r_o0, r_o1, r_ko2, r_tv, r_ktv2, r_ktv3, r_tcm, r_tchn, r_ktb, r_tnot, r_tand, r_tor, r_ta0, r_ta1, r_to0, r_to1, r_c0, r_c1, r_seq, r_ksq2, r_ksq3, r_rng, r_krg2, r_rr, r_krr3, r_enum, r_ken2, r_ken3, r_zip, r_kzi4, r_kzi3l, r_kzi3t, r_seqdl, r_seqdt, r_set, r_kse1, r_kse2, r_kse3, r_kse4, r_knx, r_st, r_kst1, r_kst2, r_kst3, r_sts0, r_unp, r_kup, r_kup2, r_exp, r_kex, r_ret, r_krt1, r_krt2, r_krt3, r_retn, r_iff, r_kif1, r_kif2, r_forr, r_kfo, r_step, r_ksp, r_stp1, r_stp2, r_stepc, r_kcp, r_kcp4, r_whl, r_ixs, r_kxs, r_kxs2, r_kxs6, r_kxs3, r_kxs41, r_kxs42, r_kxs5, r_pass, r_doc, r_brk, r_cont, r_ss0, r_ss1, r_kss1, r_kss2, r_kss3, r_kss4, r_krn1, r_krn2, r_krn3, r_lm0, r_lm1, r_lm2, r_klm, p_add, p_sub, p_neg, p_lt, p_le, p_gt, p_ge, p_abs, p_min, p_max, p_lenl, p_lent, p_tupl, p_tupt, p_lstl, p_lstt, p_revl, p_revt, p_inti, p_isN0, p_notN0, sc_none, sc_bool, sc_int, sc_str, sc_list, sc_tup, sc_dict, t_bool, m_rev, m_clr, ix_l, ix_t, kBi2, kBi, kUn, kCh2, kCh, kAn, kOr, kNo, kIt, kTu, kLs, kDi, kIx2, kIx, kSl3, kSl2, kSl, kFn, kIs, kCl, kMt, kEs2, kEs, kO, kTv, kTn, kTA, kTO, kTC, kSq, kRg, kRr2, kRr, kEn, kZi2, kZi, kCp3, kCp2, sl_small, slt_small, kst_any, kst_st, p_mod, p_fdiv, p_mul1, p_mul2, p_pow, p_eq, p_ne, p_catl, p_catt, m_app, m_ext, rng0, sts1, obind_some, rsbind_ok, List.getElem?_cons_zero, List.getElem?_cons_succ, List.set_cons_zero, List.set_cons_succ, List.map_nil, List.append_nil, List.nil_append, List.cons_append, if_true, if_false, ite_true, ite_false, Bool.false_eq_true, reduceIte, List.length_cons, List.length_nil, List.any_nil, List.any_cons, Bool.and_true, Bool.true_and, Bool.and_false, Bool.false_and, Bool.not_true, Bool.not_false, Bool.or_false, Bool.or_true, Bool.true_or, Bool.false_or, List.isEmpty_nil, List.isEmpty_cons, wipeE, startE, Nat.zero_add, Nat.reduceAdd, Nat.reduceSub, Nat.reduceLeDiff, Nat.le_refl, List.replicate_succ, List.replicate_zero, List.zipWith_cons_cons, List.zipWith_nil_left, List.zipWith_nil_right, Nat.reduceBEq, Nat.reduceEqDiff, decide_true, decide_false, Int.reduceLT, Int.reduceLE, Int.reduceNeg, Int.reduceToNat, Nat.reduceLT, List.take_succ_cons, List.take_zero, List.drop_succ_cons, List.drop_zero, eq_self, e]
  rfl
end CM
/-! PM2: rooms and their standings, plainly. -/
namespace CM
open PySem PD
def tupI (ns : List Int) : D := .tuple (ns.map .int)
/-- worths of a rank, last box first -/
def digs : List Int → Int → List Int
  | [], _ => []
  | m :: ms, r => r % m :: digs ms (r / m)
def stn (room : List Int) (r : Int) : List Int := (digs room.reverse r).reverse
theorem digs_len : ∀ (R : List Int) (r : Int), (digs R r).length = R.length
  | [], _ => rfl
  | m :: R, r => by simp only [digs, List.length_cons, digs_len R]
theorem stn_len (room : List Int) (r : Int) : (stn room r).length = room.length := by
  unfold stn
  rw [List.length_reverse, digs_len, List.length_reverse]
theorem stn_snoc (room : List Int) (m r : Int) : stn (room ++ [m]) r = stn room (r / m) ++ [r % m] := by
  unfold stn
  rw [List.reverse_append]
  show (digs (m :: room.reverse) r).reverse = _
  rw [digs, List.reverse_cons]
theorem prodI_from (ns : List Int) : ∀ z : Int, ns.foldl (· * ·) z = z * prodI ns := by
  unfold prodI
  induction ns with
  | nil => intro z; simp
  | cons n ns ih =>
    intro z
    simp only [List.foldl_cons]
    rw [ih (z * n), ih (1 * n), Int.one_mul, Int.mul_assoc]
theorem prodI_snoc (ns : List Int) (m : Int) : prodI (ns ++ [m]) = prodI ns * m := by
  unfold prodI
  rw [List.foldl_append]
  rfl
theorem prodI_cons (ns : List Int) (m : Int) : prodI (m :: ns) = m * prodI ns := by
  show (m :: ns).foldl (· * ·) 1 = _
  rw [List.foldl_cons, prodI_from, Int.one_mul]
theorem prodI_pos : ∀ {ns : List Int}, (∀ n ∈ ns, 0 < n) → 0 < prodI ns
  | [], _ => by decide
  | n :: ns, h => by
    rw [prodI_cons]
    exact Int.mul_pos (h n List.mem_cons_self) (prodI_pos fun x hx => h x (List.mem_cons_of_mem _ hx))
/-- induction from the end -/
theorem snoc_ind {P : List Int → Prop} (h0 : P []) (hs : ∀ ns m, P ns → P (ns ++ [m])) : ∀ ns, P ns := by
  intro ns
  have : ∀ R : List Int, P R.reverse := by
    intro R
    induction R with
    | nil => exact h0
    | cons m R ih =>
      rw [List.reverse_cons]
      exact hs _ _ ih
  have := this ns.reverse
  rwa [List.reverse_reverse] at this
def allS (room : List Int) : List (List Int) := (List.range (prodI room).toNat).map fun (k : Nat) => stn room (k : Int)
def exts (S : List (List Int)) (m : Int) : List (List Int) := S.flatMap fun o => (List.range m.toNat).map fun (w : Nat) => o ++ [(w : Int)]
theorem range_mul (p m : Nat) : List.range (p * m) = (List.range p).flatMap fun q => (List.range m).map fun w => q * m + w := by
  induction p with
  | zero => simp
  | succ p ih =>
    rw [Nat.succ_mul, List.range_add, ih, List.range_succ, List.flatMap_append]
    simp
theorem all_snoc {room : List Int} {m : Int} (hr : ∀ n ∈ room, 0 < n) (hm : 0 < m) : allS (room ++ [m]) = exts (allS room) m := by
  have hp := prodI_pos hr
  unfold allS exts
  rw [prodI_snoc]
  have e : (prodI room * m).toNat = (prodI room).toNat * m.toNat := by
    have h1 : ((prodI room).toNat : Int) = prodI room := Int.toNat_of_nonneg (by omega)
    have h2 : (m.toNat : Int) = m := Int.toNat_of_nonneg (by omega)
    apply Int.ofNat.inj
    show ((prodI room * m).toNat : Int) = (((prodI room).toNat * m.toNat : Nat) : Int)
    rw [Int.natCast_mul, h1, h2, Int.toNat_of_nonneg (Int.mul_nonneg (by omega) (by omega))]
  rw [e, range_mul, List.map_flatMap, List.flatMap_map]
  congr 1
  funext q
  rw [List.map_map]
  refine List.map_congr_left fun w hw => ?_
  have hw' : w < m.toNat := List.mem_range.mp hw
  show stn (room ++ [m]) ((q * m.toNat + w : Nat) : Int) = stn room (q : Int) ++ [(w : Int)]
  rw [stn_snoc]
  have h2 : (m.toNat : Int) = m := Int.toNat_of_nonneg (by omega)
  have e1 : ((q * m.toNat + w : Nat) : Int) = (w : Int) + (q : Int) * m := by
    rw [Int.natCast_add, Int.natCast_mul, h2, Int.add_comm]
  rw [e1, Int.add_mul_ediv_right _ _ (by omega), Int.add_mul_emod_self_right, Int.ediv_eq_zero_of_lt (by omega) (by omega), Int.emod_eq_of_lt (by omega) (by omega), Int.zero_add]
theorem all_fold : ∀ (room : List Int), (∀ n ∈ room, 0 < n) → room.foldl exts [[]] = allS room := by
  refine snoc_ind (fun _ => rfl) fun ns m ih h => ?_
  rw [List.foldl_append, ih (fun n hn => h n (List.mem_append_left _ hn)), all_snoc (fun n hn => h n (List.mem_append_left _ hn)) (h m (by simp))]
  rfl
/-- a worth for each box -/
def InRoom : List Int → List Int → Prop
  | [], [] => True
  | n :: ns, w :: ws => 0 ≤ w ∧ w < n ∧ InRoom ns ws
  | _, _ => False
theorem inRoom_app : ∀ {a b c d : List Int}, InRoom a b → InRoom c d → InRoom (a ++ c) (b ++ d)
  | [], [], _, _, _, h => h
  | _ :: _, _ :: _, _, _, ⟨h1, h2, h3⟩, h => ⟨h1, h2, inRoom_app h3 h⟩
theorem InRoom.len : ∀ {a b : List Int}, InRoom a b → b.length = a.length
  | [], [], _ => rfl
  | _ :: _, _ :: _, ⟨_, _, h⟩ => by rw [List.length_cons, List.length_cons, InRoom.len h]
theorem InRoom.at : ∀ {a b : List Int}, InRoom a b → ∀ (i : Nat) (n w : Int), a[i]? = some n → b[i]? = some w → 0 ≤ w ∧ w < n
  | _ :: _, _ :: _, ⟨h1, h2, h3⟩, 0, n, w, e1, e2 => by
    simp at e1 e2
    subst e1 e2
    exact ⟨h1, h2⟩
  | _ :: _, _ :: _, ⟨h1, h2, h3⟩, i + 1, n, w, e1, e2 => InRoom.at h3 i n w (by simpa using e1) (by simpa using e2)
  | [], _, _, i, n, w, e1, e2 => by simp at e1
theorem InRoom.set : ∀ {a b : List Int}, InRoom a b → ∀ (i : Nat) (n w : Int), a[i]? = some n → 0 ≤ w → w < n → InRoom a (b.set i w)
  | _ :: _, _ :: _, ⟨h1, h2, h3⟩, 0, n, w, e, h4, h5 => by
    simp at e
    subst e
    exact ⟨h4, h5, h3⟩
  | _ :: _, _ :: _, ⟨h1, h2, h3⟩, i + 1, n, w, e, h4, h5 => ⟨h1, h2, InRoom.set h3 i n w (by simpa using e) h4 h5⟩
  | [], [], _, i, n, w, e, _, _ => by simp at e
theorem stn_in : ∀ (room : List Int), (∀ n ∈ room, 0 < n) → ∀ r, InRoom room (stn room r) := by
  refine snoc_ind (fun _ _ => trivial) fun ns m ih h r => ?_
  rw [stn_snoc]
  have hm := h m (by simp)
  exact inRoom_app (ih (fun n hn => h n (List.mem_append_left _ hn)) _) ⟨Int.emod_nonneg _ (by omega), Int.emod_lt_of_pos _ hm, trivial⟩
def numI : Int → List Int → List Int → Int
  | z, n :: ns, w :: ws => numI (z * n + w) ns ws
  | z, _, _ => z
theorem numI_snoc : ∀ {a b : List Int} (z n w : Int), b.length = a.length → numI z (a ++ [n]) (b ++ [w]) = numI z a b * n + w
  | [], [], z, n, w, _ => rfl
  | x :: a, y :: b, z, n, w, h => by
    simp only [List.cons_append, numI]
    exact numI_snoc _ _ _ (by simpa using h)
  | [], _ :: _, _, _, _, h => by simp at h
  | _ :: _, [], _, _, _, h => by simp at h
theorem num_stn : ∀ (room : List Int), (∀ n ∈ room, 0 < n) → ∀ r, 0 ≤ r → r < prodI room → numI 0 room (stn room r) = r := by
  refine snoc_ind (fun _ r h0 h1 => ?_) fun ns m ih h r h0 h1 => ?_
  · have : prodI [] = 1 := rfl
    show (0 : Int) = r
    omega
  · have hm := h m (by simp)
    rw [stn_snoc, numI_snoc _ _ _ (stn_len _ _), ih (fun n hn => h n (List.mem_append_left _ hn)) _ (Int.ediv_nonneg h0 (by omega)) ?_]
    · rw [Int.mul_comm]
      exact Int.mul_ediv_add_emod r m
    · rw [prodI_snoc] at h1
      exact Int.ediv_lt_of_lt_mul hm h1
theorem lex_app {a b : List Int} {x y : Int} (hl : a.length = b.length) (h : HT.lexLt a b = true) : HT.lexLt (a ++ [x]) (b ++ [y]) = true := by
  induction a generalizing b with
  | nil =>
    cases b with
    | nil => cases h
    | cons _ _ => simp at hl
  | cons u a ih =>
    cases b with
    | nil => simp at hl
    | cons v b =>
      simp only [List.cons_append, HT.lexLt_cons] at h ⊢
      by_cases e : u = v
      · rw [if_pos e] at h ⊢
        exact ih (by simpa using hl) h
      · rw [if_neg e] at h ⊢
        exact h
theorem lex_last (a : List Int) {x y : Int} (h : x < y) : HT.lexLt (a ++ [x]) (a ++ [y]) = true := by
  induction a with
  | nil =>
    show (if x = y then HT.lexLt [] [] else decide (x < y)) = true
    rw [if_neg (by omega), decide_eq_true h]
  | cons u a ih =>
    simp only [List.cons_append, HT.lexLt_cons, if_true]
    exact ih
theorem stn_lex : ∀ (room : List Int), (∀ n ∈ room, 0 < n) → ∀ r, 0 < r → r < prodI room → HT.lexLt (stn room (r - 1)) (stn room r) = true := by
  refine snoc_ind (fun _ r h0 h1 => ?_) fun ns m ih h r h0 h1 => ?_
  · have : prodI [] = 1 := rfl
    omega
  · have hm := h m (by simp)
    have hn : ∀ n ∈ ns, 0 < n := fun n hn => h n (List.mem_append_left _ hn)
    rw [stn_snoc, stn_snoc]
    have e := Int.mul_ediv_add_emod r m
    have m0 := Int.emod_nonneg r (show m ≠ 0 by omega)
    have m1 := Int.emod_lt_of_pos r hm
    by_cases hz : r % m = 0
    · have e1 : r - 1 = (m - 1) + (r / m - 1) * m := by
        rw [Int.sub_mul, Int.mul_comm (r / m) m]
        omega
      have q1 : (r - 1) / m = r / m - 1 := by
        rw [e1, Int.add_mul_ediv_right _ _ (by omega), Int.ediv_eq_zero_of_lt (by omega) (by omega), Int.zero_add]
      rw [q1]
      refine lex_app (by rw [stn_len, stn_len]) (ih hn _ ?_ ?_)
      · have : 0 ≤ r / m := Int.ediv_nonneg (by omega) (by omega)
        rcases Int.lt_or_eq_of_le this with g | g
        · exact g
        · rw [← g, Int.mul_zero] at e
          omega
      · rw [prodI_snoc] at h1
        exact Int.ediv_lt_of_lt_mul hm h1
    · have e1 : r - 1 = (r % m - 1) + (r / m) * m := by
        rw [Int.mul_comm (r / m) m]
        omega
      have q1 : (r - 1) / m = r / m := by
        rw [e1, Int.add_mul_ediv_right _ _ (by omega), Int.ediv_eq_zero_of_lt (by omega) (by omega), Int.zero_add]
      have q2 : (r - 1) % m = r % m - 1 := by
        rw [e1, Int.add_mul_emod_self_right, Int.emod_eq_of_lt (by omega) (by omega)]
      rw [q1, q2]
      exact lex_last _ (by omega)
end CM
/-! PM3: what is of good shape for ==; the defs about rooms. -/
namespace CM
open PySem PD
def Shp (k : Nat) (d : D) : Prop := d.canLay0 = true ∧ d.depth ≤ k
theorem shp_all {k : Nat} : ∀ {ds : List D}, (∀ d ∈ ds, Shp k d) → PyData.canLayAll0 ds = true ∧ PyData.depthAll ds ≤ k
  | [], _ => ⟨rfl, Nat.zero_le _⟩
  | d :: ds, h => by
    obtain ⟨h1, h2⟩ := h d List.mem_cons_self
    obtain ⟨h3, h4⟩ := shp_all fun x hx => h x (List.mem_cons_of_mem _ hx)
    refine ⟨by rw [PyData.canLayAll0, h1, h3]; rfl, ?_⟩
    rw [PyData.depthAll]
    omega
theorem shp_int {k : Nat} {i : Int} (h : 1 ≤ k) : Shp k (.int i) := ⟨rfl, by rw [PyData.depth]; omega⟩
theorem shp_list {k : Nat} {ds : List D} (h : ∀ d ∈ ds, Shp k d) : Shp (k + 1) (.list ds) := by
  obtain ⟨h1, h2⟩ := shp_all h
  refine ⟨by rw [PyData.canLay0]; exact h1, ?_⟩
  rw [PyData.depth]
  omega
theorem shp_tup {k : Nat} {ds : List D} (h : ∀ d ∈ ds, Shp k d) : Shp (k + 1) (.tuple ds) := by
  obtain ⟨h1, h2⟩ := shp_all h
  refine ⟨by rw [PyData.canLay0]; exact h1, ?_⟩
  rw [PyData.depth]
  omega
theorem Shp.ok {k : Nat} {d : D} (h : Shp k d) (hk : k ≤ 64) : SeqAt.shaped d = true := by
  unfold SeqAt.shaped
  rw [h.1, decide_eq_true (Nat.le_trans h.2 hk)]
  rfl
theorem shp_tupI {k : Nat} {ns : List Int} (h : 1 ≤ k) : Shp (k + 1) (tupI ns) := shp_tup fun d hd => by
  obtain ⟨n, _, rfl⟩ := List.mem_map.mp hd
  exact shp_int h
theorem sh_int {i : Int} : SeqAt.shaped (.int i) = true := (shp_int (k := 1) (Nat.le_refl 1)).ok (by decide)
theorem sh_tupI {ns : List Int} : SeqAt.shaped (tupI ns) = true := (shp_tupI (k := 1) (Nat.le_refl 1)).ok (by decide)
theorem eqv_int {i j : Int} : PyData.eqv (.int i) (.int j) = decide (i = j) := by
  rw [PyData.eqv]
  by_cases h : i = j
  · subst h
    simp
  · rw [decide_eq_false h]
    exact beq_eq_false_iff_ne.mpr h
theorem eqvAll_int : ∀ {ns ms : List Int}, PyData.eqvAll (ns.map .int) (ms.map .int) = decide (ns = ms)
  | [], [] => by simp [PyData.eqvAll]
  | [], _ :: _ => by simp [PyData.eqvAll]
  | _ :: _, [] => by simp [PyData.eqvAll]
  | n :: ns, m :: ms => by
    rw [List.map_cons, List.map_cons, PyData.eqvAll, eqv_int, eqvAll_int]
    by_cases h : n = m
    · subst h
      simp
    · simp [h]
theorem eqv_tupI {ns ms : List Int} : PyData.eqv (tupI ns) (tupI ms) = decide (ns = ms) := by
  unfold tupI
  rw [PyData.eqv]
  exact eqvAll_int
theorem eqvAll_map {α : Type} [DecidableEq α] {g : α → D} (hg : ∀ x y, PyData.eqv (g x) (g y) = decide (x = y)) : ∀ {ns ms : List α}, PyData.eqvAll (ns.map g) (ms.map g) = decide (ns = ms)
  | [], [] => by simp [PyData.eqvAll]
  | [], _ :: _ => by simp [PyData.eqvAll]
  | _ :: _, [] => by simp [PyData.eqvAll]
  | n :: ns, m :: ms => by
    rw [List.map_cons, List.map_cons, PyData.eqvAll, hg, eqvAll_map hg]
    by_cases h : n = m
    · subst h
      simp
    · simp [h]
theorem intsOf_map : ∀ ns : List Int, intsOf (ns.map .int) = some ns
  | [] => rfl
  | n :: ns => by
    rw [List.map_cons, intsOf, intsOf_map ns]
theorem p_ltt {ns ms : List Int} : prim .lt [tupI ns, tupI ms] = some (false, .bool (HT.lexLt ns ms)) := by
  show pLt (.tuple (ns.map .int)) (.tuple (ms.map .int)) = _
  show (match intsOf (ns.map .int), intsOf (ms.map .int) with | some ns, some ms => bo (HT.lexLt ns ms) | _, _ => none) = _
  rw [intsOf_map, intsOf_map]
  rfl
theorem isBools_map : ∀ bs : List Bool, isBools (bs.map .bool) = some bs
  | [] => rfl
  | b :: bs => by
    rw [List.map_cons, isBools, isBools_map bs]
theorem p_all {bs : List Bool} : prim .all [.list (bs.map .bool)] = some (false, .bool (bs.all id)) := by
  show (match isBools (bs.map .bool) with | some bs => bo (bs.all id) | none => none) = _
  rw [isBools_map]
  rfl
theorem ti_sc {ns : List Int} : isSc (tupI ns) = false := rfl
theorem ti_seq {ns : List Int} : seqD (tupI ns) = some (ns.map .int) := rfl
theorem ti_ix {ns : List Int} {z : Int} : pIx (tupI ns) (.int z) = atD (ns.map .int) z := rfl
theorem ti_len {ns : List Int} : prim .len [tupI ns] = some (false, .int ns.length) := by
  show io (ns.map PyData.int).length = _
  rw [List.length_map]
  rfl
theorem ti_rev {ns : List Int} : prim .rev [tupI ns] = some (false, tupI ns.reverse) := by
  unfold tupI
  rw [List.map_reverse]
  rfl
theorem ti_kt {ns : List Int} : kindOf .tuple (tupI ns) = true := rfl
theorem ti_ki {i : Int} : kindOf .int (.int i) = true := rfl
theorem ti_kb {i : Int} : kindOf .bool (.int i) = false := rfl
theorem ti_kl {ds : List D} : kindOf .list (.list ds) = true := rfl
theorem ti_zip {ns ms : List Int} {e : En} : kZi3 (tupI ns) (some (tupI ms, e)) = .ok ((ns.zip ms).map fun p => .tuple [.int p.1, .int p.2]) e := by
  show Rs.ok (zipD (ns.map .int) (ms.map .int)) e = _
  congr 1
  unfold zipD
  induction ns generalizing ms with
  | nil => rfl
  | cons n ns ih =>
    cases ms with
    | nil => rfl
    | cons m ms =>
      simp only [List.map_cons, List.zipWith_cons_cons, List.zip_cons_cons]
      rw [ih]
theorem ti_tup {ns : List Int} : prim .tuple [.list (ns.map .int)] = some (false, tupI ns) := rfl
theorem sl_eq : sizeLine = 16777216 := sizeLine_eq
theorem pen_sem {ns : List Int} (h : ns.length ≤ 63) : ∃ d, f__law_pen.sem [.list (ns.map .int)] = .ok true d [] ∧ Pen 0 d := by
  rw [e__law_pen, runF_eq rfl (by decide)]
  unfold b__law_pen
  simp -implicitDefEqProofs only [r_rd_v, r_rd_p, r_krd, r_rds0, r_rds, r_kco, r_pr, r_kpr, r_kpr2, r_var, r_kvar1, r_kvar2, r_kvar3, r_lit, r_gl, r_un, r_bi, r_cm, r_chn, r_kch3t, r_kch3f, r_and, r_or, r_and1, r_and2, r_or1, r_or2, r_kan2t, r_kan2f, r_kor2t, r_kor2f, r_not, r_kno2, r_ite, r_tup, r_lst, r_ktu2, r_kls2, r_dic, r_kdi2, r_dnewk, r_dnewt, r_ix, r_kix3, r_kix4, r_sl, r_ksl4l, r_ksl4t, r_fn, r_isI, r_kis2, r_call, r_kcl2, r_calla, r_kca2, r_kca3, r_kca4, r_kca5, r_arg0, r_arg, r_kar1, r_kar2, r_kar3, r_kar4, r_kar5, r_kar6, r_nomix0, r_nomix1, r_pm0, r_pm1, r_kpm, r_sh0, r_sh1, r_ksh1, r_ksh2, r_fz_v, r_fz_p, r_kfz1, r_kfz2, r_fzs0, r_fzs1, r_kfs, r_kfs3, r_isL, r_kisl1, r_kisl2, r_isO, r_kiso1, r_kiso2, r_mt, r_kmt2, r_kmt31, r_kmt32, r_kmt4, r_es0, r_es1, r_o0, r_o1, r_ko2, r_tv, r_ktv2, r_ktv3, r_tcm, r_tchn, r_ktb, r_tnot, r_tand, r_tor, r_ta0, r_ta1, r_to0, r_to1, r_c0, r_c1, r_seq, r_ksq2, r_ksq3, r_rng, r_krg2, r_rr, r_krr3, r_enum, r_ken2, r_ken3, r_zip, r_kzi4, r_kzi3l, r_kzi3t, r_seqdl, r_seqdt, r_set, r_kse1, r_kse2, r_kse3, r_kse4, r_knx, r_st, r_kst1, r_kst2, r_kst3, r_sts0, r_unp, r_kup, r_kup2, r_exp, r_kex, r_ret, r_krt1, r_krt2, r_krt3, r_retn, r_iff, r_kif1, r_kif2, r_forr, r_kfo, r_step, r_ksp, r_stp1, r_stp2, r_stepc, r_kcp, r_kcp4, r_whl, r_ixs, r_kxs, r_kxs2, r_kxs6, r_kxs3, r_kxs41, r_kxs42, r_kxs5, r_pass, r_doc, r_brk, r_cont, r_ss0, r_ss1, r_kss1, r_kss2, r_kss3, r_kss4, r_krn1, r_krn2, r_krn3, r_lm0, r_lm1, r_lm2, r_klm, p_add, p_sub, p_neg, p_lt, p_le, p_gt, p_ge, p_abs, p_min, p_max, p_lenl, p_lent, p_tupl, p_tupt, p_lstl, p_lstt, p_revl, p_revt, p_inti, p_isN0, p_notN0, sc_none, sc_bool, sc_int, sc_str, sc_list, sc_tup, sc_dict, t_bool, m_rev, m_clr, ix_l, ix_t, kBi2, kBi, kUn, kCh2, kCh, kAn, kOr, kNo, kIt, kTu, kLs, kDi, kIx2, kIx, kSl3, kSl2, kSl, kFn, kIs, kCl, kMt, kEs2, kEs, kO, kTv, kTn, kTA, kTO, kTC, kSq, kRg, kRr2, kRr, kEn, kZi2, kZi, kCp3, kCp2, sl_small, slt_small, kst_any, kst_st, p_mod, p_fdiv, p_mul1, p_mul2, p_pow, p_eq, p_ne, p_catl, p_catt, m_app, m_ext, rng0, sts1, obind_some, rsbind_ok, List.getElem?_cons_zero, List.getElem?_cons_succ, List.set_cons_zero, List.set_cons_succ, List.map_nil, List.append_nil, List.nil_append, List.cons_append, if_true, if_false, ite_true, ite_false, Bool.false_eq_true, reduceIte, List.length_cons, List.length_nil, List.any_nil, List.any_cons, Bool.and_true, Bool.true_and, Bool.and_false, Bool.false_and, Bool.not_true, Bool.not_false, Bool.or_false, Bool.or_true, Bool.true_or, Bool.false_or, List.isEmpty_nil, List.isEmpty_cons, wipeE, startE, Nat.zero_add, Nat.reduceAdd, Nat.reduceSub, Nat.reduceLeDiff, Nat.le_refl, List.replicate_succ, List.replicate_zero, List.zipWith_cons_cons, List.zipWith_nil_left, List.zipWith_nil_right, Nat.reduceBEq, Nat.reduceEqDiff, decide_true, decide_false, Int.reduceLT, Int.reduceLE, Int.reduceNeg, Int.reduceToNat, Nat.reduceLT, List.take_succ_cons, List.take_zero, List.drop_succ_cons, List.drop_zero, eq_self]
  have e : cutD (ns.map PyData.int) none (some 63) = ns.map .int := by
    unfold cutD
    have h1 : HT.sIx (ns.map PyData.int).length 0 none = 0 := rfl
    have h2 : HT.sIx (ns.map PyData.int).length (ns.map PyData.int).length (some 63) = ns.length := by
      show min (63 : Int).toNat (ns.map PyData.int).length = ns.length
      rw [List.length_map]
      omega
    rw [h1, h2, Nat.sub_zero, List.drop_zero, List.take_of_length_le (by rw [List.length_map]; exact Nat.le_refl _)]
  rw [e]
  refine ⟨_, rfl, ns, 0, 0, ?_, by omega, by omega, by omega, h⟩
  simp [zipDic, dSet, penD, keyEq, kne1, kne2, kne3]
/-- a room: two to four worths a box, not too many standings -/
structure Room (most : Int) (ns : List Int) : Prop where
  ne : ns ≠ []
  len : ns.length ≤ 8
  two : ∀ n ∈ ns, 2 ≤ n ∧ n ≤ 4
  prod : prodI ns ≤ most
theorem Room.pos {most : Int} {ns : List Int} (h : Room most ns) : ∀ n ∈ ns, 0 < n := fun n hn => by
  have := h.two n hn
  omega
theorem room_sem {b most : Int} {d : D} (hp : Pen b d) (hb : b < 9000000) (hm : 4 ≤ most) :
    ∃ ns d', f__law_room.sem [d, .int most] = .ok false (tupI ns) [d'] ∧ Pen (b + 10) d' ∧ Room most ns := by
  rw [e__law_room, runF_eq rfl (by decide)]
  have h1 : ∃ way many d', evSs [f__law_draw, f__law_size] (b__law_room.take 3) (startE [true, false] [d, .int most] 7) = .nx [some ⟨.mu, d'⟩, some ⟨.sh, .int most⟩, some ⟨.sh, .int way⟩, some ⟨.sh, .int many⟩, some ⟨.sh, tupI []⟩, none, none] ∧ Pen (b + 2) d' ∧ 0 ≤ way ∧ way < 6 ∧ 1 ≤ many ∧ many ≤ 8 := by
    unfold b__law_room
    obtain ⟨v, d1, e1, p1, v0, v1⟩ := draw_sem hp (by omega) (show (0 : Int) < 6 by decide) (by decide)
    obtain ⟨u, d2, e2, p2, u0, u1⟩ := draw_sem p1 (by omega) (show (0 : Int) < 8 by decide) (by decide)
    have hw : ∃ z, atD [.int 8, .int 4, .int 1, .int 8, .int 3, .int (1 + u)] v = some (.int z) ∧ 1 ≤ z ∧ z ≤ 8 := by
      obtain ⟨z, e1, e2⟩ := atD_int (cs := [8, 4, 1, 8, 3, 1 + u]) (i := v) v0 (by show v < 6; exact v1)
      refine ⟨z, e1, ?_⟩
      simp only [List.mem_cons, List.not_mem_nil, or_false] at e2
      omega
    obtain ⟨z, ez, z1, z2⟩ := hw
    simp -implicitDefEqProofs only [r_rd_v, r_rd_p, r_krd, r_rds0, r_rds, r_kco, r_pr, r_kpr, r_kpr2, r_var, r_kvar1, r_kvar2, r_kvar3, r_lit, r_gl, r_un, r_bi, r_cm, r_chn, r_kch3t, r_kch3f, r_and, r_or, r_and1, r_and2, r_or1, r_or2, r_kan2t, r_kan2f, r_kor2t, r_kor2f, r_not, r_kno2, r_ite, r_tup, r_lst, r_ktu2, r_kls2, r_dic, r_kdi2, r_dnewk, r_dnewt, r_ix, r_kix3, r_kix4, r_sl, r_ksl4l, r_ksl4t, r_fn, r_isI, r_kis2, r_call, r_kcl2, r_calla, r_kca2, r_kca3, r_kca4, r_kca5, r_arg0, r_arg, r_kar1, r_kar2, r_kar3, r_kar4, r_kar5, r_kar6, r_nomix0, r_nomix1, r_pm0, r_pm1, r_kpm, r_sh0, r_sh1, r_ksh1, r_ksh2, r_fz_v, r_fz_p, r_kfz1, r_kfz2, r_fzs0, r_fzs1, r_kfs, r_kfs3, r_isL, r_kisl1, r_kisl2, r_isO, r_kiso1, r_kiso2, r_mt, r_kmt2, r_kmt31, r_kmt32, r_kmt4, r_es0, r_es1, r_o0, r_o1, r_ko2, r_tv, r_ktv2, r_ktv3, r_tcm, r_tchn, r_ktb, r_tnot, r_tand, r_tor, r_ta0, r_ta1, r_to0, r_to1, r_c0, r_c1, r_seq, r_ksq2, r_ksq3, r_rng, r_krg2, r_rr, r_krr3, r_enum, r_ken2, r_ken3, r_zip, r_kzi4, r_kzi3l, r_kzi3t, r_seqdl, r_seqdt, r_set, r_kse1, r_kse2, r_kse3, r_kse4, r_knx, r_st, r_kst1, r_kst2, r_kst3, r_sts0, r_unp, r_kup, r_kup2, r_exp, r_kex, r_ret, r_krt1, r_krt2, r_krt3, r_retn, r_iff, r_kif1, r_kif2, r_forr, r_kfo, r_step, r_ksp, r_stp1, r_stp2, r_stepc, r_kcp, r_kcp4, r_whl, r_ixs, r_kxs, r_kxs2, r_kxs6, r_kxs3, r_kxs41, r_kxs42, r_kxs5, r_pass, r_doc, r_brk, r_cont, r_ss0, r_ss1, r_kss1, r_kss2, r_kss3, r_kss4, r_krn1, r_krn2, r_krn3, r_lm0, r_lm1, r_lm2, r_klm, p_add, p_sub, p_neg, p_lt, p_le, p_gt, p_ge, p_abs, p_min, p_max, p_lenl, p_lent, p_tupl, p_tupt, p_lstl, p_lstt, p_revl, p_revt, p_inti, p_isN0, p_notN0, sc_none, sc_bool, sc_int, sc_str, sc_list, sc_tup, sc_dict, t_bool, m_rev, m_clr, ix_l, ix_t, kBi2, kBi, kUn, kCh2, kCh, kAn, kOr, kNo, kIt, kTu, kLs, kDi, kIx2, kIx, kSl3, kSl2, kSl, kFn, kIs, kCl, kMt, kEs2, kEs, kO, kTv, kTn, kTA, kTO, kTC, kSq, kRg, kRr2, kRr, kEn, kZi2, kZi, kCp3, kCp2, sl_small, slt_small, kst_any, kst_st, p_mod, p_fdiv, p_mul1, p_mul2, p_pow, p_eq, p_ne, p_catl, p_catt, m_app, m_ext, rng0, sts1, obind_some, rsbind_ok, List.getElem?_cons_zero, List.getElem?_cons_succ, List.set_cons_zero, List.set_cons_succ, List.map_nil, List.append_nil, List.nil_append, List.cons_append, if_true, if_false, ite_true, ite_false, Bool.false_eq_true, reduceIte, List.length_cons, List.length_nil, List.any_nil, List.any_cons, Bool.and_true, Bool.true_and, Bool.and_false, Bool.false_and, Bool.not_true, Bool.not_false, Bool.or_false, Bool.or_true, Bool.true_or, Bool.false_or, List.isEmpty_nil, List.isEmpty_cons, wipeE, startE, Nat.zero_add, Nat.reduceAdd, Nat.reduceSub, Nat.reduceLeDiff, Nat.le_refl, List.replicate_succ, List.replicate_zero, List.zipWith_cons_cons, List.zipWith_nil_left, List.zipWith_nil_right, Nat.reduceBEq, Nat.reduceEqDiff, decide_true, decide_false, Int.reduceLT, Int.reduceLE, Int.reduceNeg, Int.reduceToNat, Nat.reduceLT, List.take_succ_cons, List.take_zero, List.drop_succ_cons, List.drop_zero, eq_self, e1, e2, m__law_draw, ix_l, ez]
    exact ⟨v, z, d2, rfl, p2.mono (by omega), v0, v1, z1, z2⟩
  obtain ⟨way, many, d1, h1, p1, w0, w1, m1, m2⟩ := h1
  rw [ss_split 3 h1]
  unfold b__law_room
  have hmany : many < 4611686018427387904 := by omega
  have hm0 : 0 ≤ many := by omega
  simp -implicitDefEqProofs only [r_rd_v, r_rd_p, r_krd, r_rds0, r_rds, r_kco, r_pr, r_kpr, r_kpr2, r_var, r_kvar1, r_kvar2, r_kvar3, r_lit, r_gl, r_un, r_bi, r_cm, r_chn, r_kch3t, r_kch3f, r_and, r_or, r_and1, r_and2, r_or1, r_or2, r_kan2t, r_kan2f, r_kor2t, r_kor2f, r_not, r_kno2, r_ite, r_tup, r_lst, r_ktu2, r_kls2, r_dic, r_kdi2, r_dnewk, r_dnewt, r_ix, r_kix3, r_kix4, r_sl, r_ksl4l, r_ksl4t, r_fn, r_isI, r_kis2, r_call, r_kcl2, r_calla, r_kca2, r_kca3, r_kca4, r_kca5, r_arg0, r_arg, r_kar1, r_kar2, r_kar3, r_kar4, r_kar5, r_kar6, r_nomix0, r_nomix1, r_pm0, r_pm1, r_kpm, r_sh0, r_sh1, r_ksh1, r_ksh2, r_fz_v, r_fz_p, r_kfz1, r_kfz2, r_fzs0, r_fzs1, r_kfs, r_kfs3, r_isL, r_kisl1, r_kisl2, r_isO, r_kiso1, r_kiso2, r_mt, r_kmt2, r_kmt31, r_kmt32, r_kmt4, r_es0, r_es1, r_o0, r_o1, r_ko2, r_tv, r_ktv2, r_ktv3, r_tcm, r_tchn, r_ktb, r_tnot, r_tand, r_tor, r_ta0, r_ta1, r_to0, r_to1, r_c0, r_c1, r_seq, r_ksq2, r_ksq3, r_rng, r_krg2, r_rr, r_krr3, r_enum, r_ken2, r_ken3, r_zip, r_kzi4, r_kzi3l, r_kzi3t, r_seqdl, r_seqdt, r_set, r_kse1, r_kse2, r_kse3, r_kse4, r_knx, r_st, r_kst1, r_kst2, r_kst3, r_sts0, r_unp, r_kup, r_kup2, r_exp, r_kex, r_ret, r_krt1, r_krt2, r_krt3, r_retn, r_iff, r_kif1, r_kif2, r_forr, r_kfo, r_step, r_ksp, r_stp1, r_stp2, r_stepc, r_kcp, r_kcp4, r_whl, r_ixs, r_kxs, r_kxs2, r_kxs6, r_kxs3, r_kxs41, r_kxs42, r_kxs5, r_pass, r_doc, r_brk, r_cont, r_ss0, r_ss1, r_kss1, r_kss2, r_kss3, r_kss4, r_krn1, r_krn2, r_krn3, r_lm0, r_lm1, r_lm2, r_klm, p_add, p_sub, p_neg, p_lt, p_le, p_gt, p_ge, p_abs, p_min, p_max, p_lenl, p_lent, p_tupl, p_tupt, p_lstl, p_lstt, p_revl, p_revt, p_inti, p_isN0, p_notN0, sc_none, sc_bool, sc_int, sc_str, sc_list, sc_tup, sc_dict, t_bool, m_rev, m_clr, ix_l, ix_t, kBi2, kBi, kUn, kCh2, kCh, kAn, kOr, kNo, kIt, kTu, kLs, kDi, kIx2, kIx, kSl3, kSl2, kSl, kFn, kIs, kCl, kMt, kEs2, kEs, kO, kTv, kTn, kTA, kTO, kTC, kSq, kRg, kRr2, kRr, kEn, kZi2, kZi, kCp3, kCp2, sl_small, slt_small, kst_any, kst_st, p_mod, p_fdiv, p_mul1, p_mul2, p_pow, p_eq, p_ne, p_catl, p_catt, m_app, m_ext, rng0, sts1, obind_some, rsbind_ok, List.getElem?_cons_zero, List.getElem?_cons_succ, List.set_cons_zero, List.set_cons_succ, List.map_nil, List.append_nil, List.nil_append, List.cons_append, if_true, if_false, ite_true, ite_false, Bool.false_eq_true, reduceIte, List.length_cons, List.length_nil, List.any_nil, List.any_cons, Bool.and_true, Bool.true_and, Bool.and_false, Bool.false_and, Bool.not_true, Bool.not_false, Bool.or_false, Bool.or_true, Bool.true_or, Bool.false_or, List.isEmpty_nil, List.isEmpty_cons, wipeE, startE, Nat.zero_add, Nat.reduceAdd, Nat.reduceSub, Nat.reduceLeDiff, Nat.le_refl, List.replicate_succ, List.replicate_zero, List.zipWith_cons_cons, List.zipWith_nil_left, List.zipWith_nil_right, Nat.reduceBEq, Nat.reduceEqDiff, decide_true, decide_false, Int.reduceLT, Int.reduceLE, Int.reduceNeg, Int.reduceToNat, Nat.reduceLT, List.take_succ_cons, List.take_zero, List.drop_succ_cons, List.drop_zero, eq_self, hm0, hmany]
  generalize hL : forL _ _ _ = L
  have hI := forL_use hL (fun i e => ∃ ns d' y5 y6, e = [some ⟨.mu, d'⟩, some ⟨.sh, .int most⟩, some ⟨.sh, .int way⟩, some ⟨.sh, .int many⟩, some ⟨.sh, tupI ns⟩, y5, y6] ∧ Pen (b + 2 + (i : Int)) d' ∧ ns.length ≤ i ∧ (0 < i → ns ≠ []) ∧ (∀ n ∈ ns, 2 ≤ n ∧ n ≤ 4) ∧ prodI ns ≤ most ∧ ShN y5 ∧ ShN y6)
      ⟨[], d1, none, none, rfl, by simpa using p1, Nat.le_refl 0, fun h => absurd h (Nat.lt_irrefl 0), fun n hn => absurd hn List.not_mem_nil, (by show (1 : Int) ≤ most; omega), shn0, shn0⟩ (by
    intro i x e hx hI
    obtain ⟨ns, d2, y5, y6, rfl, p2, hl, hne, h2, hpr, s5, s6⟩ := hI
    obtain ⟨rfl, hi⟩ := rng_at hx
    obtain ⟨v, d3, e3, p3, v0, v1⟩ := draw_sem p2 (by omega) (show (0 : Int) < 3 by decide) (by decide)
    have hw : ∃ z, atD [.int 2, .int 4, .int (2 + v)] (if 2 < way then 2 else way) = some (.int z) ∧ 2 ≤ z ∧ z ≤ 4 := by
      obtain ⟨z, e1, e2⟩ := atD_int (cs := [2, 4, 2 + v]) (i := if 2 < way then 2 else way) (by split <;> omega) (by show (if 2 < way then 2 else way) < 3; split <;> omega)
      refine ⟨z, e1, ?_⟩
      simp only [List.mem_cons, List.not_mem_nil, or_false] at e2
      omega
    obtain ⟨z, ez, z1, z2⟩ := hw
    have hz1 : -18446744073709551616 < z := by omega
    have hz2 : z < 18446744073709551616 := by omega
    have hs : f__law_size.sem [tupI ns] = .ok false (.int (prodI ns)) [] := size_sem fun n hn => by
      have := h2 n hn
      omega
    have p4 : Pen (b + 2 + ((i + 1 : Nat) : Int)) d3 := p3.mono (by omega)
    generalize hS : stepF _ _ _ _ _ = S
    by_cases hc : prodI ns * z ≤ most
    · have hlen : ns.length + 1 ≤ sizeLine := by
        rw [sl_eq]
        omega
      have hcat : prim .add [tupI ns, .tuple [.int z]] = some (false, tupI (ns ++ [z])) := by
        have := p_catt (xs := ns.map PyData.int) (ys := [.int z]) (by rw [List.length_map]; exact hlen)
        unfold tupI
        rw [List.map_append]
        exact this
      simp -implicitDefEqProofs only [r_rd_v, r_rd_p, r_krd, r_rds0, r_rds, r_kco, r_pr, r_kpr, r_kpr2, r_var, r_kvar1, r_kvar2, r_kvar3, r_lit, r_gl, r_un, r_bi, r_cm, r_chn, r_kch3t, r_kch3f, r_and, r_or, r_and1, r_and2, r_or1, r_or2, r_kan2t, r_kan2f, r_kor2t, r_kor2f, r_not, r_kno2, r_ite, r_tup, r_lst, r_ktu2, r_kls2, r_dic, r_kdi2, r_dnewk, r_dnewt, r_ix, r_kix3, r_kix4, r_sl, r_ksl4l, r_ksl4t, r_fn, r_isI, r_kis2, r_call, r_kcl2, r_calla, r_kca2, r_kca3, r_kca4, r_kca5, r_arg0, r_arg, r_kar1, r_kar2, r_kar3, r_kar4, r_kar5, r_kar6, r_nomix0, r_nomix1, r_pm0, r_pm1, r_kpm, r_sh0, r_sh1, r_ksh1, r_ksh2, r_fz_v, r_fz_p, r_kfz1, r_kfz2, r_fzs0, r_fzs1, r_kfs, r_kfs3, r_isL, r_kisl1, r_kisl2, r_isO, r_kiso1, r_kiso2, r_mt, r_kmt2, r_kmt31, r_kmt32, r_kmt4, r_es0, r_es1, r_o0, r_o1, r_ko2, r_tv, r_ktv2, r_ktv3, r_tcm, r_tchn, r_ktb, r_tnot, r_tand, r_tor, r_ta0, r_ta1, r_to0, r_to1, r_c0, r_c1, r_seq, r_ksq2, r_ksq3, r_rng, r_krg2, r_rr, r_krr3, r_enum, r_ken2, r_ken3, r_zip, r_kzi4, r_kzi3l, r_kzi3t, r_seqdl, r_seqdt, r_set, r_kse1, r_kse2, r_kse3, r_kse4, r_knx, r_st, r_kst1, r_kst2, r_kst3, r_sts0, r_unp, r_kup, r_kup2, r_exp, r_kex, r_ret, r_krt1, r_krt2, r_krt3, r_retn, r_iff, r_kif1, r_kif2, r_forr, r_kfo, r_step, r_ksp, r_stp1, r_stp2, r_stepc, r_kcp, r_kcp4, r_whl, r_ixs, r_kxs, r_kxs2, r_kxs6, r_kxs3, r_kxs41, r_kxs42, r_kxs5, r_pass, r_doc, r_brk, r_cont, r_ss0, r_ss1, r_kss1, r_kss2, r_kss3, r_kss4, r_krn1, r_krn2, r_krn3, r_lm0, r_lm1, r_lm2, r_klm, p_add, p_sub, p_neg, p_lt, p_le, p_gt, p_ge, p_abs, p_min, p_max, p_lenl, p_lent, p_tupl, p_tupt, p_lstl, p_lstt, p_revl, p_revt, p_inti, p_isN0, p_notN0, sc_none, sc_bool, sc_int, sc_str, sc_list, sc_tup, sc_dict, t_bool, m_rev, m_clr, ix_l, ix_t, kBi2, kBi, kUn, kCh2, kCh, kAn, kOr, kNo, kIt, kTu, kLs, kDi, kIx2, kIx, kSl3, kSl2, kSl, kFn, kIs, kCl, kMt, kEs2, kEs, kO, kTv, kTn, kTA, kTO, kTC, kSq, kRg, kRr2, kRr, kEn, kZi2, kZi, kCp3, kCp2, sl_small, slt_small, kst_any, kst_st, p_mod, p_fdiv, p_mul1, p_mul2, p_pow, p_eq, p_ne, p_catl, p_catt, m_app, m_ext, rng0, sts1, obind_some, rsbind_ok, List.getElem?_cons_zero, List.getElem?_cons_succ, List.set_cons_zero, List.set_cons_succ, List.map_nil, List.append_nil, List.nil_append, List.cons_append, if_true, if_false, ite_true, ite_false, Bool.false_eq_true, reduceIte, List.length_cons, List.length_nil, List.any_nil, List.any_cons, Bool.and_true, Bool.true_and, Bool.and_false, Bool.false_and, Bool.not_true, Bool.not_false, Bool.or_false, Bool.or_true, Bool.true_or, Bool.false_or, List.isEmpty_nil, List.isEmpty_cons, wipeE, startE, Nat.zero_add, Nat.reduceAdd, Nat.reduceSub, Nat.reduceLeDiff, Nat.le_refl, List.replicate_succ, List.replicate_zero, List.zipWith_cons_cons, List.zipWith_nil_left, List.zipWith_nil_right, Nat.reduceBEq, Nat.reduceEqDiff, decide_true, decide_false, Int.reduceLT, Int.reduceLE, Int.reduceNeg, Int.reduceToNat, Nat.reduceLT, List.take_succ_cons, List.take_zero, List.drop_succ_cons, List.drop_zero, eq_self, s5, s6, e3, m__law_draw, m__law_size, ix_l, ez, hs, hz1, hz2, hc, hcat] at hS
      subst hS
      refine ⟨_, rfl, ns ++ [z], d3, _, _, rfl, p4, by rw [List.length_append]; show ns.length + 1 ≤ i + 1; omega, fun _ h => by simp at h, fun n hn => ?_, by rw [prodI_snoc]; exact hc, shn1, shn1⟩
      rcases List.mem_append.mp hn with h | h
      · exact h2 n h
      · rw [List.mem_singleton.mp h]
        exact ⟨z1, z2⟩
    · simp -implicitDefEqProofs only [r_rd_v, r_rd_p, r_krd, r_rds0, r_rds, r_kco, r_pr, r_kpr, r_kpr2, r_var, r_kvar1, r_kvar2, r_kvar3, r_lit, r_gl, r_un, r_bi, r_cm, r_chn, r_kch3t, r_kch3f, r_and, r_or, r_and1, r_and2, r_or1, r_or2, r_kan2t, r_kan2f, r_kor2t, r_kor2f, r_not, r_kno2, r_ite, r_tup, r_lst, r_ktu2, r_kls2, r_dic, r_kdi2, r_dnewk, r_dnewt, r_ix, r_kix3, r_kix4, r_sl, r_ksl4l, r_ksl4t, r_fn, r_isI, r_kis2, r_call, r_kcl2, r_calla, r_kca2, r_kca3, r_kca4, r_kca5, r_arg0, r_arg, r_kar1, r_kar2, r_kar3, r_kar4, r_kar5, r_kar6, r_nomix0, r_nomix1, r_pm0, r_pm1, r_kpm, r_sh0, r_sh1, r_ksh1, r_ksh2, r_fz_v, r_fz_p, r_kfz1, r_kfz2, r_fzs0, r_fzs1, r_kfs, r_kfs3, r_isL, r_kisl1, r_kisl2, r_isO, r_kiso1, r_kiso2, r_mt, r_kmt2, r_kmt31, r_kmt32, r_kmt4, r_es0, r_es1, r_o0, r_o1, r_ko2, r_tv, r_ktv2, r_ktv3, r_tcm, r_tchn, r_ktb, r_tnot, r_tand, r_tor, r_ta0, r_ta1, r_to0, r_to1, r_c0, r_c1, r_seq, r_ksq2, r_ksq3, r_rng, r_krg2, r_rr, r_krr3, r_enum, r_ken2, r_ken3, r_zip, r_kzi4, r_kzi3l, r_kzi3t, r_seqdl, r_seqdt, r_set, r_kse1, r_kse2, r_kse3, r_kse4, r_knx, r_st, r_kst1, r_kst2, r_kst3, r_sts0, r_unp, r_kup, r_kup2, r_exp, r_kex, r_ret, r_krt1, r_krt2, r_krt3, r_retn, r_iff, r_kif1, r_kif2, r_forr, r_kfo, r_step, r_ksp, r_stp1, r_stp2, r_stepc, r_kcp, r_kcp4, r_whl, r_ixs, r_kxs, r_kxs2, r_kxs6, r_kxs3, r_kxs41, r_kxs42, r_kxs5, r_pass, r_doc, r_brk, r_cont, r_ss0, r_ss1, r_kss1, r_kss2, r_kss3, r_kss4, r_krn1, r_krn2, r_krn3, r_lm0, r_lm1, r_lm2, r_klm, p_add, p_sub, p_neg, p_lt, p_le, p_gt, p_ge, p_abs, p_min, p_max, p_lenl, p_lent, p_tupl, p_tupt, p_lstl, p_lstt, p_revl, p_revt, p_inti, p_isN0, p_notN0, sc_none, sc_bool, sc_int, sc_str, sc_list, sc_tup, sc_dict, t_bool, m_rev, m_clr, ix_l, ix_t, kBi2, kBi, kUn, kCh2, kCh, kAn, kOr, kNo, kIt, kTu, kLs, kDi, kIx2, kIx, kSl3, kSl2, kSl, kFn, kIs, kCl, kMt, kEs2, kEs, kO, kTv, kTn, kTA, kTO, kTC, kSq, kRg, kRr2, kRr, kEn, kZi2, kZi, kCp3, kCp2, sl_small, slt_small, kst_any, kst_st, p_mod, p_fdiv, p_mul1, p_mul2, p_pow, p_eq, p_ne, p_catl, p_catt, m_app, m_ext, rng0, sts1, obind_some, rsbind_ok, List.getElem?_cons_zero, List.getElem?_cons_succ, List.set_cons_zero, List.set_cons_succ, List.map_nil, List.append_nil, List.nil_append, List.cons_append, if_true, if_false, ite_true, ite_false, Bool.false_eq_true, reduceIte, List.length_cons, List.length_nil, List.any_nil, List.any_cons, Bool.and_true, Bool.true_and, Bool.and_false, Bool.false_and, Bool.not_true, Bool.not_false, Bool.or_false, Bool.or_true, Bool.true_or, Bool.false_or, List.isEmpty_nil, List.isEmpty_cons, wipeE, startE, Nat.zero_add, Nat.reduceAdd, Nat.reduceSub, Nat.reduceLeDiff, Nat.le_refl, List.replicate_succ, List.replicate_zero, List.zipWith_cons_cons, List.zipWith_nil_left, List.zipWith_nil_right, Nat.reduceBEq, Nat.reduceEqDiff, decide_true, decide_false, Int.reduceLT, Int.reduceLE, Int.reduceNeg, Int.reduceToNat, Nat.reduceLT, List.take_succ_cons, List.take_zero, List.drop_succ_cons, List.drop_zero, eq_self, s5, s6, e3, m__law_draw, m__law_size, ix_l, ez, hs, hz1, hz2, hc] at hS
      subst hS
      refine ⟨_, rfl, ns, d3, _, _, rfl, p4, by omega, fun _ => ?_, h2, hpr, shn1, shn1⟩
      intro hn
      subst hn
      exact hc (by show 1 * z ≤ most; omega))
  obtain ⟨e', rfl, ns, d2, y5, y6, rfl, p2, hl, hne, h2, hpr, s5, s6⟩ := hI
  simp -implicitDefEqProofs only [r_rd_v, r_rd_p, r_krd, r_rds0, r_rds, r_kco, r_pr, r_kpr, r_kpr2, r_var, r_kvar1, r_kvar2, r_kvar3, r_lit, r_gl, r_un, r_bi, r_cm, r_chn, r_kch3t, r_kch3f, r_and, r_or, r_and1, r_and2, r_or1, r_or2, r_kan2t, r_kan2f, r_kor2t, r_kor2f, r_not, r_kno2, r_ite, r_tup, r_lst, r_ktu2, r_kls2, r_dic, r_kdi2, r_dnewk, r_dnewt, r_ix, r_kix3, r_kix4, r_sl, r_ksl4l, r_ksl4t, r_fn, r_isI, r_kis2, r_call, r_kcl2, r_calla, r_kca2, r_kca3, r_kca4, r_kca5, r_arg0, r_arg, r_kar1, r_kar2, r_kar3, r_kar4, r_kar5, r_kar6, r_nomix0, r_nomix1, r_pm0, r_pm1, r_kpm, r_sh0, r_sh1, r_ksh1, r_ksh2, r_fz_v, r_fz_p, r_kfz1, r_kfz2, r_fzs0, r_fzs1, r_kfs, r_kfs3, r_isL, r_kisl1, r_kisl2, r_isO, r_kiso1, r_kiso2, r_mt, r_kmt2, r_kmt31, r_kmt32, r_kmt4, r_es0, r_es1, r_o0, r_o1, r_ko2, r_tv, r_ktv2, r_ktv3, r_tcm, r_tchn, r_ktb, r_tnot, r_tand, r_tor, r_ta0, r_ta1, r_to0, r_to1, r_c0, r_c1, r_seq, r_ksq2, r_ksq3, r_rng, r_krg2, r_rr, r_krr3, r_enum, r_ken2, r_ken3, r_zip, r_kzi4, r_kzi3l, r_kzi3t, r_seqdl, r_seqdt, r_set, r_kse1, r_kse2, r_kse3, r_kse4, r_knx, r_st, r_kst1, r_kst2, r_kst3, r_sts0, r_unp, r_kup, r_kup2, r_exp, r_kex, r_ret, r_krt1, r_krt2, r_krt3, r_retn, r_iff, r_kif1, r_kif2, r_forr, r_kfo, r_step, r_ksp, r_stp1, r_stp2, r_stepc, r_kcp, r_kcp4, r_whl, r_ixs, r_kxs, r_kxs2, r_kxs6, r_kxs3, r_kxs41, r_kxs42, r_kxs5, r_pass, r_doc, r_brk, r_cont, r_ss0, r_ss1, r_kss1, r_kss2, r_kss3, r_kss4, r_krn1, r_krn2, r_krn3, r_lm0, r_lm1, r_lm2, r_klm, p_add, p_sub, p_neg, p_lt, p_le, p_gt, p_ge, p_abs, p_min, p_max, p_lenl, p_lent, p_tupl, p_tupt, p_lstl, p_lstt, p_revl, p_revt, p_inti, p_isN0, p_notN0, sc_none, sc_bool, sc_int, sc_str, sc_list, sc_tup, sc_dict, t_bool, m_rev, m_clr, ix_l, ix_t, kBi2, kBi, kUn, kCh2, kCh, kAn, kOr, kNo, kIt, kTu, kLs, kDi, kIx2, kIx, kSl3, kSl2, kSl, kFn, kIs, kCl, kMt, kEs2, kEs, kO, kTv, kTn, kTA, kTO, kTC, kSq, kRg, kRr2, kRr, kEn, kZi2, kZi, kCp3, kCp2, sl_small, slt_small, kst_any, kst_st, p_mod, p_fdiv, p_mul1, p_mul2, p_pow, p_eq, p_ne, p_catl, p_catt, m_app, m_ext, rng0, sts1, obind_some, rsbind_ok, List.getElem?_cons_zero, List.getElem?_cons_succ, List.set_cons_zero, List.set_cons_succ, List.map_nil, List.append_nil, List.nil_append, List.cons_append, if_true, if_false, ite_true, ite_false, Bool.false_eq_true, reduceIte, List.length_cons, List.length_nil, List.any_nil, List.any_cons, Bool.and_true, Bool.true_and, Bool.and_false, Bool.false_and, Bool.not_true, Bool.not_false, Bool.or_false, Bool.or_true, Bool.true_or, Bool.false_or, List.isEmpty_nil, List.isEmpty_cons, wipeE, startE, Nat.zero_add, Nat.reduceAdd, Nat.reduceSub, Nat.reduceLeDiff, Nat.le_refl, List.replicate_succ, List.replicate_zero, List.zipWith_cons_cons, List.zipWith_nil_left, List.zipWith_nil_right, Nat.reduceBEq, Nat.reduceEqDiff, decide_true, decide_false, Int.reduceLT, Int.reduceLE, Int.reduceNeg, Int.reduceToNat, Nat.reduceLT, List.take_succ_cons, List.take_zero, List.drop_succ_cons, List.drop_zero, eq_self]
  rw [List.length_map, List.length_range] at p2 hl hne
  exact ⟨ns, d2, rfl, p2.mono (by omega), hne (by omega), by omega, h2, hpr⟩
end CM
/-! PM4: standings, numbers, changes (the program's own defs on good rooms). -/
namespace CM
open PySem PD
def tupL (S : List (List Int)) : List D := S.map tupI
theorem exts_take {S : List (List Int)} {m : Int} {i : Nat} {o : List Int} (h : S[i]? = some o) : exts (S.take (i + 1)) m = exts (S.take i) m ++ (List.range m.toNat).map fun (w : Nat) => o ++ [(w : Int)] := by
  unfold exts
  rw [List.take_add_one, h]
  simp
theorem exts_len (S : List (List Int)) (m : Int) : (exts S m).length = S.length * m.toNat := by
  unfold exts
  induction S with
  | nil => simp
  | cons o S ih =>
    rw [List.flatMap_cons, List.length_append, ih, List.length_map, List.length_range, List.length_cons, Nat.succ_mul, Nat.add_comm]
theorem lengthened_sem {S : List (List Int)} {m : Int} (hS : S.length ≤ 1000) (ho : ∀ o ∈ S, o.length ≤ 1000) (h0 : 0 ≤ m) (h1 : m ≤ 1000) : f_lengthened.sem [.list (tupL S), .int m] = .ok true (.list (tupL (exts S m))) [] := by
  rw [e_lengthened, runF_eq rfl (by decide)]
  unfold b_lengthened
  have hm : m < 4611686018427387904 := by omega
  simp -implicitDefEqProofs only [r_rd_v, r_rd_p, r_krd, r_rds0, r_rds, r_kco, r_pr, r_kpr, r_kpr2, r_var, r_kvar1, r_kvar2, r_kvar3, r_lit, r_gl, r_un, r_bi, r_cm, r_chn, r_kch3t, r_kch3f, r_and, r_or, r_and1, r_and2, r_or1, r_or2, r_kan2t, r_kan2f, r_kor2t, r_kor2f, r_not, r_kno2, r_ite, r_tup, r_lst, r_ktu2, r_kls2, r_dic, r_kdi2, r_dnewk, r_dnewt, r_ix, r_kix3, r_kix4, r_sl, r_ksl4l, r_ksl4t, r_fn, r_isI, r_kis2, r_call, r_kcl2, r_calla, r_kca2, r_kca3, r_kca4, r_kca5, r_arg0, r_arg, r_kar1, r_kar2, r_kar3, r_kar4, r_kar5, r_kar6, r_nomix0, r_nomix1, r_pm0, r_pm1, r_kpm, r_sh0, r_sh1, r_ksh1, r_ksh2, r_fz_v, r_fz_p, r_kfz1, r_kfz2, r_fzs0, r_fzs1, r_kfs, r_kfs3, r_isL, r_kisl1, r_kisl2, r_isO, r_kiso1, r_kiso2, r_mt, r_kmt2, r_kmt31, r_kmt32, r_kmt4, r_es0, r_es1, r_o0, r_o1, r_ko2, r_tv, r_ktv2, r_ktv3, r_tcm, r_tchn, r_ktb, r_tnot, r_tand, r_tor, r_ta0, r_ta1, r_to0, r_to1, r_c0, r_c1, r_seq, r_ksq2, r_ksq3, r_rng, r_krg2, r_rr, r_krr3, r_enum, r_ken2, r_ken3, r_zip, r_kzi4, r_kzi3l, r_kzi3t, r_seqdl, r_seqdt, r_set, r_kse1, r_kse2, r_kse3, r_kse4, r_knx, r_st, r_kst1, r_kst2, r_kst3, r_sts0, r_unp, r_kup, r_kup2, r_exp, r_kex, r_ret, r_krt1, r_krt2, r_krt3, r_retn, r_iff, r_kif1, r_kif2, r_forr, r_kfo, r_step, r_ksp, r_stp1, r_stp2, r_stepc, r_kcp, r_kcp4, r_whl, r_ixs, r_kxs, r_kxs2, r_kxs6, r_kxs3, r_kxs41, r_kxs42, r_kxs5, r_pass, r_doc, r_brk, r_cont, r_ss0, r_ss1, r_kss1, r_kss2, r_kss3, r_kss4, r_krn1, r_krn2, r_krn3, r_lm0, r_lm1, r_lm2, r_klm, p_add, p_sub, p_neg, p_lt, p_le, p_gt, p_ge, p_abs, p_min, p_max, p_lenl, p_lent, p_tupl, p_tupt, p_lstl, p_lstt, p_revl, p_revt, p_inti, p_isN0, p_notN0, sc_none, sc_bool, sc_int, sc_str, sc_list, sc_tup, sc_dict, t_bool, m_rev, m_clr, ix_l, ix_t, kBi2, kBi, kUn, kCh2, kCh, kAn, kOr, kNo, kIt, kTu, kLs, kDi, kIx2, kIx, kSl3, kSl2, kSl, kFn, kIs, kCl, kMt, kEs2, kEs, kO, kTv, kTn, kTA, kTO, kTC, kSq, kRg, kRr2, kRr, kEn, kZi2, kZi, kCp3, kCp2, sl_small, slt_small, kst_any, kst_st, p_mod, p_fdiv, p_mul1, p_mul2, p_pow, p_eq, p_ne, p_catl, p_catt, m_app, m_ext, rng0, sts1, obind_some, rsbind_ok, List.getElem?_cons_zero, List.getElem?_cons_succ, List.set_cons_zero, List.set_cons_succ, List.map_nil, List.append_nil, List.nil_append, List.cons_append, if_true, if_false, ite_true, ite_false, Bool.false_eq_true, reduceIte, List.length_cons, List.length_nil, List.any_nil, List.any_cons, Bool.and_true, Bool.true_and, Bool.and_false, Bool.false_and, Bool.not_true, Bool.not_false, Bool.or_false, Bool.or_true, Bool.true_or, Bool.false_or, List.isEmpty_nil, List.isEmpty_cons, wipeE, startE, Nat.zero_add, Nat.reduceAdd, Nat.reduceSub, Nat.reduceLeDiff, Nat.le_refl, List.replicate_succ, List.replicate_zero, List.zipWith_cons_cons, List.zipWith_nil_left, List.zipWith_nil_right, Nat.reduceBEq, Nat.reduceEqDiff, decide_true, decide_false, Int.reduceLT, Int.reduceLE, Int.reduceNeg, Int.reduceToNat, Nat.reduceLT, List.take_succ_cons, List.take_zero, List.drop_succ_cons, List.drop_zero, eq_self]
  generalize hL : forL _ _ _ = L
  have hI := forL_use hL (fun i e => ∃ y3, e = [some ⟨.sh, .list (tupL S)⟩, some ⟨.sh, .int m⟩, some ⟨.own, .list (tupL (exts (S.take i) m))⟩, y3, none] ∧ ShN y3) ⟨none, rfl, shn0⟩ (by
    intro i x e hx hI
    obtain ⟨y3, rfl, s3⟩ := hI
    obtain ⟨o, eo, rfl⟩ := map_at hx
    have hol := ho o (List.mem_of_getElem? eo)
    generalize hS : stepF _ _ _ _ _ = S'
    have hc : evE [] (.comp (.bi .add (.var 3) (.tup [.var 4])) (.nm 4) (.rng (.var 1)) [] [4]) [some ⟨.sh, .list (tupL S)⟩, some ⟨.sh, .int m⟩, some ⟨.own, .list (tupL (exts (S.take i) m))⟩, some ⟨.sh, tupI o⟩, none] =
        .ok (.val true (.list ((List.range m.toNat).filterMap fun (w : Nat) => some (tupI (o ++ [(w : Int)]))))) [some ⟨.sh, .list (tupL S)⟩, some ⟨.sh, .int m⟩, some ⟨.own, .list (tupL (exts (S.take i) m))⟩, some ⟨.sh, tupI o⟩, none] := by
      refine evE_comp_map (h := fun (k : Nat) => .int (k : Int)) (by simp -implicitDefEqProofs only [r_rd_v, r_rd_p, r_krd, r_rds0, r_rds, r_kco, r_pr, r_kpr, r_kpr2, r_var, r_kvar1, r_kvar2, r_kvar3, r_lit, r_gl, r_un, r_bi, r_cm, r_chn, r_kch3t, r_kch3f, r_and, r_or, r_and1, r_and2, r_or1, r_or2, r_kan2t, r_kan2f, r_kor2t, r_kor2f, r_not, r_kno2, r_ite, r_tup, r_lst, r_ktu2, r_kls2, r_dic, r_kdi2, r_dnewk, r_dnewt, r_ix, r_kix3, r_kix4, r_sl, r_ksl4l, r_ksl4t, r_fn, r_isI, r_kis2, r_call, r_kcl2, r_calla, r_kca2, r_kca3, r_kca4, r_kca5, r_arg0, r_arg, r_kar1, r_kar2, r_kar3, r_kar4, r_kar5, r_kar6, r_nomix0, r_nomix1, r_pm0, r_pm1, r_kpm, r_sh0, r_sh1, r_ksh1, r_ksh2, r_fz_v, r_fz_p, r_kfz1, r_kfz2, r_fzs0, r_fzs1, r_kfs, r_kfs3, r_isL, r_kisl1, r_kisl2, r_isO, r_kiso1, r_kiso2, r_mt, r_kmt2, r_kmt31, r_kmt32, r_kmt4, r_es0, r_es1, r_o0, r_o1, r_ko2, r_tv, r_ktv2, r_ktv3, r_tcm, r_tchn, r_ktb, r_tnot, r_tand, r_tor, r_ta0, r_ta1, r_to0, r_to1, r_c0, r_c1, r_seq, r_ksq2, r_ksq3, r_rng, r_krg2, r_rr, r_krr3, r_enum, r_ken2, r_ken3, r_zip, r_kzi4, r_kzi3l, r_kzi3t, r_seqdl, r_seqdt, r_set, r_kse1, r_kse2, r_kse3, r_kse4, r_knx, r_st, r_kst1, r_kst2, r_kst3, r_sts0, r_unp, r_kup, r_kup2, r_exp, r_kex, r_ret, r_krt1, r_krt2, r_krt3, r_retn, r_iff, r_kif1, r_kif2, r_forr, r_kfo, r_step, r_ksp, r_stp1, r_stp2, r_stepc, r_kcp, r_kcp4, r_whl, r_ixs, r_kxs, r_kxs2, r_kxs6, r_kxs3, r_kxs41, r_kxs42, r_kxs5, r_pass, r_doc, r_brk, r_cont, r_ss0, r_ss1, r_kss1, r_kss2, r_kss3, r_kss4, r_krn1, r_krn2, r_krn3, r_lm0, r_lm1, r_lm2, r_klm, p_add, p_sub, p_neg, p_lt, p_le, p_gt, p_ge, p_abs, p_min, p_max, p_lenl, p_lent, p_tupl, p_tupt, p_lstl, p_lstt, p_revl, p_revt, p_inti, p_isN0, p_notN0, sc_none, sc_bool, sc_int, sc_str, sc_list, sc_tup, sc_dict, t_bool, m_rev, m_clr, ix_l, ix_t, kBi2, kBi, kUn, kCh2, kCh, kAn, kOr, kNo, kIt, kTu, kLs, kDi, kIx2, kIx, kSl3, kSl2, kSl, kFn, kIs, kCl, kMt, kEs2, kEs, kO, kTv, kTn, kTA, kTO, kTC, kSq, kRg, kRr2, kRr, kEn, kZi2, kZi, kCp3, kCp2, sl_small, slt_small, kst_any, kst_st, p_mod, p_fdiv, p_mul1, p_mul2, p_pow, p_eq, p_ne, p_catl, p_catt, m_app, m_ext, rng0, sts1, obind_some, rsbind_ok, List.getElem?_cons_zero, List.getElem?_cons_succ, List.set_cons_zero, List.set_cons_succ, List.map_nil, List.append_nil, List.nil_append, List.cons_append, if_true, if_false, ite_true, ite_false, Bool.false_eq_true, reduceIte, List.length_cons, List.length_nil, List.any_nil, List.any_cons, Bool.and_true, Bool.true_and, Bool.and_false, Bool.false_and, Bool.not_true, Bool.not_false, Bool.or_false, Bool.or_true, Bool.true_or, Bool.false_or, List.isEmpty_nil, List.isEmpty_cons, wipeE, startE, Nat.zero_add, Nat.reduceAdd, Nat.reduceSub, Nat.reduceLeDiff, Nat.le_refl, List.replicate_succ, List.replicate_zero, List.zipWith_cons_cons, List.zipWith_nil_left, List.zipWith_nil_right, Nat.reduceBEq, Nat.reduceEqDiff, decide_true, decide_false, Int.reduceLT, Int.reduceLE, Int.reduceNeg, Int.reduceToNat, Nat.reduceLT, List.take_succ_cons, List.take_zero, List.drop_succ_cons, List.drop_zero, eq_self, h0, hm]) rfl (by rw [List.length_range, sl_eq]; omega) fun w hw e he => ?_
      rw [r_stepc, he]
      have hcat : prim .add [tupI o, .tuple [.int (w : Int)]] = some (false, tupI (o ++ [(w : Int)])) := by
        have := p_catt (xs := o.map PyData.int) (ys := [.int (w : Int)]) (by rw [List.length_map, sl_eq]; show o.length + 1 ≤ _; omega)
        unfold tupI
        rw [List.map_append]
        exact this
      simp -implicitDefEqProofs only [r_rd_v, r_rd_p, r_krd, r_rds0, r_rds, r_kco, r_pr, r_kpr, r_kpr2, r_var, r_kvar1, r_kvar2, r_kvar3, r_lit, r_gl, r_un, r_bi, r_cm, r_chn, r_kch3t, r_kch3f, r_and, r_or, r_and1, r_and2, r_or1, r_or2, r_kan2t, r_kan2f, r_kor2t, r_kor2f, r_not, r_kno2, r_ite, r_tup, r_lst, r_ktu2, r_kls2, r_dic, r_kdi2, r_dnewk, r_dnewt, r_ix, r_kix3, r_kix4, r_sl, r_ksl4l, r_ksl4t, r_fn, r_isI, r_kis2, r_call, r_kcl2, r_calla, r_kca2, r_kca3, r_kca4, r_kca5, r_arg0, r_arg, r_kar1, r_kar2, r_kar3, r_kar4, r_kar5, r_kar6, r_nomix0, r_nomix1, r_pm0, r_pm1, r_kpm, r_sh0, r_sh1, r_ksh1, r_ksh2, r_fz_v, r_fz_p, r_kfz1, r_kfz2, r_fzs0, r_fzs1, r_kfs, r_kfs3, r_isL, r_kisl1, r_kisl2, r_isO, r_kiso1, r_kiso2, r_mt, r_kmt2, r_kmt31, r_kmt32, r_kmt4, r_es0, r_es1, r_o0, r_o1, r_ko2, r_tv, r_ktv2, r_ktv3, r_tcm, r_tchn, r_ktb, r_tnot, r_tand, r_tor, r_ta0, r_ta1, r_to0, r_to1, r_c0, r_c1, r_seq, r_ksq2, r_ksq3, r_rng, r_krg2, r_rr, r_krr3, r_enum, r_ken2, r_ken3, r_zip, r_kzi4, r_kzi3l, r_kzi3t, r_seqdl, r_seqdt, r_set, r_kse1, r_kse2, r_kse3, r_kse4, r_knx, r_st, r_kst1, r_kst2, r_kst3, r_sts0, r_unp, r_kup, r_kup2, r_exp, r_kex, r_ret, r_krt1, r_krt2, r_krt3, r_retn, r_iff, r_kif1, r_kif2, r_forr, r_kfo, r_step, r_ksp, r_stp1, r_stp2, r_stepc, r_kcp, r_kcp4, r_whl, r_ixs, r_kxs, r_kxs2, r_kxs6, r_kxs3, r_kxs41, r_kxs42, r_kxs5, r_pass, r_doc, r_brk, r_cont, r_ss0, r_ss1, r_kss1, r_kss2, r_kss3, r_kss4, r_krn1, r_krn2, r_krn3, r_lm0, r_lm1, r_lm2, r_klm, p_add, p_sub, p_neg, p_lt, p_le, p_gt, p_ge, p_abs, p_min, p_max, p_lenl, p_lent, p_tupl, p_tupt, p_lstl, p_lstt, p_revl, p_revt, p_inti, p_isN0, p_notN0, sc_none, sc_bool, sc_int, sc_str, sc_list, sc_tup, sc_dict, t_bool, m_rev, m_clr, ix_l, ix_t, kBi2, kBi, kUn, kCh2, kCh, kAn, kOr, kNo, kIt, kTu, kLs, kDi, kIx2, kIx, kSl3, kSl2, kSl, kFn, kIs, kCl, kMt, kEs2, kEs, kO, kTv, kTn, kTA, kTO, kTC, kSq, kRg, kRr2, kRr, kEn, kZi2, kZi, kCp3, kCp2, sl_small, slt_small, kst_any, kst_st, p_mod, p_fdiv, p_mul1, p_mul2, p_pow, p_eq, p_ne, p_catl, p_catt, m_app, m_ext, rng0, sts1, obind_some, rsbind_ok, List.getElem?_cons_zero, List.getElem?_cons_succ, List.set_cons_zero, List.set_cons_succ, List.map_nil, List.append_nil, List.nil_append, List.cons_append, if_true, if_false, ite_true, ite_false, Bool.false_eq_true, reduceIte, List.length_cons, List.length_nil, List.any_nil, List.any_cons, Bool.and_true, Bool.true_and, Bool.and_false, Bool.false_and, Bool.not_true, Bool.not_false, Bool.or_false, Bool.or_true, Bool.true_or, Bool.false_or, List.isEmpty_nil, List.isEmpty_cons, wipeE, startE, Nat.zero_add, Nat.reduceAdd, Nat.reduceSub, Nat.reduceLeDiff, Nat.le_refl, List.replicate_succ, List.replicate_zero, List.zipWith_cons_cons, List.zipWith_nil_left, List.zipWith_nil_right, Nat.reduceBEq, Nat.reduceEqDiff, decide_true, decide_false, Int.reduceLT, Int.reduceLE, Int.reduceNeg, Int.reduceToNat, Nat.reduceLT, List.take_succ_cons, List.take_zero, List.drop_succ_cons, List.drop_zero, eq_self, hcat]
      exact ⟨_, rfl, rfl⟩
    have hx2 : mtd .extend (.list (tupL (exts (S.take i) m))) [.list ((List.range m.toNat).filterMap fun (w : Nat) => some (tupI (o ++ [(w : Int)])))] = some (.list (tupL (exts (S.take (i + 1)) m)), .none) := by
      have e1 : ((List.range m.toNat).filterMap fun (w : Nat) => some (tupI (o ++ [(w : Int)]))) = tupL ((List.range m.toNat).map fun (w : Nat) => o ++ [(w : Int)]) := by
        unfold tupL
        rw [List.map_map, fm_map]
        rfl
      rw [e1, exts_take eo]
      have hl : (tupL (exts (S.take i) m)).length + (tupL ((List.range m.toNat).map fun (w : Nat) => o ++ [(w : Int)])).length ≤ sizeLine := by
        unfold tupL
        rw [List.length_map, List.length_map, List.length_map, exts_len, List.length_take, List.length_range, sl_eq]
        have a1 : min i S.length * m.toNat ≤ 1000 * 1000 := Nat.mul_le_mul (by omega) (by omega)
        omega
      rw [m_ext hl]
      unfold tupL
      rw [List.map_append]
    simp -implicitDefEqProofs only [r_rd_v, r_rd_p, r_krd, r_rds0, r_rds, r_kco, r_pr, r_kpr, r_kpr2, r_var, r_kvar1, r_kvar2, r_kvar3, r_lit, r_gl, r_un, r_bi, r_cm, r_chn, r_kch3t, r_kch3f, r_and, r_or, r_and1, r_and2, r_or1, r_or2, r_kan2t, r_kan2f, r_kor2t, r_kor2f, r_not, r_kno2, r_ite, r_tup, r_lst, r_ktu2, r_kls2, r_dic, r_kdi2, r_dnewk, r_dnewt, r_ix, r_kix3, r_kix4, r_sl, r_ksl4l, r_ksl4t, r_fn, r_isI, r_kis2, r_call, r_kcl2, r_calla, r_kca2, r_kca3, r_kca4, r_kca5, r_arg0, r_arg, r_kar1, r_kar2, r_kar3, r_kar4, r_kar5, r_kar6, r_nomix0, r_nomix1, r_pm0, r_pm1, r_kpm, r_sh0, r_sh1, r_ksh1, r_ksh2, r_fz_v, r_fz_p, r_kfz1, r_kfz2, r_fzs0, r_fzs1, r_kfs, r_kfs3, r_isL, r_kisl1, r_kisl2, r_isO, r_kiso1, r_kiso2, r_mt, r_kmt2, r_kmt31, r_kmt32, r_kmt4, r_es0, r_es1, r_o0, r_o1, r_ko2, r_tv, r_ktv2, r_ktv3, r_tcm, r_tchn, r_ktb, r_tnot, r_tand, r_tor, r_ta0, r_ta1, r_to0, r_to1, r_c0, r_c1, r_seq, r_ksq2, r_ksq3, r_rng, r_krg2, r_rr, r_krr3, r_enum, r_ken2, r_ken3, r_zip, r_kzi4, r_kzi3l, r_kzi3t, r_seqdl, r_seqdt, r_set, r_kse1, r_kse2, r_kse3, r_kse4, r_knx, r_st, r_kst1, r_kst2, r_kst3, r_sts0, r_unp, r_kup, r_kup2, r_exp, r_kex, r_ret, r_krt1, r_krt2, r_krt3, r_retn, r_iff, r_kif1, r_kif2, r_forr, r_kfo, r_step, r_ksp, r_stp1, r_stp2, r_stepc, r_kcp, r_kcp4, r_whl, r_ixs, r_kxs, r_kxs2, r_kxs6, r_kxs3, r_kxs41, r_kxs42, r_kxs5, r_pass, r_doc, r_brk, r_cont, r_ss0, r_ss1, r_kss1, r_kss2, r_kss3, r_kss4, r_krn1, r_krn2, r_krn3, r_lm0, r_lm1, r_lm2, r_klm, p_add, p_sub, p_neg, p_lt, p_le, p_gt, p_ge, p_abs, p_min, p_max, p_lenl, p_lent, p_tupl, p_tupt, p_lstl, p_lstt, p_revl, p_revt, p_inti, p_isN0, p_notN0, sc_none, sc_bool, sc_int, sc_str, sc_list, sc_tup, sc_dict, t_bool, m_rev, m_clr, ix_l, ix_t, kBi2, kBi, kUn, kCh2, kCh, kAn, kOr, kNo, kIt, kTu, kLs, kDi, kIx2, kIx, kSl3, kSl2, kSl, kFn, kIs, kCl, kMt, kEs2, kEs, kO, kTv, kTn, kTA, kTO, kTC, kSq, kRg, kRr2, kRr, kEn, kZi2, kZi, kCp3, kCp2, sl_small, slt_small, kst_any, kst_st, p_mod, p_fdiv, p_mul1, p_mul2, p_pow, p_eq, p_ne, p_catl, p_catt, m_app, m_ext, rng0, sts1, obind_some, rsbind_ok, List.getElem?_cons_zero, List.getElem?_cons_succ, List.set_cons_zero, List.set_cons_succ, List.map_nil, List.append_nil, List.nil_append, List.cons_append, if_true, if_false, ite_true, ite_false, Bool.false_eq_true, reduceIte, List.length_cons, List.length_nil, List.any_nil, List.any_cons, Bool.and_true, Bool.true_and, Bool.and_false, Bool.false_and, Bool.not_true, Bool.not_false, Bool.or_false, Bool.or_true, Bool.true_or, Bool.false_or, List.isEmpty_nil, List.isEmpty_cons, wipeE, startE, Nat.zero_add, Nat.reduceAdd, Nat.reduceSub, Nat.reduceLeDiff, Nat.le_refl, List.replicate_succ, List.replicate_zero, List.zipWith_cons_cons, List.zipWith_nil_left, List.zipWith_nil_right, Nat.reduceBEq, Nat.reduceEqDiff, decide_true, decide_false, Int.reduceLT, Int.reduceLE, Int.reduceNeg, Int.reduceToNat, Nat.reduceLT, List.take_succ_cons, List.take_zero, List.drop_succ_cons, List.drop_zero, eq_self, s3, hc, hx2] at hS
    subst hS
    exact ⟨_, rfl, _, rfl, shn1⟩)
  obtain ⟨e', rfl, y3, rfl, s3⟩ := hI
  simp -implicitDefEqProofs only [r_rd_v, r_rd_p, r_krd, r_rds0, r_rds, r_kco, r_pr, r_kpr, r_kpr2, r_var, r_kvar1, r_kvar2, r_kvar3, r_lit, r_gl, r_un, r_bi, r_cm, r_chn, r_kch3t, r_kch3f, r_and, r_or, r_and1, r_and2, r_or1, r_or2, r_kan2t, r_kan2f, r_kor2t, r_kor2f, r_not, r_kno2, r_ite, r_tup, r_lst, r_ktu2, r_kls2, r_dic, r_kdi2, r_dnewk, r_dnewt, r_ix, r_kix3, r_kix4, r_sl, r_ksl4l, r_ksl4t, r_fn, r_isI, r_kis2, r_call, r_kcl2, r_calla, r_kca2, r_kca3, r_kca4, r_kca5, r_arg0, r_arg, r_kar1, r_kar2, r_kar3, r_kar4, r_kar5, r_kar6, r_nomix0, r_nomix1, r_pm0, r_pm1, r_kpm, r_sh0, r_sh1, r_ksh1, r_ksh2, r_fz_v, r_fz_p, r_kfz1, r_kfz2, r_fzs0, r_fzs1, r_kfs, r_kfs3, r_isL, r_kisl1, r_kisl2, r_isO, r_kiso1, r_kiso2, r_mt, r_kmt2, r_kmt31, r_kmt32, r_kmt4, r_es0, r_es1, r_o0, r_o1, r_ko2, r_tv, r_ktv2, r_ktv3, r_tcm, r_tchn, r_ktb, r_tnot, r_tand, r_tor, r_ta0, r_ta1, r_to0, r_to1, r_c0, r_c1, r_seq, r_ksq2, r_ksq3, r_rng, r_krg2, r_rr, r_krr3, r_enum, r_ken2, r_ken3, r_zip, r_kzi4, r_kzi3l, r_kzi3t, r_seqdl, r_seqdt, r_set, r_kse1, r_kse2, r_kse3, r_kse4, r_knx, r_st, r_kst1, r_kst2, r_kst3, r_sts0, r_unp, r_kup, r_kup2, r_exp, r_kex, r_ret, r_krt1, r_krt2, r_krt3, r_retn, r_iff, r_kif1, r_kif2, r_forr, r_kfo, r_step, r_ksp, r_stp1, r_stp2, r_stepc, r_kcp, r_kcp4, r_whl, r_ixs, r_kxs, r_kxs2, r_kxs6, r_kxs3, r_kxs41, r_kxs42, r_kxs5, r_pass, r_doc, r_brk, r_cont, r_ss0, r_ss1, r_kss1, r_kss2, r_kss3, r_kss4, r_krn1, r_krn2, r_krn3, r_lm0, r_lm1, r_lm2, r_klm, p_add, p_sub, p_neg, p_lt, p_le, p_gt, p_ge, p_abs, p_min, p_max, p_lenl, p_lent, p_tupl, p_tupt, p_lstl, p_lstt, p_revl, p_revt, p_inti, p_isN0, p_notN0, sc_none, sc_bool, sc_int, sc_str, sc_list, sc_tup, sc_dict, t_bool, m_rev, m_clr, ix_l, ix_t, kBi2, kBi, kUn, kCh2, kCh, kAn, kOr, kNo, kIt, kTu, kLs, kDi, kIx2, kIx, kSl3, kSl2, kSl, kFn, kIs, kCl, kMt, kEs2, kEs, kO, kTv, kTn, kTA, kTO, kTC, kSq, kRg, kRr2, kRr, kEn, kZi2, kZi, kCp3, kCp2, sl_small, slt_small, kst_any, kst_st, p_mod, p_fdiv, p_mul1, p_mul2, p_pow, p_eq, p_ne, p_catl, p_catt, m_app, m_ext, rng0, sts1, obind_some, rsbind_ok, List.getElem?_cons_zero, List.getElem?_cons_succ, List.set_cons_zero, List.set_cons_succ, List.map_nil, List.append_nil, List.nil_append, List.cons_append, if_true, if_false, ite_true, ite_false, Bool.false_eq_true, reduceIte, List.length_cons, List.length_nil, List.any_nil, List.any_cons, Bool.and_true, Bool.true_and, Bool.and_false, Bool.false_and, Bool.not_true, Bool.not_false, Bool.or_false, Bool.or_true, Bool.true_or, Bool.false_or, List.isEmpty_nil, List.isEmpty_cons, wipeE, startE, Nat.zero_add, Nat.reduceAdd, Nat.reduceSub, Nat.reduceLeDiff, Nat.le_refl, List.replicate_succ, List.replicate_zero, List.zipWith_cons_cons, List.zipWith_nil_left, List.zipWith_nil_right, Nat.reduceBEq, Nat.reduceEqDiff, decide_true, decide_false, Int.reduceLT, Int.reduceLE, Int.reduceNeg, Int.reduceToNat, Nat.reduceLT, List.take_succ_cons, List.take_zero, List.drop_succ_cons, List.drop_zero, eq_self]
  unfold tupL
  rw [List.length_map, List.take_length]
theorem inR_len (room : List Int) : ∀ o ∈ allS room, o.length = room.length := fun o ho => by
  unfold allS at ho
  obtain ⟨k, _, rfl⟩ := List.mem_map.mp ho
  exact stn_len _ _
theorem allS_len (room : List Int) : (allS room).length = (prodI room).toNat := by
  unfold allS
  rw [List.length_map, List.length_range]
theorem prodI_take {room : List Int} (h : ∀ n ∈ room, 0 < n) (i : Nat) : prodI (room.take i) ≤ prodI room ∧ 0 < prodI (room.take i) := by
  have h1 : 0 < prodI (room.take i) := prodI_pos fun n hn => h n (List.mem_of_mem_take hn)
  have h2 : 0 < prodI (room.drop i) := prodI_pos fun n hn => h n (List.mem_of_mem_drop hn)
  have e : prodI room = prodI (room.take i) * prodI (room.drop i) := by
    conv => lhs; rw [← List.take_append_drop i room]
    show (room.take i ++ room.drop i).foldl (· * ·) 1 = _
    rw [List.foldl_append, prodI_from]
    rfl
  refine ⟨?_, h1⟩
  rw [e]
  have := Int.mul_le_mul_of_nonneg_left (show (1 : Int) ≤ prodI (room.drop i) by omega) (show 0 ≤ prodI (room.take i) by omega)
  omega
theorem standings_sem {most : Int} {room : List Int} (h : Room most room) (hm : most ≤ 1000) : f_standings.sem [tupI room] = .ok true (.list (tupL (allS room))) [] := by
  rw [e_standings, runF_eq rfl (by decide)]
  unfold b_standings
  simp -implicitDefEqProofs only [r_rd_v, r_rd_p, r_krd, r_rds0, r_rds, r_kco, r_pr, r_kpr, r_kpr2, r_var, r_kvar1, r_kvar2, r_kvar3, r_lit, r_gl, r_un, r_bi, r_cm, r_chn, r_kch3t, r_kch3f, r_and, r_or, r_and1, r_and2, r_or1, r_or2, r_kan2t, r_kan2f, r_kor2t, r_kor2f, r_not, r_kno2, r_ite, r_tup, r_lst, r_ktu2, r_kls2, r_dic, r_kdi2, r_dnewk, r_dnewt, r_ix, r_kix3, r_kix4, r_sl, r_ksl4l, r_ksl4t, r_fn, r_isI, r_kis2, r_call, r_kcl2, r_calla, r_kca2, r_kca3, r_kca4, r_kca5, r_arg0, r_arg, r_kar1, r_kar2, r_kar3, r_kar4, r_kar5, r_kar6, r_nomix0, r_nomix1, r_pm0, r_pm1, r_kpm, r_sh0, r_sh1, r_ksh1, r_ksh2, r_fz_v, r_fz_p, r_kfz1, r_kfz2, r_fzs0, r_fzs1, r_kfs, r_kfs3, r_isL, r_kisl1, r_kisl2, r_isO, r_kiso1, r_kiso2, r_mt, r_kmt2, r_kmt31, r_kmt32, r_kmt4, r_es0, r_es1, r_o0, r_o1, r_ko2, r_tv, r_ktv2, r_ktv3, r_tcm, r_tchn, r_ktb, r_tnot, r_tand, r_tor, r_ta0, r_ta1, r_to0, r_to1, r_c0, r_c1, r_seq, r_ksq2, r_ksq3, r_rng, r_krg2, r_rr, r_krr3, r_enum, r_ken2, r_ken3, r_zip, r_kzi4, r_kzi3l, r_kzi3t, r_seqdl, r_seqdt, r_set, r_kse1, r_kse2, r_kse3, r_kse4, r_knx, r_st, r_kst1, r_kst2, r_kst3, r_sts0, r_unp, r_kup, r_kup2, r_exp, r_kex, r_ret, r_krt1, r_krt2, r_krt3, r_retn, r_iff, r_kif1, r_kif2, r_forr, r_kfo, r_step, r_ksp, r_stp1, r_stp2, r_stepc, r_kcp, r_kcp4, r_whl, r_ixs, r_kxs, r_kxs2, r_kxs6, r_kxs3, r_kxs41, r_kxs42, r_kxs5, r_pass, r_doc, r_brk, r_cont, r_ss0, r_ss1, r_kss1, r_kss2, r_kss3, r_kss4, r_krn1, r_krn2, r_krn3, r_lm0, r_lm1, r_lm2, r_klm, p_add, p_sub, p_neg, p_lt, p_le, p_gt, p_ge, p_abs, p_min, p_max, p_lenl, p_lent, p_tupl, p_tupt, p_lstl, p_lstt, p_revl, p_revt, p_inti, p_isN0, p_notN0, sc_none, sc_bool, sc_int, sc_str, sc_list, sc_tup, sc_dict, t_bool, m_rev, m_clr, ix_l, ix_t, kBi2, kBi, kUn, kCh2, kCh, kAn, kOr, kNo, kIt, kTu, kLs, kDi, kIx2, kIx, kSl3, kSl2, kSl, kFn, kIs, kCl, kMt, kEs2, kEs, kO, kTv, kTn, kTA, kTO, kTC, kSq, kRg, kRr2, kRr, kEn, kZi2, kZi, kCp3, kCp2, sl_small, slt_small, kst_any, kst_st, p_mod, p_fdiv, p_mul1, p_mul2, p_pow, p_eq, p_ne, p_catl, p_catt, m_app, m_ext, rng0, sts1, obind_some, rsbind_ok, List.getElem?_cons_zero, List.getElem?_cons_succ, List.set_cons_zero, List.set_cons_succ, List.map_nil, List.append_nil, List.nil_append, List.cons_append, if_true, if_false, ite_true, ite_false, Bool.false_eq_true, reduceIte, List.length_cons, List.length_nil, List.any_nil, List.any_cons, Bool.and_true, Bool.true_and, Bool.and_false, Bool.false_and, Bool.not_true, Bool.not_false, Bool.or_false, Bool.or_true, Bool.true_or, Bool.false_or, List.isEmpty_nil, List.isEmpty_cons, wipeE, startE, Nat.zero_add, Nat.reduceAdd, Nat.reduceSub, Nat.reduceLeDiff, Nat.le_refl, List.replicate_succ, List.replicate_zero, List.zipWith_cons_cons, List.zipWith_nil_left, List.zipWith_nil_right, Nat.reduceBEq, Nat.reduceEqDiff, decide_true, decide_false, Int.reduceLT, Int.reduceLE, Int.reduceNeg, Int.reduceToNat, Nat.reduceLT, List.take_succ_cons, List.take_zero, List.drop_succ_cons, List.drop_zero, eq_self, ti_sc, ti_seq, ti_ix, ti_len, ti_rev, ti_kt, ti_ki, ti_kb, ti_kl, ti_zip, ti_tup, p_ltt, p_all, sh_int, sh_tupI, eqv_int, eqv_tupI]
  generalize hL : forL _ _ _ = L
  have hI := forL_use hL (fun i e => ∃ y2, e = [some ⟨.sh, tupI room⟩, some ⟨.own, .list (tupL (allS (room.take i)))⟩, y2] ∧ ShN y2) ⟨none, rfl, shn0⟩ (by
    intro i x e hx hI
    obtain ⟨y2, rfl, s2⟩ := hI
    obtain ⟨m, eo, rfl⟩ := map_at hx
    have hmem := List.mem_of_getElem? eo
    have h2 := h.two m hmem
    have hp := prodI_take h.pos i
    have hpr := h.prod
    have hlen := h.len
    have hs := lengthened_sem (S := allS (room.take i)) (m := m) (by rw [allS_len]; omega) (fun o ho => by
      rw [inR_len _ o ho, List.length_take]
      omega) (by omega) (by omega)
    rw [← all_snoc (fun n hn => h.pos n (List.mem_of_mem_take hn)) (by omega)] at hs
    have e2 : room.take i ++ [m] = room.take (i + 1) := by
      rw [List.take_add_one, eo]
      rfl
    rw [e2] at hs
    generalize hS : stepF _ _ _ _ _ = S'
    simp -implicitDefEqProofs only [r_rd_v, r_rd_p, r_krd, r_rds0, r_rds, r_kco, r_pr, r_kpr, r_kpr2, r_var, r_kvar1, r_kvar2, r_kvar3, r_lit, r_gl, r_un, r_bi, r_cm, r_chn, r_kch3t, r_kch3f, r_and, r_or, r_and1, r_and2, r_or1, r_or2, r_kan2t, r_kan2f, r_kor2t, r_kor2f, r_not, r_kno2, r_ite, r_tup, r_lst, r_ktu2, r_kls2, r_dic, r_kdi2, r_dnewk, r_dnewt, r_ix, r_kix3, r_kix4, r_sl, r_ksl4l, r_ksl4t, r_fn, r_isI, r_kis2, r_call, r_kcl2, r_calla, r_kca2, r_kca3, r_kca4, r_kca5, r_arg0, r_arg, r_kar1, r_kar2, r_kar3, r_kar4, r_kar5, r_kar6, r_nomix0, r_nomix1, r_pm0, r_pm1, r_kpm, r_sh0, r_sh1, r_ksh1, r_ksh2, r_fz_v, r_fz_p, r_kfz1, r_kfz2, r_fzs0, r_fzs1, r_kfs, r_kfs3, r_isL, r_kisl1, r_kisl2, r_isO, r_kiso1, r_kiso2, r_mt, r_kmt2, r_kmt31, r_kmt32, r_kmt4, r_es0, r_es1, r_o0, r_o1, r_ko2, r_tv, r_ktv2, r_ktv3, r_tcm, r_tchn, r_ktb, r_tnot, r_tand, r_tor, r_ta0, r_ta1, r_to0, r_to1, r_c0, r_c1, r_seq, r_ksq2, r_ksq3, r_rng, r_krg2, r_rr, r_krr3, r_enum, r_ken2, r_ken3, r_zip, r_kzi4, r_kzi3l, r_kzi3t, r_seqdl, r_seqdt, r_set, r_kse1, r_kse2, r_kse3, r_kse4, r_knx, r_st, r_kst1, r_kst2, r_kst3, r_sts0, r_unp, r_kup, r_kup2, r_exp, r_kex, r_ret, r_krt1, r_krt2, r_krt3, r_retn, r_iff, r_kif1, r_kif2, r_forr, r_kfo, r_step, r_ksp, r_stp1, r_stp2, r_stepc, r_kcp, r_kcp4, r_whl, r_ixs, r_kxs, r_kxs2, r_kxs6, r_kxs3, r_kxs41, r_kxs42, r_kxs5, r_pass, r_doc, r_brk, r_cont, r_ss0, r_ss1, r_kss1, r_kss2, r_kss3, r_kss4, r_krn1, r_krn2, r_krn3, r_lm0, r_lm1, r_lm2, r_klm, p_add, p_sub, p_neg, p_lt, p_le, p_gt, p_ge, p_abs, p_min, p_max, p_lenl, p_lent, p_tupl, p_tupt, p_lstl, p_lstt, p_revl, p_revt, p_inti, p_isN0, p_notN0, sc_none, sc_bool, sc_int, sc_str, sc_list, sc_tup, sc_dict, t_bool, m_rev, m_clr, ix_l, ix_t, kBi2, kBi, kUn, kCh2, kCh, kAn, kOr, kNo, kIt, kTu, kLs, kDi, kIx2, kIx, kSl3, kSl2, kSl, kFn, kIs, kCl, kMt, kEs2, kEs, kO, kTv, kTn, kTA, kTO, kTC, kSq, kRg, kRr2, kRr, kEn, kZi2, kZi, kCp3, kCp2, sl_small, slt_small, kst_any, kst_st, p_mod, p_fdiv, p_mul1, p_mul2, p_pow, p_eq, p_ne, p_catl, p_catt, m_app, m_ext, rng0, sts1, obind_some, rsbind_ok, List.getElem?_cons_zero, List.getElem?_cons_succ, List.set_cons_zero, List.set_cons_succ, List.map_nil, List.append_nil, List.nil_append, List.cons_append, if_true, if_false, ite_true, ite_false, Bool.false_eq_true, reduceIte, List.length_cons, List.length_nil, List.any_nil, List.any_cons, Bool.and_true, Bool.true_and, Bool.and_false, Bool.false_and, Bool.not_true, Bool.not_false, Bool.or_false, Bool.or_true, Bool.true_or, Bool.false_or, List.isEmpty_nil, List.isEmpty_cons, wipeE, startE, Nat.zero_add, Nat.reduceAdd, Nat.reduceSub, Nat.reduceLeDiff, Nat.le_refl, List.replicate_succ, List.replicate_zero, List.zipWith_cons_cons, List.zipWith_nil_left, List.zipWith_nil_right, Nat.reduceBEq, Nat.reduceEqDiff, decide_true, decide_false, Int.reduceLT, Int.reduceLE, Int.reduceNeg, Int.reduceToNat, Nat.reduceLT, List.take_succ_cons, List.take_zero, List.drop_succ_cons, List.drop_zero, eq_self, ti_sc, ti_seq, ti_ix, ti_len, ti_rev, ti_kt, ti_ki, ti_kb, ti_kl, ti_zip, ti_tup, p_ltt, p_all, sh_int, sh_tupI, eqv_int, eqv_tupI, s2, m_lengthened, hs] at hS
    subst hS
    exact ⟨_, rfl, _, rfl, shn1⟩)
  obtain ⟨e', rfl, y2, rfl, s2⟩ := hI
  rw [List.length_map, List.take_length]
  simp -implicitDefEqProofs only [r_rd_v, r_rd_p, r_krd, r_rds0, r_rds, r_kco, r_pr, r_kpr, r_kpr2, r_var, r_kvar1, r_kvar2, r_kvar3, r_lit, r_gl, r_un, r_bi, r_cm, r_chn, r_kch3t, r_kch3f, r_and, r_or, r_and1, r_and2, r_or1, r_or2, r_kan2t, r_kan2f, r_kor2t, r_kor2f, r_not, r_kno2, r_ite, r_tup, r_lst, r_ktu2, r_kls2, r_dic, r_kdi2, r_dnewk, r_dnewt, r_ix, r_kix3, r_kix4, r_sl, r_ksl4l, r_ksl4t, r_fn, r_isI, r_kis2, r_call, r_kcl2, r_calla, r_kca2, r_kca3, r_kca4, r_kca5, r_arg0, r_arg, r_kar1, r_kar2, r_kar3, r_kar4, r_kar5, r_kar6, r_nomix0, r_nomix1, r_pm0, r_pm1, r_kpm, r_sh0, r_sh1, r_ksh1, r_ksh2, r_fz_v, r_fz_p, r_kfz1, r_kfz2, r_fzs0, r_fzs1, r_kfs, r_kfs3, r_isL, r_kisl1, r_kisl2, r_isO, r_kiso1, r_kiso2, r_mt, r_kmt2, r_kmt31, r_kmt32, r_kmt4, r_es0, r_es1, r_o0, r_o1, r_ko2, r_tv, r_ktv2, r_ktv3, r_tcm, r_tchn, r_ktb, r_tnot, r_tand, r_tor, r_ta0, r_ta1, r_to0, r_to1, r_c0, r_c1, r_seq, r_ksq2, r_ksq3, r_rng, r_krg2, r_rr, r_krr3, r_enum, r_ken2, r_ken3, r_zip, r_kzi4, r_kzi3l, r_kzi3t, r_seqdl, r_seqdt, r_set, r_kse1, r_kse2, r_kse3, r_kse4, r_knx, r_st, r_kst1, r_kst2, r_kst3, r_sts0, r_unp, r_kup, r_kup2, r_exp, r_kex, r_ret, r_krt1, r_krt2, r_krt3, r_retn, r_iff, r_kif1, r_kif2, r_forr, r_kfo, r_step, r_ksp, r_stp1, r_stp2, r_stepc, r_kcp, r_kcp4, r_whl, r_ixs, r_kxs, r_kxs2, r_kxs6, r_kxs3, r_kxs41, r_kxs42, r_kxs5, r_pass, r_doc, r_brk, r_cont, r_ss0, r_ss1, r_kss1, r_kss2, r_kss3, r_kss4, r_krn1, r_krn2, r_krn3, r_lm0, r_lm1, r_lm2, r_klm, p_add, p_sub, p_neg, p_lt, p_le, p_gt, p_ge, p_abs, p_min, p_max, p_lenl, p_lent, p_tupl, p_tupt, p_lstl, p_lstt, p_revl, p_revt, p_inti, p_isN0, p_notN0, sc_none, sc_bool, sc_int, sc_str, sc_list, sc_tup, sc_dict, t_bool, m_rev, m_clr, ix_l, ix_t, kBi2, kBi, kUn, kCh2, kCh, kAn, kOr, kNo, kIt, kTu, kLs, kDi, kIx2, kIx, kSl3, kSl2, kSl, kFn, kIs, kCl, kMt, kEs2, kEs, kO, kTv, kTn, kTA, kTO, kTC, kSq, kRg, kRr2, kRr, kEn, kZi2, kZi, kCp3, kCp2, sl_small, slt_small, kst_any, kst_st, p_mod, p_fdiv, p_mul1, p_mul2, p_pow, p_eq, p_ne, p_catl, p_catt, m_app, m_ext, rng0, sts1, obind_some, rsbind_ok, List.getElem?_cons_zero, List.getElem?_cons_succ, List.set_cons_zero, List.set_cons_succ, List.map_nil, List.append_nil, List.nil_append, List.cons_append, if_true, if_false, ite_true, ite_false, Bool.false_eq_true, reduceIte, List.length_cons, List.length_nil, List.any_nil, List.any_cons, Bool.and_true, Bool.true_and, Bool.and_false, Bool.false_and, Bool.not_true, Bool.not_false, Bool.or_false, Bool.or_true, Bool.true_or, Bool.false_or, List.isEmpty_nil, List.isEmpty_cons, wipeE, startE, Nat.zero_add, Nat.reduceAdd, Nat.reduceSub, Nat.reduceLeDiff, Nat.le_refl, List.replicate_succ, List.replicate_zero, List.zipWith_cons_cons, List.zipWith_nil_left, List.zipWith_nil_right, Nat.reduceBEq, Nat.reduceEqDiff, decide_true, decide_false, Int.reduceLT, Int.reduceLE, Int.reduceNeg, Int.reduceToNat, Nat.reduceLT, List.take_succ_cons, List.take_zero, List.drop_succ_cons, List.drop_zero, eq_self]
end CM
/-! PM5: number, changed, is a standing, all standings. -/
namespace CM
open PySem PD
theorem number_sem {room ws : List Int} (hr : ∀ n ∈ room, 0 ≤ n ∧ n ≤ 1000000) : f_number.sem [tupI room, tupI ws] = .ok false (.int (numI 0 room ws)) [] := by
  rw [e_number, runF_eq rfl (by decide)]
  unfold b_number
  simp -implicitDefEqProofs only [r_rd_v, r_rd_p, r_krd, r_rds0, r_rds, r_kco, r_pr, r_kpr, r_kpr2, r_var, r_kvar1, r_kvar2, r_kvar3, r_lit, r_gl, r_un, r_bi, r_cm, r_chn, r_kch3t, r_kch3f, r_and, r_or, r_and1, r_and2, r_or1, r_or2, r_kan2t, r_kan2f, r_kor2t, r_kor2f, r_not, r_kno2, r_ite, r_tup, r_lst, r_ktu2, r_kls2, r_dic, r_kdi2, r_dnewk, r_dnewt, r_ix, r_kix3, r_kix4, r_sl, r_ksl4l, r_ksl4t, r_fn, r_isI, r_kis2, r_call, r_kcl2, r_calla, r_kca2, r_kca3, r_kca4, r_kca5, r_arg0, r_arg, r_kar1, r_kar2, r_kar3, r_kar4, r_kar5, r_kar6, r_nomix0, r_nomix1, r_pm0, r_pm1, r_kpm, r_sh0, r_sh1, r_ksh1, r_ksh2, r_fz_v, r_fz_p, r_kfz1, r_kfz2, r_fzs0, r_fzs1, r_kfs, r_kfs3, r_isL, r_kisl1, r_kisl2, r_isO, r_kiso1, r_kiso2, r_mt, r_kmt2, r_kmt31, r_kmt32, r_kmt4, r_es0, r_es1, r_o0, r_o1, r_ko2, r_tv, r_ktv2, r_ktv3, r_tcm, r_tchn, r_ktb, r_tnot, r_tand, r_tor, r_ta0, r_ta1, r_to0, r_to1, r_c0, r_c1, r_seq, r_ksq2, r_ksq3, r_rng, r_krg2, r_rr, r_krr3, r_enum, r_ken2, r_ken3, r_zip, r_kzi4, r_kzi3l, r_kzi3t, r_seqdl, r_seqdt, r_set, r_kse1, r_kse2, r_kse3, r_kse4, r_knx, r_st, r_kst1, r_kst2, r_kst3, r_sts0, r_unp, r_kup, r_kup2, r_exp, r_kex, r_ret, r_krt1, r_krt2, r_krt3, r_retn, r_iff, r_kif1, r_kif2, r_forr, r_kfo, r_step, r_ksp, r_stp1, r_stp2, r_stepc, r_kcp, r_kcp4, r_whl, r_ixs, r_kxs, r_kxs2, r_kxs6, r_kxs3, r_kxs41, r_kxs42, r_kxs5, r_pass, r_doc, r_brk, r_cont, r_ss0, r_ss1, r_kss1, r_kss2, r_kss3, r_kss4, r_krn1, r_krn2, r_krn3, r_lm0, r_lm1, r_lm2, r_klm, p_add, p_sub, p_neg, p_lt, p_le, p_gt, p_ge, p_abs, p_min, p_max, p_lenl, p_lent, p_tupl, p_tupt, p_lstl, p_lstt, p_revl, p_revt, p_inti, p_isN0, p_notN0, sc_none, sc_bool, sc_int, sc_str, sc_list, sc_tup, sc_dict, t_bool, m_rev, m_clr, ix_l, ix_t, kBi2, kBi, kUn, kCh2, kCh, kAn, kOr, kNo, kIt, kTu, kLs, kDi, kIx2, kIx, kSl3, kSl2, kSl, kFn, kIs, kCl, kMt, kEs2, kEs, kO, kTv, kTn, kTA, kTO, kTC, kSq, kRg, kRr2, kRr, kEn, kZi2, kZi, kCp3, kCp2, sl_small, slt_small, kst_any, kst_st, p_mod, p_fdiv, p_mul1, p_mul2, p_pow, p_eq, p_ne, p_catl, p_catt, m_app, m_ext, rng0, sts1, obind_some, rsbind_ok, List.getElem?_cons_zero, List.getElem?_cons_succ, List.set_cons_zero, List.set_cons_succ, List.map_nil, List.append_nil, List.nil_append, List.cons_append, if_true, if_false, ite_true, ite_false, Bool.false_eq_true, reduceIte, List.length_cons, List.length_nil, List.any_nil, List.any_cons, Bool.and_true, Bool.true_and, Bool.and_false, Bool.false_and, Bool.not_true, Bool.not_false, Bool.or_false, Bool.or_true, Bool.true_or, Bool.false_or, List.isEmpty_nil, List.isEmpty_cons, wipeE, startE, Nat.zero_add, Nat.reduceAdd, Nat.reduceSub, Nat.reduceLeDiff, Nat.le_refl, List.replicate_succ, List.replicate_zero, List.zipWith_cons_cons, List.zipWith_nil_left, List.zipWith_nil_right, Nat.reduceBEq, Nat.reduceEqDiff, decide_true, decide_false, Int.reduceLT, Int.reduceLE, Int.reduceNeg, Int.reduceToNat, Nat.reduceLT, List.take_succ_cons, List.take_zero, List.drop_succ_cons, List.drop_zero, eq_self, ti_sc, ti_seq, ti_ix, ti_len, ti_rev, ti_kt, ti_ki, ti_kb, ti_kl, ti_zip, ti_tup, p_ltt, p_all, sh_int, sh_tupI, eqv_int, eqv_tupI]
  have loop : ∀ (R W : List Int) (z : Int) (y3 y4 : Option Sl), (∀ n ∈ R, 0 ≤ n ∧ n ≤ 1000000) → ShN y3 → ShN y4 → ∃ y3' y4', forL (stepF [] (.tp [3, 4]) [.set 2 (.bi .add (.bi .mul (.var 2) (.var 3)) (.var 4))]) ((R.zip W).map fun p => .tuple [.int p.1, .int p.2]) [some ⟨.sh, tupI room⟩, some ⟨.sh, tupI ws⟩, some ⟨.sh, .int z⟩, y3, y4] =
      .nx [some ⟨.sh, tupI room⟩, some ⟨.sh, tupI ws⟩, some ⟨.sh, .int (numI z R W)⟩, y3', y4'] := by
    intro R
    induction R with
    | nil => exact fun W z y3 y4 _ _ _ => ⟨y3, y4, rfl⟩
    | cons n R ih =>
      intro W z y3 y4 hR s3 s4
      cases W with
      | nil => exact ⟨y3, y4, rfl⟩
      | cons u W =>
        have h1 := hR n List.mem_cons_self
        have h2 : -18446744073709551616 < n := by omega
        have h3 : n < 18446744073709551616 := by omega
        obtain ⟨y3', y4', e⟩ := ih W (z * n + u) (some ⟨.sh, .int n⟩) (some ⟨.sh, .int u⟩) (fun n hn => hR n (List.mem_cons_of_mem _ hn)) shn1 shn1
        refine ⟨y3', y4', ?_⟩
        simp only [List.zip_cons_cons, List.map_cons, forL]
        simp -implicitDefEqProofs only [r_rd_v, r_rd_p, r_krd, r_rds0, r_rds, r_kco, r_pr, r_kpr, r_kpr2, r_var, r_kvar1, r_kvar2, r_kvar3, r_lit, r_gl, r_un, r_bi, r_cm, r_chn, r_kch3t, r_kch3f, r_and, r_or, r_and1, r_and2, r_or1, r_or2, r_kan2t, r_kan2f, r_kor2t, r_kor2f, r_not, r_kno2, r_ite, r_tup, r_lst, r_ktu2, r_kls2, r_dic, r_kdi2, r_dnewk, r_dnewt, r_ix, r_kix3, r_kix4, r_sl, r_ksl4l, r_ksl4t, r_fn, r_isI, r_kis2, r_call, r_kcl2, r_calla, r_kca2, r_kca3, r_kca4, r_kca5, r_arg0, r_arg, r_kar1, r_kar2, r_kar3, r_kar4, r_kar5, r_kar6, r_nomix0, r_nomix1, r_pm0, r_pm1, r_kpm, r_sh0, r_sh1, r_ksh1, r_ksh2, r_fz_v, r_fz_p, r_kfz1, r_kfz2, r_fzs0, r_fzs1, r_kfs, r_kfs3, r_isL, r_kisl1, r_kisl2, r_isO, r_kiso1, r_kiso2, r_mt, r_kmt2, r_kmt31, r_kmt32, r_kmt4, r_es0, r_es1, r_o0, r_o1, r_ko2, r_tv, r_ktv2, r_ktv3, r_tcm, r_tchn, r_ktb, r_tnot, r_tand, r_tor, r_ta0, r_ta1, r_to0, r_to1, r_c0, r_c1, r_seq, r_ksq2, r_ksq3, r_rng, r_krg2, r_rr, r_krr3, r_enum, r_ken2, r_ken3, r_zip, r_kzi4, r_kzi3l, r_kzi3t, r_seqdl, r_seqdt, r_set, r_kse1, r_kse2, r_kse3, r_kse4, r_knx, r_st, r_kst1, r_kst2, r_kst3, r_sts0, r_unp, r_kup, r_kup2, r_exp, r_kex, r_ret, r_krt1, r_krt2, r_krt3, r_retn, r_iff, r_kif1, r_kif2, r_forr, r_kfo, r_step, r_ksp, r_stp1, r_stp2, r_stepc, r_kcp, r_kcp4, r_whl, r_ixs, r_kxs, r_kxs2, r_kxs6, r_kxs3, r_kxs41, r_kxs42, r_kxs5, r_pass, r_doc, r_brk, r_cont, r_ss0, r_ss1, r_kss1, r_kss2, r_kss3, r_kss4, r_krn1, r_krn2, r_krn3, r_lm0, r_lm1, r_lm2, r_klm, p_add, p_sub, p_neg, p_lt, p_le, p_gt, p_ge, p_abs, p_min, p_max, p_lenl, p_lent, p_tupl, p_tupt, p_lstl, p_lstt, p_revl, p_revt, p_inti, p_isN0, p_notN0, sc_none, sc_bool, sc_int, sc_str, sc_list, sc_tup, sc_dict, t_bool, m_rev, m_clr, ix_l, ix_t, kBi2, kBi, kUn, kCh2, kCh, kAn, kOr, kNo, kIt, kTu, kLs, kDi, kIx2, kIx, kSl3, kSl2, kSl, kFn, kIs, kCl, kMt, kEs2, kEs, kO, kTv, kTn, kTA, kTO, kTC, kSq, kRg, kRr2, kRr, kEn, kZi2, kZi, kCp3, kCp2, sl_small, slt_small, kst_any, kst_st, p_mod, p_fdiv, p_mul1, p_mul2, p_pow, p_eq, p_ne, p_catl, p_catt, m_app, m_ext, rng0, sts1, obind_some, rsbind_ok, List.getElem?_cons_zero, List.getElem?_cons_succ, List.set_cons_zero, List.set_cons_succ, List.map_nil, List.append_nil, List.nil_append, List.cons_append, if_true, if_false, ite_true, ite_false, Bool.false_eq_true, reduceIte, List.length_cons, List.length_nil, List.any_nil, List.any_cons, Bool.and_true, Bool.true_and, Bool.and_false, Bool.false_and, Bool.not_true, Bool.not_false, Bool.or_false, Bool.or_true, Bool.true_or, Bool.false_or, List.isEmpty_nil, List.isEmpty_cons, wipeE, startE, Nat.zero_add, Nat.reduceAdd, Nat.reduceSub, Nat.reduceLeDiff, Nat.le_refl, List.replicate_succ, List.replicate_zero, List.zipWith_cons_cons, List.zipWith_nil_left, List.zipWith_nil_right, Nat.reduceBEq, Nat.reduceEqDiff, decide_true, decide_false, Int.reduceLT, Int.reduceLE, Int.reduceNeg, Int.reduceToNat, Nat.reduceLT, List.take_succ_cons, List.take_zero, List.drop_succ_cons, List.drop_zero, eq_self, s3, s4, h2, h3, e, numI]
  obtain ⟨y3, y4, e⟩ := loop room ws 0 none none hr shn0 shn0
  simp -implicitDefEqProofs only [r_rd_v, r_rd_p, r_krd, r_rds0, r_rds, r_kco, r_pr, r_kpr, r_kpr2, r_var, r_kvar1, r_kvar2, r_kvar3, r_lit, r_gl, r_un, r_bi, r_cm, r_chn, r_kch3t, r_kch3f, r_and, r_or, r_and1, r_and2, r_or1, r_or2, r_kan2t, r_kan2f, r_kor2t, r_kor2f, r_not, r_kno2, r_ite, r_tup, r_lst, r_ktu2, r_kls2, r_dic, r_kdi2, r_dnewk, r_dnewt, r_ix, r_kix3, r_kix4, r_sl, r_ksl4l, r_ksl4t, r_fn, r_isI, r_kis2, r_call, r_kcl2, r_calla, r_kca2, r_kca3, r_kca4, r_kca5, r_arg0, r_arg, r_kar1, r_kar2, r_kar3, r_kar4, r_kar5, r_kar6, r_nomix0, r_nomix1, r_pm0, r_pm1, r_kpm, r_sh0, r_sh1, r_ksh1, r_ksh2, r_fz_v, r_fz_p, r_kfz1, r_kfz2, r_fzs0, r_fzs1, r_kfs, r_kfs3, r_isL, r_kisl1, r_kisl2, r_isO, r_kiso1, r_kiso2, r_mt, r_kmt2, r_kmt31, r_kmt32, r_kmt4, r_es0, r_es1, r_o0, r_o1, r_ko2, r_tv, r_ktv2, r_ktv3, r_tcm, r_tchn, r_ktb, r_tnot, r_tand, r_tor, r_ta0, r_ta1, r_to0, r_to1, r_c0, r_c1, r_seq, r_ksq2, r_ksq3, r_rng, r_krg2, r_rr, r_krr3, r_enum, r_ken2, r_ken3, r_zip, r_kzi4, r_kzi3l, r_kzi3t, r_seqdl, r_seqdt, r_set, r_kse1, r_kse2, r_kse3, r_kse4, r_knx, r_st, r_kst1, r_kst2, r_kst3, r_sts0, r_unp, r_kup, r_kup2, r_exp, r_kex, r_ret, r_krt1, r_krt2, r_krt3, r_retn, r_iff, r_kif1, r_kif2, r_forr, r_kfo, r_step, r_ksp, r_stp1, r_stp2, r_stepc, r_kcp, r_kcp4, r_whl, r_ixs, r_kxs, r_kxs2, r_kxs6, r_kxs3, r_kxs41, r_kxs42, r_kxs5, r_pass, r_doc, r_brk, r_cont, r_ss0, r_ss1, r_kss1, r_kss2, r_kss3, r_kss4, r_krn1, r_krn2, r_krn3, r_lm0, r_lm1, r_lm2, r_klm, p_add, p_sub, p_neg, p_lt, p_le, p_gt, p_ge, p_abs, p_min, p_max, p_lenl, p_lent, p_tupl, p_tupt, p_lstl, p_lstt, p_revl, p_revt, p_inti, p_isN0, p_notN0, sc_none, sc_bool, sc_int, sc_str, sc_list, sc_tup, sc_dict, t_bool, m_rev, m_clr, ix_l, ix_t, kBi2, kBi, kUn, kCh2, kCh, kAn, kOr, kNo, kIt, kTu, kLs, kDi, kIx2, kIx, kSl3, kSl2, kSl, kFn, kIs, kCl, kMt, kEs2, kEs, kO, kTv, kTn, kTA, kTO, kTC, kSq, kRg, kRr2, kRr, kEn, kZi2, kZi, kCp3, kCp2, sl_small, slt_small, kst_any, kst_st, p_mod, p_fdiv, p_mul1, p_mul2, p_pow, p_eq, p_ne, p_catl, p_catt, m_app, m_ext, rng0, sts1, obind_some, rsbind_ok, List.getElem?_cons_zero, List.getElem?_cons_succ, List.set_cons_zero, List.set_cons_succ, List.map_nil, List.append_nil, List.nil_append, List.cons_append, if_true, if_false, ite_true, ite_false, Bool.false_eq_true, reduceIte, List.length_cons, List.length_nil, List.any_nil, List.any_cons, Bool.and_true, Bool.true_and, Bool.and_false, Bool.false_and, Bool.not_true, Bool.not_false, Bool.or_false, Bool.or_true, Bool.true_or, Bool.false_or, List.isEmpty_nil, List.isEmpty_cons, wipeE, startE, Nat.zero_add, Nat.reduceAdd, Nat.reduceSub, Nat.reduceLeDiff, Nat.le_refl, List.replicate_succ, List.replicate_zero, List.zipWith_cons_cons, List.zipWith_nil_left, List.zipWith_nil_right, Nat.reduceBEq, Nat.reduceEqDiff, decide_true, decide_false, Int.reduceLT, Int.reduceLE, Int.reduceNeg, Int.reduceToNat, Nat.reduceLT, List.take_succ_cons, List.take_zero, List.drop_succ_cons, List.drop_zero, eq_self, e]
theorem slA {xs : List D} {z : Int} (h0 : 0 ≤ z) (h1 : z ≤ xs.length) : cutD xs none (some z) = xs.take z.toNat := by
  unfold cutD
  have e1 : HT.sIx xs.length 0 none = 0 := rfl
  have e2 : HT.sIx xs.length xs.length (some z) = z.toNat := by
    show (if z < 0 then (z + (xs.length : Int)).toNat else min z.toNat xs.length) = _
    rw [if_neg (by omega)]
    omega
  rw [e1, e2, List.drop_zero, Nat.sub_zero]
theorem slB {xs : List D} {z : Int} (h0 : 0 ≤ z) (h1 : z ≤ xs.length) : cutD xs (some z) none = xs.drop z.toNat := by
  unfold cutD
  have e1 : HT.sIx xs.length xs.length none = xs.length := rfl
  have e2 : HT.sIx xs.length 0 (some z) = z.toNat := by
    show (if z < 0 then (z + (xs.length : Int)).toNat else min z.toNat xs.length) = _
    rw [if_neg (by omega)]
    omega
  rw [e1, e2]
  exact List.take_of_length_le (by rw [List.length_drop]; exact Nat.le_refl _)
theorem changed_sem {ws : List Int} {i u : Int} (h0 : 0 ≤ i) (h1 : i < ws.length) (h2 : ws.length ≤ 1000) : f_changed.sem [tupI ws, .int i, .int u] = .ok false (tupI (ws.set i.toNat u)) [] := by
  rw [e_changed, runF_eq rfl (by decide)]
  unfold b_changed
  have ea : cutD (ws.map PyData.int) none (some i) = (ws.take i.toNat).map .int := by
    rw [slA h0 (by rw [List.length_map]; omega), List.map_take]
  have eb : cutD (ws.map PyData.int) (some (i + 1)) none = (ws.drop (i + 1).toNat).map .int := by
    rw [slB (by omega) (by rw [List.length_map]; omega), List.map_drop]
  have ec : prim .add [.tuple ((ws.take i.toNat).map .int), .tuple [.int u]] = some (false, tupI (ws.take i.toNat ++ [u])) := by
    have := p_catt (xs := (ws.take i.toNat).map PyData.int) (ys := [.int u]) (by rw [List.length_map, List.length_take, sl_eq]; show _ + 1 ≤ _; omega)
    unfold tupI
    rw [List.map_append]
    exact this
  have ed : prim .add [tupI (ws.take i.toNat ++ [u]), .tuple ((ws.drop (i + 1).toNat).map .int)] = some (false, tupI (ws.set i.toNat u)) := by
    have := p_catt (xs := (ws.take i.toNat ++ [u]).map PyData.int) (ys := (ws.drop (i + 1).toNat).map PyData.int) (by rw [List.length_map, List.length_map, List.length_append, List.length_take, List.length_drop, sl_eq]; show _ + 1 + _ ≤ _; omega)
    rw [← List.map_append] at this
    have e : (ws.take i.toNat ++ [u]) ++ ws.drop (i + 1).toNat = ws.set i.toNat u := by
      rw [List.set_eq_take_append_cons_drop, if_pos (by omega), List.append_assoc]
      have : (i + 1).toNat = i.toNat + 1 := by omega
      rw [this]
      rfl
    rw [e] at this
    exact this
  simp -implicitDefEqProofs only [r_rd_v, r_rd_p, r_krd, r_rds0, r_rds, r_kco, r_pr, r_kpr, r_kpr2, r_var, r_kvar1, r_kvar2, r_kvar3, r_lit, r_gl, r_un, r_bi, r_cm, r_chn, r_kch3t, r_kch3f, r_and, r_or, r_and1, r_and2, r_or1, r_or2, r_kan2t, r_kan2f, r_kor2t, r_kor2f, r_not, r_kno2, r_ite, r_tup, r_lst, r_ktu2, r_kls2, r_dic, r_kdi2, r_dnewk, r_dnewt, r_ix, r_kix3, r_kix4, r_sl, r_ksl4l, r_ksl4t, r_fn, r_isI, r_kis2, r_call, r_kcl2, r_calla, r_kca2, r_kca3, r_kca4, r_kca5, r_arg0, r_arg, r_kar1, r_kar2, r_kar3, r_kar4, r_kar5, r_kar6, r_nomix0, r_nomix1, r_pm0, r_pm1, r_kpm, r_sh0, r_sh1, r_ksh1, r_ksh2, r_fz_v, r_fz_p, r_kfz1, r_kfz2, r_fzs0, r_fzs1, r_kfs, r_kfs3, r_isL, r_kisl1, r_kisl2, r_isO, r_kiso1, r_kiso2, r_mt, r_kmt2, r_kmt31, r_kmt32, r_kmt4, r_es0, r_es1, r_o0, r_o1, r_ko2, r_tv, r_ktv2, r_ktv3, r_tcm, r_tchn, r_ktb, r_tnot, r_tand, r_tor, r_ta0, r_ta1, r_to0, r_to1, r_c0, r_c1, r_seq, r_ksq2, r_ksq3, r_rng, r_krg2, r_rr, r_krr3, r_enum, r_ken2, r_ken3, r_zip, r_kzi4, r_kzi3l, r_kzi3t, r_seqdl, r_seqdt, r_set, r_kse1, r_kse2, r_kse3, r_kse4, r_knx, r_st, r_kst1, r_kst2, r_kst3, r_sts0, r_unp, r_kup, r_kup2, r_exp, r_kex, r_ret, r_krt1, r_krt2, r_krt3, r_retn, r_iff, r_kif1, r_kif2, r_forr, r_kfo, r_step, r_ksp, r_stp1, r_stp2, r_stepc, r_kcp, r_kcp4, r_whl, r_ixs, r_kxs, r_kxs2, r_kxs6, r_kxs3, r_kxs41, r_kxs42, r_kxs5, r_pass, r_doc, r_brk, r_cont, r_ss0, r_ss1, r_kss1, r_kss2, r_kss3, r_kss4, r_krn1, r_krn2, r_krn3, r_lm0, r_lm1, r_lm2, r_klm, p_add, p_sub, p_neg, p_lt, p_le, p_gt, p_ge, p_abs, p_min, p_max, p_lenl, p_lent, p_tupl, p_tupt, p_lstl, p_lstt, p_revl, p_revt, p_inti, p_isN0, p_notN0, sc_none, sc_bool, sc_int, sc_str, sc_list, sc_tup, sc_dict, t_bool, m_rev, m_clr, ix_l, ix_t, kBi2, kBi, kUn, kCh2, kCh, kAn, kOr, kNo, kIt, kTu, kLs, kDi, kIx2, kIx, kSl3, kSl2, kSl, kFn, kIs, kCl, kMt, kEs2, kEs, kO, kTv, kTn, kTA, kTO, kTC, kSq, kRg, kRr2, kRr, kEn, kZi2, kZi, kCp3, kCp2, sl_small, slt_small, kst_any, kst_st, p_mod, p_fdiv, p_mul1, p_mul2, p_pow, p_eq, p_ne, p_catl, p_catt, m_app, m_ext, rng0, sts1, obind_some, rsbind_ok, List.getElem?_cons_zero, List.getElem?_cons_succ, List.set_cons_zero, List.set_cons_succ, List.map_nil, List.append_nil, List.nil_append, List.cons_append, if_true, if_false, ite_true, ite_false, Bool.false_eq_true, reduceIte, List.length_cons, List.length_nil, List.any_nil, List.any_cons, Bool.and_true, Bool.true_and, Bool.and_false, Bool.false_and, Bool.not_true, Bool.not_false, Bool.or_false, Bool.or_true, Bool.true_or, Bool.false_or, List.isEmpty_nil, List.isEmpty_cons, wipeE, startE, Nat.zero_add, Nat.reduceAdd, Nat.reduceSub, Nat.reduceLeDiff, Nat.le_refl, List.replicate_succ, List.replicate_zero, List.zipWith_cons_cons, List.zipWith_nil_left, List.zipWith_nil_right, Nat.reduceBEq, Nat.reduceEqDiff, decide_true, decide_false, Int.reduceLT, Int.reduceLE, Int.reduceNeg, Int.reduceToNat, Nat.reduceLT, List.take_succ_cons, List.take_zero, List.drop_succ_cons, List.drop_zero, eq_self, ti_sc, ti_seq, ti_ix, ti_len, ti_rev, ti_kt, ti_ki, ti_kb, ti_kl, ti_zip, ti_tup, p_ltt, p_all, sh_int, sh_tupI, eqv_int, eqv_tupI, show tupI ws = .tuple (ws.map .int) from rfl, ea, eb, ec, ed]
def inB (room ws : List Int) : Bool := (ws.zip room).all fun p => decide (0 ≤ p.1) && decide (p.1 < p.2)
theorem is_standing_sem {room ws : List Int} (hl : ws.length ≤ 1000) : f__law_is_standing.sem [tupI room, tupI ws] = .ok false (.bool (decide (ws.length = room.length) && inB room ws)) [] := by
  rw [e__law_is_standing, runF_eq rfl (by decide)]
  unfold b__law_is_standing
  by_cases hlen : ws.length = room.length
  · have hlen2 : (ws.length : Int) = (room.length : Int) := by omega
    have hc : evE [f__law_is_whole] (.comp (.and [(.call 0 [(.var 2)] []), (.chn .le .lt (.lit (.int 0)) (.var 2) (.var 3))]) (.tp [2, 3]) (.zip (.var 1) (.var 0)) [] [2, 3]) [some ⟨.sh, tupI room⟩, some ⟨.sh, tupI ws⟩, none, none] =
        .ok (.val true (.list (((ws.zip room).map fun p => decide (0 ≤ p.1) && decide (p.1 < p.2)).map .bool))) [some ⟨.sh, tupI room⟩, some ⟨.sh, tupI ws⟩, none, none] := by
      have := evE_comp_map (F := [f__law_is_whole]) (el := .and [(.call 0 [(.var 2)] []), (.chn .le .lt (.lit (.int 0)) (.var 2) (.var 3))]) (pt := .tp [2, 3]) (src := .zip (.var 1) (.var 0)) (cs := []) (own := [2, 3]) (e := [some ⟨.sh, tupI room⟩, some ⟨.sh, tupI ws⟩, none, none]) (e1 := [some ⟨.sh, tupI room⟩, some ⟨.sh, tupI ws⟩, none, none])
        (A := ws.zip room) (h := fun p => .tuple [.int p.1, .int p.2]) (g := fun p => some (.bool (decide (0 ≤ p.1) && decide (p.1 < p.2)))) (by simp -implicitDefEqProofs only [r_rd_v, r_rd_p, r_krd, r_rds0, r_rds, r_kco, r_pr, r_kpr, r_kpr2, r_var, r_kvar1, r_kvar2, r_kvar3, r_lit, r_gl, r_un, r_bi, r_cm, r_chn, r_kch3t, r_kch3f, r_and, r_or, r_and1, r_and2, r_or1, r_or2, r_kan2t, r_kan2f, r_kor2t, r_kor2f, r_not, r_kno2, r_ite, r_tup, r_lst, r_ktu2, r_kls2, r_dic, r_kdi2, r_dnewk, r_dnewt, r_ix, r_kix3, r_kix4, r_sl, r_ksl4l, r_ksl4t, r_fn, r_isI, r_kis2, r_call, r_kcl2, r_calla, r_kca2, r_kca3, r_kca4, r_kca5, r_arg0, r_arg, r_kar1, r_kar2, r_kar3, r_kar4, r_kar5, r_kar6, r_nomix0, r_nomix1, r_pm0, r_pm1, r_kpm, r_sh0, r_sh1, r_ksh1, r_ksh2, r_fz_v, r_fz_p, r_kfz1, r_kfz2, r_fzs0, r_fzs1, r_kfs, r_kfs3, r_isL, r_kisl1, r_kisl2, r_isO, r_kiso1, r_kiso2, r_mt, r_kmt2, r_kmt31, r_kmt32, r_kmt4, r_es0, r_es1, r_o0, r_o1, r_ko2, r_tv, r_ktv2, r_ktv3, r_tcm, r_tchn, r_ktb, r_tnot, r_tand, r_tor, r_ta0, r_ta1, r_to0, r_to1, r_c0, r_c1, r_seq, r_ksq2, r_ksq3, r_rng, r_krg2, r_rr, r_krr3, r_enum, r_ken2, r_ken3, r_zip, r_kzi4, r_kzi3l, r_kzi3t, r_seqdl, r_seqdt, r_set, r_kse1, r_kse2, r_kse3, r_kse4, r_knx, r_st, r_kst1, r_kst2, r_kst3, r_sts0, r_unp, r_kup, r_kup2, r_exp, r_kex, r_ret, r_krt1, r_krt2, r_krt3, r_retn, r_iff, r_kif1, r_kif2, r_forr, r_kfo, r_step, r_ksp, r_stp1, r_stp2, r_stepc, r_kcp, r_kcp4, r_whl, r_ixs, r_kxs, r_kxs2, r_kxs6, r_kxs3, r_kxs41, r_kxs42, r_kxs5, r_pass, r_doc, r_brk, r_cont, r_ss0, r_ss1, r_kss1, r_kss2, r_kss3, r_kss4, r_krn1, r_krn2, r_krn3, r_lm0, r_lm1, r_lm2, r_klm, p_add, p_sub, p_neg, p_lt, p_le, p_gt, p_ge, p_abs, p_min, p_max, p_lenl, p_lent, p_tupl, p_tupt, p_lstl, p_lstt, p_revl, p_revt, p_inti, p_isN0, p_notN0, sc_none, sc_bool, sc_int, sc_str, sc_list, sc_tup, sc_dict, t_bool, m_rev, m_clr, ix_l, ix_t, kBi2, kBi, kUn, kCh2, kCh, kAn, kOr, kNo, kIt, kTu, kLs, kDi, kIx2, kIx, kSl3, kSl2, kSl, kFn, kIs, kCl, kMt, kEs2, kEs, kO, kTv, kTn, kTA, kTO, kTC, kSq, kRg, kRr2, kRr, kEn, kZi2, kZi, kCp3, kCp2, sl_small, slt_small, kst_any, kst_st, p_mod, p_fdiv, p_mul1, p_mul2, p_pow, p_eq, p_ne, p_catl, p_catt, m_app, m_ext, rng0, sts1, obind_some, rsbind_ok, List.getElem?_cons_zero, List.getElem?_cons_succ, List.set_cons_zero, List.set_cons_succ, List.map_nil, List.append_nil, List.nil_append, List.cons_append, if_true, if_false, ite_true, ite_false, Bool.false_eq_true, reduceIte, List.length_cons, List.length_nil, List.any_nil, List.any_cons, Bool.and_true, Bool.true_and, Bool.and_false, Bool.false_and, Bool.not_true, Bool.not_false, Bool.or_false, Bool.or_true, Bool.true_or, Bool.false_or, List.isEmpty_nil, List.isEmpty_cons, wipeE, startE, Nat.zero_add, Nat.reduceAdd, Nat.reduceSub, Nat.reduceLeDiff, Nat.le_refl, List.replicate_succ, List.replicate_zero, List.zipWith_cons_cons, List.zipWith_nil_left, List.zipWith_nil_right, Nat.reduceBEq, Nat.reduceEqDiff, decide_true, decide_false, Int.reduceLT, Int.reduceLE, Int.reduceNeg, Int.reduceToNat, Nat.reduceLT, List.take_succ_cons, List.take_zero, List.drop_succ_cons, List.drop_zero, eq_self, ti_sc, ti_seq, ti_ix, ti_len, ti_rev, ti_kt, ti_ki, ti_kb, ti_kl, ti_zip, ti_tup, p_ltt, p_all, sh_int, sh_tupI, eqv_int, eqv_tupI]) rfl (by rw [List.length_zip, sl_eq]; omega) (fun p hp e he => by
          rw [r_stepc, he]
          by_cases h : 0 ≤ p.1
          · simp -implicitDefEqProofs only [r_rd_v, r_rd_p, r_krd, r_rds0, r_rds, r_kco, r_pr, r_kpr, r_kpr2, r_var, r_kvar1, r_kvar2, r_kvar3, r_lit, r_gl, r_un, r_bi, r_cm, r_chn, r_kch3t, r_kch3f, r_and, r_or, r_and1, r_and2, r_or1, r_or2, r_kan2t, r_kan2f, r_kor2t, r_kor2f, r_not, r_kno2, r_ite, r_tup, r_lst, r_ktu2, r_kls2, r_dic, r_kdi2, r_dnewk, r_dnewt, r_ix, r_kix3, r_kix4, r_sl, r_ksl4l, r_ksl4t, r_fn, r_isI, r_kis2, r_call, r_kcl2, r_calla, r_kca2, r_kca3, r_kca4, r_kca5, r_arg0, r_arg, r_kar1, r_kar2, r_kar3, r_kar4, r_kar5, r_kar6, r_nomix0, r_nomix1, r_pm0, r_pm1, r_kpm, r_sh0, r_sh1, r_ksh1, r_ksh2, r_fz_v, r_fz_p, r_kfz1, r_kfz2, r_fzs0, r_fzs1, r_kfs, r_kfs3, r_isL, r_kisl1, r_kisl2, r_isO, r_kiso1, r_kiso2, r_mt, r_kmt2, r_kmt31, r_kmt32, r_kmt4, r_es0, r_es1, r_o0, r_o1, r_ko2, r_tv, r_ktv2, r_ktv3, r_tcm, r_tchn, r_ktb, r_tnot, r_tand, r_tor, r_ta0, r_ta1, r_to0, r_to1, r_c0, r_c1, r_seq, r_ksq2, r_ksq3, r_rng, r_krg2, r_rr, r_krr3, r_enum, r_ken2, r_ken3, r_zip, r_kzi4, r_kzi3l, r_kzi3t, r_seqdl, r_seqdt, r_set, r_kse1, r_kse2, r_kse3, r_kse4, r_knx, r_st, r_kst1, r_kst2, r_kst3, r_sts0, r_unp, r_kup, r_kup2, r_exp, r_kex, r_ret, r_krt1, r_krt2, r_krt3, r_retn, r_iff, r_kif1, r_kif2, r_forr, r_kfo, r_step, r_ksp, r_stp1, r_stp2, r_stepc, r_kcp, r_kcp4, r_whl, r_ixs, r_kxs, r_kxs2, r_kxs6, r_kxs3, r_kxs41, r_kxs42, r_kxs5, r_pass, r_doc, r_brk, r_cont, r_ss0, r_ss1, r_kss1, r_kss2, r_kss3, r_kss4, r_krn1, r_krn2, r_krn3, r_lm0, r_lm1, r_lm2, r_klm, p_add, p_sub, p_neg, p_lt, p_le, p_gt, p_ge, p_abs, p_min, p_max, p_lenl, p_lent, p_tupl, p_tupt, p_lstl, p_lstt, p_revl, p_revt, p_inti, p_isN0, p_notN0, sc_none, sc_bool, sc_int, sc_str, sc_list, sc_tup, sc_dict, t_bool, m_rev, m_clr, ix_l, ix_t, kBi2, kBi, kUn, kCh2, kCh, kAn, kOr, kNo, kIt, kTu, kLs, kDi, kIx2, kIx, kSl3, kSl2, kSl, kFn, kIs, kCl, kMt, kEs2, kEs, kO, kTv, kTn, kTA, kTO, kTC, kSq, kRg, kRr2, kRr, kEn, kZi2, kZi, kCp3, kCp2, sl_small, slt_small, kst_any, kst_st, p_mod, p_fdiv, p_mul1, p_mul2, p_pow, p_eq, p_ne, p_catl, p_catt, m_app, m_ext, rng0, sts1, obind_some, rsbind_ok, List.getElem?_cons_zero, List.getElem?_cons_succ, List.set_cons_zero, List.set_cons_succ, List.map_nil, List.append_nil, List.nil_append, List.cons_append, if_true, if_false, ite_true, ite_false, Bool.false_eq_true, reduceIte, List.length_cons, List.length_nil, List.any_nil, List.any_cons, Bool.and_true, Bool.true_and, Bool.and_false, Bool.false_and, Bool.not_true, Bool.not_false, Bool.or_false, Bool.or_true, Bool.true_or, Bool.false_or, List.isEmpty_nil, List.isEmpty_cons, wipeE, startE, Nat.zero_add, Nat.reduceAdd, Nat.reduceSub, Nat.reduceLeDiff, Nat.le_refl, List.replicate_succ, List.replicate_zero, List.zipWith_cons_cons, List.zipWith_nil_left, List.zipWith_nil_right, Nat.reduceBEq, Nat.reduceEqDiff, decide_true, decide_false, Int.reduceLT, Int.reduceLE, Int.reduceNeg, Int.reduceToNat, Nat.reduceLT, List.take_succ_cons, List.take_zero, List.drop_succ_cons, List.drop_zero, eq_self, ti_sc, ti_seq, ti_ix, ti_len, ti_rev, ti_kt, ti_ki, ti_kb, ti_kl, ti_zip, ti_tup, p_ltt, p_all, sh_int, sh_tupI, eqv_int, eqv_tupI, m__law_is_whole, is_whole_sem, h]
            exact ⟨_, rfl, rfl⟩
          · simp -implicitDefEqProofs only [r_rd_v, r_rd_p, r_krd, r_rds0, r_rds, r_kco, r_pr, r_kpr, r_kpr2, r_var, r_kvar1, r_kvar2, r_kvar3, r_lit, r_gl, r_un, r_bi, r_cm, r_chn, r_kch3t, r_kch3f, r_and, r_or, r_and1, r_and2, r_or1, r_or2, r_kan2t, r_kan2f, r_kor2t, r_kor2f, r_not, r_kno2, r_ite, r_tup, r_lst, r_ktu2, r_kls2, r_dic, r_kdi2, r_dnewk, r_dnewt, r_ix, r_kix3, r_kix4, r_sl, r_ksl4l, r_ksl4t, r_fn, r_isI, r_kis2, r_call, r_kcl2, r_calla, r_kca2, r_kca3, r_kca4, r_kca5, r_arg0, r_arg, r_kar1, r_kar2, r_kar3, r_kar4, r_kar5, r_kar6, r_nomix0, r_nomix1, r_pm0, r_pm1, r_kpm, r_sh0, r_sh1, r_ksh1, r_ksh2, r_fz_v, r_fz_p, r_kfz1, r_kfz2, r_fzs0, r_fzs1, r_kfs, r_kfs3, r_isL, r_kisl1, r_kisl2, r_isO, r_kiso1, r_kiso2, r_mt, r_kmt2, r_kmt31, r_kmt32, r_kmt4, r_es0, r_es1, r_o0, r_o1, r_ko2, r_tv, r_ktv2, r_ktv3, r_tcm, r_tchn, r_ktb, r_tnot, r_tand, r_tor, r_ta0, r_ta1, r_to0, r_to1, r_c0, r_c1, r_seq, r_ksq2, r_ksq3, r_rng, r_krg2, r_rr, r_krr3, r_enum, r_ken2, r_ken3, r_zip, r_kzi4, r_kzi3l, r_kzi3t, r_seqdl, r_seqdt, r_set, r_kse1, r_kse2, r_kse3, r_kse4, r_knx, r_st, r_kst1, r_kst2, r_kst3, r_sts0, r_unp, r_kup, r_kup2, r_exp, r_kex, r_ret, r_krt1, r_krt2, r_krt3, r_retn, r_iff, r_kif1, r_kif2, r_forr, r_kfo, r_step, r_ksp, r_stp1, r_stp2, r_stepc, r_kcp, r_kcp4, r_whl, r_ixs, r_kxs, r_kxs2, r_kxs6, r_kxs3, r_kxs41, r_kxs42, r_kxs5, r_pass, r_doc, r_brk, r_cont, r_ss0, r_ss1, r_kss1, r_kss2, r_kss3, r_kss4, r_krn1, r_krn2, r_krn3, r_lm0, r_lm1, r_lm2, r_klm, p_add, p_sub, p_neg, p_lt, p_le, p_gt, p_ge, p_abs, p_min, p_max, p_lenl, p_lent, p_tupl, p_tupt, p_lstl, p_lstt, p_revl, p_revt, p_inti, p_isN0, p_notN0, sc_none, sc_bool, sc_int, sc_str, sc_list, sc_tup, sc_dict, t_bool, m_rev, m_clr, ix_l, ix_t, kBi2, kBi, kUn, kCh2, kCh, kAn, kOr, kNo, kIt, kTu, kLs, kDi, kIx2, kIx, kSl3, kSl2, kSl, kFn, kIs, kCl, kMt, kEs2, kEs, kO, kTv, kTn, kTA, kTO, kTC, kSq, kRg, kRr2, kRr, kEn, kZi2, kZi, kCp3, kCp2, sl_small, slt_small, kst_any, kst_st, p_mod, p_fdiv, p_mul1, p_mul2, p_pow, p_eq, p_ne, p_catl, p_catt, m_app, m_ext, rng0, sts1, obind_some, rsbind_ok, List.getElem?_cons_zero, List.getElem?_cons_succ, List.set_cons_zero, List.set_cons_succ, List.map_nil, List.append_nil, List.nil_append, List.cons_append, if_true, if_false, ite_true, ite_false, Bool.false_eq_true, reduceIte, List.length_cons, List.length_nil, List.any_nil, List.any_cons, Bool.and_true, Bool.true_and, Bool.and_false, Bool.false_and, Bool.not_true, Bool.not_false, Bool.or_false, Bool.or_true, Bool.true_or, Bool.false_or, List.isEmpty_nil, List.isEmpty_cons, wipeE, startE, Nat.zero_add, Nat.reduceAdd, Nat.reduceSub, Nat.reduceLeDiff, Nat.le_refl, List.replicate_succ, List.replicate_zero, List.zipWith_cons_cons, List.zipWith_nil_left, List.zipWith_nil_right, Nat.reduceBEq, Nat.reduceEqDiff, decide_true, decide_false, Int.reduceLT, Int.reduceLE, Int.reduceNeg, Int.reduceToNat, Nat.reduceLT, List.take_succ_cons, List.take_zero, List.drop_succ_cons, List.drop_zero, eq_self, ti_sc, ti_seq, ti_ix, ti_len, ti_rev, ti_kt, ti_ki, ti_kb, ti_kl, ti_zip, ti_tup, p_ltt, p_all, sh_int, sh_tupI, eqv_int, eqv_tupI, m__law_is_whole, is_whole_sem, h]
            exact ⟨_, rfl, rfl⟩)
      rw [fm_map] at this
      rw [this, List.map_map]
      rfl
    simp -implicitDefEqProofs only [r_rd_v, r_rd_p, r_krd, r_rds0, r_rds, r_kco, r_pr, r_kpr, r_kpr2, r_var, r_kvar1, r_kvar2, r_kvar3, r_lit, r_gl, r_un, r_bi, r_cm, r_chn, r_kch3t, r_kch3f, r_and, r_or, r_and1, r_and2, r_or1, r_or2, r_kan2t, r_kan2f, r_kor2t, r_kor2f, r_not, r_kno2, r_ite, r_tup, r_lst, r_ktu2, r_kls2, r_dic, r_kdi2, r_dnewk, r_dnewt, r_ix, r_kix3, r_kix4, r_sl, r_ksl4l, r_ksl4t, r_fn, r_isI, r_kis2, r_call, r_kcl2, r_calla, r_kca2, r_kca3, r_kca4, r_kca5, r_arg0, r_arg, r_kar1, r_kar2, r_kar3, r_kar4, r_kar5, r_kar6, r_nomix0, r_nomix1, r_pm0, r_pm1, r_kpm, r_sh0, r_sh1, r_ksh1, r_ksh2, r_fz_v, r_fz_p, r_kfz1, r_kfz2, r_fzs0, r_fzs1, r_kfs, r_kfs3, r_isL, r_kisl1, r_kisl2, r_isO, r_kiso1, r_kiso2, r_mt, r_kmt2, r_kmt31, r_kmt32, r_kmt4, r_es0, r_es1, r_o0, r_o1, r_ko2, r_tv, r_ktv2, r_ktv3, r_tcm, r_tchn, r_ktb, r_tnot, r_tand, r_tor, r_ta0, r_ta1, r_to0, r_to1, r_c0, r_c1, r_seq, r_ksq2, r_ksq3, r_rng, r_krg2, r_rr, r_krr3, r_enum, r_ken2, r_ken3, r_zip, r_kzi4, r_kzi3l, r_kzi3t, r_seqdl, r_seqdt, r_set, r_kse1, r_kse2, r_kse3, r_kse4, r_knx, r_st, r_kst1, r_kst2, r_kst3, r_sts0, r_unp, r_kup, r_kup2, r_exp, r_kex, r_ret, r_krt1, r_krt2, r_krt3, r_retn, r_iff, r_kif1, r_kif2, r_forr, r_kfo, r_step, r_ksp, r_stp1, r_stp2, r_stepc, r_kcp, r_kcp4, r_whl, r_ixs, r_kxs, r_kxs2, r_kxs6, r_kxs3, r_kxs41, r_kxs42, r_kxs5, r_pass, r_doc, r_brk, r_cont, r_ss0, r_ss1, r_kss1, r_kss2, r_kss3, r_kss4, r_krn1, r_krn2, r_krn3, r_lm0, r_lm1, r_lm2, r_klm, p_add, p_sub, p_neg, p_lt, p_le, p_gt, p_ge, p_abs, p_min, p_max, p_lenl, p_lent, p_tupl, p_tupt, p_lstl, p_lstt, p_revl, p_revt, p_inti, p_isN0, p_notN0, sc_none, sc_bool, sc_int, sc_str, sc_list, sc_tup, sc_dict, t_bool, m_rev, m_clr, ix_l, ix_t, kBi2, kBi, kUn, kCh2, kCh, kAn, kOr, kNo, kIt, kTu, kLs, kDi, kIx2, kIx, kSl3, kSl2, kSl, kFn, kIs, kCl, kMt, kEs2, kEs, kO, kTv, kTn, kTA, kTO, kTC, kSq, kRg, kRr2, kRr, kEn, kZi2, kZi, kCp3, kCp2, sl_small, slt_small, kst_any, kst_st, p_mod, p_fdiv, p_mul1, p_mul2, p_pow, p_eq, p_ne, p_catl, p_catt, m_app, m_ext, rng0, sts1, obind_some, rsbind_ok, List.getElem?_cons_zero, List.getElem?_cons_succ, List.set_cons_zero, List.set_cons_succ, List.map_nil, List.append_nil, List.nil_append, List.cons_append, if_true, if_false, ite_true, ite_false, Bool.false_eq_true, reduceIte, List.length_cons, List.length_nil, List.any_nil, List.any_cons, Bool.and_true, Bool.true_and, Bool.and_false, Bool.false_and, Bool.not_true, Bool.not_false, Bool.or_false, Bool.or_true, Bool.true_or, Bool.false_or, List.isEmpty_nil, List.isEmpty_cons, wipeE, startE, Nat.zero_add, Nat.reduceAdd, Nat.reduceSub, Nat.reduceLeDiff, Nat.le_refl, List.replicate_succ, List.replicate_zero, List.zipWith_cons_cons, List.zipWith_nil_left, List.zipWith_nil_right, Nat.reduceBEq, Nat.reduceEqDiff, decide_true, decide_false, Int.reduceLT, Int.reduceLE, Int.reduceNeg, Int.reduceToNat, Nat.reduceLT, List.take_succ_cons, List.take_zero, List.drop_succ_cons, List.drop_zero, eq_self, ti_sc, ti_seq, ti_ix, ti_len, ti_rev, ti_kt, ti_ki, ti_kb, ti_kl, ti_zip, ti_tup, p_ltt, p_all, sh_int, sh_tupI, eqv_int, eqv_tupI, hc, hlen, hlen2]
    unfold inB
    rw [List.all_map]
    rfl
  · have hlen2 : ¬ (ws.length : Int) = (room.length : Int) := by omega
    simp -implicitDefEqProofs only [r_rd_v, r_rd_p, r_krd, r_rds0, r_rds, r_kco, r_pr, r_kpr, r_kpr2, r_var, r_kvar1, r_kvar2, r_kvar3, r_lit, r_gl, r_un, r_bi, r_cm, r_chn, r_kch3t, r_kch3f, r_and, r_or, r_and1, r_and2, r_or1, r_or2, r_kan2t, r_kan2f, r_kor2t, r_kor2f, r_not, r_kno2, r_ite, r_tup, r_lst, r_ktu2, r_kls2, r_dic, r_kdi2, r_dnewk, r_dnewt, r_ix, r_kix3, r_kix4, r_sl, r_ksl4l, r_ksl4t, r_fn, r_isI, r_kis2, r_call, r_kcl2, r_calla, r_kca2, r_kca3, r_kca4, r_kca5, r_arg0, r_arg, r_kar1, r_kar2, r_kar3, r_kar4, r_kar5, r_kar6, r_nomix0, r_nomix1, r_pm0, r_pm1, r_kpm, r_sh0, r_sh1, r_ksh1, r_ksh2, r_fz_v, r_fz_p, r_kfz1, r_kfz2, r_fzs0, r_fzs1, r_kfs, r_kfs3, r_isL, r_kisl1, r_kisl2, r_isO, r_kiso1, r_kiso2, r_mt, r_kmt2, r_kmt31, r_kmt32, r_kmt4, r_es0, r_es1, r_o0, r_o1, r_ko2, r_tv, r_ktv2, r_ktv3, r_tcm, r_tchn, r_ktb, r_tnot, r_tand, r_tor, r_ta0, r_ta1, r_to0, r_to1, r_c0, r_c1, r_seq, r_ksq2, r_ksq3, r_rng, r_krg2, r_rr, r_krr3, r_enum, r_ken2, r_ken3, r_zip, r_kzi4, r_kzi3l, r_kzi3t, r_seqdl, r_seqdt, r_set, r_kse1, r_kse2, r_kse3, r_kse4, r_knx, r_st, r_kst1, r_kst2, r_kst3, r_sts0, r_unp, r_kup, r_kup2, r_exp, r_kex, r_ret, r_krt1, r_krt2, r_krt3, r_retn, r_iff, r_kif1, r_kif2, r_forr, r_kfo, r_step, r_ksp, r_stp1, r_stp2, r_stepc, r_kcp, r_kcp4, r_whl, r_ixs, r_kxs, r_kxs2, r_kxs6, r_kxs3, r_kxs41, r_kxs42, r_kxs5, r_pass, r_doc, r_brk, r_cont, r_ss0, r_ss1, r_kss1, r_kss2, r_kss3, r_kss4, r_krn1, r_krn2, r_krn3, r_lm0, r_lm1, r_lm2, r_klm, p_add, p_sub, p_neg, p_lt, p_le, p_gt, p_ge, p_abs, p_min, p_max, p_lenl, p_lent, p_tupl, p_tupt, p_lstl, p_lstt, p_revl, p_revt, p_inti, p_isN0, p_notN0, sc_none, sc_bool, sc_int, sc_str, sc_list, sc_tup, sc_dict, t_bool, m_rev, m_clr, ix_l, ix_t, kBi2, kBi, kUn, kCh2, kCh, kAn, kOr, kNo, kIt, kTu, kLs, kDi, kIx2, kIx, kSl3, kSl2, kSl, kFn, kIs, kCl, kMt, kEs2, kEs, kO, kTv, kTn, kTA, kTO, kTC, kSq, kRg, kRr2, kRr, kEn, kZi2, kZi, kCp3, kCp2, sl_small, slt_small, kst_any, kst_st, p_mod, p_fdiv, p_mul1, p_mul2, p_pow, p_eq, p_ne, p_catl, p_catt, m_app, m_ext, rng0, sts1, obind_some, rsbind_ok, List.getElem?_cons_zero, List.getElem?_cons_succ, List.set_cons_zero, List.set_cons_succ, List.map_nil, List.append_nil, List.nil_append, List.cons_append, if_true, if_false, ite_true, ite_false, Bool.false_eq_true, reduceIte, List.length_cons, List.length_nil, List.any_nil, List.any_cons, Bool.and_true, Bool.true_and, Bool.and_false, Bool.false_and, Bool.not_true, Bool.not_false, Bool.or_false, Bool.or_true, Bool.true_or, Bool.false_or, List.isEmpty_nil, List.isEmpty_cons, wipeE, startE, Nat.zero_add, Nat.reduceAdd, Nat.reduceSub, Nat.reduceLeDiff, Nat.le_refl, List.replicate_succ, List.replicate_zero, List.zipWith_cons_cons, List.zipWith_nil_left, List.zipWith_nil_right, Nat.reduceBEq, Nat.reduceEqDiff, decide_true, decide_false, Int.reduceLT, Int.reduceLE, Int.reduceNeg, Int.reduceToNat, Nat.reduceLT, List.take_succ_cons, List.take_zero, List.drop_succ_cons, List.drop_zero, eq_self, ti_sc, ti_seq, ti_ix, ti_len, ti_rev, ti_kt, ti_ki, ti_kb, ti_kl, ti_zip, ti_tup, p_ltt, p_all, sh_int, sh_tupI, eqv_int, eqv_tupI, hlen, hlen2]
theorem inB_of : ∀ {room ws : List Int}, InRoom room ws → inB room ws = true
  | [], [], _ => rfl
  | n :: room, w :: ws, ⟨h1, h2, h3⟩ => by
    have := inB_of h3
    unfold inB at this ⊢
    rw [List.zip_cons_cons, List.all_cons, this, decide_eq_true h1, decide_eq_true h2]
    rfl
theorem is_standing_ok {room ws : List Int} (h : InRoom room ws) (hl : room.length ≤ 1000) : f__law_is_standing.sem [tupI room, tupI ws] = .ok false (.bool true) [] := by
  rw [is_standing_sem (by rw [h.len]; exact hl), inB_of h, decide_eq_true h.len]
  rfl
theorem allS_take {room : List Int} {i : Nat} (h : i < (prodI room).toNat) : ((List.range (prodI room).toNat).take (i + 1)).map (fun (k : Nat) => stn room (k : Int)) = ((List.range (prodI room).toNat).take i).map (fun (k : Nat) => stn room (k : Int)) ++ [stn room (i : Int)] := by
  rw [List.take_add_one, List.getElem?_range h, List.map_append]
  rfl
theorem all_sem {most : Int} {room : List Int} (h : Room most room) (hm : most ≤ 1000) : f__law_all.sem [tupI room] = .ok true (.list (tupL (allS room))) [] := by
  rw [e__law_all, runF_eq rfl (by decide)]
  unfold b__law_all
  have hsz : f__law_size.sem [tupI room] = .ok false (.int (prodI room)) [] := size_sem fun n hn => by
    have := h.two n hn
    omega
  have hp0 := prodI_pos h.pos
  have hp1 := h.prod
  have hp2 : 0 ≤ prodI room := by omega
  have hp3 : prodI room < 4611686018427387904 := by omega
  have hlen := h.len
  simp -implicitDefEqProofs only [r_rd_v, r_rd_p, r_krd, r_rds0, r_rds, r_kco, r_pr, r_kpr, r_kpr2, r_var, r_kvar1, r_kvar2, r_kvar3, r_lit, r_gl, r_un, r_bi, r_cm, r_chn, r_kch3t, r_kch3f, r_and, r_or, r_and1, r_and2, r_or1, r_or2, r_kan2t, r_kan2f, r_kor2t, r_kor2f, r_not, r_kno2, r_ite, r_tup, r_lst, r_ktu2, r_kls2, r_dic, r_kdi2, r_dnewk, r_dnewt, r_ix, r_kix3, r_kix4, r_sl, r_ksl4l, r_ksl4t, r_fn, r_isI, r_kis2, r_call, r_kcl2, r_calla, r_kca2, r_kca3, r_kca4, r_kca5, r_arg0, r_arg, r_kar1, r_kar2, r_kar3, r_kar4, r_kar5, r_kar6, r_nomix0, r_nomix1, r_pm0, r_pm1, r_kpm, r_sh0, r_sh1, r_ksh1, r_ksh2, r_fz_v, r_fz_p, r_kfz1, r_kfz2, r_fzs0, r_fzs1, r_kfs, r_kfs3, r_isL, r_kisl1, r_kisl2, r_isO, r_kiso1, r_kiso2, r_mt, r_kmt2, r_kmt31, r_kmt32, r_kmt4, r_es0, r_es1, r_o0, r_o1, r_ko2, r_tv, r_ktv2, r_ktv3, r_tcm, r_tchn, r_ktb, r_tnot, r_tand, r_tor, r_ta0, r_ta1, r_to0, r_to1, r_c0, r_c1, r_seq, r_ksq2, r_ksq3, r_rng, r_krg2, r_rr, r_krr3, r_enum, r_ken2, r_ken3, r_zip, r_kzi4, r_kzi3l, r_kzi3t, r_seqdl, r_seqdt, r_set, r_kse1, r_kse2, r_kse3, r_kse4, r_knx, r_st, r_kst1, r_kst2, r_kst3, r_sts0, r_unp, r_kup, r_kup2, r_exp, r_kex, r_ret, r_krt1, r_krt2, r_krt3, r_retn, r_iff, r_kif1, r_kif2, r_forr, r_kfo, r_step, r_ksp, r_stp1, r_stp2, r_stepc, r_kcp, r_kcp4, r_whl, r_ixs, r_kxs, r_kxs2, r_kxs6, r_kxs3, r_kxs41, r_kxs42, r_kxs5, r_pass, r_doc, r_brk, r_cont, r_ss0, r_ss1, r_kss1, r_kss2, r_kss3, r_kss4, r_krn1, r_krn2, r_krn3, r_lm0, r_lm1, r_lm2, r_klm, p_add, p_sub, p_neg, p_lt, p_le, p_gt, p_ge, p_abs, p_min, p_max, p_lenl, p_lent, p_tupl, p_tupt, p_lstl, p_lstt, p_revl, p_revt, p_inti, p_isN0, p_notN0, sc_none, sc_bool, sc_int, sc_str, sc_list, sc_tup, sc_dict, t_bool, m_rev, m_clr, ix_l, ix_t, kBi2, kBi, kUn, kCh2, kCh, kAn, kOr, kNo, kIt, kTu, kLs, kDi, kIx2, kIx, kSl3, kSl2, kSl, kFn, kIs, kCl, kMt, kEs2, kEs, kO, kTv, kTn, kTA, kTO, kTC, kSq, kRg, kRr2, kRr, kEn, kZi2, kZi, kCp3, kCp2, sl_small, slt_small, kst_any, kst_st, p_mod, p_fdiv, p_mul1, p_mul2, p_pow, p_eq, p_ne, p_catl, p_catt, m_app, m_ext, rng0, sts1, obind_some, rsbind_ok, List.getElem?_cons_zero, List.getElem?_cons_succ, List.set_cons_zero, List.set_cons_succ, List.map_nil, List.append_nil, List.nil_append, List.cons_append, if_true, if_false, ite_true, ite_false, Bool.false_eq_true, reduceIte, List.length_cons, List.length_nil, List.any_nil, List.any_cons, Bool.and_true, Bool.true_and, Bool.and_false, Bool.false_and, Bool.not_true, Bool.not_false, Bool.or_false, Bool.or_true, Bool.true_or, Bool.false_or, List.isEmpty_nil, List.isEmpty_cons, wipeE, startE, Nat.zero_add, Nat.reduceAdd, Nat.reduceSub, Nat.reduceLeDiff, Nat.le_refl, List.replicate_succ, List.replicate_zero, List.zipWith_cons_cons, List.zipWith_nil_left, List.zipWith_nil_right, Nat.reduceBEq, Nat.reduceEqDiff, decide_true, decide_false, Int.reduceLT, Int.reduceLE, Int.reduceNeg, Int.reduceToNat, Nat.reduceLT, List.take_succ_cons, List.take_zero, List.drop_succ_cons, List.drop_zero, eq_self, ti_sc, ti_seq, ti_ix, ti_len, ti_rev, ti_kt, ti_ki, ti_kb, ti_kl, ti_zip, ti_tup, p_ltt, p_all, sh_int, sh_tupI, eqv_int, eqv_tupI, m__law_size, hsz, hp2, hp3]
  have inner : ∀ (R : List Int) (A : List D) (r : Int) (acc : List Int) (y4 : Option Sl), (∀ n ∈ R, 0 < n ∧ n < 1000) → acc.length + R.length ≤ 1000 → ShN y4 → ∃ r' y4', forL (stepF [f__law_size] (.nm 4) [.exp (.mt .append 3 [(.bi .mod (.var 2) (.var 4))]), .set 2 (.bi .fdiv (.var 2) (.var 4))]) (R.map .int)
      [some ⟨.sh, tupI room⟩, some ⟨.own, .list A⟩, some ⟨.sh, .int r⟩, some ⟨.own, .list (acc.map .int)⟩, y4] = .nx [some ⟨.sh, tupI room⟩, some ⟨.own, .list A⟩, some ⟨.sh, .int r'⟩, some ⟨.own, .list ((acc ++ digs R r).map .int)⟩, y4'] ∧ ShN y4' := by
    intro R
    induction R with
    | nil =>
      intro A r acc y4 _ _ s4
      refine ⟨r, y4, ?_, s4⟩
      simp only [List.map_nil, forL, digs, List.append_nil]
    | cons n R ih =>
      intro A r acc y4 hR hl s4
      have h1 := hR n List.mem_cons_self
      have h2 : 0 < n := h1.1
      have h3 : n < 1073741824 := by omega
      have ha : mtd .append (.list (acc.map .int)) [.int (r % n)] = some (.list ((acc ++ [r % n]).map .int), .none) := by
        rw [m_app (by rw [List.length_map, sl_eq]; simp only [List.length_cons] at hl; omega), List.map_append]
        rfl
      obtain ⟨r', y4', e, s4'⟩ := ih A (r / n) (acc ++ [r % n]) (some ⟨.sh, .int n⟩) (fun n hn => hR n (List.mem_cons_of_mem _ hn)) (by rw [List.length_append]; simp only [List.length_cons, List.length_nil] at hl ⊢; omega) shn1
      refine ⟨r', y4', ?_, s4'⟩
      rw [List.append_assoc] at e
      simp only [List.map_cons, forL, digs]
      simp -implicitDefEqProofs only [r_rd_v, r_rd_p, r_krd, r_rds0, r_rds, r_kco, r_pr, r_kpr, r_kpr2, r_var, r_kvar1, r_kvar2, r_kvar3, r_lit, r_gl, r_un, r_bi, r_cm, r_chn, r_kch3t, r_kch3f, r_and, r_or, r_and1, r_and2, r_or1, r_or2, r_kan2t, r_kan2f, r_kor2t, r_kor2f, r_not, r_kno2, r_ite, r_tup, r_lst, r_ktu2, r_kls2, r_dic, r_kdi2, r_dnewk, r_dnewt, r_ix, r_kix3, r_kix4, r_sl, r_ksl4l, r_ksl4t, r_fn, r_isI, r_kis2, r_call, r_kcl2, r_calla, r_kca2, r_kca3, r_kca4, r_kca5, r_arg0, r_arg, r_kar1, r_kar2, r_kar3, r_kar4, r_kar5, r_kar6, r_nomix0, r_nomix1, r_pm0, r_pm1, r_kpm, r_sh0, r_sh1, r_ksh1, r_ksh2, r_fz_v, r_fz_p, r_kfz1, r_kfz2, r_fzs0, r_fzs1, r_kfs, r_kfs3, r_isL, r_kisl1, r_kisl2, r_isO, r_kiso1, r_kiso2, r_mt, r_kmt2, r_kmt31, r_kmt32, r_kmt4, r_es0, r_es1, r_o0, r_o1, r_ko2, r_tv, r_ktv2, r_ktv3, r_tcm, r_tchn, r_ktb, r_tnot, r_tand, r_tor, r_ta0, r_ta1, r_to0, r_to1, r_c0, r_c1, r_seq, r_ksq2, r_ksq3, r_rng, r_krg2, r_rr, r_krr3, r_enum, r_ken2, r_ken3, r_zip, r_kzi4, r_kzi3l, r_kzi3t, r_seqdl, r_seqdt, r_set, r_kse1, r_kse2, r_kse3, r_kse4, r_knx, r_st, r_kst1, r_kst2, r_kst3, r_sts0, r_unp, r_kup, r_kup2, r_exp, r_kex, r_ret, r_krt1, r_krt2, r_krt3, r_retn, r_iff, r_kif1, r_kif2, r_forr, r_kfo, r_step, r_ksp, r_stp1, r_stp2, r_stepc, r_kcp, r_kcp4, r_whl, r_ixs, r_kxs, r_kxs2, r_kxs6, r_kxs3, r_kxs41, r_kxs42, r_kxs5, r_pass, r_doc, r_brk, r_cont, r_ss0, r_ss1, r_kss1, r_kss2, r_kss3, r_kss4, r_krn1, r_krn2, r_krn3, r_lm0, r_lm1, r_lm2, r_klm, p_add, p_sub, p_neg, p_lt, p_le, p_gt, p_ge, p_abs, p_min, p_max, p_lenl, p_lent, p_tupl, p_tupt, p_lstl, p_lstt, p_revl, p_revt, p_inti, p_isN0, p_notN0, sc_none, sc_bool, sc_int, sc_str, sc_list, sc_tup, sc_dict, t_bool, m_rev, m_clr, ix_l, ix_t, kBi2, kBi, kUn, kCh2, kCh, kAn, kOr, kNo, kIt, kTu, kLs, kDi, kIx2, kIx, kSl3, kSl2, kSl, kFn, kIs, kCl, kMt, kEs2, kEs, kO, kTv, kTn, kTA, kTO, kTC, kSq, kRg, kRr2, kRr, kEn, kZi2, kZi, kCp3, kCp2, sl_small, slt_small, kst_any, kst_st, p_mod, p_fdiv, p_mul1, p_mul2, p_pow, p_eq, p_ne, p_catl, p_catt, m_app, m_ext, rng0, sts1, obind_some, rsbind_ok, List.getElem?_cons_zero, List.getElem?_cons_succ, List.set_cons_zero, List.set_cons_succ, List.map_nil, List.append_nil, List.nil_append, List.cons_append, if_true, if_false, ite_true, ite_false, Bool.false_eq_true, reduceIte, List.length_cons, List.length_nil, List.any_nil, List.any_cons, Bool.and_true, Bool.true_and, Bool.and_false, Bool.false_and, Bool.not_true, Bool.not_false, Bool.or_false, Bool.or_true, Bool.true_or, Bool.false_or, List.isEmpty_nil, List.isEmpty_cons, wipeE, startE, Nat.zero_add, Nat.reduceAdd, Nat.reduceSub, Nat.reduceLeDiff, Nat.le_refl, List.replicate_succ, List.replicate_zero, List.zipWith_cons_cons, List.zipWith_nil_left, List.zipWith_nil_right, Nat.reduceBEq, Nat.reduceEqDiff, decide_true, decide_false, Int.reduceLT, Int.reduceLE, Int.reduceNeg, Int.reduceToNat, Nat.reduceLT, List.take_succ_cons, List.take_zero, List.drop_succ_cons, List.drop_zero, eq_self, s4, h2, h3, ha, e]
  generalize hL : forL _ _ _ = L
  have hI := forL_use hL (fun i e => ∃ y2 y3 y4, e = [some ⟨.sh, tupI room⟩, some ⟨.own, .list (tupL (((List.range (prodI room).toNat).take i).map fun (k : Nat) => stn room (k : Int)))⟩, y2, y3, y4] ∧ ShN y2 ∧ (y3 = none ∨ ∃ d, y3 = some ⟨.own, d⟩) ∧ ShN y4) ⟨none, none, none, rfl, shn0, .inl rfl, shn0⟩ (by
    intro i x e hx hI
    obtain ⟨y2, y3, y4, rfl, s2, s3, s4⟩ := hI
    obtain ⟨rfl, hi⟩ := rng_at hx
    obtain ⟨r', y4', e, s4'⟩ := inner room.reverse (tupL (((List.range (prodI room).toNat).take i).map fun (k : Nat) => stn room (k : Int))) (i : Int) [] y4 (fun n hn => by
      have := h.two n (List.mem_reverse.mp hn)
      omega) (by rw [List.length_reverse]; show 0 + _ ≤ _; omega) s4
    simp only [List.map_nil, List.nil_append] at e
    have ha : mtd .append (.list (tupL (((List.range (prodI room).toNat).take i).map fun (k : Nat) => stn room (k : Int)))) [.tuple ((stn room (i : Int)).map .int)] = some (.list (tupL (((List.range (prodI room).toNat).take (i + 1)).map fun (k : Nat) => stn room (k : Int))), .none) := by
      rw [m_app (by unfold tupL; rw [List.length_map, List.length_map, List.length_take, List.length_range, sl_eq]; omega), allS_take hi]
      unfold tupL
      rw [List.map_append]
      rfl
    have hrv : prim .rev [.list ((digs room.reverse (i : Int)).map .int)] = some (true, .list ((stn room (i : Int)).map .int)) := by
      show some (true, PyData.list (((digs room.reverse (i : Int)).map PyData.int).reverse)) = _
      rw [← List.map_reverse]
      rfl
    generalize hS : stepF _ _ _ _ _ = S'
    rcases s3 with rfl | ⟨d, rfl⟩ <;>
    · simp -implicitDefEqProofs only [r_rd_v, r_rd_p, r_krd, r_rds0, r_rds, r_kco, r_pr, r_kpr, r_kpr2, r_var, r_kvar1, r_kvar2, r_kvar3, r_lit, r_gl, r_un, r_bi, r_cm, r_chn, r_kch3t, r_kch3f, r_and, r_or, r_and1, r_and2, r_or1, r_or2, r_kan2t, r_kan2f, r_kor2t, r_kor2f, r_not, r_kno2, r_ite, r_tup, r_lst, r_ktu2, r_kls2, r_dic, r_kdi2, r_dnewk, r_dnewt, r_ix, r_kix3, r_kix4, r_sl, r_ksl4l, r_ksl4t, r_fn, r_isI, r_kis2, r_call, r_kcl2, r_calla, r_kca2, r_kca3, r_kca4, r_kca5, r_arg0, r_arg, r_kar1, r_kar2, r_kar3, r_kar4, r_kar5, r_kar6, r_nomix0, r_nomix1, r_pm0, r_pm1, r_kpm, r_sh0, r_sh1, r_ksh1, r_ksh2, r_fz_v, r_fz_p, r_kfz1, r_kfz2, r_fzs0, r_fzs1, r_kfs, r_kfs3, r_isL, r_kisl1, r_kisl2, r_isO, r_kiso1, r_kiso2, r_mt, r_kmt2, r_kmt31, r_kmt32, r_kmt4, r_es0, r_es1, r_o0, r_o1, r_ko2, r_tv, r_ktv2, r_ktv3, r_tcm, r_tchn, r_ktb, r_tnot, r_tand, r_tor, r_ta0, r_ta1, r_to0, r_to1, r_c0, r_c1, r_seq, r_ksq2, r_ksq3, r_rng, r_krg2, r_rr, r_krr3, r_enum, r_ken2, r_ken3, r_zip, r_kzi4, r_kzi3l, r_kzi3t, r_seqdl, r_seqdt, r_set, r_kse1, r_kse2, r_kse3, r_kse4, r_knx, r_st, r_kst1, r_kst2, r_kst3, r_sts0, r_unp, r_kup, r_kup2, r_exp, r_kex, r_ret, r_krt1, r_krt2, r_krt3, r_retn, r_iff, r_kif1, r_kif2, r_forr, r_kfo, r_step, r_ksp, r_stp1, r_stp2, r_stepc, r_kcp, r_kcp4, r_whl, r_ixs, r_kxs, r_kxs2, r_kxs6, r_kxs3, r_kxs41, r_kxs42, r_kxs5, r_pass, r_doc, r_brk, r_cont, r_ss0, r_ss1, r_kss1, r_kss2, r_kss3, r_kss4, r_krn1, r_krn2, r_krn3, r_lm0, r_lm1, r_lm2, r_klm, p_add, p_sub, p_neg, p_lt, p_le, p_gt, p_ge, p_abs, p_min, p_max, p_lenl, p_lent, p_tupl, p_tupt, p_lstl, p_lstt, p_revl, p_revt, p_inti, p_isN0, p_notN0, sc_none, sc_bool, sc_int, sc_str, sc_list, sc_tup, sc_dict, t_bool, m_rev, m_clr, ix_l, ix_t, kBi2, kBi, kUn, kCh2, kCh, kAn, kOr, kNo, kIt, kTu, kLs, kDi, kIx2, kIx, kSl3, kSl2, kSl, kFn, kIs, kCl, kMt, kEs2, kEs, kO, kTv, kTn, kTA, kTO, kTC, kSq, kRg, kRr2, kRr, kEn, kZi2, kZi, kCp3, kCp2, sl_small, slt_small, kst_any, kst_st, p_mod, p_fdiv, p_mul1, p_mul2, p_pow, p_eq, p_ne, p_catl, p_catt, m_app, m_ext, rng0, sts1, obind_some, rsbind_ok, List.getElem?_cons_zero, List.getElem?_cons_succ, List.set_cons_zero, List.set_cons_succ, List.map_nil, List.append_nil, List.nil_append, List.cons_append, if_true, if_false, ite_true, ite_false, Bool.false_eq_true, reduceIte, List.length_cons, List.length_nil, List.any_nil, List.any_cons, Bool.and_true, Bool.true_and, Bool.and_false, Bool.false_and, Bool.not_true, Bool.not_false, Bool.or_false, Bool.or_true, Bool.true_or, Bool.false_or, List.isEmpty_nil, List.isEmpty_cons, wipeE, startE, Nat.zero_add, Nat.reduceAdd, Nat.reduceSub, Nat.reduceLeDiff, Nat.le_refl, List.replicate_succ, List.replicate_zero, List.zipWith_cons_cons, List.zipWith_nil_left, List.zipWith_nil_right, Nat.reduceBEq, Nat.reduceEqDiff, decide_true, decide_false, Int.reduceLT, Int.reduceLE, Int.reduceNeg, Int.reduceToNat, Nat.reduceLT, List.take_succ_cons, List.take_zero, List.drop_succ_cons, List.drop_zero, eq_self, ti_sc, ti_seq, ti_ix, ti_len, ti_rev, ti_kt, ti_ki, ti_kb, ti_kl, ti_zip, ti_tup, p_ltt, p_all, sh_int, sh_tupI, eqv_int, eqv_tupI, s2, s4, e, hrv, ha, - p_revl] at hS
      subst hS
      exact ⟨_, rfl, _, _, _, rfl, shn1, .inr ⟨_, rfl⟩, s4'⟩)
  obtain ⟨e', rfl, y2, y3, y4, rfl, _⟩ := hI
  rw [List.length_map, List.length_range]
  simp -implicitDefEqProofs only [r_rd_v, r_rd_p, r_krd, r_rds0, r_rds, r_kco, r_pr, r_kpr, r_kpr2, r_var, r_kvar1, r_kvar2, r_kvar3, r_lit, r_gl, r_un, r_bi, r_cm, r_chn, r_kch3t, r_kch3f, r_and, r_or, r_and1, r_and2, r_or1, r_or2, r_kan2t, r_kan2f, r_kor2t, r_kor2f, r_not, r_kno2, r_ite, r_tup, r_lst, r_ktu2, r_kls2, r_dic, r_kdi2, r_dnewk, r_dnewt, r_ix, r_kix3, r_kix4, r_sl, r_ksl4l, r_ksl4t, r_fn, r_isI, r_kis2, r_call, r_kcl2, r_calla, r_kca2, r_kca3, r_kca4, r_kca5, r_arg0, r_arg, r_kar1, r_kar2, r_kar3, r_kar4, r_kar5, r_kar6, r_nomix0, r_nomix1, r_pm0, r_pm1, r_kpm, r_sh0, r_sh1, r_ksh1, r_ksh2, r_fz_v, r_fz_p, r_kfz1, r_kfz2, r_fzs0, r_fzs1, r_kfs, r_kfs3, r_isL, r_kisl1, r_kisl2, r_isO, r_kiso1, r_kiso2, r_mt, r_kmt2, r_kmt31, r_kmt32, r_kmt4, r_es0, r_es1, r_o0, r_o1, r_ko2, r_tv, r_ktv2, r_ktv3, r_tcm, r_tchn, r_ktb, r_tnot, r_tand, r_tor, r_ta0, r_ta1, r_to0, r_to1, r_c0, r_c1, r_seq, r_ksq2, r_ksq3, r_rng, r_krg2, r_rr, r_krr3, r_enum, r_ken2, r_ken3, r_zip, r_kzi4, r_kzi3l, r_kzi3t, r_seqdl, r_seqdt, r_set, r_kse1, r_kse2, r_kse3, r_kse4, r_knx, r_st, r_kst1, r_kst2, r_kst3, r_sts0, r_unp, r_kup, r_kup2, r_exp, r_kex, r_ret, r_krt1, r_krt2, r_krt3, r_retn, r_iff, r_kif1, r_kif2, r_forr, r_kfo, r_step, r_ksp, r_stp1, r_stp2, r_stepc, r_kcp, r_kcp4, r_whl, r_ixs, r_kxs, r_kxs2, r_kxs6, r_kxs3, r_kxs41, r_kxs42, r_kxs5, r_pass, r_doc, r_brk, r_cont, r_ss0, r_ss1, r_kss1, r_kss2, r_kss3, r_kss4, r_krn1, r_krn2, r_krn3, r_lm0, r_lm1, r_lm2, r_klm, p_add, p_sub, p_neg, p_lt, p_le, p_gt, p_ge, p_abs, p_min, p_max, p_lenl, p_lent, p_tupl, p_tupt, p_lstl, p_lstt, p_revl, p_revt, p_inti, p_isN0, p_notN0, sc_none, sc_bool, sc_int, sc_str, sc_list, sc_tup, sc_dict, t_bool, m_rev, m_clr, ix_l, ix_t, kBi2, kBi, kUn, kCh2, kCh, kAn, kOr, kNo, kIt, kTu, kLs, kDi, kIx2, kIx, kSl3, kSl2, kSl, kFn, kIs, kCl, kMt, kEs2, kEs, kO, kTv, kTn, kTA, kTO, kTC, kSq, kRg, kRr2, kRr, kEn, kZi2, kZi, kCp3, kCp2, sl_small, slt_small, kst_any, kst_st, p_mod, p_fdiv, p_mul1, p_mul2, p_pow, p_eq, p_ne, p_catl, p_catt, m_app, m_ext, rng0, sts1, obind_some, rsbind_ok, List.getElem?_cons_zero, List.getElem?_cons_succ, List.set_cons_zero, List.set_cons_succ, List.map_nil, List.append_nil, List.nil_append, List.cons_append, if_true, if_false, ite_true, ite_false, Bool.false_eq_true, reduceIte, List.length_cons, List.length_nil, List.any_nil, List.any_cons, Bool.and_true, Bool.true_and, Bool.and_false, Bool.false_and, Bool.not_true, Bool.not_false, Bool.or_false, Bool.or_true, Bool.true_or, Bool.false_or, List.isEmpty_nil, List.isEmpty_cons, wipeE, startE, Nat.zero_add, Nat.reduceAdd, Nat.reduceSub, Nat.reduceLeDiff, Nat.le_refl, List.replicate_succ, List.replicate_zero, List.zipWith_cons_cons, List.zipWith_nil_left, List.zipWith_nil_right, Nat.reduceBEq, Nat.reduceEqDiff, decide_true, decide_false, Int.reduceLT, Int.reduceLE, Int.reduceNeg, Int.reduceToNat, Nat.reduceLT, List.take_succ_cons, List.take_zero, List.drop_succ_cons, List.drop_zero, eq_self]
  unfold allS
  rw [List.take_of_length_le (by rw [List.length_range]; exact Nat.le_refl _)]
end CM
/-! PM6: comprehensions that change things outside. -/
namespace PD
open PySem
theorem back_wipe (e0 e : En) (own : List Nat) : backE e0 e own = backE e0 (wipeE e own) own := by
  refine List.ext_getElem? fun j => ?_
  rw [back_at, back_at, wipe_len]
  by_cases h : j ∈ own
  · rw [if_pos h, if_pos h]
  · rw [if_neg h, if_neg h, wipe_get, if_neg h]
theorem comp_st {α : Type} {step : D → En → Rs (Option D)} {own : List Nat} {h : α → D} {A : List α} (I : Nat → En → List D → Prop)
    (hs : ∀ (i : Nat) (a : α) (e : En) (ds : List D), A[i]? = some a → I i (wipeE e own) ds → ∃ e' r, step (h a) e = .ok r e' ∧ I (i + 1) (wipeE e' own) (ds ++ r.toList)) :
    ∀ (xs : List α) (i : Nat) (e : En) (ds : List D), A.drop i = xs → i + xs.length = A.length → I i (wipeE e own) ds → ∃ e' es, compL step (xs.map h) e = .ok es e' ∧ I A.length (wipeE e' own) (ds ++ es)
  | [], i, e, ds, _, hl, hI => ⟨e, [], rfl, by
    simp only [List.length_nil, Nat.add_zero] at hl
    subst hl
    rw [List.append_nil]
    exact hI⟩
  | x :: xs, i, e, ds, hd, hl, hI => by
    have hx : A[i]? = some x := by
      have := congrArg (·[0]?) hd
      simpa using this
    obtain ⟨e1, r, h1, h2⟩ := hs i x e ds hx hI
    obtain ⟨e2, es, h3, h4⟩ := comp_st I hs xs (i + 1) e1 (ds ++ r.toList) (by have := congrArg (List.drop 1) hd; simpa using this) (by simp only [List.length_cons] at hl; omega) h2
    refine ⟨e2, r.toList ++ es, ?_, by rw [← List.append_assoc]; exact h4⟩
    simp only [List.map_cons, compL, h1, rsbind_ok, h3]
    cases r <;> rfl
theorem evE_comp_st {α : Type} {F : List Fn} {el : IE} {pt : Pt} {src : Sr} {cs : List IT} {own : List Nat} {e e1 : En} {A : List α} {h : α → D} (I : Nat → En → List D → Prop) (hi : evI F src e = .ok (A.map h) e1) (ho : ownSh e1 own = true) (hl : A.length ≤ sizeLine) (h0 : I 0 (wipeE e1 own) [])
    (hs : ∀ (i : Nat) (a : α) (e : En) (ds : List D), A[i]? = some a → I i (wipeE e own) ds → ∃ e' r, stepC F el pt cs own (h a) e = .ok r e' ∧ I (i + 1) (wipeE e' own) (ds ++ r.toList)) :
    ∃ W ds, evE F (.comp el pt src cs own) e = .ok (.val true (.list ds)) (backE e1 W own) ∧ I A.length W ds := by
  obtain ⟨e', es, h1, h2⟩ := comp_st (step := stepC F el pt cs own) (h := h) (A := A) I hs A 0 e1 [] rfl (by omega) h0
  refine ⟨wipeE e' own, es, ?_, by simpa using h2⟩
  rw [evE_comp, hi, rsbind_ok, ho, decide_eq_true (show (A.map h).length ≤ sizeLine by rw [List.length_map]; exact hl)]
  simp only [Bool.and_self, if_true, h1, rsbind_ok, back_wipe e1 e' own]
end PD
/-! PM7: drawn standings. -/
namespace CM
open PySem PD
theorem inRoom_zero : ∀ (room : List Int), (∀ n ∈ room, 0 < n) → InRoom room (List.replicate room.length 0)
  | [], _ => trivial
  | n :: room, h => ⟨Int.le_refl 0, h n List.mem_cons_self, inRoom_zero room fun x hx => h x (List.mem_cons_of_mem _ hx)⟩
theorem inRoom_top : ∀ (room : List Int), (∀ n ∈ room, 0 < n) → InRoom room (room.map fun n => n - 1)
  | [], _ => trivial
  | n :: room, h => ⟨by have := h n List.mem_cons_self; show 0 ≤ n - 1; omega, by show n - 1 < n; omega, inRoom_top room fun x hx => h x (List.mem_cons_of_mem _ hx)⟩
theorem flat_zero (n : Nat) : (List.replicate n [PyData.int 0]).flatten = (List.replicate n (0 : Int)).map .int := by
  induction n with
  | zero => rfl
  | succ n ih =>
    rw [List.replicate_succ, List.flatten_cons, ih, List.replicate_succ]
    rfl
theorem p_rept {xs : List D} {k : Int} (h : -(2 ^ 62) < k ∧ k < 2 ^ 62 ∧ xs.length * k.toNat ≤ sizeLine) : prim .mul [.tuple xs, .int k] = some (false, .tuple (List.replicate k.toNat xs).flatten) := if_pos h
theorem standing_sem {b most : Int} {d : D} {room : List Int} (hp : Pen b d) (hb : b < 9000000) (R : Room most room) :
    ∃ ws d', f__law_standing.sem [d, tupI room] = .ok false (tupI ws) [d'] ∧ Pen (b + 9) d' ∧ InRoom room ws := by
  rw [e__law_standing, runF_eq rfl (by decide)]
  have hrl := R.len
  obtain ⟨way, d1, e1, p1, v0, v1⟩ := draw_sem hp (by omega) (show (0 : Int) < 5 by decide) (by decide)
  have hc : ∃ W ds, evE [f__law_draw] (.comp (.call 0 [(.var 0), (.var 4)] []) (.nm 4) (.seq (.var 1)) [] [4]) [some ⟨.mu, d1⟩, some ⟨.sh, tupI room⟩, some ⟨.sh, .int way⟩, none, none] =
      .ok (.val true (.list ds)) (backE [some ⟨.mu, d1⟩, some ⟨.sh, tupI room⟩, some ⟨.sh, .int way⟩, none, none] W [4]) ∧ ∃ d' ws, W = [some ⟨.mu, d'⟩, some ⟨.sh, tupI room⟩, some ⟨.sh, .int way⟩, none, none] ∧ Pen (b + 1 + (room.length : Int)) d' ∧ ds = ws.map .int ∧ InRoom (room.take room.length) ws := by
    refine evE_comp_st (F := [f__law_draw]) (el := .call 0 [(.var 0), (.var 4)] []) (pt := .nm 4) (src := .seq (.var 1)) (cs := []) (own := [4]) (e := [some ⟨.mu, d1⟩, some ⟨.sh, tupI room⟩, some ⟨.sh, .int way⟩, none, none]) (e1 := [some ⟨.mu, d1⟩, some ⟨.sh, tupI room⟩, some ⟨.sh, .int way⟩, none, none]) (A := room) (h := .int) (fun i W ds => ∃ d' ws, W = [some ⟨.mu, d'⟩, some ⟨.sh, tupI room⟩, some ⟨.sh, .int way⟩, none, none] ∧ Pen (b + 1 + (i : Int)) d' ∧ ds = ws.map .int ∧ InRoom (room.take i) ws) (by simp -implicitDefEqProofs only [r_rd_v, r_rd_p, r_krd, r_rds0, r_rds, r_kco, r_pr, r_kpr, r_kpr2, r_var, r_kvar1, r_kvar2, r_kvar3, r_lit, r_gl, r_un, r_bi, r_cm, r_chn, r_kch3t, r_kch3f, r_and, r_or, r_and1, r_and2, r_or1, r_or2, r_kan2t, r_kan2f, r_kor2t, r_kor2f, r_not, r_kno2, r_ite, r_tup, r_lst, r_ktu2, r_kls2, r_dic, r_kdi2, r_dnewk, r_dnewt, r_ix, r_kix3, r_kix4, r_sl, r_ksl4l, r_ksl4t, r_fn, r_isI, r_kis2, r_call, r_kcl2, r_calla, r_kca2, r_kca3, r_kca4, r_kca5, r_arg0, r_arg, r_kar1, r_kar2, r_kar3, r_kar4, r_kar5, r_kar6, r_nomix0, r_nomix1, r_pm0, r_pm1, r_kpm, r_sh0, r_sh1, r_ksh1, r_ksh2, r_fz_v, r_fz_p, r_kfz1, r_kfz2, r_fzs0, r_fzs1, r_kfs, r_kfs3, r_isL, r_kisl1, r_kisl2, r_isO, r_kiso1, r_kiso2, r_mt, r_kmt2, r_kmt31, r_kmt32, r_kmt4, r_es0, r_es1, r_o0, r_o1, r_ko2, r_tv, r_ktv2, r_ktv3, r_tcm, r_tchn, r_ktb, r_tnot, r_tand, r_tor, r_ta0, r_ta1, r_to0, r_to1, r_c0, r_c1, r_seq, r_ksq2, r_ksq3, r_rng, r_krg2, r_rr, r_krr3, r_enum, r_ken2, r_ken3, r_zip, r_kzi4, r_kzi3l, r_kzi3t, r_seqdl, r_seqdt, r_set, r_kse1, r_kse2, r_kse3, r_kse4, r_knx, r_st, r_kst1, r_kst2, r_kst3, r_sts0, r_unp, r_kup, r_kup2, r_exp, r_kex, r_ret, r_krt1, r_krt2, r_krt3, r_retn, r_iff, r_kif1, r_kif2, r_forr, r_kfo, r_step, r_ksp, r_stp1, r_stp2, r_stepc, r_kcp, r_kcp4, r_whl, r_ixs, r_kxs, r_kxs2, r_kxs6, r_kxs3, r_kxs41, r_kxs42, r_kxs5, r_pass, r_doc, r_brk, r_cont, r_ss0, r_ss1, r_kss1, r_kss2, r_kss3, r_kss4, r_krn1, r_krn2, r_krn3, r_lm0, r_lm1, r_lm2, r_klm, p_add, p_sub, p_neg, p_lt, p_le, p_gt, p_ge, p_abs, p_min, p_max, p_lenl, p_lent, p_tupl, p_tupt, p_lstl, p_lstt, p_revl, p_revt, p_inti, p_isN0, p_notN0, sc_none, sc_bool, sc_int, sc_str, sc_list, sc_tup, sc_dict, t_bool, m_rev, m_clr, ix_l, ix_t, kBi2, kBi, kUn, kCh2, kCh, kAn, kOr, kNo, kIt, kTu, kLs, kDi, kIx2, kIx, kSl3, kSl2, kSl, kFn, kIs, kCl, kMt, kEs2, kEs, kO, kTv, kTn, kTA, kTO, kTC, kSq, kRg, kRr2, kRr, kEn, kZi2, kZi, kCp3, kCp2, sl_small, slt_small, kst_any, kst_st, p_mod, p_fdiv, p_mul1, p_mul2, p_pow, p_eq, p_ne, p_catl, p_catt, m_app, m_ext, rng0, sts1, obind_some, rsbind_ok, List.getElem?_cons_zero, List.getElem?_cons_succ, List.set_cons_zero, List.set_cons_succ, List.map_nil, List.append_nil, List.nil_append, List.cons_append, if_true, if_false, ite_true, ite_false, Bool.false_eq_true, reduceIte, List.length_cons, List.length_nil, List.any_nil, List.any_cons, Bool.and_true, Bool.true_and, Bool.and_false, Bool.false_and, Bool.not_true, Bool.not_false, Bool.or_false, Bool.or_true, Bool.true_or, Bool.false_or, List.isEmpty_nil, List.isEmpty_cons, wipeE, startE, Nat.zero_add, Nat.reduceAdd, Nat.reduceSub, Nat.reduceLeDiff, Nat.le_refl, List.replicate_succ, List.replicate_zero, List.zipWith_cons_cons, List.zipWith_nil_left, List.zipWith_nil_right, Nat.reduceBEq, Nat.reduceEqDiff, decide_true, decide_false, Int.reduceLT, Int.reduceLE, Int.reduceNeg, Int.reduceToNat, Nat.reduceLT, List.take_succ_cons, List.take_zero, List.drop_succ_cons, List.drop_zero, eq_self, Int.reduceEq, ti_sc, ti_seq, ti_ix, ti_len, ti_rev, ti_kt, ti_ki, ti_kb, ti_kl, ti_zip, ti_tup, p_ltt, p_all, sh_int, sh_tupI, eqv_int, eqv_tupI]) rfl (by rw [sl_eq]; omega) ⟨d1, [], rfl, p1.mono (by omega), rfl, trivial⟩ ?_
    intro i n e ds hn hI
    obtain ⟨d2, ws, hW, p2, rfl, hin⟩ := hI
    have hi : i < room.length := (List.getElem?_eq_some_iff.mp hn).1
    have h2 := R.two n (List.mem_of_getElem? hn)
    obtain ⟨v, d3, e3, p3, u0, u1⟩ := draw_sem p2 (by omega) (show (0 : Int) < n by omega) (by omega)
    rw [r_stepc, hW]
    simp -implicitDefEqProofs only [r_rd_v, r_rd_p, r_krd, r_rds0, r_rds, r_kco, r_pr, r_kpr, r_kpr2, r_var, r_kvar1, r_kvar2, r_kvar3, r_lit, r_gl, r_un, r_bi, r_cm, r_chn, r_kch3t, r_kch3f, r_and, r_or, r_and1, r_and2, r_or1, r_or2, r_kan2t, r_kan2f, r_kor2t, r_kor2f, r_not, r_kno2, r_ite, r_tup, r_lst, r_ktu2, r_kls2, r_dic, r_kdi2, r_dnewk, r_dnewt, r_ix, r_kix3, r_kix4, r_sl, r_ksl4l, r_ksl4t, r_fn, r_isI, r_kis2, r_call, r_kcl2, r_calla, r_kca2, r_kca3, r_kca4, r_kca5, r_arg0, r_arg, r_kar1, r_kar2, r_kar3, r_kar4, r_kar5, r_kar6, r_nomix0, r_nomix1, r_pm0, r_pm1, r_kpm, r_sh0, r_sh1, r_ksh1, r_ksh2, r_fz_v, r_fz_p, r_kfz1, r_kfz2, r_fzs0, r_fzs1, r_kfs, r_kfs3, r_isL, r_kisl1, r_kisl2, r_isO, r_kiso1, r_kiso2, r_mt, r_kmt2, r_kmt31, r_kmt32, r_kmt4, r_es0, r_es1, r_o0, r_o1, r_ko2, r_tv, r_ktv2, r_ktv3, r_tcm, r_tchn, r_ktb, r_tnot, r_tand, r_tor, r_ta0, r_ta1, r_to0, r_to1, r_c0, r_c1, r_seq, r_ksq2, r_ksq3, r_rng, r_krg2, r_rr, r_krr3, r_enum, r_ken2, r_ken3, r_zip, r_kzi4, r_kzi3l, r_kzi3t, r_seqdl, r_seqdt, r_set, r_kse1, r_kse2, r_kse3, r_kse4, r_knx, r_st, r_kst1, r_kst2, r_kst3, r_sts0, r_unp, r_kup, r_kup2, r_exp, r_kex, r_ret, r_krt1, r_krt2, r_krt3, r_retn, r_iff, r_kif1, r_kif2, r_forr, r_kfo, r_step, r_ksp, r_stp1, r_stp2, r_stepc, r_kcp, r_kcp4, r_whl, r_ixs, r_kxs, r_kxs2, r_kxs6, r_kxs3, r_kxs41, r_kxs42, r_kxs5, r_pass, r_doc, r_brk, r_cont, r_ss0, r_ss1, r_kss1, r_kss2, r_kss3, r_kss4, r_krn1, r_krn2, r_krn3, r_lm0, r_lm1, r_lm2, r_klm, p_add, p_sub, p_neg, p_lt, p_le, p_gt, p_ge, p_abs, p_min, p_max, p_lenl, p_lent, p_tupl, p_tupt, p_lstl, p_lstt, p_revl, p_revt, p_inti, p_isN0, p_notN0, sc_none, sc_bool, sc_int, sc_str, sc_list, sc_tup, sc_dict, t_bool, m_rev, m_clr, ix_l, ix_t, kBi2, kBi, kUn, kCh2, kCh, kAn, kOr, kNo, kIt, kTu, kLs, kDi, kIx2, kIx, kSl3, kSl2, kSl, kFn, kIs, kCl, kMt, kEs2, kEs, kO, kTv, kTn, kTA, kTO, kTC, kSq, kRg, kRr2, kRr, kEn, kZi2, kZi, kCp3, kCp2, sl_small, slt_small, kst_any, kst_st, p_mod, p_fdiv, p_mul1, p_mul2, p_pow, p_eq, p_ne, p_catl, p_catt, m_app, m_ext, rng0, sts1, obind_some, rsbind_ok, List.getElem?_cons_zero, List.getElem?_cons_succ, List.set_cons_zero, List.set_cons_succ, List.map_nil, List.append_nil, List.nil_append, List.cons_append, if_true, if_false, ite_true, ite_false, Bool.false_eq_true, reduceIte, List.length_cons, List.length_nil, List.any_nil, List.any_cons, Bool.and_true, Bool.true_and, Bool.and_false, Bool.false_and, Bool.not_true, Bool.not_false, Bool.or_false, Bool.or_true, Bool.true_or, Bool.false_or, List.isEmpty_nil, List.isEmpty_cons, wipeE, startE, Nat.zero_add, Nat.reduceAdd, Nat.reduceSub, Nat.reduceLeDiff, Nat.le_refl, List.replicate_succ, List.replicate_zero, List.zipWith_cons_cons, List.zipWith_nil_left, List.zipWith_nil_right, Nat.reduceBEq, Nat.reduceEqDiff, decide_true, decide_false, Int.reduceLT, Int.reduceLE, Int.reduceNeg, Int.reduceToNat, Nat.reduceLT, List.take_succ_cons, List.take_zero, List.drop_succ_cons, List.drop_zero, eq_self, Int.reduceEq, m__law_draw, e3]
    refine ⟨_, _, rfl, d3, ws ++ [v], rfl, p3.mono (by omega), by rw [List.map_append]; rfl, ?_⟩
    rw [List.take_add_one, hn]
    exact inRoom_app hin ⟨u0, u1, trivial⟩
  obtain ⟨W, ds, hc, d2, ws, rfl, p2, rfl, hin⟩ := hc
  rw [List.take_length] at hin
  have p3 : Pen (b + 9) d2 := p2.mono (by omega)
  unfold b__law_standing
  by_cases h0 : way = 0
  · subst h0
    have hm : prim .mul [.tuple [.int 0], .int (room.length : Int)] = some (false, tupI (List.replicate room.length 0)) := by
      rw [p_rept ⟨by omega, by omega, by rw [sl_eq]; show 1 * _ ≤ _; omega⟩, Int.toNat_natCast, flat_zero]
      rfl
    simp -implicitDefEqProofs only [r_rd_v, r_rd_p, r_krd, r_rds0, r_rds, r_kco, r_pr, r_kpr, r_kpr2, r_var, r_kvar1, r_kvar2, r_kvar3, r_lit, r_gl, r_un, r_bi, r_cm, r_chn, r_kch3t, r_kch3f, r_and, r_or, r_and1, r_and2, r_or1, r_or2, r_kan2t, r_kan2f, r_kor2t, r_kor2f, r_not, r_kno2, r_ite, r_tup, r_lst, r_ktu2, r_kls2, r_dic, r_kdi2, r_dnewk, r_dnewt, r_ix, r_kix3, r_kix4, r_sl, r_ksl4l, r_ksl4t, r_fn, r_isI, r_kis2, r_call, r_kcl2, r_calla, r_kca2, r_kca3, r_kca4, r_kca5, r_arg0, r_arg, r_kar1, r_kar2, r_kar3, r_kar4, r_kar5, r_kar6, r_nomix0, r_nomix1, r_pm0, r_pm1, r_kpm, r_sh0, r_sh1, r_ksh1, r_ksh2, r_fz_v, r_fz_p, r_kfz1, r_kfz2, r_fzs0, r_fzs1, r_kfs, r_kfs3, r_isL, r_kisl1, r_kisl2, r_isO, r_kiso1, r_kiso2, r_mt, r_kmt2, r_kmt31, r_kmt32, r_kmt4, r_es0, r_es1, r_o0, r_o1, r_ko2, r_tv, r_ktv2, r_ktv3, r_tcm, r_tchn, r_ktb, r_tnot, r_tand, r_tor, r_ta0, r_ta1, r_to0, r_to1, r_c0, r_c1, r_seq, r_ksq2, r_ksq3, r_rng, r_krg2, r_rr, r_krr3, r_enum, r_ken2, r_ken3, r_zip, r_kzi4, r_kzi3l, r_kzi3t, r_seqdl, r_seqdt, r_set, r_kse1, r_kse2, r_kse3, r_kse4, r_knx, r_st, r_kst1, r_kst2, r_kst3, r_sts0, r_unp, r_kup, r_kup2, r_exp, r_kex, r_ret, r_krt1, r_krt2, r_krt3, r_retn, r_iff, r_kif1, r_kif2, r_forr, r_kfo, r_step, r_ksp, r_stp1, r_stp2, r_stepc, r_kcp, r_kcp4, r_whl, r_ixs, r_kxs, r_kxs2, r_kxs6, r_kxs3, r_kxs41, r_kxs42, r_kxs5, r_pass, r_doc, r_brk, r_cont, r_ss0, r_ss1, r_kss1, r_kss2, r_kss3, r_kss4, r_krn1, r_krn2, r_krn3, r_lm0, r_lm1, r_lm2, r_klm, p_add, p_sub, p_neg, p_lt, p_le, p_gt, p_ge, p_abs, p_min, p_max, p_lenl, p_lent, p_tupl, p_tupt, p_lstl, p_lstt, p_revl, p_revt, p_inti, p_isN0, p_notN0, sc_none, sc_bool, sc_int, sc_str, sc_list, sc_tup, sc_dict, t_bool, m_rev, m_clr, ix_l, ix_t, kBi2, kBi, kUn, kCh2, kCh, kAn, kOr, kNo, kIt, kTu, kLs, kDi, kIx2, kIx, kSl3, kSl2, kSl, kFn, kIs, kCl, kMt, kEs2, kEs, kO, kTv, kTn, kTA, kTO, kTC, kSq, kRg, kRr2, kRr, kEn, kZi2, kZi, kCp3, kCp2, sl_small, slt_small, kst_any, kst_st, p_mod, p_fdiv, p_mul1, p_mul2, p_pow, p_eq, p_ne, p_catl, p_catt, m_app, m_ext, rng0, sts1, obind_some, rsbind_ok, List.getElem?_cons_zero, List.getElem?_cons_succ, List.set_cons_zero, List.set_cons_succ, List.map_nil, List.append_nil, List.nil_append, List.cons_append, if_true, if_false, ite_true, ite_false, Bool.false_eq_true, reduceIte, List.length_cons, List.length_nil, List.any_nil, List.any_cons, Bool.and_true, Bool.true_and, Bool.and_false, Bool.false_and, Bool.not_true, Bool.not_false, Bool.or_false, Bool.or_true, Bool.true_or, Bool.false_or, List.isEmpty_nil, List.isEmpty_cons, wipeE, startE, Nat.zero_add, Nat.reduceAdd, Nat.reduceSub, Nat.reduceLeDiff, Nat.le_refl, List.replicate_succ, List.replicate_zero, List.zipWith_cons_cons, List.zipWith_nil_left, List.zipWith_nil_right, Nat.reduceBEq, Nat.reduceEqDiff, decide_true, decide_false, Int.reduceLT, Int.reduceLE, Int.reduceNeg, Int.reduceToNat, Nat.reduceLT, List.take_succ_cons, List.take_zero, List.drop_succ_cons, List.drop_zero, eq_self, Int.reduceEq, ti_sc, ti_seq, ti_ix, ti_len, ti_rev, ti_kt, ti_ki, ti_kb, ti_kl, ti_zip, ti_tup, p_ltt, p_all, sh_int, sh_tupI, eqv_int, eqv_tupI, m__law_draw, e1, hc, backE, hm]
    exact ⟨_, _, rfl, p3, inRoom_zero room R.pos⟩
  · by_cases h1 : way = 1
    · subst h1
      have hc2 : evE [f__law_draw] (.comp (.bi .sub (.var 4) (.lit (.int 1))) (.nm 4) (.seq (.var 1)) [] [4]) [some ⟨.mu, d2⟩, some ⟨.sh, tupI room⟩, some ⟨.sh, .int 1⟩, some ⟨.own, .list (ws.map .int)⟩, none] =
          .ok (.val true (.list (room.filterMap fun n => some (.int (n - 1))))) [some ⟨.mu, d2⟩, some ⟨.sh, tupI room⟩, some ⟨.sh, .int 1⟩, some ⟨.own, .list (ws.map .int)⟩, none] := by
        refine evE_comp_map (e1 := [some ⟨.mu, d2⟩, some ⟨.sh, tupI room⟩, some ⟨.sh, .int 1⟩, some ⟨.own, .list (ws.map .int)⟩, none]) (h := .int) (by simp -implicitDefEqProofs only [r_rd_v, r_rd_p, r_krd, r_rds0, r_rds, r_kco, r_pr, r_kpr, r_kpr2, r_var, r_kvar1, r_kvar2, r_kvar3, r_lit, r_gl, r_un, r_bi, r_cm, r_chn, r_kch3t, r_kch3f, r_and, r_or, r_and1, r_and2, r_or1, r_or2, r_kan2t, r_kan2f, r_kor2t, r_kor2f, r_not, r_kno2, r_ite, r_tup, r_lst, r_ktu2, r_kls2, r_dic, r_kdi2, r_dnewk, r_dnewt, r_ix, r_kix3, r_kix4, r_sl, r_ksl4l, r_ksl4t, r_fn, r_isI, r_kis2, r_call, r_kcl2, r_calla, r_kca2, r_kca3, r_kca4, r_kca5, r_arg0, r_arg, r_kar1, r_kar2, r_kar3, r_kar4, r_kar5, r_kar6, r_nomix0, r_nomix1, r_pm0, r_pm1, r_kpm, r_sh0, r_sh1, r_ksh1, r_ksh2, r_fz_v, r_fz_p, r_kfz1, r_kfz2, r_fzs0, r_fzs1, r_kfs, r_kfs3, r_isL, r_kisl1, r_kisl2, r_isO, r_kiso1, r_kiso2, r_mt, r_kmt2, r_kmt31, r_kmt32, r_kmt4, r_es0, r_es1, r_o0, r_o1, r_ko2, r_tv, r_ktv2, r_ktv3, r_tcm, r_tchn, r_ktb, r_tnot, r_tand, r_tor, r_ta0, r_ta1, r_to0, r_to1, r_c0, r_c1, r_seq, r_ksq2, r_ksq3, r_rng, r_krg2, r_rr, r_krr3, r_enum, r_ken2, r_ken3, r_zip, r_kzi4, r_kzi3l, r_kzi3t, r_seqdl, r_seqdt, r_set, r_kse1, r_kse2, r_kse3, r_kse4, r_knx, r_st, r_kst1, r_kst2, r_kst3, r_sts0, r_unp, r_kup, r_kup2, r_exp, r_kex, r_ret, r_krt1, r_krt2, r_krt3, r_retn, r_iff, r_kif1, r_kif2, r_forr, r_kfo, r_step, r_ksp, r_stp1, r_stp2, r_stepc, r_kcp, r_kcp4, r_whl, r_ixs, r_kxs, r_kxs2, r_kxs6, r_kxs3, r_kxs41, r_kxs42, r_kxs5, r_pass, r_doc, r_brk, r_cont, r_ss0, r_ss1, r_kss1, r_kss2, r_kss3, r_kss4, r_krn1, r_krn2, r_krn3, r_lm0, r_lm1, r_lm2, r_klm, p_add, p_sub, p_neg, p_lt, p_le, p_gt, p_ge, p_abs, p_min, p_max, p_lenl, p_lent, p_tupl, p_tupt, p_lstl, p_lstt, p_revl, p_revt, p_inti, p_isN0, p_notN0, sc_none, sc_bool, sc_int, sc_str, sc_list, sc_tup, sc_dict, t_bool, m_rev, m_clr, ix_l, ix_t, kBi2, kBi, kUn, kCh2, kCh, kAn, kOr, kNo, kIt, kTu, kLs, kDi, kIx2, kIx, kSl3, kSl2, kSl, kFn, kIs, kCl, kMt, kEs2, kEs, kO, kTv, kTn, kTA, kTO, kTC, kSq, kRg, kRr2, kRr, kEn, kZi2, kZi, kCp3, kCp2, sl_small, slt_small, kst_any, kst_st, p_mod, p_fdiv, p_mul1, p_mul2, p_pow, p_eq, p_ne, p_catl, p_catt, m_app, m_ext, rng0, sts1, obind_some, rsbind_ok, List.getElem?_cons_zero, List.getElem?_cons_succ, List.set_cons_zero, List.set_cons_succ, List.map_nil, List.append_nil, List.nil_append, List.cons_append, if_true, if_false, ite_true, ite_false, Bool.false_eq_true, reduceIte, List.length_cons, List.length_nil, List.any_nil, List.any_cons, Bool.and_true, Bool.true_and, Bool.and_false, Bool.false_and, Bool.not_true, Bool.not_false, Bool.or_false, Bool.or_true, Bool.true_or, Bool.false_or, List.isEmpty_nil, List.isEmpty_cons, wipeE, startE, Nat.zero_add, Nat.reduceAdd, Nat.reduceSub, Nat.reduceLeDiff, Nat.le_refl, List.replicate_succ, List.replicate_zero, List.zipWith_cons_cons, List.zipWith_nil_left, List.zipWith_nil_right, Nat.reduceBEq, Nat.reduceEqDiff, decide_true, decide_false, Int.reduceLT, Int.reduceLE, Int.reduceNeg, Int.reduceToNat, Nat.reduceLT, List.take_succ_cons, List.take_zero, List.drop_succ_cons, List.drop_zero, eq_self, Int.reduceEq, ti_sc, ti_seq, ti_ix, ti_len, ti_rev, ti_kt, ti_ki, ti_kb, ti_kl, ti_zip, ti_tup, p_ltt, p_all, sh_int, sh_tupI, eqv_int, eqv_tupI]) rfl (by rw [sl_eq]; omega) fun n hn e he => ?_
        rw [r_stepc, he]
        simp -implicitDefEqProofs only [r_rd_v, r_rd_p, r_krd, r_rds0, r_rds, r_kco, r_pr, r_kpr, r_kpr2, r_var, r_kvar1, r_kvar2, r_kvar3, r_lit, r_gl, r_un, r_bi, r_cm, r_chn, r_kch3t, r_kch3f, r_and, r_or, r_and1, r_and2, r_or1, r_or2, r_kan2t, r_kan2f, r_kor2t, r_kor2f, r_not, r_kno2, r_ite, r_tup, r_lst, r_ktu2, r_kls2, r_dic, r_kdi2, r_dnewk, r_dnewt, r_ix, r_kix3, r_kix4, r_sl, r_ksl4l, r_ksl4t, r_fn, r_isI, r_kis2, r_call, r_kcl2, r_calla, r_kca2, r_kca3, r_kca4, r_kca5, r_arg0, r_arg, r_kar1, r_kar2, r_kar3, r_kar4, r_kar5, r_kar6, r_nomix0, r_nomix1, r_pm0, r_pm1, r_kpm, r_sh0, r_sh1, r_ksh1, r_ksh2, r_fz_v, r_fz_p, r_kfz1, r_kfz2, r_fzs0, r_fzs1, r_kfs, r_kfs3, r_isL, r_kisl1, r_kisl2, r_isO, r_kiso1, r_kiso2, r_mt, r_kmt2, r_kmt31, r_kmt32, r_kmt4, r_es0, r_es1, r_o0, r_o1, r_ko2, r_tv, r_ktv2, r_ktv3, r_tcm, r_tchn, r_ktb, r_tnot, r_tand, r_tor, r_ta0, r_ta1, r_to0, r_to1, r_c0, r_c1, r_seq, r_ksq2, r_ksq3, r_rng, r_krg2, r_rr, r_krr3, r_enum, r_ken2, r_ken3, r_zip, r_kzi4, r_kzi3l, r_kzi3t, r_seqdl, r_seqdt, r_set, r_kse1, r_kse2, r_kse3, r_kse4, r_knx, r_st, r_kst1, r_kst2, r_kst3, r_sts0, r_unp, r_kup, r_kup2, r_exp, r_kex, r_ret, r_krt1, r_krt2, r_krt3, r_retn, r_iff, r_kif1, r_kif2, r_forr, r_kfo, r_step, r_ksp, r_stp1, r_stp2, r_stepc, r_kcp, r_kcp4, r_whl, r_ixs, r_kxs, r_kxs2, r_kxs6, r_kxs3, r_kxs41, r_kxs42, r_kxs5, r_pass, r_doc, r_brk, r_cont, r_ss0, r_ss1, r_kss1, r_kss2, r_kss3, r_kss4, r_krn1, r_krn2, r_krn3, r_lm0, r_lm1, r_lm2, r_klm, p_add, p_sub, p_neg, p_lt, p_le, p_gt, p_ge, p_abs, p_min, p_max, p_lenl, p_lent, p_tupl, p_tupt, p_lstl, p_lstt, p_revl, p_revt, p_inti, p_isN0, p_notN0, sc_none, sc_bool, sc_int, sc_str, sc_list, sc_tup, sc_dict, t_bool, m_rev, m_clr, ix_l, ix_t, kBi2, kBi, kUn, kCh2, kCh, kAn, kOr, kNo, kIt, kTu, kLs, kDi, kIx2, kIx, kSl3, kSl2, kSl, kFn, kIs, kCl, kMt, kEs2, kEs, kO, kTv, kTn, kTA, kTO, kTC, kSq, kRg, kRr2, kRr, kEn, kZi2, kZi, kCp3, kCp2, sl_small, slt_small, kst_any, kst_st, p_mod, p_fdiv, p_mul1, p_mul2, p_pow, p_eq, p_ne, p_catl, p_catt, m_app, m_ext, rng0, sts1, obind_some, rsbind_ok, List.getElem?_cons_zero, List.getElem?_cons_succ, List.set_cons_zero, List.set_cons_succ, List.map_nil, List.append_nil, List.nil_append, List.cons_append, if_true, if_false, ite_true, ite_false, Bool.false_eq_true, reduceIte, List.length_cons, List.length_nil, List.any_nil, List.any_cons, Bool.and_true, Bool.true_and, Bool.and_false, Bool.false_and, Bool.not_true, Bool.not_false, Bool.or_false, Bool.or_true, Bool.true_or, Bool.false_or, List.isEmpty_nil, List.isEmpty_cons, wipeE, startE, Nat.zero_add, Nat.reduceAdd, Nat.reduceSub, Nat.reduceLeDiff, Nat.le_refl, List.replicate_succ, List.replicate_zero, List.zipWith_cons_cons, List.zipWith_nil_left, List.zipWith_nil_right, Nat.reduceBEq, Nat.reduceEqDiff, decide_true, decide_false, Int.reduceLT, Int.reduceLE, Int.reduceNeg, Int.reduceToNat, Nat.reduceLT, List.take_succ_cons, List.take_zero, List.drop_succ_cons, List.drop_zero, eq_self, Int.reduceEq]
        exact ⟨_, rfl, rfl⟩
      rw [fm_map] at hc2
      simp -implicitDefEqProofs only [r_rd_v, r_rd_p, r_krd, r_rds0, r_rds, r_kco, r_pr, r_kpr, r_kpr2, r_var, r_kvar1, r_kvar2, r_kvar3, r_lit, r_gl, r_un, r_bi, r_cm, r_chn, r_kch3t, r_kch3f, r_and, r_or, r_and1, r_and2, r_or1, r_or2, r_kan2t, r_kan2f, r_kor2t, r_kor2f, r_not, r_kno2, r_ite, r_tup, r_lst, r_ktu2, r_kls2, r_dic, r_kdi2, r_dnewk, r_dnewt, r_ix, r_kix3, r_kix4, r_sl, r_ksl4l, r_ksl4t, r_fn, r_isI, r_kis2, r_call, r_kcl2, r_calla, r_kca2, r_kca3, r_kca4, r_kca5, r_arg0, r_arg, r_kar1, r_kar2, r_kar3, r_kar4, r_kar5, r_kar6, r_nomix0, r_nomix1, r_pm0, r_pm1, r_kpm, r_sh0, r_sh1, r_ksh1, r_ksh2, r_fz_v, r_fz_p, r_kfz1, r_kfz2, r_fzs0, r_fzs1, r_kfs, r_kfs3, r_isL, r_kisl1, r_kisl2, r_isO, r_kiso1, r_kiso2, r_mt, r_kmt2, r_kmt31, r_kmt32, r_kmt4, r_es0, r_es1, r_o0, r_o1, r_ko2, r_tv, r_ktv2, r_ktv3, r_tcm, r_tchn, r_ktb, r_tnot, r_tand, r_tor, r_ta0, r_ta1, r_to0, r_to1, r_c0, r_c1, r_seq, r_ksq2, r_ksq3, r_rng, r_krg2, r_rr, r_krr3, r_enum, r_ken2, r_ken3, r_zip, r_kzi4, r_kzi3l, r_kzi3t, r_seqdl, r_seqdt, r_set, r_kse1, r_kse2, r_kse3, r_kse4, r_knx, r_st, r_kst1, r_kst2, r_kst3, r_sts0, r_unp, r_kup, r_kup2, r_exp, r_kex, r_ret, r_krt1, r_krt2, r_krt3, r_retn, r_iff, r_kif1, r_kif2, r_forr, r_kfo, r_step, r_ksp, r_stp1, r_stp2, r_stepc, r_kcp, r_kcp4, r_whl, r_ixs, r_kxs, r_kxs2, r_kxs6, r_kxs3, r_kxs41, r_kxs42, r_kxs5, r_pass, r_doc, r_brk, r_cont, r_ss0, r_ss1, r_kss1, r_kss2, r_kss3, r_kss4, r_krn1, r_krn2, r_krn3, r_lm0, r_lm1, r_lm2, r_klm, p_add, p_sub, p_neg, p_lt, p_le, p_gt, p_ge, p_abs, p_min, p_max, p_lenl, p_lent, p_tupl, p_tupt, p_lstl, p_lstt, p_revl, p_revt, p_inti, p_isN0, p_notN0, sc_none, sc_bool, sc_int, sc_str, sc_list, sc_tup, sc_dict, t_bool, m_rev, m_clr, ix_l, ix_t, kBi2, kBi, kUn, kCh2, kCh, kAn, kOr, kNo, kIt, kTu, kLs, kDi, kIx2, kIx, kSl3, kSl2, kSl, kFn, kIs, kCl, kMt, kEs2, kEs, kO, kTv, kTn, kTA, kTO, kTC, kSq, kRg, kRr2, kRr, kEn, kZi2, kZi, kCp3, kCp2, sl_small, slt_small, kst_any, kst_st, p_mod, p_fdiv, p_mul1, p_mul2, p_pow, p_eq, p_ne, p_catl, p_catt, m_app, m_ext, rng0, sts1, obind_some, rsbind_ok, List.getElem?_cons_zero, List.getElem?_cons_succ, List.set_cons_zero, List.set_cons_succ, List.map_nil, List.append_nil, List.nil_append, List.cons_append, if_true, if_false, ite_true, ite_false, Bool.false_eq_true, reduceIte, List.length_cons, List.length_nil, List.any_nil, List.any_cons, Bool.and_true, Bool.true_and, Bool.and_false, Bool.false_and, Bool.not_true, Bool.not_false, Bool.or_false, Bool.or_true, Bool.true_or, Bool.false_or, List.isEmpty_nil, List.isEmpty_cons, wipeE, startE, Nat.zero_add, Nat.reduceAdd, Nat.reduceSub, Nat.reduceLeDiff, Nat.le_refl, List.replicate_succ, List.replicate_zero, List.zipWith_cons_cons, List.zipWith_nil_left, List.zipWith_nil_right, Nat.reduceBEq, Nat.reduceEqDiff, decide_true, decide_false, Int.reduceLT, Int.reduceLE, Int.reduceNeg, Int.reduceToNat, Nat.reduceLT, List.take_succ_cons, List.take_zero, List.drop_succ_cons, List.drop_zero, eq_self, Int.reduceEq, ti_sc, ti_seq, ti_ix, ti_len, ti_rev, ti_kt, ti_ki, ti_kb, ti_kl, ti_zip, ti_tup, p_ltt, p_all, sh_int, sh_tupI, eqv_int, eqv_tupI, m__law_draw, e1, hc, backE, hc2]
      refine ⟨room.map fun n => n - 1, d2, ?_, p3, inRoom_top room R.pos⟩
      unfold tupI
      rw [List.map_map]
      rfl
    · simp -implicitDefEqProofs only [r_rd_v, r_rd_p, r_krd, r_rds0, r_rds, r_kco, r_pr, r_kpr, r_kpr2, r_var, r_kvar1, r_kvar2, r_kvar3, r_lit, r_gl, r_un, r_bi, r_cm, r_chn, r_kch3t, r_kch3f, r_and, r_or, r_and1, r_and2, r_or1, r_or2, r_kan2t, r_kan2f, r_kor2t, r_kor2f, r_not, r_kno2, r_ite, r_tup, r_lst, r_ktu2, r_kls2, r_dic, r_kdi2, r_dnewk, r_dnewt, r_ix, r_kix3, r_kix4, r_sl, r_ksl4l, r_ksl4t, r_fn, r_isI, r_kis2, r_call, r_kcl2, r_calla, r_kca2, r_kca3, r_kca4, r_kca5, r_arg0, r_arg, r_kar1, r_kar2, r_kar3, r_kar4, r_kar5, r_kar6, r_nomix0, r_nomix1, r_pm0, r_pm1, r_kpm, r_sh0, r_sh1, r_ksh1, r_ksh2, r_fz_v, r_fz_p, r_kfz1, r_kfz2, r_fzs0, r_fzs1, r_kfs, r_kfs3, r_isL, r_kisl1, r_kisl2, r_isO, r_kiso1, r_kiso2, r_mt, r_kmt2, r_kmt31, r_kmt32, r_kmt4, r_es0, r_es1, r_o0, r_o1, r_ko2, r_tv, r_ktv2, r_ktv3, r_tcm, r_tchn, r_ktb, r_tnot, r_tand, r_tor, r_ta0, r_ta1, r_to0, r_to1, r_c0, r_c1, r_seq, r_ksq2, r_ksq3, r_rng, r_krg2, r_rr, r_krr3, r_enum, r_ken2, r_ken3, r_zip, r_kzi4, r_kzi3l, r_kzi3t, r_seqdl, r_seqdt, r_set, r_kse1, r_kse2, r_kse3, r_kse4, r_knx, r_st, r_kst1, r_kst2, r_kst3, r_sts0, r_unp, r_kup, r_kup2, r_exp, r_kex, r_ret, r_krt1, r_krt2, r_krt3, r_retn, r_iff, r_kif1, r_kif2, r_forr, r_kfo, r_step, r_ksp, r_stp1, r_stp2, r_stepc, r_kcp, r_kcp4, r_whl, r_ixs, r_kxs, r_kxs2, r_kxs6, r_kxs3, r_kxs41, r_kxs42, r_kxs5, r_pass, r_doc, r_brk, r_cont, r_ss0, r_ss1, r_kss1, r_kss2, r_kss3, r_kss4, r_krn1, r_krn2, r_krn3, r_lm0, r_lm1, r_lm2, r_klm, p_add, p_sub, p_neg, p_lt, p_le, p_gt, p_ge, p_abs, p_min, p_max, p_lenl, p_lent, p_tupl, p_tupt, p_lstl, p_lstt, p_revl, p_revt, p_inti, p_isN0, p_notN0, sc_none, sc_bool, sc_int, sc_str, sc_list, sc_tup, sc_dict, t_bool, m_rev, m_clr, ix_l, ix_t, kBi2, kBi, kUn, kCh2, kCh, kAn, kOr, kNo, kIt, kTu, kLs, kDi, kIx2, kIx, kSl3, kSl2, kSl, kFn, kIs, kCl, kMt, kEs2, kEs, kO, kTv, kTn, kTA, kTO, kTC, kSq, kRg, kRr2, kRr, kEn, kZi2, kZi, kCp3, kCp2, sl_small, slt_small, kst_any, kst_st, p_mod, p_fdiv, p_mul1, p_mul2, p_pow, p_eq, p_ne, p_catl, p_catt, m_app, m_ext, rng0, sts1, obind_some, rsbind_ok, List.getElem?_cons_zero, List.getElem?_cons_succ, List.set_cons_zero, List.set_cons_succ, List.map_nil, List.append_nil, List.nil_append, List.cons_append, if_true, if_false, ite_true, ite_false, Bool.false_eq_true, reduceIte, List.length_cons, List.length_nil, List.any_nil, List.any_cons, Bool.and_true, Bool.true_and, Bool.and_false, Bool.false_and, Bool.not_true, Bool.not_false, Bool.or_false, Bool.or_true, Bool.true_or, Bool.false_or, List.isEmpty_nil, List.isEmpty_cons, wipeE, startE, Nat.zero_add, Nat.reduceAdd, Nat.reduceSub, Nat.reduceLeDiff, Nat.le_refl, List.replicate_succ, List.replicate_zero, List.zipWith_cons_cons, List.zipWith_nil_left, List.zipWith_nil_right, Nat.reduceBEq, Nat.reduceEqDiff, decide_true, decide_false, Int.reduceLT, Int.reduceLE, Int.reduceNeg, Int.reduceToNat, Nat.reduceLT, List.take_succ_cons, List.take_zero, List.drop_succ_cons, List.drop_zero, eq_self, Int.reduceEq, ti_sc, ti_seq, ti_ix, ti_len, ti_rev, ti_kt, ti_ki, ti_kb, ti_kl, ti_zip, ti_tup, p_ltt, p_all, sh_int, sh_tupI, eqv_int, eqv_tupI, m__law_draw, e1, hc, backE, h0, h1]
      exact ⟨_, _, rfl, p3, hin⟩
end CM
/-! PM8: drawn givens. -/
namespace CM
open PySem PD
def pairD (p : Int × Int) : D := .tuple [.int p.1, .int p.2]
def givD (g : List (Int × Int)) : D := .tuple (g.map pairD)
/-- boxes below i, rising, with worths of the room -/
structure GivB (room : List Int) (i : Nat) (g : List (Int × Int)) : Prop where
  box : ∀ p ∈ g, 0 ≤ p.1 ∧ p.1 < (i : Int)
  worth : ∀ p ∈ g, ∃ n, room[p.1.toNat]? = some n ∧ 0 ≤ p.2 ∧ p.2 < n
  rise : g.Pairwise fun p q => p.1 < q.1
theorem GivB.len {room : List Int} {i : Nat} {g : List (Int × Int)} (h : GivB room i g) : g.length ≤ i := by
  have : ∀ (g : List (Int × Int)) (lo : Int), (∀ p ∈ g, lo ≤ p.1 ∧ p.1 < (i : Int)) → g.Pairwise (fun p q => p.1 < q.1) → lo ≤ (i : Int) → (g.length : Int) ≤ (i : Int) - lo := by
    intro g
    induction g with
    | nil => intro lo _ _ h; show (0 : Int) ≤ _; omega
    | cons p g ih =>
      intro lo hb hp hlo
      have h1 := hb p List.mem_cons_self
      rw [List.pairwise_cons] at hp
      have := ih (p.1 + 1) (fun q hq => ⟨by have := hp.1 q hq; omega, (hb q (List.mem_cons_of_mem _ hq)).2⟩) hp.2 (by omega)
      rw [List.length_cons]
      omega
  have := this g 0 h.box h.rise (by omega)
  omega
theorem enum_at {ns : List Int} {i : Nat} {x : D} (h : (enumD (ns.map .int))[i]? = some x) : ∃ n, ns[i]? = some n ∧ x = .tuple [.int (i : Int), .int n] := by
  unfold enumD at h
  rw [List.getElem?_zipWith] at h
  by_cases hi : i < ns.length
  · rw [List.getElem?_range (by rw [List.length_map]; exact hi), List.getElem?_map, List.getElem?_eq_getElem hi] at h
    cases h
    exact ⟨_, List.getElem?_eq_getElem hi, rfl⟩
  · rw [List.getElem?_eq_none (by rw [List.length_range, List.length_map]; omega)] at h
    cases h
theorem enum_len (ns : List Int) : (enumD (ns.map .int)).length = ns.length := by
  unfold enumD
  rw [List.length_zipWith, List.length_range, List.length_map, Nat.min_self]
theorem ti_enum {ns : List Int} {e : En} : kEn2 (some (tupI ns, e)) = .ok (enumD (ns.map .int)) e := rfl
theorem atD_bool {bs : List Bool} {i : Int} (h0 : 0 ≤ i) (h1 : i < bs.length) : ∃ t, atD (bs.map .bool) i = some (.bool t) := by
  unfold atD
  rw [if_pos h0, List.getElem?_map, List.getElem?_eq_getElem (by omega)]
  exact ⟨_, rfl⟩
theorem given_sem {b most apart : Int} {d : D} {room : List Int} (hp : Pen b d) (hb : b < 9000000) (R : Room most room) :
    ∃ g d', f__law_given.sem [d, tupI room, .int apart] = .ok false (givD g) [d'] ∧ Pen (b + 30) d' ∧ GivB room room.length g ∧ ∀ p ∈ g, p.1 ≠ apart := by
  rw [e__law_given, runF_eq rfl (by decide)]
  have hrl := R.len
  have hrne : 0 < room.length := List.length_pos_iff.mpr R.ne
  obtain ⟨way, d1, e1, p1, v0, v1⟩ := draw_sem hp (by omega) (show (0 : Int) < 5 by decide) (by decide)
  obtain ⟨lone, d2, e2, p2, l0, l1⟩ := draw_sem p1 (by omega) (show (0 : Int) < (room.length : Int) by omega) (by omega)
  unfold b__law_given
  simp -implicitDefEqProofs only [r_rd_v, r_rd_p, r_krd, r_rds0, r_rds, r_kco, r_pr, r_kpr, r_kpr2, r_var, r_kvar1, r_kvar2, r_kvar3, r_lit, r_gl, r_un, r_bi, r_cm, r_chn, r_kch3t, r_kch3f, r_and, r_or, r_and1, r_and2, r_or1, r_or2, r_kan2t, r_kan2f, r_kor2t, r_kor2f, r_not, r_kno2, r_ite, r_tup, r_lst, r_ktu2, r_kls2, r_dic, r_kdi2, r_dnewk, r_dnewt, r_ix, r_kix3, r_kix4, r_sl, r_ksl4l, r_ksl4t, r_fn, r_isI, r_kis2, r_call, r_kcl2, r_calla, r_kca2, r_kca3, r_kca4, r_kca5, r_arg0, r_arg, r_kar1, r_kar2, r_kar3, r_kar4, r_kar5, r_kar6, r_nomix0, r_nomix1, r_pm0, r_pm1, r_kpm, r_sh0, r_sh1, r_ksh1, r_ksh2, r_fz_v, r_fz_p, r_kfz1, r_kfz2, r_fzs0, r_fzs1, r_kfs, r_kfs3, r_isL, r_kisl1, r_kisl2, r_isO, r_kiso1, r_kiso2, r_mt, r_kmt2, r_kmt31, r_kmt32, r_kmt4, r_es0, r_es1, r_o0, r_o1, r_ko2, r_tv, r_ktv2, r_ktv3, r_tcm, r_tchn, r_ktb, r_tnot, r_tand, r_tor, r_ta0, r_ta1, r_to0, r_to1, r_c0, r_c1, r_seq, r_ksq2, r_ksq3, r_rng, r_krg2, r_rr, r_krr3, r_enum, r_ken2, r_ken3, r_zip, r_kzi4, r_kzi3l, r_kzi3t, r_seqdl, r_seqdt, r_set, r_kse1, r_kse2, r_kse3, r_kse4, r_knx, r_st, r_kst1, r_kst2, r_kst3, r_sts0, r_unp, r_kup, r_kup2, r_exp, r_kex, r_ret, r_krt1, r_krt2, r_krt3, r_retn, r_iff, r_kif1, r_kif2, r_forr, r_kfo, r_step, r_ksp, r_stp1, r_stp2, r_stepc, r_kcp, r_kcp4, r_whl, r_ixs, r_kxs, r_kxs2, r_kxs6, r_kxs3, r_kxs41, r_kxs42, r_kxs5, r_pass, r_doc, r_brk, r_cont, r_ss0, r_ss1, r_kss1, r_kss2, r_kss3, r_kss4, r_krn1, r_krn2, r_krn3, r_lm0, r_lm1, r_lm2, r_klm, p_add, p_sub, p_neg, p_lt, p_le, p_gt, p_ge, p_abs, p_min, p_max, p_lenl, p_lent, p_tupl, p_tupt, p_lstl, p_lstt, p_revl, p_revt, p_inti, p_isN0, p_notN0, sc_none, sc_bool, sc_int, sc_str, sc_list, sc_tup, sc_dict, t_bool, m_rev, m_clr, ix_l, ix_t, kBi2, kBi, kUn, kCh2, kCh, kAn, kOr, kNo, kIt, kTu, kLs, kDi, kIx2, kIx, kSl3, kSl2, kSl, kFn, kIs, kCl, kMt, kEs2, kEs, kO, kTv, kTn, kTA, kTO, kTC, kSq, kRg, kRr2, kRr, kEn, kZi2, kZi, kCp3, kCp2, sl_small, slt_small, kst_any, kst_st, p_mod, p_fdiv, p_mul1, p_mul2, p_pow, p_eq, p_ne, p_catl, p_catt, m_app, m_ext, rng0, sts1, obind_some, rsbind_ok, List.getElem?_cons_zero, List.getElem?_cons_succ, List.set_cons_zero, List.set_cons_succ, List.map_nil, List.append_nil, List.nil_append, List.cons_append, if_true, if_false, ite_true, ite_false, Bool.false_eq_true, reduceIte, List.length_cons, List.length_nil, List.any_nil, List.any_cons, Bool.and_true, Bool.true_and, Bool.and_false, Bool.false_and, Bool.not_true, Bool.not_false, Bool.or_false, Bool.or_true, Bool.true_or, Bool.false_or, List.isEmpty_nil, List.isEmpty_cons, wipeE, startE, Nat.zero_add, Nat.reduceAdd, Nat.reduceSub, Nat.reduceLeDiff, Nat.le_refl, List.replicate_succ, List.replicate_zero, List.zipWith_cons_cons, List.zipWith_nil_left, List.zipWith_nil_right, Nat.reduceBEq, Nat.reduceEqDiff, decide_true, decide_false, Int.reduceLT, Int.reduceLE, Int.reduceNeg, Int.reduceToNat, Nat.reduceLT, List.take_succ_cons, List.take_zero, List.drop_succ_cons, List.drop_zero, eq_self, Int.reduceEq, ti_sc, ti_seq, ti_ix, ti_len, ti_rev, ti_kt, ti_ki, ti_kb, ti_kl, ti_zip, ti_tup, p_ltt, p_all, sh_int, sh_tupI, eqv_int, eqv_tupI, m__law_draw, e1, e2, ti_enum]
  generalize hL : forL _ _ _ = L
  have hI := forL_use hL (fun i e => ∃ d' g y6 y7 y8 y9, e = [some ⟨.mu, d'⟩, some ⟨.sh, tupI room⟩, some ⟨.sh, .int apart⟩, some ⟨.sh, .int way⟩, some ⟨.sh, .int lone⟩, some ⟨.own, .list (g.map pairD)⟩, y6, y7, y8, y9] ∧ Pen (b + 2 + 3 * (i : Int)) d' ∧ GivB room i g ∧ (∀ p ∈ g, p.1 ≠ apart) ∧ ShN y6 ∧ ShN y7 ∧ ShN y8 ∧ ShN y9)
    ⟨d2, [], none, none, none, none, rfl, p2.mono (by omega), ⟨fun p hp => absurd hp List.not_mem_nil, fun p hp => absurd hp List.not_mem_nil, .nil⟩, fun p hp => absurd hp List.not_mem_nil, shn0, shn0, shn0, shn0⟩ (by
    intro i x e hx hI
    obtain ⟨d3, g, y6, y7, y8, y9, rfl, p3, G, ha, s6, s7, s8, s9⟩ := hI
    obtain ⟨n, hn, rfl⟩ := enum_at hx
    have hi : i < room.length := (List.getElem?_eq_some_iff.mp hn).1
    have h2 := R.two n (List.mem_of_getElem? hn)
    obtain ⟨w, d4, e4, p4, w0, w1⟩ := draw_sem p3 (by omega) (show (0 : Int) < n by omega) (by omega)
    obtain ⟨u, d5, e5, p5, u0, u1⟩ := draw_sem p4 (by omega) (show (0 : Int) < 2 by decide) (by decide)
    obtain ⟨v, d6, e6, p6, _, _⟩ := draw_sem p5 (by omega) (show (0 : Int) < 4 by decide) (by decide)
    have hsome : ∃ t, atD [.bool false, .bool true, .bool (decide ((i : Int) = lone)), .bool (decide (u = 0)), .bool (decide (v = 0))] way = some (.bool t) :=
      atD_bool (bs := [false, true, decide ((i : Int) = lone), decide (u = 0), decide (v = 0)]) v0 (by show way < 5; exact v1)
    obtain ⟨t, et⟩ := hsome
    have p7 : Pen (b + 2 + 3 * ((i + 1 : Nat) : Int)) d6 := p6.mono (by omega)
    have hgl := G.len
    have happ : mtd .append (.list (g.map pairD)) [.tuple [.int (i : Int), .int w]] = some (.list ((g ++ [((i : Int), w)]).map pairD), .none) := by
      rw [m_app (by rw [List.length_map, sl_eq]; omega), List.map_append]
      rfl
    have G1 : GivB room (i + 1) g := ⟨fun p hp => by have := G.box p hp; omega, G.worth, G.rise⟩
    generalize hS : stepF _ _ _ _ _ = S
    by_cases hk : t = true ∧ ¬ (i : Int) = apart
    · obtain ⟨rfl, hk⟩ := hk
      simp -implicitDefEqProofs only [r_rd_v, r_rd_p, r_krd, r_rds0, r_rds, r_kco, r_pr, r_kpr, r_kpr2, r_var, r_kvar1, r_kvar2, r_kvar3, r_lit, r_gl, r_un, r_bi, r_cm, r_chn, r_kch3t, r_kch3f, r_and, r_or, r_and1, r_and2, r_or1, r_or2, r_kan2t, r_kan2f, r_kor2t, r_kor2f, r_not, r_kno2, r_ite, r_tup, r_lst, r_ktu2, r_kls2, r_dic, r_kdi2, r_dnewk, r_dnewt, r_ix, r_kix3, r_kix4, r_sl, r_ksl4l, r_ksl4t, r_fn, r_isI, r_kis2, r_call, r_kcl2, r_calla, r_kca2, r_kca3, r_kca4, r_kca5, r_arg0, r_arg, r_kar1, r_kar2, r_kar3, r_kar4, r_kar5, r_kar6, r_nomix0, r_nomix1, r_pm0, r_pm1, r_kpm, r_sh0, r_sh1, r_ksh1, r_ksh2, r_fz_v, r_fz_p, r_kfz1, r_kfz2, r_fzs0, r_fzs1, r_kfs, r_kfs3, r_isL, r_kisl1, r_kisl2, r_isO, r_kiso1, r_kiso2, r_mt, r_kmt2, r_kmt31, r_kmt32, r_kmt4, r_es0, r_es1, r_o0, r_o1, r_ko2, r_tv, r_ktv2, r_ktv3, r_tcm, r_tchn, r_ktb, r_tnot, r_tand, r_tor, r_ta0, r_ta1, r_to0, r_to1, r_c0, r_c1, r_seq, r_ksq2, r_ksq3, r_rng, r_krg2, r_rr, r_krr3, r_enum, r_ken2, r_ken3, r_zip, r_kzi4, r_kzi3l, r_kzi3t, r_seqdl, r_seqdt, r_set, r_kse1, r_kse2, r_kse3, r_kse4, r_knx, r_st, r_kst1, r_kst2, r_kst3, r_sts0, r_unp, r_kup, r_kup2, r_exp, r_kex, r_ret, r_krt1, r_krt2, r_krt3, r_retn, r_iff, r_kif1, r_kif2, r_forr, r_kfo, r_step, r_ksp, r_stp1, r_stp2, r_stepc, r_kcp, r_kcp4, r_whl, r_ixs, r_kxs, r_kxs2, r_kxs6, r_kxs3, r_kxs41, r_kxs42, r_kxs5, r_pass, r_doc, r_brk, r_cont, r_ss0, r_ss1, r_kss1, r_kss2, r_kss3, r_kss4, r_krn1, r_krn2, r_krn3, r_lm0, r_lm1, r_lm2, r_klm, p_add, p_sub, p_neg, p_lt, p_le, p_gt, p_ge, p_abs, p_min, p_max, p_lenl, p_lent, p_tupl, p_tupt, p_lstl, p_lstt, p_revl, p_revt, p_inti, p_isN0, p_notN0, sc_none, sc_bool, sc_int, sc_str, sc_list, sc_tup, sc_dict, t_bool, m_rev, m_clr, ix_l, ix_t, kBi2, kBi, kUn, kCh2, kCh, kAn, kOr, kNo, kIt, kTu, kLs, kDi, kIx2, kIx, kSl3, kSl2, kSl, kFn, kIs, kCl, kMt, kEs2, kEs, kO, kTv, kTn, kTA, kTO, kTC, kSq, kRg, kRr2, kRr, kEn, kZi2, kZi, kCp3, kCp2, sl_small, slt_small, kst_any, kst_st, p_mod, p_fdiv, p_mul1, p_mul2, p_pow, p_eq, p_ne, p_catl, p_catt, m_app, m_ext, rng0, sts1, obind_some, rsbind_ok, List.getElem?_cons_zero, List.getElem?_cons_succ, List.set_cons_zero, List.set_cons_succ, List.map_nil, List.append_nil, List.nil_append, List.cons_append, if_true, if_false, ite_true, ite_false, Bool.false_eq_true, reduceIte, List.length_cons, List.length_nil, List.any_nil, List.any_cons, Bool.and_true, Bool.true_and, Bool.and_false, Bool.false_and, Bool.not_true, Bool.not_false, Bool.or_false, Bool.or_true, Bool.true_or, Bool.false_or, List.isEmpty_nil, List.isEmpty_cons, wipeE, startE, Nat.zero_add, Nat.reduceAdd, Nat.reduceSub, Nat.reduceLeDiff, Nat.le_refl, List.replicate_succ, List.replicate_zero, List.zipWith_cons_cons, List.zipWith_nil_left, List.zipWith_nil_right, Nat.reduceBEq, Nat.reduceEqDiff, decide_true, decide_false, Int.reduceLT, Int.reduceLE, Int.reduceNeg, Int.reduceToNat, Nat.reduceLT, List.take_succ_cons, List.take_zero, List.drop_succ_cons, List.drop_zero, eq_self, Int.reduceEq, ti_sc, ti_seq, ti_ix, ti_len, ti_rev, ti_kt, ti_ki, ti_kb, ti_kl, ti_zip, ti_tup, p_ltt, p_all, sh_int, sh_tupI, eqv_int, eqv_tupI, s6, s7, s8, s9, m__law_draw, e4, e5, e6, ix_l, et, hk, happ] at hS
      subst hS
      refine ⟨_, rfl, d6, g ++ [((i : Int), w)], _, _, _, _, rfl, p7, ⟨fun p hp => ?_, fun p hp => ?_, ?_⟩, fun p hp => ?_, shn1, shn1, shn1, shn1⟩
      · rcases List.mem_append.mp hp with h | h
        · exact G1.box p h
        · rw [List.mem_singleton.mp h]
          exact ⟨by show 0 ≤ (i : Int); omega, by show (i : Int) < _; omega⟩
      · rcases List.mem_append.mp hp with h | h
        · exact G.worth p h
        · rw [List.mem_singleton.mp h]
          exact ⟨n, by show room[((i : Int)).toNat]? = _; rw [Int.toNat_natCast]; exact hn, w0, w1⟩
      · refine List.pairwise_append.mpr ⟨G.rise, List.pairwise_singleton _ _, fun p hp q hq => ?_⟩
        rw [List.mem_singleton.mp hq]
        exact (G.box p hp).2
      · rcases List.mem_append.mp hp with h | h
        · exact ha p h
        · rw [List.mem_singleton.mp h]
          exact hk
    · cases t with
      | false =>
        simp -implicitDefEqProofs only [r_rd_v, r_rd_p, r_krd, r_rds0, r_rds, r_kco, r_pr, r_kpr, r_kpr2, r_var, r_kvar1, r_kvar2, r_kvar3, r_lit, r_gl, r_un, r_bi, r_cm, r_chn, r_kch3t, r_kch3f, r_and, r_or, r_and1, r_and2, r_or1, r_or2, r_kan2t, r_kan2f, r_kor2t, r_kor2f, r_not, r_kno2, r_ite, r_tup, r_lst, r_ktu2, r_kls2, r_dic, r_kdi2, r_dnewk, r_dnewt, r_ix, r_kix3, r_kix4, r_sl, r_ksl4l, r_ksl4t, r_fn, r_isI, r_kis2, r_call, r_kcl2, r_calla, r_kca2, r_kca3, r_kca4, r_kca5, r_arg0, r_arg, r_kar1, r_kar2, r_kar3, r_kar4, r_kar5, r_kar6, r_nomix0, r_nomix1, r_pm0, r_pm1, r_kpm, r_sh0, r_sh1, r_ksh1, r_ksh2, r_fz_v, r_fz_p, r_kfz1, r_kfz2, r_fzs0, r_fzs1, r_kfs, r_kfs3, r_isL, r_kisl1, r_kisl2, r_isO, r_kiso1, r_kiso2, r_mt, r_kmt2, r_kmt31, r_kmt32, r_kmt4, r_es0, r_es1, r_o0, r_o1, r_ko2, r_tv, r_ktv2, r_ktv3, r_tcm, r_tchn, r_ktb, r_tnot, r_tand, r_tor, r_ta0, r_ta1, r_to0, r_to1, r_c0, r_c1, r_seq, r_ksq2, r_ksq3, r_rng, r_krg2, r_rr, r_krr3, r_enum, r_ken2, r_ken3, r_zip, r_kzi4, r_kzi3l, r_kzi3t, r_seqdl, r_seqdt, r_set, r_kse1, r_kse2, r_kse3, r_kse4, r_knx, r_st, r_kst1, r_kst2, r_kst3, r_sts0, r_unp, r_kup, r_kup2, r_exp, r_kex, r_ret, r_krt1, r_krt2, r_krt3, r_retn, r_iff, r_kif1, r_kif2, r_forr, r_kfo, r_step, r_ksp, r_stp1, r_stp2, r_stepc, r_kcp, r_kcp4, r_whl, r_ixs, r_kxs, r_kxs2, r_kxs6, r_kxs3, r_kxs41, r_kxs42, r_kxs5, r_pass, r_doc, r_brk, r_cont, r_ss0, r_ss1, r_kss1, r_kss2, r_kss3, r_kss4, r_krn1, r_krn2, r_krn3, r_lm0, r_lm1, r_lm2, r_klm, p_add, p_sub, p_neg, p_lt, p_le, p_gt, p_ge, p_abs, p_min, p_max, p_lenl, p_lent, p_tupl, p_tupt, p_lstl, p_lstt, p_revl, p_revt, p_inti, p_isN0, p_notN0, sc_none, sc_bool, sc_int, sc_str, sc_list, sc_tup, sc_dict, t_bool, m_rev, m_clr, ix_l, ix_t, kBi2, kBi, kUn, kCh2, kCh, kAn, kOr, kNo, kIt, kTu, kLs, kDi, kIx2, kIx, kSl3, kSl2, kSl, kFn, kIs, kCl, kMt, kEs2, kEs, kO, kTv, kTn, kTA, kTO, kTC, kSq, kRg, kRr2, kRr, kEn, kZi2, kZi, kCp3, kCp2, sl_small, slt_small, kst_any, kst_st, p_mod, p_fdiv, p_mul1, p_mul2, p_pow, p_eq, p_ne, p_catl, p_catt, m_app, m_ext, rng0, sts1, obind_some, rsbind_ok, List.getElem?_cons_zero, List.getElem?_cons_succ, List.set_cons_zero, List.set_cons_succ, List.map_nil, List.append_nil, List.nil_append, List.cons_append, if_true, if_false, ite_true, ite_false, Bool.false_eq_true, reduceIte, List.length_cons, List.length_nil, List.any_nil, List.any_cons, Bool.and_true, Bool.true_and, Bool.and_false, Bool.false_and, Bool.not_true, Bool.not_false, Bool.or_false, Bool.or_true, Bool.true_or, Bool.false_or, List.isEmpty_nil, List.isEmpty_cons, wipeE, startE, Nat.zero_add, Nat.reduceAdd, Nat.reduceSub, Nat.reduceLeDiff, Nat.le_refl, List.replicate_succ, List.replicate_zero, List.zipWith_cons_cons, List.zipWith_nil_left, List.zipWith_nil_right, Nat.reduceBEq, Nat.reduceEqDiff, decide_true, decide_false, Int.reduceLT, Int.reduceLE, Int.reduceNeg, Int.reduceToNat, Nat.reduceLT, List.take_succ_cons, List.take_zero, List.drop_succ_cons, List.drop_zero, eq_self, Int.reduceEq, ti_sc, ti_seq, ti_ix, ti_len, ti_rev, ti_kt, ti_ki, ti_kb, ti_kl, ti_zip, ti_tup, p_ltt, p_all, sh_int, sh_tupI, eqv_int, eqv_tupI, s6, s7, s8, s9, m__law_draw, e4, e5, e6, ix_l, et] at hS
        subst hS
        exact ⟨_, rfl, d6, g, _, _, _, _, rfl, p7, G1, ha, shn1, shn1, shn1, shn1⟩
      | true =>
        have hk2 : (i : Int) = apart := Classical.byContradiction fun q => hk ⟨rfl, q⟩
        subst hk2
        simp -implicitDefEqProofs only [r_rd_v, r_rd_p, r_krd, r_rds0, r_rds, r_kco, r_pr, r_kpr, r_kpr2, r_var, r_kvar1, r_kvar2, r_kvar3, r_lit, r_gl, r_un, r_bi, r_cm, r_chn, r_kch3t, r_kch3f, r_and, r_or, r_and1, r_and2, r_or1, r_or2, r_kan2t, r_kan2f, r_kor2t, r_kor2f, r_not, r_kno2, r_ite, r_tup, r_lst, r_ktu2, r_kls2, r_dic, r_kdi2, r_dnewk, r_dnewt, r_ix, r_kix3, r_kix4, r_sl, r_ksl4l, r_ksl4t, r_fn, r_isI, r_kis2, r_call, r_kcl2, r_calla, r_kca2, r_kca3, r_kca4, r_kca5, r_arg0, r_arg, r_kar1, r_kar2, r_kar3, r_kar4, r_kar5, r_kar6, r_nomix0, r_nomix1, r_pm0, r_pm1, r_kpm, r_sh0, r_sh1, r_ksh1, r_ksh2, r_fz_v, r_fz_p, r_kfz1, r_kfz2, r_fzs0, r_fzs1, r_kfs, r_kfs3, r_isL, r_kisl1, r_kisl2, r_isO, r_kiso1, r_kiso2, r_mt, r_kmt2, r_kmt31, r_kmt32, r_kmt4, r_es0, r_es1, r_o0, r_o1, r_ko2, r_tv, r_ktv2, r_ktv3, r_tcm, r_tchn, r_ktb, r_tnot, r_tand, r_tor, r_ta0, r_ta1, r_to0, r_to1, r_c0, r_c1, r_seq, r_ksq2, r_ksq3, r_rng, r_krg2, r_rr, r_krr3, r_enum, r_ken2, r_ken3, r_zip, r_kzi4, r_kzi3l, r_kzi3t, r_seqdl, r_seqdt, r_set, r_kse1, r_kse2, r_kse3, r_kse4, r_knx, r_st, r_kst1, r_kst2, r_kst3, r_sts0, r_unp, r_kup, r_kup2, r_exp, r_kex, r_ret, r_krt1, r_krt2, r_krt3, r_retn, r_iff, r_kif1, r_kif2, r_forr, r_kfo, r_step, r_ksp, r_stp1, r_stp2, r_stepc, r_kcp, r_kcp4, r_whl, r_ixs, r_kxs, r_kxs2, r_kxs6, r_kxs3, r_kxs41, r_kxs42, r_kxs5, r_pass, r_doc, r_brk, r_cont, r_ss0, r_ss1, r_kss1, r_kss2, r_kss3, r_kss4, r_krn1, r_krn2, r_krn3, r_lm0, r_lm1, r_lm2, r_klm, p_add, p_sub, p_neg, p_lt, p_le, p_gt, p_ge, p_abs, p_min, p_max, p_lenl, p_lent, p_tupl, p_tupt, p_lstl, p_lstt, p_revl, p_revt, p_inti, p_isN0, p_notN0, sc_none, sc_bool, sc_int, sc_str, sc_list, sc_tup, sc_dict, t_bool, m_rev, m_clr, ix_l, ix_t, kBi2, kBi, kUn, kCh2, kCh, kAn, kOr, kNo, kIt, kTu, kLs, kDi, kIx2, kIx, kSl3, kSl2, kSl, kFn, kIs, kCl, kMt, kEs2, kEs, kO, kTv, kTn, kTA, kTO, kTC, kSq, kRg, kRr2, kRr, kEn, kZi2, kZi, kCp3, kCp2, sl_small, slt_small, kst_any, kst_st, p_mod, p_fdiv, p_mul1, p_mul2, p_pow, p_eq, p_ne, p_catl, p_catt, m_app, m_ext, rng0, sts1, obind_some, rsbind_ok, List.getElem?_cons_zero, List.getElem?_cons_succ, List.set_cons_zero, List.set_cons_succ, List.map_nil, List.append_nil, List.nil_append, List.cons_append, if_true, if_false, ite_true, ite_false, Bool.false_eq_true, reduceIte, List.length_cons, List.length_nil, List.any_nil, List.any_cons, Bool.and_true, Bool.true_and, Bool.and_false, Bool.false_and, Bool.not_true, Bool.not_false, Bool.or_false, Bool.or_true, Bool.true_or, Bool.false_or, List.isEmpty_nil, List.isEmpty_cons, wipeE, startE, Nat.zero_add, Nat.reduceAdd, Nat.reduceSub, Nat.reduceLeDiff, Nat.le_refl, List.replicate_succ, List.replicate_zero, List.zipWith_cons_cons, List.zipWith_nil_left, List.zipWith_nil_right, Nat.reduceBEq, Nat.reduceEqDiff, decide_true, decide_false, Int.reduceLT, Int.reduceLE, Int.reduceNeg, Int.reduceToNat, Nat.reduceLT, List.take_succ_cons, List.take_zero, List.drop_succ_cons, List.drop_zero, eq_self, Int.reduceEq, ti_sc, ti_seq, ti_ix, ti_len, ti_rev, ti_kt, ti_ki, ti_kb, ti_kl, ti_zip, ti_tup, p_ltt, p_all, sh_int, sh_tupI, eqv_int, eqv_tupI, s6, s7, s8, s9, m__law_draw, e4, e5, e6, ix_l, et] at hS
        subst hS
        exact ⟨_, rfl, d6, g, _, _, _, _, rfl, p7, G1, ha, shn1, shn1, shn1, shn1⟩)
  obtain ⟨e', rfl, d3, g, y6, y7, y8, y9, rfl, p3, G, ha, _⟩ := hI
  rw [enum_len] at p3 G
  simp -implicitDefEqProofs only [r_rd_v, r_rd_p, r_krd, r_rds0, r_rds, r_kco, r_pr, r_kpr, r_kpr2, r_var, r_kvar1, r_kvar2, r_kvar3, r_lit, r_gl, r_un, r_bi, r_cm, r_chn, r_kch3t, r_kch3f, r_and, r_or, r_and1, r_and2, r_or1, r_or2, r_kan2t, r_kan2f, r_kor2t, r_kor2f, r_not, r_kno2, r_ite, r_tup, r_lst, r_ktu2, r_kls2, r_dic, r_kdi2, r_dnewk, r_dnewt, r_ix, r_kix3, r_kix4, r_sl, r_ksl4l, r_ksl4t, r_fn, r_isI, r_kis2, r_call, r_kcl2, r_calla, r_kca2, r_kca3, r_kca4, r_kca5, r_arg0, r_arg, r_kar1, r_kar2, r_kar3, r_kar4, r_kar5, r_kar6, r_nomix0, r_nomix1, r_pm0, r_pm1, r_kpm, r_sh0, r_sh1, r_ksh1, r_ksh2, r_fz_v, r_fz_p, r_kfz1, r_kfz2, r_fzs0, r_fzs1, r_kfs, r_kfs3, r_isL, r_kisl1, r_kisl2, r_isO, r_kiso1, r_kiso2, r_mt, r_kmt2, r_kmt31, r_kmt32, r_kmt4, r_es0, r_es1, r_o0, r_o1, r_ko2, r_tv, r_ktv2, r_ktv3, r_tcm, r_tchn, r_ktb, r_tnot, r_tand, r_tor, r_ta0, r_ta1, r_to0, r_to1, r_c0, r_c1, r_seq, r_ksq2, r_ksq3, r_rng, r_krg2, r_rr, r_krr3, r_enum, r_ken2, r_ken3, r_zip, r_kzi4, r_kzi3l, r_kzi3t, r_seqdl, r_seqdt, r_set, r_kse1, r_kse2, r_kse3, r_kse4, r_knx, r_st, r_kst1, r_kst2, r_kst3, r_sts0, r_unp, r_kup, r_kup2, r_exp, r_kex, r_ret, r_krt1, r_krt2, r_krt3, r_retn, r_iff, r_kif1, r_kif2, r_forr, r_kfo, r_step, r_ksp, r_stp1, r_stp2, r_stepc, r_kcp, r_kcp4, r_whl, r_ixs, r_kxs, r_kxs2, r_kxs6, r_kxs3, r_kxs41, r_kxs42, r_kxs5, r_pass, r_doc, r_brk, r_cont, r_ss0, r_ss1, r_kss1, r_kss2, r_kss3, r_kss4, r_krn1, r_krn2, r_krn3, r_lm0, r_lm1, r_lm2, r_klm, p_add, p_sub, p_neg, p_lt, p_le, p_gt, p_ge, p_abs, p_min, p_max, p_lenl, p_lent, p_tupl, p_tupt, p_lstl, p_lstt, p_revl, p_revt, p_inti, p_isN0, p_notN0, sc_none, sc_bool, sc_int, sc_str, sc_list, sc_tup, sc_dict, t_bool, m_rev, m_clr, ix_l, ix_t, kBi2, kBi, kUn, kCh2, kCh, kAn, kOr, kNo, kIt, kTu, kLs, kDi, kIx2, kIx, kSl3, kSl2, kSl, kFn, kIs, kCl, kMt, kEs2, kEs, kO, kTv, kTn, kTA, kTO, kTC, kSq, kRg, kRr2, kRr, kEn, kZi2, kZi, kCp3, kCp2, sl_small, slt_small, kst_any, kst_st, p_mod, p_fdiv, p_mul1, p_mul2, p_pow, p_eq, p_ne, p_catl, p_catt, m_app, m_ext, rng0, sts1, obind_some, rsbind_ok, List.getElem?_cons_zero, List.getElem?_cons_succ, List.set_cons_zero, List.set_cons_succ, List.map_nil, List.append_nil, List.nil_append, List.cons_append, if_true, if_false, ite_true, ite_false, Bool.false_eq_true, reduceIte, List.length_cons, List.length_nil, List.any_nil, List.any_cons, Bool.and_true, Bool.true_and, Bool.and_false, Bool.false_and, Bool.not_true, Bool.not_false, Bool.or_false, Bool.or_true, Bool.true_or, Bool.false_or, List.isEmpty_nil, List.isEmpty_cons, wipeE, startE, Nat.zero_add, Nat.reduceAdd, Nat.reduceSub, Nat.reduceLeDiff, Nat.le_refl, List.replicate_succ, List.replicate_zero, List.zipWith_cons_cons, List.zipWith_nil_left, List.zipWith_nil_right, Nat.reduceBEq, Nat.reduceEqDiff, decide_true, decide_false, Int.reduceLT, Int.reduceLE, Int.reduceNeg, Int.reduceToNat, Nat.reduceLT, List.take_succ_cons, List.take_zero, List.drop_succ_cons, List.drop_zero, eq_self, Int.reduceEq]
  exact ⟨g, d3, rfl, p3.mono (by omega), G, ha⟩
end CM
/-! PM9: what keeps a given. -/
namespace CM
open PySem PD
/-- the worth at the box of each -/
def keepB (ws : List Int) (g : List (Int × Int)) : Bool := g.all fun p => decide (ws[p.1.toNat]? = some p.2)
theorem giv_at {room ws : List Int} {i : Nat} {g : List (Int × Int)} (hw : InRoom room ws) (G : GivB room i g) {p : Int × Int} (hp : p ∈ g) : ∃ u, atD (ws.map .int) p.1 = some (.int u) ∧ ws[p.1.toNat]? = some u := by
  obtain ⟨n, hn, _⟩ := G.worth p hp
  have h0 := (G.box p hp).1
  have hi : p.1.toNat < room.length := (List.getElem?_eq_some_iff.mp hn).1
  have e : ws[p.1.toNat]? = some (ws[p.1.toNat]'(by rw [hw.len]; exact hi)) := List.getElem?_eq_getElem _
  refine ⟨_, ?_, e⟩
  unfold atD
  rw [if_pos h0, List.getElem?_map, e]
  rfl
theorem gi_seq {g : List (Int × Int)} : seqD (givD g) = some (g.map pairD) := rfl
theorem keeps_sem {room ws : List Int} {i : Nat} {g : List (Int × Int)} (hw : InRoom room ws) (G : GivB room i g) (hi : i ≤ 1000) : f_keeps.sem [tupI ws, givD g] = .ok false (.bool (keepB ws g)) [] := by
  rw [e_keeps, runF_eq rfl (by decide)]
  unfold b_keeps
  have hl := G.len
  have hc : evE [] (.comp (.cm .eq (.ix (.var 0) (.var 2)) (.var 3)) (.tp [2, 3]) (.seq (.var 1)) [] [2, 3]) [some ⟨.sh, tupI ws⟩, some ⟨.sh, givD g⟩, none, none] =
      .ok (.val true (.list ((g.map fun p => decide (ws[p.1.toNat]? = some p.2)).map .bool))) [some ⟨.sh, tupI ws⟩, some ⟨.sh, givD g⟩, none, none] := by
    have := evE_comp_map (F := []) (el := .cm .eq (.ix (.var 0) (.var 2)) (.var 3)) (pt := .tp [2, 3]) (src := .seq (.var 1)) (cs := []) (own := [2, 3]) (e := [some ⟨.sh, tupI ws⟩, some ⟨.sh, givD g⟩, none, none]) (e1 := [some ⟨.sh, tupI ws⟩, some ⟨.sh, givD g⟩, none, none])
      (A := g) (h := pairD) (g := fun p => some (.bool (decide (ws[p.1.toNat]? = some p.2)))) (by simp -implicitDefEqProofs only [r_rd_v, r_rd_p, r_krd, r_rds0, r_rds, r_kco, r_pr, r_kpr, r_kpr2, r_var, r_kvar1, r_kvar2, r_kvar3, r_lit, r_gl, r_un, r_bi, r_cm, r_chn, r_kch3t, r_kch3f, r_and, r_or, r_and1, r_and2, r_or1, r_or2, r_kan2t, r_kan2f, r_kor2t, r_kor2f, r_not, r_kno2, r_ite, r_tup, r_lst, r_ktu2, r_kls2, r_dic, r_kdi2, r_dnewk, r_dnewt, r_ix, r_kix3, r_kix4, r_sl, r_ksl4l, r_ksl4t, r_fn, r_isI, r_kis2, r_call, r_kcl2, r_calla, r_kca2, r_kca3, r_kca4, r_kca5, r_arg0, r_arg, r_kar1, r_kar2, r_kar3, r_kar4, r_kar5, r_kar6, r_nomix0, r_nomix1, r_pm0, r_pm1, r_kpm, r_sh0, r_sh1, r_ksh1, r_ksh2, r_fz_v, r_fz_p, r_kfz1, r_kfz2, r_fzs0, r_fzs1, r_kfs, r_kfs3, r_isL, r_kisl1, r_kisl2, r_isO, r_kiso1, r_kiso2, r_mt, r_kmt2, r_kmt31, r_kmt32, r_kmt4, r_es0, r_es1, r_o0, r_o1, r_ko2, r_tv, r_ktv2, r_ktv3, r_tcm, r_tchn, r_ktb, r_tnot, r_tand, r_tor, r_ta0, r_ta1, r_to0, r_to1, r_c0, r_c1, r_seq, r_ksq2, r_ksq3, r_rng, r_krg2, r_rr, r_krr3, r_enum, r_ken2, r_ken3, r_zip, r_kzi4, r_kzi3l, r_kzi3t, r_seqdl, r_seqdt, r_set, r_kse1, r_kse2, r_kse3, r_kse4, r_knx, r_st, r_kst1, r_kst2, r_kst3, r_sts0, r_unp, r_kup, r_kup2, r_exp, r_kex, r_ret, r_krt1, r_krt2, r_krt3, r_retn, r_iff, r_kif1, r_kif2, r_forr, r_kfo, r_step, r_ksp, r_stp1, r_stp2, r_stepc, r_kcp, r_kcp4, r_whl, r_ixs, r_kxs, r_kxs2, r_kxs6, r_kxs3, r_kxs41, r_kxs42, r_kxs5, r_pass, r_doc, r_brk, r_cont, r_ss0, r_ss1, r_kss1, r_kss2, r_kss3, r_kss4, r_krn1, r_krn2, r_krn3, r_lm0, r_lm1, r_lm2, r_klm, p_add, p_sub, p_neg, p_lt, p_le, p_gt, p_ge, p_abs, p_min, p_max, p_lenl, p_lent, p_tupl, p_tupt, p_lstl, p_lstt, p_revl, p_revt, p_inti, p_isN0, p_notN0, sc_none, sc_bool, sc_int, sc_str, sc_list, sc_tup, sc_dict, t_bool, m_rev, m_clr, ix_l, ix_t, kBi2, kBi, kUn, kCh2, kCh, kAn, kOr, kNo, kIt, kTu, kLs, kDi, kIx2, kIx, kSl3, kSl2, kSl, kFn, kIs, kCl, kMt, kEs2, kEs, kO, kTv, kTn, kTA, kTO, kTC, kSq, kRg, kRr2, kRr, kEn, kZi2, kZi, kCp3, kCp2, sl_small, slt_small, kst_any, kst_st, p_mod, p_fdiv, p_mul1, p_mul2, p_pow, p_eq, p_ne, p_catl, p_catt, m_app, m_ext, rng0, sts1, obind_some, rsbind_ok, List.getElem?_cons_zero, List.getElem?_cons_succ, List.set_cons_zero, List.set_cons_succ, List.map_nil, List.append_nil, List.nil_append, List.cons_append, if_true, if_false, ite_true, ite_false, Bool.false_eq_true, reduceIte, List.length_cons, List.length_nil, List.any_nil, List.any_cons, Bool.and_true, Bool.true_and, Bool.and_false, Bool.false_and, Bool.not_true, Bool.not_false, Bool.or_false, Bool.or_true, Bool.true_or, Bool.false_or, List.isEmpty_nil, List.isEmpty_cons, wipeE, startE, Nat.zero_add, Nat.reduceAdd, Nat.reduceSub, Nat.reduceLeDiff, Nat.le_refl, List.replicate_succ, List.replicate_zero, List.zipWith_cons_cons, List.zipWith_nil_left, List.zipWith_nil_right, Nat.reduceBEq, Nat.reduceEqDiff, decide_true, decide_false, Int.reduceLT, Int.reduceLE, Int.reduceNeg, Int.reduceToNat, Nat.reduceLT, List.take_succ_cons, List.take_zero, List.drop_succ_cons, List.drop_zero, eq_self, Int.reduceEq, ti_sc, ti_seq, ti_ix, ti_len, ti_rev, ti_kt, ti_ki, ti_kb, ti_kl, ti_zip, ti_tup, p_ltt, p_all, sh_int, sh_tupI, eqv_int, eqv_tupI, gi_seq]) rfl (by rw [sl_eq]; omega) (fun p hp e he => by
        obtain ⟨u, h1, h2⟩ := giv_at hw G hp
        rw [r_stepc, he, h2]
        unfold pairD
        simp -implicitDefEqProofs only [r_rd_v, r_rd_p, r_krd, r_rds0, r_rds, r_kco, r_pr, r_kpr, r_kpr2, r_var, r_kvar1, r_kvar2, r_kvar3, r_lit, r_gl, r_un, r_bi, r_cm, r_chn, r_kch3t, r_kch3f, r_and, r_or, r_and1, r_and2, r_or1, r_or2, r_kan2t, r_kan2f, r_kor2t, r_kor2f, r_not, r_kno2, r_ite, r_tup, r_lst, r_ktu2, r_kls2, r_dic, r_kdi2, r_dnewk, r_dnewt, r_ix, r_kix3, r_kix4, r_sl, r_ksl4l, r_ksl4t, r_fn, r_isI, r_kis2, r_call, r_kcl2, r_calla, r_kca2, r_kca3, r_kca4, r_kca5, r_arg0, r_arg, r_kar1, r_kar2, r_kar3, r_kar4, r_kar5, r_kar6, r_nomix0, r_nomix1, r_pm0, r_pm1, r_kpm, r_sh0, r_sh1, r_ksh1, r_ksh2, r_fz_v, r_fz_p, r_kfz1, r_kfz2, r_fzs0, r_fzs1, r_kfs, r_kfs3, r_isL, r_kisl1, r_kisl2, r_isO, r_kiso1, r_kiso2, r_mt, r_kmt2, r_kmt31, r_kmt32, r_kmt4, r_es0, r_es1, r_o0, r_o1, r_ko2, r_tv, r_ktv2, r_ktv3, r_tcm, r_tchn, r_ktb, r_tnot, r_tand, r_tor, r_ta0, r_ta1, r_to0, r_to1, r_c0, r_c1, r_seq, r_ksq2, r_ksq3, r_rng, r_krg2, r_rr, r_krr3, r_enum, r_ken2, r_ken3, r_zip, r_kzi4, r_kzi3l, r_kzi3t, r_seqdl, r_seqdt, r_set, r_kse1, r_kse2, r_kse3, r_kse4, r_knx, r_st, r_kst1, r_kst2, r_kst3, r_sts0, r_unp, r_kup, r_kup2, r_exp, r_kex, r_ret, r_krt1, r_krt2, r_krt3, r_retn, r_iff, r_kif1, r_kif2, r_forr, r_kfo, r_step, r_ksp, r_stp1, r_stp2, r_stepc, r_kcp, r_kcp4, r_whl, r_ixs, r_kxs, r_kxs2, r_kxs6, r_kxs3, r_kxs41, r_kxs42, r_kxs5, r_pass, r_doc, r_brk, r_cont, r_ss0, r_ss1, r_kss1, r_kss2, r_kss3, r_kss4, r_krn1, r_krn2, r_krn3, r_lm0, r_lm1, r_lm2, r_klm, p_add, p_sub, p_neg, p_lt, p_le, p_gt, p_ge, p_abs, p_min, p_max, p_lenl, p_lent, p_tupl, p_tupt, p_lstl, p_lstt, p_revl, p_revt, p_inti, p_isN0, p_notN0, sc_none, sc_bool, sc_int, sc_str, sc_list, sc_tup, sc_dict, t_bool, m_rev, m_clr, ix_l, ix_t, kBi2, kBi, kUn, kCh2, kCh, kAn, kOr, kNo, kIt, kTu, kLs, kDi, kIx2, kIx, kSl3, kSl2, kSl, kFn, kIs, kCl, kMt, kEs2, kEs, kO, kTv, kTn, kTA, kTO, kTC, kSq, kRg, kRr2, kRr, kEn, kZi2, kZi, kCp3, kCp2, sl_small, slt_small, kst_any, kst_st, p_mod, p_fdiv, p_mul1, p_mul2, p_pow, p_eq, p_ne, p_catl, p_catt, m_app, m_ext, rng0, sts1, obind_some, rsbind_ok, List.getElem?_cons_zero, List.getElem?_cons_succ, List.set_cons_zero, List.set_cons_succ, List.map_nil, List.append_nil, List.nil_append, List.cons_append, if_true, if_false, ite_true, ite_false, Bool.false_eq_true, reduceIte, List.length_cons, List.length_nil, List.any_nil, List.any_cons, Bool.and_true, Bool.true_and, Bool.and_false, Bool.false_and, Bool.not_true, Bool.not_false, Bool.or_false, Bool.or_true, Bool.true_or, Bool.false_or, List.isEmpty_nil, List.isEmpty_cons, wipeE, startE, Nat.zero_add, Nat.reduceAdd, Nat.reduceSub, Nat.reduceLeDiff, Nat.le_refl, List.replicate_succ, List.replicate_zero, List.zipWith_cons_cons, List.zipWith_nil_left, List.zipWith_nil_right, Nat.reduceBEq, Nat.reduceEqDiff, decide_true, decide_false, Int.reduceLT, Int.reduceLE, Int.reduceNeg, Int.reduceToNat, Nat.reduceLT, List.take_succ_cons, List.take_zero, List.drop_succ_cons, List.drop_zero, eq_self, Int.reduceEq, ti_sc, ti_seq, ti_ix, ti_len, ti_rev, ti_kt, ti_ki, ti_kb, ti_kl, ti_zip, ti_tup, p_ltt, p_all, sh_int, sh_tupI, eqv_int, eqv_tupI, h1, Option.some.injEq]
        exact ⟨_, rfl, rfl⟩)
    rw [fm_map] at this
    rw [this, List.map_map]
    rfl
  simp -implicitDefEqProofs only [r_rd_v, r_rd_p, r_krd, r_rds0, r_rds, r_kco, r_pr, r_kpr, r_kpr2, r_var, r_kvar1, r_kvar2, r_kvar3, r_lit, r_gl, r_un, r_bi, r_cm, r_chn, r_kch3t, r_kch3f, r_and, r_or, r_and1, r_and2, r_or1, r_or2, r_kan2t, r_kan2f, r_kor2t, r_kor2f, r_not, r_kno2, r_ite, r_tup, r_lst, r_ktu2, r_kls2, r_dic, r_kdi2, r_dnewk, r_dnewt, r_ix, r_kix3, r_kix4, r_sl, r_ksl4l, r_ksl4t, r_fn, r_isI, r_kis2, r_call, r_kcl2, r_calla, r_kca2, r_kca3, r_kca4, r_kca5, r_arg0, r_arg, r_kar1, r_kar2, r_kar3, r_kar4, r_kar5, r_kar6, r_nomix0, r_nomix1, r_pm0, r_pm1, r_kpm, r_sh0, r_sh1, r_ksh1, r_ksh2, r_fz_v, r_fz_p, r_kfz1, r_kfz2, r_fzs0, r_fzs1, r_kfs, r_kfs3, r_isL, r_kisl1, r_kisl2, r_isO, r_kiso1, r_kiso2, r_mt, r_kmt2, r_kmt31, r_kmt32, r_kmt4, r_es0, r_es1, r_o0, r_o1, r_ko2, r_tv, r_ktv2, r_ktv3, r_tcm, r_tchn, r_ktb, r_tnot, r_tand, r_tor, r_ta0, r_ta1, r_to0, r_to1, r_c0, r_c1, r_seq, r_ksq2, r_ksq3, r_rng, r_krg2, r_rr, r_krr3, r_enum, r_ken2, r_ken3, r_zip, r_kzi4, r_kzi3l, r_kzi3t, r_seqdl, r_seqdt, r_set, r_kse1, r_kse2, r_kse3, r_kse4, r_knx, r_st, r_kst1, r_kst2, r_kst3, r_sts0, r_unp, r_kup, r_kup2, r_exp, r_kex, r_ret, r_krt1, r_krt2, r_krt3, r_retn, r_iff, r_kif1, r_kif2, r_forr, r_kfo, r_step, r_ksp, r_stp1, r_stp2, r_stepc, r_kcp, r_kcp4, r_whl, r_ixs, r_kxs, r_kxs2, r_kxs6, r_kxs3, r_kxs41, r_kxs42, r_kxs5, r_pass, r_doc, r_brk, r_cont, r_ss0, r_ss1, r_kss1, r_kss2, r_kss3, r_kss4, r_krn1, r_krn2, r_krn3, r_lm0, r_lm1, r_lm2, r_klm, p_add, p_sub, p_neg, p_lt, p_le, p_gt, p_ge, p_abs, p_min, p_max, p_lenl, p_lent, p_tupl, p_tupt, p_lstl, p_lstt, p_revl, p_revt, p_inti, p_isN0, p_notN0, sc_none, sc_bool, sc_int, sc_str, sc_list, sc_tup, sc_dict, t_bool, m_rev, m_clr, ix_l, ix_t, kBi2, kBi, kUn, kCh2, kCh, kAn, kOr, kNo, kIt, kTu, kLs, kDi, kIx2, kIx, kSl3, kSl2, kSl, kFn, kIs, kCl, kMt, kEs2, kEs, kO, kTv, kTn, kTA, kTO, kTC, kSq, kRg, kRr2, kRr, kEn, kZi2, kZi, kCp3, kCp2, sl_small, slt_small, kst_any, kst_st, p_mod, p_fdiv, p_mul1, p_mul2, p_pow, p_eq, p_ne, p_catl, p_catt, m_app, m_ext, rng0, sts1, obind_some, rsbind_ok, List.getElem?_cons_zero, List.getElem?_cons_succ, List.set_cons_zero, List.set_cons_succ, List.map_nil, List.append_nil, List.nil_append, List.cons_append, if_true, if_false, ite_true, ite_false, Bool.false_eq_true, reduceIte, List.length_cons, List.length_nil, List.any_nil, List.any_cons, Bool.and_true, Bool.true_and, Bool.and_false, Bool.false_and, Bool.not_true, Bool.not_false, Bool.or_false, Bool.or_true, Bool.true_or, Bool.false_or, List.isEmpty_nil, List.isEmpty_cons, wipeE, startE, Nat.zero_add, Nat.reduceAdd, Nat.reduceSub, Nat.reduceLeDiff, Nat.le_refl, List.replicate_succ, List.replicate_zero, List.zipWith_cons_cons, List.zipWith_nil_left, List.zipWith_nil_right, Nat.reduceBEq, Nat.reduceEqDiff, decide_true, decide_false, Int.reduceLT, Int.reduceLE, Int.reduceNeg, Int.reduceToNat, Nat.reduceLT, List.take_succ_cons, List.take_zero, List.drop_succ_cons, List.drop_zero, eq_self, Int.reduceEq, ti_sc, ti_seq, ti_ix, ti_len, ti_rev, ti_kt, ti_ki, ti_kb, ti_kl, ti_zip, ti_tup, p_ltt, p_all, sh_int, sh_tupI, eqv_int, eqv_tupI, hc]
  unfold keepB
  rw [List.all_map]
  rfl
end CM
/-! PM10: the law's own look at what keeps a given. -/
namespace CM
open PySem PD
theorem at2_0 {x y : D} : atD [x, y] 0 = some x := rfl
theorem at2_1 {x y : D} : atD [x, y] 1 = some y := rfl
theorem shp_pair {k : Nat} {p : Int × Int} (h : 1 ≤ k) : Shp (k + 1) (pairD p) := shp_tup fun d hd => by
  simp only [List.mem_cons, List.not_mem_nil, or_false] at hd
  rcases hd with rfl | rfl <;> exact shp_int h
theorem sh_nil : SeqAt.shaped (.list []) = true := by decide
theorem eqv_nil {ds : List D} : PyData.eqv (.list ds) (.list []) = ds.isEmpty := by
  rw [PyData.eqv]
  cases ds <;> rfl
theorem fm_empty {α : Type} (P : α → Prop) [DecidablePred P] (k : α → D) : ∀ g : List α, (g.filterMap fun p => if P p then none else some (k p)).isEmpty = g.all fun p => decide (P p)
  | [] => rfl
  | p :: g => by
    have ih := fm_empty P k g
    by_cases h : P p
    · rw [List.filterMap_cons, List.all_cons, if_pos h, decide_eq_true h, Bool.true_and]
      exact ih
    · rw [List.filterMap_cons, List.all_cons, if_neg h, decide_eq_false h, Bool.false_and]
      rfl
theorem truth_sem {s t : Bool} : f__law_truth.sem [.bool s, .bool t] = .ok false (.bool (decide (s = t))) [] := by
  rw [e__law_truth, runF_eq rfl (by decide)]
  unfold b__law_truth
  have h1 : ∀ r : Bool, SeqAt.shaped (.bool r) = true := by decide
  have h2 : kindOf .bool (.bool s) = true := rfl
  have h3 : PyData.eqv (.bool s) (.bool t) = decide (s = t) := by
    rw [PyData.eqv]
    cases s <;> cases t <;> rfl
  simp -implicitDefEqProofs only [r_rd_v, r_rd_p, r_krd, r_rds0, r_rds, r_kco, r_pr, r_kpr, r_kpr2, r_var, r_kvar1, r_kvar2, r_kvar3, r_lit, r_gl, r_un, r_bi, r_cm, r_chn, r_kch3t, r_kch3f, r_and, r_or, r_and1, r_and2, r_or1, r_or2, r_kan2t, r_kan2f, r_kor2t, r_kor2f, r_not, r_kno2, r_ite, r_tup, r_lst, r_ktu2, r_kls2, r_dic, r_kdi2, r_dnewk, r_dnewt, r_ix, r_kix3, r_kix4, r_sl, r_ksl4l, r_ksl4t, r_fn, r_isI, r_kis2, r_call, r_kcl2, r_calla, r_kca2, r_kca3, r_kca4, r_kca5, r_arg0, r_arg, r_kar1, r_kar2, r_kar3, r_kar4, r_kar5, r_kar6, r_nomix0, r_nomix1, r_pm0, r_pm1, r_kpm, r_sh0, r_sh1, r_ksh1, r_ksh2, r_fz_v, r_fz_p, r_kfz1, r_kfz2, r_fzs0, r_fzs1, r_kfs, r_kfs3, r_isL, r_kisl1, r_kisl2, r_isO, r_kiso1, r_kiso2, r_mt, r_kmt2, r_kmt31, r_kmt32, r_kmt4, r_es0, r_es1, r_o0, r_o1, r_ko2, r_tv, r_ktv2, r_ktv3, r_tcm, r_tchn, r_ktb, r_tnot, r_tand, r_tor, r_ta0, r_ta1, r_to0, r_to1, r_c0, r_c1, r_seq, r_ksq2, r_ksq3, r_rng, r_krg2, r_rr, r_krr3, r_enum, r_ken2, r_ken3, r_zip, r_kzi4, r_kzi3l, r_kzi3t, r_seqdl, r_seqdt, r_set, r_kse1, r_kse2, r_kse3, r_kse4, r_knx, r_st, r_kst1, r_kst2, r_kst3, r_sts0, r_unp, r_kup, r_kup2, r_exp, r_kex, r_ret, r_krt1, r_krt2, r_krt3, r_retn, r_iff, r_kif1, r_kif2, r_forr, r_kfo, r_step, r_ksp, r_stp1, r_stp2, r_stepc, r_kcp, r_kcp4, r_whl, r_ixs, r_kxs, r_kxs2, r_kxs6, r_kxs3, r_kxs41, r_kxs42, r_kxs5, r_pass, r_doc, r_brk, r_cont, r_ss0, r_ss1, r_kss1, r_kss2, r_kss3, r_kss4, r_krn1, r_krn2, r_krn3, r_lm0, r_lm1, r_lm2, r_klm, p_add, p_sub, p_neg, p_lt, p_le, p_gt, p_ge, p_abs, p_min, p_max, p_lenl, p_lent, p_tupl, p_tupt, p_lstl, p_lstt, p_revl, p_revt, p_inti, p_isN0, p_notN0, sc_none, sc_bool, sc_int, sc_str, sc_list, sc_tup, sc_dict, t_bool, m_rev, m_clr, ix_l, ix_t, kBi2, kBi, kUn, kCh2, kCh, kAn, kOr, kNo, kIt, kTu, kLs, kDi, kIx2, kIx, kSl3, kSl2, kSl, kFn, kIs, kCl, kMt, kEs2, kEs, kO, kTv, kTn, kTA, kTO, kTC, kSq, kRg, kRr2, kRr, kEn, kZi2, kZi, kCp3, kCp2, sl_small, slt_small, kst_any, kst_st, p_mod, p_fdiv, p_mul1, p_mul2, p_pow, p_eq, p_ne, p_catl, p_catt, m_app, m_ext, rng0, sts1, obind_some, rsbind_ok, List.getElem?_cons_zero, List.getElem?_cons_succ, List.set_cons_zero, List.set_cons_succ, List.map_nil, List.append_nil, List.nil_append, List.cons_append, if_true, if_false, ite_true, ite_false, Bool.false_eq_true, reduceIte, List.length_cons, List.length_nil, List.any_nil, List.any_cons, Bool.and_true, Bool.true_and, Bool.and_false, Bool.false_and, Bool.not_true, Bool.not_false, Bool.or_false, Bool.or_true, Bool.true_or, Bool.false_or, List.isEmpty_nil, List.isEmpty_cons, wipeE, startE, Nat.zero_add, Nat.reduceAdd, Nat.reduceSub, Nat.reduceLeDiff, Nat.le_refl, List.replicate_succ, List.replicate_zero, List.zipWith_cons_cons, List.zipWith_nil_left, List.zipWith_nil_right, Nat.reduceBEq, Nat.reduceEqDiff, decide_true, decide_false, Int.reduceLT, Int.reduceLE, Int.reduceNeg, Int.reduceToNat, Nat.reduceLT, List.take_succ_cons, List.take_zero, List.drop_succ_cons, List.drop_zero, eq_self, Int.reduceEq, ti_sc, ti_seq, ti_ix, ti_len, ti_rev, ti_kt, ti_ki, ti_kb, ti_kl, ti_zip, ti_tup, p_ltt, p_all, sh_int, sh_tupI, eqv_int, eqv_tupI, h1, h2, h3]
theorem law_keeps_sem {room ws : List Int} {i : Nat} {g : List (Int × Int)} (hw : InRoom room ws) (G : GivB room i g) (hi : i ≤ 1000) : f__law_keeps.sem [tupI ws, givD g] = .ok false (.bool (keepB ws g)) [] := by
  rw [e__law_keeps, runF_eq rfl (by decide)]
  unfold b__law_keeps
  have hl := G.len
  have hc : evE [] (.comp (.var 2) (.nm 2) (.seq (.var 1)) [(.cm .ne (.ix (.var 0) (.ix (.var 2) (.lit (.int 0)))) (.ix (.var 2) (.lit (.int 1))))] [2]) [some ⟨.sh, tupI ws⟩, some ⟨.sh, givD g⟩, none] =
      .ok (.val true (.list (g.filterMap fun p => if ws[p.1.toNat]? = some p.2 then none else some (pairD p)))) [some ⟨.sh, tupI ws⟩, some ⟨.sh, givD g⟩, none] := by
    refine evE_comp_map (e1 := [some ⟨.sh, tupI ws⟩, some ⟨.sh, givD g⟩, none]) (h := pairD) (by simp -implicitDefEqProofs only [r_rd_v, r_rd_p, r_krd, r_rds0, r_rds, r_kco, r_pr, r_kpr, r_kpr2, r_var, r_kvar1, r_kvar2, r_kvar3, r_lit, r_gl, r_un, r_bi, r_cm, r_chn, r_kch3t, r_kch3f, r_and, r_or, r_and1, r_and2, r_or1, r_or2, r_kan2t, r_kan2f, r_kor2t, r_kor2f, r_not, r_kno2, r_ite, r_tup, r_lst, r_ktu2, r_kls2, r_dic, r_kdi2, r_dnewk, r_dnewt, r_ix, r_kix3, r_kix4, r_sl, r_ksl4l, r_ksl4t, r_fn, r_isI, r_kis2, r_call, r_kcl2, r_calla, r_kca2, r_kca3, r_kca4, r_kca5, r_arg0, r_arg, r_kar1, r_kar2, r_kar3, r_kar4, r_kar5, r_kar6, r_nomix0, r_nomix1, r_pm0, r_pm1, r_kpm, r_sh0, r_sh1, r_ksh1, r_ksh2, r_fz_v, r_fz_p, r_kfz1, r_kfz2, r_fzs0, r_fzs1, r_kfs, r_kfs3, r_isL, r_kisl1, r_kisl2, r_isO, r_kiso1, r_kiso2, r_mt, r_kmt2, r_kmt31, r_kmt32, r_kmt4, r_es0, r_es1, r_o0, r_o1, r_ko2, r_tv, r_ktv2, r_ktv3, r_tcm, r_tchn, r_ktb, r_tnot, r_tand, r_tor, r_ta0, r_ta1, r_to0, r_to1, r_c0, r_c1, r_seq, r_ksq2, r_ksq3, r_rng, r_krg2, r_rr, r_krr3, r_enum, r_ken2, r_ken3, r_zip, r_kzi4, r_kzi3l, r_kzi3t, r_seqdl, r_seqdt, r_set, r_kse1, r_kse2, r_kse3, r_kse4, r_knx, r_st, r_kst1, r_kst2, r_kst3, r_sts0, r_unp, r_kup, r_kup2, r_exp, r_kex, r_ret, r_krt1, r_krt2, r_krt3, r_retn, r_iff, r_kif1, r_kif2, r_forr, r_kfo, r_step, r_ksp, r_stp1, r_stp2, r_stepc, r_kcp, r_kcp4, r_whl, r_ixs, r_kxs, r_kxs2, r_kxs6, r_kxs3, r_kxs41, r_kxs42, r_kxs5, r_pass, r_doc, r_brk, r_cont, r_ss0, r_ss1, r_kss1, r_kss2, r_kss3, r_kss4, r_krn1, r_krn2, r_krn3, r_lm0, r_lm1, r_lm2, r_klm, p_add, p_sub, p_neg, p_lt, p_le, p_gt, p_ge, p_abs, p_min, p_max, p_lenl, p_lent, p_tupl, p_tupt, p_lstl, p_lstt, p_revl, p_revt, p_inti, p_isN0, p_notN0, sc_none, sc_bool, sc_int, sc_str, sc_list, sc_tup, sc_dict, t_bool, m_rev, m_clr, ix_l, ix_t, kBi2, kBi, kUn, kCh2, kCh, kAn, kOr, kNo, kIt, kTu, kLs, kDi, kIx2, kIx, kSl3, kSl2, kSl, kFn, kIs, kCl, kMt, kEs2, kEs, kO, kTv, kTn, kTA, kTO, kTC, kSq, kRg, kRr2, kRr, kEn, kZi2, kZi, kCp3, kCp2, sl_small, slt_small, kst_any, kst_st, p_mod, p_fdiv, p_mul1, p_mul2, p_pow, p_eq, p_ne, p_catl, p_catt, m_app, m_ext, rng0, sts1, obind_some, rsbind_ok, List.getElem?_cons_zero, List.getElem?_cons_succ, List.set_cons_zero, List.set_cons_succ, List.map_nil, List.append_nil, List.nil_append, List.cons_append, if_true, if_false, ite_true, ite_false, Bool.false_eq_true, reduceIte, List.length_cons, List.length_nil, List.any_nil, List.any_cons, Bool.and_true, Bool.true_and, Bool.and_false, Bool.false_and, Bool.not_true, Bool.not_false, Bool.or_false, Bool.or_true, Bool.true_or, Bool.false_or, List.isEmpty_nil, List.isEmpty_cons, wipeE, startE, Nat.zero_add, Nat.reduceAdd, Nat.reduceSub, Nat.reduceLeDiff, Nat.le_refl, List.replicate_succ, List.replicate_zero, List.zipWith_cons_cons, List.zipWith_nil_left, List.zipWith_nil_right, Nat.reduceBEq, Nat.reduceEqDiff, decide_true, decide_false, Int.reduceLT, Int.reduceLE, Int.reduceNeg, Int.reduceToNat, Nat.reduceLT, List.take_succ_cons, List.take_zero, List.drop_succ_cons, List.drop_zero, eq_self, Int.reduceEq, ti_sc, ti_seq, ti_ix, ti_len, ti_rev, ti_kt, ti_ki, ti_kb, ti_kl, ti_zip, ti_tup, p_ltt, p_all, sh_int, sh_tupI, eqv_int, eqv_tupI, gi_seq]) rfl (by rw [sl_eq]; omega) fun p hp e he => ?_
    obtain ⟨u, h1, h2⟩ := giv_at hw G hp
    rw [r_stepc, he, h2]
    unfold pairD
    by_cases h : u = p.2
    · simp -implicitDefEqProofs only [r_rd_v, r_rd_p, r_krd, r_rds0, r_rds, r_kco, r_pr, r_kpr, r_kpr2, r_var, r_kvar1, r_kvar2, r_kvar3, r_lit, r_gl, r_un, r_bi, r_cm, r_chn, r_kch3t, r_kch3f, r_and, r_or, r_and1, r_and2, r_or1, r_or2, r_kan2t, r_kan2f, r_kor2t, r_kor2f, r_not, r_kno2, r_ite, r_tup, r_lst, r_ktu2, r_kls2, r_dic, r_kdi2, r_dnewk, r_dnewt, r_ix, r_kix3, r_kix4, r_sl, r_ksl4l, r_ksl4t, r_fn, r_isI, r_kis2, r_call, r_kcl2, r_calla, r_kca2, r_kca3, r_kca4, r_kca5, r_arg0, r_arg, r_kar1, r_kar2, r_kar3, r_kar4, r_kar5, r_kar6, r_nomix0, r_nomix1, r_pm0, r_pm1, r_kpm, r_sh0, r_sh1, r_ksh1, r_ksh2, r_fz_v, r_fz_p, r_kfz1, r_kfz2, r_fzs0, r_fzs1, r_kfs, r_kfs3, r_isL, r_kisl1, r_kisl2, r_isO, r_kiso1, r_kiso2, r_mt, r_kmt2, r_kmt31, r_kmt32, r_kmt4, r_es0, r_es1, r_o0, r_o1, r_ko2, r_tv, r_ktv2, r_ktv3, r_tcm, r_tchn, r_ktb, r_tnot, r_tand, r_tor, r_ta0, r_ta1, r_to0, r_to1, r_c0, r_c1, r_seq, r_ksq2, r_ksq3, r_rng, r_krg2, r_rr, r_krr3, r_enum, r_ken2, r_ken3, r_zip, r_kzi4, r_kzi3l, r_kzi3t, r_seqdl, r_seqdt, r_set, r_kse1, r_kse2, r_kse3, r_kse4, r_knx, r_st, r_kst1, r_kst2, r_kst3, r_sts0, r_unp, r_kup, r_kup2, r_exp, r_kex, r_ret, r_krt1, r_krt2, r_krt3, r_retn, r_iff, r_kif1, r_kif2, r_forr, r_kfo, r_step, r_ksp, r_stp1, r_stp2, r_stepc, r_kcp, r_kcp4, r_whl, r_ixs, r_kxs, r_kxs2, r_kxs6, r_kxs3, r_kxs41, r_kxs42, r_kxs5, r_pass, r_doc, r_brk, r_cont, r_ss0, r_ss1, r_kss1, r_kss2, r_kss3, r_kss4, r_krn1, r_krn2, r_krn3, r_lm0, r_lm1, r_lm2, r_klm, p_add, p_sub, p_neg, p_lt, p_le, p_gt, p_ge, p_abs, p_min, p_max, p_lenl, p_lent, p_tupl, p_tupt, p_lstl, p_lstt, p_revl, p_revt, p_inti, p_isN0, p_notN0, sc_none, sc_bool, sc_int, sc_str, sc_list, sc_tup, sc_dict, t_bool, m_rev, m_clr, ix_l, ix_t, kBi2, kBi, kUn, kCh2, kCh, kAn, kOr, kNo, kIt, kTu, kLs, kDi, kIx2, kIx, kSl3, kSl2, kSl, kFn, kIs, kCl, kMt, kEs2, kEs, kO, kTv, kTn, kTA, kTO, kTC, kSq, kRg, kRr2, kRr, kEn, kZi2, kZi, kCp3, kCp2, sl_small, slt_small, kst_any, kst_st, p_mod, p_fdiv, p_mul1, p_mul2, p_pow, p_eq, p_ne, p_catl, p_catt, m_app, m_ext, rng0, sts1, obind_some, rsbind_ok, List.getElem?_cons_zero, List.getElem?_cons_succ, List.set_cons_zero, List.set_cons_succ, List.map_nil, List.append_nil, List.nil_append, List.cons_append, if_true, if_false, ite_true, ite_false, Bool.false_eq_true, reduceIte, List.length_cons, List.length_nil, List.any_nil, List.any_cons, Bool.and_true, Bool.true_and, Bool.and_false, Bool.false_and, Bool.not_true, Bool.not_false, Bool.or_false, Bool.or_true, Bool.true_or, Bool.false_or, List.isEmpty_nil, List.isEmpty_cons, wipeE, startE, Nat.zero_add, Nat.reduceAdd, Nat.reduceSub, Nat.reduceLeDiff, Nat.le_refl, List.replicate_succ, List.replicate_zero, List.zipWith_cons_cons, List.zipWith_nil_left, List.zipWith_nil_right, Nat.reduceBEq, Nat.reduceEqDiff, decide_true, decide_false, Int.reduceLT, Int.reduceLE, Int.reduceNeg, Int.reduceToNat, Nat.reduceLT, List.take_succ_cons, List.take_zero, List.drop_succ_cons, List.drop_zero, eq_self, Int.reduceEq, ti_sc, ti_seq, ti_ix, ti_len, ti_rev, ti_kt, ti_ki, ti_kb, ti_kl, ti_zip, ti_tup, p_ltt, p_all, sh_int, sh_tupI, eqv_int, eqv_tupI, h1, ix_t, at2_0, at2_1, h]
      exact ⟨_, rfl, rfl⟩
    · simp -implicitDefEqProofs only [r_rd_v, r_rd_p, r_krd, r_rds0, r_rds, r_kco, r_pr, r_kpr, r_kpr2, r_var, r_kvar1, r_kvar2, r_kvar3, r_lit, r_gl, r_un, r_bi, r_cm, r_chn, r_kch3t, r_kch3f, r_and, r_or, r_and1, r_and2, r_or1, r_or2, r_kan2t, r_kan2f, r_kor2t, r_kor2f, r_not, r_kno2, r_ite, r_tup, r_lst, r_ktu2, r_kls2, r_dic, r_kdi2, r_dnewk, r_dnewt, r_ix, r_kix3, r_kix4, r_sl, r_ksl4l, r_ksl4t, r_fn, r_isI, r_kis2, r_call, r_kcl2, r_calla, r_kca2, r_kca3, r_kca4, r_kca5, r_arg0, r_arg, r_kar1, r_kar2, r_kar3, r_kar4, r_kar5, r_kar6, r_nomix0, r_nomix1, r_pm0, r_pm1, r_kpm, r_sh0, r_sh1, r_ksh1, r_ksh2, r_fz_v, r_fz_p, r_kfz1, r_kfz2, r_fzs0, r_fzs1, r_kfs, r_kfs3, r_isL, r_kisl1, r_kisl2, r_isO, r_kiso1, r_kiso2, r_mt, r_kmt2, r_kmt31, r_kmt32, r_kmt4, r_es0, r_es1, r_o0, r_o1, r_ko2, r_tv, r_ktv2, r_ktv3, r_tcm, r_tchn, r_ktb, r_tnot, r_tand, r_tor, r_ta0, r_ta1, r_to0, r_to1, r_c0, r_c1, r_seq, r_ksq2, r_ksq3, r_rng, r_krg2, r_rr, r_krr3, r_enum, r_ken2, r_ken3, r_zip, r_kzi4, r_kzi3l, r_kzi3t, r_seqdl, r_seqdt, r_set, r_kse1, r_kse2, r_kse3, r_kse4, r_knx, r_st, r_kst1, r_kst2, r_kst3, r_sts0, r_unp, r_kup, r_kup2, r_exp, r_kex, r_ret, r_krt1, r_krt2, r_krt3, r_retn, r_iff, r_kif1, r_kif2, r_forr, r_kfo, r_step, r_ksp, r_stp1, r_stp2, r_stepc, r_kcp, r_kcp4, r_whl, r_ixs, r_kxs, r_kxs2, r_kxs6, r_kxs3, r_kxs41, r_kxs42, r_kxs5, r_pass, r_doc, r_brk, r_cont, r_ss0, r_ss1, r_kss1, r_kss2, r_kss3, r_kss4, r_krn1, r_krn2, r_krn3, r_lm0, r_lm1, r_lm2, r_klm, p_add, p_sub, p_neg, p_lt, p_le, p_gt, p_ge, p_abs, p_min, p_max, p_lenl, p_lent, p_tupl, p_tupt, p_lstl, p_lstt, p_revl, p_revt, p_inti, p_isN0, p_notN0, sc_none, sc_bool, sc_int, sc_str, sc_list, sc_tup, sc_dict, t_bool, m_rev, m_clr, ix_l, ix_t, kBi2, kBi, kUn, kCh2, kCh, kAn, kOr, kNo, kIt, kTu, kLs, kDi, kIx2, kIx, kSl3, kSl2, kSl, kFn, kIs, kCl, kMt, kEs2, kEs, kO, kTv, kTn, kTA, kTO, kTC, kSq, kRg, kRr2, kRr, kEn, kZi2, kZi, kCp3, kCp2, sl_small, slt_small, kst_any, kst_st, p_mod, p_fdiv, p_mul1, p_mul2, p_pow, p_eq, p_ne, p_catl, p_catt, m_app, m_ext, rng0, sts1, obind_some, rsbind_ok, List.getElem?_cons_zero, List.getElem?_cons_succ, List.set_cons_zero, List.set_cons_succ, List.map_nil, List.append_nil, List.nil_append, List.cons_append, if_true, if_false, ite_true, ite_false, Bool.false_eq_true, reduceIte, List.length_cons, List.length_nil, List.any_nil, List.any_cons, Bool.and_true, Bool.true_and, Bool.and_false, Bool.false_and, Bool.not_true, Bool.not_false, Bool.or_false, Bool.or_true, Bool.true_or, Bool.false_or, List.isEmpty_nil, List.isEmpty_cons, wipeE, startE, Nat.zero_add, Nat.reduceAdd, Nat.reduceSub, Nat.reduceLeDiff, Nat.le_refl, List.replicate_succ, List.replicate_zero, List.zipWith_cons_cons, List.zipWith_nil_left, List.zipWith_nil_right, Nat.reduceBEq, Nat.reduceEqDiff, decide_true, decide_false, Int.reduceLT, Int.reduceLE, Int.reduceNeg, Int.reduceToNat, Nat.reduceLT, List.take_succ_cons, List.take_zero, List.drop_succ_cons, List.drop_zero, eq_self, Int.reduceEq, ti_sc, ti_seq, ti_ix, ti_len, ti_rev, ti_kt, ti_ki, ti_kb, ti_kl, ti_zip, ti_tup, p_ltt, p_all, sh_int, sh_tupI, eqv_int, eqv_tupI, h1, ix_t, at2_0, at2_1, h, Option.some.injEq]
      exact ⟨_, rfl, rfl⟩
  have hs : SeqAt.shaped (.list (g.filterMap fun p => if ws[p.1.toNat]? = some p.2 then none else some (pairD p))) = true := (shp_list (k := 2) fun d hd => by
    obtain ⟨p, _, h⟩ := List.mem_filterMap.mp hd
    split at h
    · cases h
    · cases h
      exact shp_pair (Nat.le_refl 1)).ok (by decide)
  have he : (g.filterMap fun p => if ws[p.1.toNat]? = some p.2 then none else some (pairD p)).isEmpty = keepB ws g := by
    exact fm_empty (fun p : Int × Int => ws[p.1.toNat]? = some p.2) pairD g
  simp -implicitDefEqProofs only [r_rd_v, r_rd_p, r_krd, r_rds0, r_rds, r_kco, r_pr, r_kpr, r_kpr2, r_var, r_kvar1, r_kvar2, r_kvar3, r_lit, r_gl, r_un, r_bi, r_cm, r_chn, r_kch3t, r_kch3f, r_and, r_or, r_and1, r_and2, r_or1, r_or2, r_kan2t, r_kan2f, r_kor2t, r_kor2f, r_not, r_kno2, r_ite, r_tup, r_lst, r_ktu2, r_kls2, r_dic, r_kdi2, r_dnewk, r_dnewt, r_ix, r_kix3, r_kix4, r_sl, r_ksl4l, r_ksl4t, r_fn, r_isI, r_kis2, r_call, r_kcl2, r_calla, r_kca2, r_kca3, r_kca4, r_kca5, r_arg0, r_arg, r_kar1, r_kar2, r_kar3, r_kar4, r_kar5, r_kar6, r_nomix0, r_nomix1, r_pm0, r_pm1, r_kpm, r_sh0, r_sh1, r_ksh1, r_ksh2, r_fz_v, r_fz_p, r_kfz1, r_kfz2, r_fzs0, r_fzs1, r_kfs, r_kfs3, r_isL, r_kisl1, r_kisl2, r_isO, r_kiso1, r_kiso2, r_mt, r_kmt2, r_kmt31, r_kmt32, r_kmt4, r_es0, r_es1, r_o0, r_o1, r_ko2, r_tv, r_ktv2, r_ktv3, r_tcm, r_tchn, r_ktb, r_tnot, r_tand, r_tor, r_ta0, r_ta1, r_to0, r_to1, r_c0, r_c1, r_seq, r_ksq2, r_ksq3, r_rng, r_krg2, r_rr, r_krr3, r_enum, r_ken2, r_ken3, r_zip, r_kzi4, r_kzi3l, r_kzi3t, r_seqdl, r_seqdt, r_set, r_kse1, r_kse2, r_kse3, r_kse4, r_knx, r_st, r_kst1, r_kst2, r_kst3, r_sts0, r_unp, r_kup, r_kup2, r_exp, r_kex, r_ret, r_krt1, r_krt2, r_krt3, r_retn, r_iff, r_kif1, r_kif2, r_forr, r_kfo, r_step, r_ksp, r_stp1, r_stp2, r_stepc, r_kcp, r_kcp4, r_whl, r_ixs, r_kxs, r_kxs2, r_kxs6, r_kxs3, r_kxs41, r_kxs42, r_kxs5, r_pass, r_doc, r_brk, r_cont, r_ss0, r_ss1, r_kss1, r_kss2, r_kss3, r_kss4, r_krn1, r_krn2, r_krn3, r_lm0, r_lm1, r_lm2, r_klm, p_add, p_sub, p_neg, p_lt, p_le, p_gt, p_ge, p_abs, p_min, p_max, p_lenl, p_lent, p_tupl, p_tupt, p_lstl, p_lstt, p_revl, p_revt, p_inti, p_isN0, p_notN0, sc_none, sc_bool, sc_int, sc_str, sc_list, sc_tup, sc_dict, t_bool, m_rev, m_clr, ix_l, ix_t, kBi2, kBi, kUn, kCh2, kCh, kAn, kOr, kNo, kIt, kTu, kLs, kDi, kIx2, kIx, kSl3, kSl2, kSl, kFn, kIs, kCl, kMt, kEs2, kEs, kO, kTv, kTn, kTA, kTO, kTC, kSq, kRg, kRr2, kRr, kEn, kZi2, kZi, kCp3, kCp2, sl_small, slt_small, kst_any, kst_st, p_mod, p_fdiv, p_mul1, p_mul2, p_pow, p_eq, p_ne, p_catl, p_catt, m_app, m_ext, rng0, sts1, obind_some, rsbind_ok, List.getElem?_cons_zero, List.getElem?_cons_succ, List.set_cons_zero, List.set_cons_succ, List.map_nil, List.append_nil, List.nil_append, List.cons_append, if_true, if_false, ite_true, ite_false, Bool.false_eq_true, reduceIte, List.length_cons, List.length_nil, List.any_nil, List.any_cons, Bool.and_true, Bool.true_and, Bool.and_false, Bool.false_and, Bool.not_true, Bool.not_false, Bool.or_false, Bool.or_true, Bool.true_or, Bool.false_or, List.isEmpty_nil, List.isEmpty_cons, wipeE, startE, Nat.zero_add, Nat.reduceAdd, Nat.reduceSub, Nat.reduceLeDiff, Nat.le_refl, List.replicate_succ, List.replicate_zero, List.zipWith_cons_cons, List.zipWith_nil_left, List.zipWith_nil_right, Nat.reduceBEq, Nat.reduceEqDiff, decide_true, decide_false, Int.reduceLT, Int.reduceLE, Int.reduceNeg, Int.reduceToNat, Nat.reduceLT, List.take_succ_cons, List.take_zero, List.drop_succ_cons, List.drop_zero, eq_self, Int.reduceEq, ti_sc, ti_seq, ti_ix, ti_len, ti_rev, ti_kt, ti_ki, ti_kb, ti_kl, ti_zip, ti_tup, p_ltt, p_all, sh_int, sh_tupI, eqv_int, eqv_tupI, hc, hs, sh_nil, eqv_nil, he]
end CM
/-! PM11: a standing drawn near a given. -/
namespace CM
open PySem PD
theorem ixset_int {ws : List Int} {i u : Int} (h0 : 0 ≤ i) (h1 : i < ws.length) : ixSet (.list (ws.map .int)) (.int i) (.int u) = some (.list ((ws.set i.toNat u).map .int)) := by
  show (if 0 ≤ i ∧ i < ((ws.map PyData.int).length : Int) then some (PyData.list ((ws.map PyData.int).set i.toNat (.int u))) else none) = _
  rw [if_pos ⟨h0, by rw [List.length_map]; exact h1⟩, List.map_set]
theorem atD_room {ws : List Int} {i : Int} (h0 : 0 ≤ i) (h1 : i < ws.length) : ∃ u, atD (ws.map PyData.int) i = some (.int u) ∧ ws[i.toNat]? = some u := by
  have e : ws[i.toNat]? = some (ws[i.toNat]'(by omega)) := List.getElem?_eq_getElem (by omega)
  refine ⟨_, ?_, e⟩
  unfold atD
  rw [if_pos h0, List.getElem?_map, e]
  rfl
theorem near_sem {b most : Int} {d : D} {room : List Int} {g : List (Int × Int)} (hp : Pen b d) (hb : b < 8000000) (R : Room most room) (G : GivB room room.length g) :
    ∃ ws d', f__law_near.sem [d, tupI room, givD g] = .ok false (tupI ws) [d'] ∧ Pen (b + 15) d' ∧ InRoom room ws := by
  rw [e__law_near, runF_eq rfl (by decide)]
  have hrl := R.len
  have hrne : 0 < room.length := List.length_pos_iff.mpr R.ne
  obtain ⟨way, d1, e1, p1, v0, v1⟩ := draw_sem hp (by omega) (show (0 : Int) < 4 by decide) (by decide)
  obtain ⟨bx, d2, e2, p2, l0, l1⟩ := draw_sem p1 (by omega) (show (0 : Int) < (room.length : Int) by omega) (by omega)
  obtain ⟨ws0, d3, e3, p3, h0⟩ := standing_sem p2 (by omega) R
  obtain ⟨n, en, en2⟩ := atD_room (ws := room) l0 l1
  have hn := R.two n (List.mem_of_getElem? en2)
  obtain ⟨w, d4, e4, p4, w0, w1⟩ := draw_sem p3 (by omega) (show (0 : Int) < n by omega) (by omega)
  have hl : prim .list [tupI ws0] = some (true, .list (ws0.map .int)) := rfl
  have ht : evSs [f__law_draw, f__law_standing] (b__law_near.take 5) (startE [true, false, false] [d, tupI room, givD g] 9) = .nx [some ⟨.mu, d4⟩, some ⟨.sh, tupI room⟩, some ⟨.sh, givD g⟩, some ⟨.sh, .int way⟩, some ⟨.sh, .int bx⟩, some ⟨.own, .list (ws0.map .int)⟩, some ⟨.sh, .int w⟩, none, none] ∨
      ∃ ws y7 y8, InRoom room ws ∧ evSs [f__law_draw, f__law_standing] (b__law_near.take 5) (startE [true, false, false] [d, tupI room, givD g] 9) = .nx [some ⟨.mu, d4⟩, some ⟨.sh, tupI room⟩, some ⟨.sh, givD g⟩, some ⟨.sh, .int way⟩, some ⟨.sh, .int bx⟩, some ⟨.own, .list (ws.map .int)⟩, some ⟨.sh, .int w⟩, y7, y8] := by
    unfold b__law_near
    by_cases hw : 0 < way
    · refine .inr ?_
      simp -implicitDefEqProofs only [r_rd_v, r_rd_p, r_krd, r_rds0, r_rds, r_kco, r_pr, r_kpr, r_kpr2, r_var, r_kvar1, r_kvar2, r_kvar3, r_lit, r_gl, r_un, r_bi, r_cm, r_chn, r_kch3t, r_kch3f, r_and, r_or, r_and1, r_and2, r_or1, r_or2, r_kan2t, r_kan2f, r_kor2t, r_kor2f, r_not, r_kno2, r_ite, r_tup, r_lst, r_ktu2, r_kls2, r_dic, r_kdi2, r_dnewk, r_dnewt, r_ix, r_kix3, r_kix4, r_sl, r_ksl4l, r_ksl4t, r_fn, r_isI, r_kis2, r_call, r_kcl2, r_calla, r_kca2, r_kca3, r_kca4, r_kca5, r_arg0, r_arg, r_kar1, r_kar2, r_kar3, r_kar4, r_kar5, r_kar6, r_nomix0, r_nomix1, r_pm0, r_pm1, r_kpm, r_sh0, r_sh1, r_ksh1, r_ksh2, r_fz_v, r_fz_p, r_kfz1, r_kfz2, r_fzs0, r_fzs1, r_kfs, r_kfs3, r_isL, r_kisl1, r_kisl2, r_isO, r_kiso1, r_kiso2, r_mt, r_kmt2, r_kmt31, r_kmt32, r_kmt4, r_es0, r_es1, r_o0, r_o1, r_ko2, r_tv, r_ktv2, r_ktv3, r_tcm, r_tchn, r_ktb, r_tnot, r_tand, r_tor, r_ta0, r_ta1, r_to0, r_to1, r_c0, r_c1, r_seq, r_ksq2, r_ksq3, r_rng, r_krg2, r_rr, r_krr3, r_enum, r_ken2, r_ken3, r_zip, r_kzi4, r_kzi3l, r_kzi3t, r_seqdl, r_seqdt, r_set, r_kse1, r_kse2, r_kse3, r_kse4, r_knx, r_st, r_kst1, r_kst2, r_kst3, r_sts0, r_unp, r_kup, r_kup2, r_exp, r_kex, r_ret, r_krt1, r_krt2, r_krt3, r_retn, r_iff, r_kif1, r_kif2, r_forr, r_kfo, r_step, r_ksp, r_stp1, r_stp2, r_stepc, r_kcp, r_kcp4, r_whl, r_ixs, r_kxs, r_kxs2, r_kxs6, r_kxs3, r_kxs41, r_kxs42, r_kxs5, r_pass, r_doc, r_brk, r_cont, r_ss0, r_ss1, r_kss1, r_kss2, r_kss3, r_kss4, r_krn1, r_krn2, r_krn3, r_lm0, r_lm1, r_lm2, r_klm, p_add, p_sub, p_neg, p_lt, p_le, p_gt, p_ge, p_abs, p_min, p_max, p_lenl, p_lent, p_tupl, p_tupt, p_lstl, p_lstt, p_revl, p_revt, p_inti, p_isN0, p_notN0, sc_none, sc_bool, sc_int, sc_str, sc_list, sc_tup, sc_dict, t_bool, m_rev, m_clr, ix_l, ix_t, kBi2, kBi, kUn, kCh2, kCh, kAn, kOr, kNo, kIt, kTu, kLs, kDi, kIx2, kIx, kSl3, kSl2, kSl, kFn, kIs, kCl, kMt, kEs2, kEs, kO, kTv, kTn, kTA, kTO, kTC, kSq, kRg, kRr2, kRr, kEn, kZi2, kZi, kCp3, kCp2, sl_small, slt_small, kst_any, kst_st, p_mod, p_fdiv, p_mul1, p_mul2, p_pow, p_eq, p_ne, p_catl, p_catt, m_app, m_ext, rng0, sts1, obind_some, rsbind_ok, List.getElem?_cons_zero, List.getElem?_cons_succ, List.set_cons_zero, List.set_cons_succ, List.map_nil, List.append_nil, List.nil_append, List.cons_append, if_true, if_false, ite_true, ite_false, Bool.false_eq_true, reduceIte, List.length_cons, List.length_nil, List.any_nil, List.any_cons, Bool.and_true, Bool.true_and, Bool.and_false, Bool.false_and, Bool.not_true, Bool.not_false, Bool.or_false, Bool.or_true, Bool.true_or, Bool.false_or, List.isEmpty_nil, List.isEmpty_cons, wipeE, startE, Nat.zero_add, Nat.reduceAdd, Nat.reduceSub, Nat.reduceLeDiff, Nat.le_refl, List.replicate_succ, List.replicate_zero, List.zipWith_cons_cons, List.zipWith_nil_left, List.zipWith_nil_right, Nat.reduceBEq, Nat.reduceEqDiff, decide_true, decide_false, Int.reduceLT, Int.reduceLE, Int.reduceNeg, Int.reduceToNat, Nat.reduceLT, List.take_succ_cons, List.take_zero, List.drop_succ_cons, List.drop_zero, eq_self, Int.reduceEq, ti_sc, ti_seq, ti_ix, ti_len, ti_rev, ti_kt, ti_ki, ti_kb, ti_kl, ti_zip, ti_tup, p_ltt, p_all, sh_int, sh_tupI, eqv_int, eqv_tupI, m__law_draw, m__law_standing, e1, e2, e3, e4, en, hl, hw, gi_seq]
      generalize hL : forL _ _ _ = L
      have hI := forL_use hL (fun i e => ∃ ws y7 y8, e = [some ⟨.mu, d4⟩, some ⟨.sh, tupI room⟩, some ⟨.sh, givD g⟩, some ⟨.sh, .int way⟩, some ⟨.sh, .int bx⟩, some ⟨.own, .list (ws.map .int)⟩, some ⟨.sh, .int w⟩, y7, y8] ∧ InRoom room ws ∧ ShN y7 ∧ ShN y8) ⟨ws0, none, none, rfl, h0, shn0, shn0⟩ (by
        intro i x e hx hI
        obtain ⟨ws, y7, y8, rfl, hin, s7, s8⟩ := hI
        obtain ⟨p, hp, rfl⟩ := map_at hx
        have hm := List.mem_of_getElem? hp
        obtain ⟨m, hm1, hm2, hm3⟩ := G.worth p hm
        have hb := G.box p hm
        have hs := ixset_int (ws := ws) (u := p.2) hb.1 (by rw [hin.len]; exact hb.2)
        generalize hS : stepF _ _ _ _ _ = S
        unfold pairD at hS
        simp -implicitDefEqProofs only [r_rd_v, r_rd_p, r_krd, r_rds0, r_rds, r_kco, r_pr, r_kpr, r_kpr2, r_var, r_kvar1, r_kvar2, r_kvar3, r_lit, r_gl, r_un, r_bi, r_cm, r_chn, r_kch3t, r_kch3f, r_and, r_or, r_and1, r_and2, r_or1, r_or2, r_kan2t, r_kan2f, r_kor2t, r_kor2f, r_not, r_kno2, r_ite, r_tup, r_lst, r_ktu2, r_kls2, r_dic, r_kdi2, r_dnewk, r_dnewt, r_ix, r_kix3, r_kix4, r_sl, r_ksl4l, r_ksl4t, r_fn, r_isI, r_kis2, r_call, r_kcl2, r_calla, r_kca2, r_kca3, r_kca4, r_kca5, r_arg0, r_arg, r_kar1, r_kar2, r_kar3, r_kar4, r_kar5, r_kar6, r_nomix0, r_nomix1, r_pm0, r_pm1, r_kpm, r_sh0, r_sh1, r_ksh1, r_ksh2, r_fz_v, r_fz_p, r_kfz1, r_kfz2, r_fzs0, r_fzs1, r_kfs, r_kfs3, r_isL, r_kisl1, r_kisl2, r_isO, r_kiso1, r_kiso2, r_mt, r_kmt2, r_kmt31, r_kmt32, r_kmt4, r_es0, r_es1, r_o0, r_o1, r_ko2, r_tv, r_ktv2, r_ktv3, r_tcm, r_tchn, r_ktb, r_tnot, r_tand, r_tor, r_ta0, r_ta1, r_to0, r_to1, r_c0, r_c1, r_seq, r_ksq2, r_ksq3, r_rng, r_krg2, r_rr, r_krr3, r_enum, r_ken2, r_ken3, r_zip, r_kzi4, r_kzi3l, r_kzi3t, r_seqdl, r_seqdt, r_set, r_kse1, r_kse2, r_kse3, r_kse4, r_knx, r_st, r_kst1, r_kst2, r_kst3, r_sts0, r_unp, r_kup, r_kup2, r_exp, r_kex, r_ret, r_krt1, r_krt2, r_krt3, r_retn, r_iff, r_kif1, r_kif2, r_forr, r_kfo, r_step, r_ksp, r_stp1, r_stp2, r_stepc, r_kcp, r_kcp4, r_whl, r_ixs, r_kxs, r_kxs2, r_kxs6, r_kxs3, r_kxs41, r_kxs42, r_kxs5, r_pass, r_doc, r_brk, r_cont, r_ss0, r_ss1, r_kss1, r_kss2, r_kss3, r_kss4, r_krn1, r_krn2, r_krn3, r_lm0, r_lm1, r_lm2, r_klm, p_add, p_sub, p_neg, p_lt, p_le, p_gt, p_ge, p_abs, p_min, p_max, p_lenl, p_lent, p_tupl, p_tupt, p_lstl, p_lstt, p_revl, p_revt, p_inti, p_isN0, p_notN0, sc_none, sc_bool, sc_int, sc_str, sc_list, sc_tup, sc_dict, t_bool, m_rev, m_clr, ix_l, ix_t, kBi2, kBi, kUn, kCh2, kCh, kAn, kOr, kNo, kIt, kTu, kLs, kDi, kIx2, kIx, kSl3, kSl2, kSl, kFn, kIs, kCl, kMt, kEs2, kEs, kO, kTv, kTn, kTA, kTO, kTC, kSq, kRg, kRr2, kRr, kEn, kZi2, kZi, kCp3, kCp2, sl_small, slt_small, kst_any, kst_st, p_mod, p_fdiv, p_mul1, p_mul2, p_pow, p_eq, p_ne, p_catl, p_catt, m_app, m_ext, rng0, sts1, obind_some, rsbind_ok, List.getElem?_cons_zero, List.getElem?_cons_succ, List.set_cons_zero, List.set_cons_succ, List.map_nil, List.append_nil, List.nil_append, List.cons_append, if_true, if_false, ite_true, ite_false, Bool.false_eq_true, reduceIte, List.length_cons, List.length_nil, List.any_nil, List.any_cons, Bool.and_true, Bool.true_and, Bool.and_false, Bool.false_and, Bool.not_true, Bool.not_false, Bool.or_false, Bool.or_true, Bool.true_or, Bool.false_or, List.isEmpty_nil, List.isEmpty_cons, wipeE, startE, Nat.zero_add, Nat.reduceAdd, Nat.reduceSub, Nat.reduceLeDiff, Nat.le_refl, List.replicate_succ, List.replicate_zero, List.zipWith_cons_cons, List.zipWith_nil_left, List.zipWith_nil_right, Nat.reduceBEq, Nat.reduceEqDiff, decide_true, decide_false, Int.reduceLT, Int.reduceLE, Int.reduceNeg, Int.reduceToNat, Nat.reduceLT, List.take_succ_cons, List.take_zero, List.drop_succ_cons, List.drop_zero, eq_self, Int.reduceEq, ti_sc, ti_seq, ti_ix, ti_len, ti_rev, ti_kt, ti_ki, ti_kb, ti_kl, ti_zip, ti_tup, p_ltt, p_all, sh_int, sh_tupI, eqv_int, eqv_tupI, s7, s8, hs] at hS
        subst hS
        exact ⟨_, rfl, _, _, _, rfl, hin.set p.1.toNat m p.2 hm1 hm2 hm3, shn1, shn1⟩)
      obtain ⟨e', rfl, ws, y7, y8, rfl, hin, _⟩ := hI
      refine ⟨ws, y7, y8, hin, ?_⟩
      simp -implicitDefEqProofs only [r_rd_v, r_rd_p, r_krd, r_rds0, r_rds, r_kco, r_pr, r_kpr, r_kpr2, r_var, r_kvar1, r_kvar2, r_kvar3, r_lit, r_gl, r_un, r_bi, r_cm, r_chn, r_kch3t, r_kch3f, r_and, r_or, r_and1, r_and2, r_or1, r_or2, r_kan2t, r_kan2f, r_kor2t, r_kor2f, r_not, r_kno2, r_ite, r_tup, r_lst, r_ktu2, r_kls2, r_dic, r_kdi2, r_dnewk, r_dnewt, r_ix, r_kix3, r_kix4, r_sl, r_ksl4l, r_ksl4t, r_fn, r_isI, r_kis2, r_call, r_kcl2, r_calla, r_kca2, r_kca3, r_kca4, r_kca5, r_arg0, r_arg, r_kar1, r_kar2, r_kar3, r_kar4, r_kar5, r_kar6, r_nomix0, r_nomix1, r_pm0, r_pm1, r_kpm, r_sh0, r_sh1, r_ksh1, r_ksh2, r_fz_v, r_fz_p, r_kfz1, r_kfz2, r_fzs0, r_fzs1, r_kfs, r_kfs3, r_isL, r_kisl1, r_kisl2, r_isO, r_kiso1, r_kiso2, r_mt, r_kmt2, r_kmt31, r_kmt32, r_kmt4, r_es0, r_es1, r_o0, r_o1, r_ko2, r_tv, r_ktv2, r_ktv3, r_tcm, r_tchn, r_ktb, r_tnot, r_tand, r_tor, r_ta0, r_ta1, r_to0, r_to1, r_c0, r_c1, r_seq, r_ksq2, r_ksq3, r_rng, r_krg2, r_rr, r_krr3, r_enum, r_ken2, r_ken3, r_zip, r_kzi4, r_kzi3l, r_kzi3t, r_seqdl, r_seqdt, r_set, r_kse1, r_kse2, r_kse3, r_kse4, r_knx, r_st, r_kst1, r_kst2, r_kst3, r_sts0, r_unp, r_kup, r_kup2, r_exp, r_kex, r_ret, r_krt1, r_krt2, r_krt3, r_retn, r_iff, r_kif1, r_kif2, r_forr, r_kfo, r_step, r_ksp, r_stp1, r_stp2, r_stepc, r_kcp, r_kcp4, r_whl, r_ixs, r_kxs, r_kxs2, r_kxs6, r_kxs3, r_kxs41, r_kxs42, r_kxs5, r_pass, r_doc, r_brk, r_cont, r_ss0, r_ss1, r_kss1, r_kss2, r_kss3, r_kss4, r_krn1, r_krn2, r_krn3, r_lm0, r_lm1, r_lm2, r_klm, p_add, p_sub, p_neg, p_lt, p_le, p_gt, p_ge, p_abs, p_min, p_max, p_lenl, p_lent, p_tupl, p_tupt, p_lstl, p_lstt, p_revl, p_revt, p_inti, p_isN0, p_notN0, sc_none, sc_bool, sc_int, sc_str, sc_list, sc_tup, sc_dict, t_bool, m_rev, m_clr, ix_l, ix_t, kBi2, kBi, kUn, kCh2, kCh, kAn, kOr, kNo, kIt, kTu, kLs, kDi, kIx2, kIx, kSl3, kSl2, kSl, kFn, kIs, kCl, kMt, kEs2, kEs, kO, kTv, kTn, kTA, kTO, kTC, kSq, kRg, kRr2, kRr, kEn, kZi2, kZi, kCp3, kCp2, sl_small, slt_small, kst_any, kst_st, p_mod, p_fdiv, p_mul1, p_mul2, p_pow, p_eq, p_ne, p_catl, p_catt, m_app, m_ext, rng0, sts1, obind_some, rsbind_ok, List.getElem?_cons_zero, List.getElem?_cons_succ, List.set_cons_zero, List.set_cons_succ, List.map_nil, List.append_nil, List.nil_append, List.cons_append, if_true, if_false, ite_true, ite_false, Bool.false_eq_true, reduceIte, List.length_cons, List.length_nil, List.any_nil, List.any_cons, Bool.and_true, Bool.true_and, Bool.and_false, Bool.false_and, Bool.not_true, Bool.not_false, Bool.or_false, Bool.or_true, Bool.true_or, Bool.false_or, List.isEmpty_nil, List.isEmpty_cons, wipeE, startE, Nat.zero_add, Nat.reduceAdd, Nat.reduceSub, Nat.reduceLeDiff, Nat.le_refl, List.replicate_succ, List.replicate_zero, List.zipWith_cons_cons, List.zipWith_nil_left, List.zipWith_nil_right, Nat.reduceBEq, Nat.reduceEqDiff, decide_true, decide_false, Int.reduceLT, Int.reduceLE, Int.reduceNeg, Int.reduceToNat, Nat.reduceLT, List.take_succ_cons, List.take_zero, List.drop_succ_cons, List.drop_zero, eq_self, Int.reduceEq]
    · refine .inl ?_
      simp -implicitDefEqProofs only [r_rd_v, r_rd_p, r_krd, r_rds0, r_rds, r_kco, r_pr, r_kpr, r_kpr2, r_var, r_kvar1, r_kvar2, r_kvar3, r_lit, r_gl, r_un, r_bi, r_cm, r_chn, r_kch3t, r_kch3f, r_and, r_or, r_and1, r_and2, r_or1, r_or2, r_kan2t, r_kan2f, r_kor2t, r_kor2f, r_not, r_kno2, r_ite, r_tup, r_lst, r_ktu2, r_kls2, r_dic, r_kdi2, r_dnewk, r_dnewt, r_ix, r_kix3, r_kix4, r_sl, r_ksl4l, r_ksl4t, r_fn, r_isI, r_kis2, r_call, r_kcl2, r_calla, r_kca2, r_kca3, r_kca4, r_kca5, r_arg0, r_arg, r_kar1, r_kar2, r_kar3, r_kar4, r_kar5, r_kar6, r_nomix0, r_nomix1, r_pm0, r_pm1, r_kpm, r_sh0, r_sh1, r_ksh1, r_ksh2, r_fz_v, r_fz_p, r_kfz1, r_kfz2, r_fzs0, r_fzs1, r_kfs, r_kfs3, r_isL, r_kisl1, r_kisl2, r_isO, r_kiso1, r_kiso2, r_mt, r_kmt2, r_kmt31, r_kmt32, r_kmt4, r_es0, r_es1, r_o0, r_o1, r_ko2, r_tv, r_ktv2, r_ktv3, r_tcm, r_tchn, r_ktb, r_tnot, r_tand, r_tor, r_ta0, r_ta1, r_to0, r_to1, r_c0, r_c1, r_seq, r_ksq2, r_ksq3, r_rng, r_krg2, r_rr, r_krr3, r_enum, r_ken2, r_ken3, r_zip, r_kzi4, r_kzi3l, r_kzi3t, r_seqdl, r_seqdt, r_set, r_kse1, r_kse2, r_kse3, r_kse4, r_knx, r_st, r_kst1, r_kst2, r_kst3, r_sts0, r_unp, r_kup, r_kup2, r_exp, r_kex, r_ret, r_krt1, r_krt2, r_krt3, r_retn, r_iff, r_kif1, r_kif2, r_forr, r_kfo, r_step, r_ksp, r_stp1, r_stp2, r_stepc, r_kcp, r_kcp4, r_whl, r_ixs, r_kxs, r_kxs2, r_kxs6, r_kxs3, r_kxs41, r_kxs42, r_kxs5, r_pass, r_doc, r_brk, r_cont, r_ss0, r_ss1, r_kss1, r_kss2, r_kss3, r_kss4, r_krn1, r_krn2, r_krn3, r_lm0, r_lm1, r_lm2, r_klm, p_add, p_sub, p_neg, p_lt, p_le, p_gt, p_ge, p_abs, p_min, p_max, p_lenl, p_lent, p_tupl, p_tupt, p_lstl, p_lstt, p_revl, p_revt, p_inti, p_isN0, p_notN0, sc_none, sc_bool, sc_int, sc_str, sc_list, sc_tup, sc_dict, t_bool, m_rev, m_clr, ix_l, ix_t, kBi2, kBi, kUn, kCh2, kCh, kAn, kOr, kNo, kIt, kTu, kLs, kDi, kIx2, kIx, kSl3, kSl2, kSl, kFn, kIs, kCl, kMt, kEs2, kEs, kO, kTv, kTn, kTA, kTO, kTC, kSq, kRg, kRr2, kRr, kEn, kZi2, kZi, kCp3, kCp2, sl_small, slt_small, kst_any, kst_st, p_mod, p_fdiv, p_mul1, p_mul2, p_pow, p_eq, p_ne, p_catl, p_catt, m_app, m_ext, rng0, sts1, obind_some, rsbind_ok, List.getElem?_cons_zero, List.getElem?_cons_succ, List.set_cons_zero, List.set_cons_succ, List.map_nil, List.append_nil, List.nil_append, List.cons_append, if_true, if_false, ite_true, ite_false, Bool.false_eq_true, reduceIte, List.length_cons, List.length_nil, List.any_nil, List.any_cons, Bool.and_true, Bool.true_and, Bool.and_false, Bool.false_and, Bool.not_true, Bool.not_false, Bool.or_false, Bool.or_true, Bool.true_or, Bool.false_or, List.isEmpty_nil, List.isEmpty_cons, wipeE, startE, Nat.zero_add, Nat.reduceAdd, Nat.reduceSub, Nat.reduceLeDiff, Nat.le_refl, List.replicate_succ, List.replicate_zero, List.zipWith_cons_cons, List.zipWith_nil_left, List.zipWith_nil_right, Nat.reduceBEq, Nat.reduceEqDiff, decide_true, decide_false, Int.reduceLT, Int.reduceLE, Int.reduceNeg, Int.reduceToNat, Nat.reduceLT, List.take_succ_cons, List.take_zero, List.drop_succ_cons, List.drop_zero, eq_self, Int.reduceEq, ti_sc, ti_seq, ti_ix, ti_len, ti_rev, ti_kt, ti_ki, ti_kb, ti_kl, ti_zip, ti_tup, p_ltt, p_all, sh_int, sh_tupI, eqv_int, eqv_tupI, m__law_draw, m__law_standing, e1, e2, e3, e4, en, hl, hw]
  have ht2 : ∃ ws y7 y8, InRoom room ws ∧ evSs [f__law_draw, f__law_standing] (b__law_near.take 5) (startE [true, false, false] [d, tupI room, givD g] 9) = .nx [some ⟨.mu, d4⟩, some ⟨.sh, tupI room⟩, some ⟨.sh, givD g⟩, some ⟨.sh, .int way⟩, some ⟨.sh, .int bx⟩, some ⟨.own, .list (ws.map .int)⟩, some ⟨.sh, .int w⟩, y7, y8] := by
    rcases ht with h | h
    · exact ⟨ws0, none, none, h0, h⟩
    · exact h
  obtain ⟨ws, y7, y8, hin, ht⟩ := ht2
  rw [ss_split 5 ht]
  unfold b__law_near
  have p5 : Pen (b + 15) d4 := p4.mono (by omega)
  by_cases h2 : way = 2
  · have hs := ixset_int (ws := ws) (u := w) l0 (by rw [hin.len]; exact l1)
    simp -implicitDefEqProofs only [r_rd_v, r_rd_p, r_krd, r_rds0, r_rds, r_kco, r_pr, r_kpr, r_kpr2, r_var, r_kvar1, r_kvar2, r_kvar3, r_lit, r_gl, r_un, r_bi, r_cm, r_chn, r_kch3t, r_kch3f, r_and, r_or, r_and1, r_and2, r_or1, r_or2, r_kan2t, r_kan2f, r_kor2t, r_kor2f, r_not, r_kno2, r_ite, r_tup, r_lst, r_ktu2, r_kls2, r_dic, r_kdi2, r_dnewk, r_dnewt, r_ix, r_kix3, r_kix4, r_sl, r_ksl4l, r_ksl4t, r_fn, r_isI, r_kis2, r_call, r_kcl2, r_calla, r_kca2, r_kca3, r_kca4, r_kca5, r_arg0, r_arg, r_kar1, r_kar2, r_kar3, r_kar4, r_kar5, r_kar6, r_nomix0, r_nomix1, r_pm0, r_pm1, r_kpm, r_sh0, r_sh1, r_ksh1, r_ksh2, r_fz_v, r_fz_p, r_kfz1, r_kfz2, r_fzs0, r_fzs1, r_kfs, r_kfs3, r_isL, r_kisl1, r_kisl2, r_isO, r_kiso1, r_kiso2, r_mt, r_kmt2, r_kmt31, r_kmt32, r_kmt4, r_es0, r_es1, r_o0, r_o1, r_ko2, r_tv, r_ktv2, r_ktv3, r_tcm, r_tchn, r_ktb, r_tnot, r_tand, r_tor, r_ta0, r_ta1, r_to0, r_to1, r_c0, r_c1, r_seq, r_ksq2, r_ksq3, r_rng, r_krg2, r_rr, r_krr3, r_enum, r_ken2, r_ken3, r_zip, r_kzi4, r_kzi3l, r_kzi3t, r_seqdl, r_seqdt, r_set, r_kse1, r_kse2, r_kse3, r_kse4, r_knx, r_st, r_kst1, r_kst2, r_kst3, r_sts0, r_unp, r_kup, r_kup2, r_exp, r_kex, r_ret, r_krt1, r_krt2, r_krt3, r_retn, r_iff, r_kif1, r_kif2, r_forr, r_kfo, r_step, r_ksp, r_stp1, r_stp2, r_stepc, r_kcp, r_kcp4, r_whl, r_ixs, r_kxs, r_kxs2, r_kxs6, r_kxs3, r_kxs41, r_kxs42, r_kxs5, r_pass, r_doc, r_brk, r_cont, r_ss0, r_ss1, r_kss1, r_kss2, r_kss3, r_kss4, r_krn1, r_krn2, r_krn3, r_lm0, r_lm1, r_lm2, r_klm, p_add, p_sub, p_neg, p_lt, p_le, p_gt, p_ge, p_abs, p_min, p_max, p_lenl, p_lent, p_tupl, p_tupt, p_lstl, p_lstt, p_revl, p_revt, p_inti, p_isN0, p_notN0, sc_none, sc_bool, sc_int, sc_str, sc_list, sc_tup, sc_dict, t_bool, m_rev, m_clr, ix_l, ix_t, kBi2, kBi, kUn, kCh2, kCh, kAn, kOr, kNo, kIt, kTu, kLs, kDi, kIx2, kIx, kSl3, kSl2, kSl, kFn, kIs, kCl, kMt, kEs2, kEs, kO, kTv, kTn, kTA, kTO, kTC, kSq, kRg, kRr2, kRr, kEn, kZi2, kZi, kCp3, kCp2, sl_small, slt_small, kst_any, kst_st, p_mod, p_fdiv, p_mul1, p_mul2, p_pow, p_eq, p_ne, p_catl, p_catt, m_app, m_ext, rng0, sts1, obind_some, rsbind_ok, List.getElem?_cons_zero, List.getElem?_cons_succ, List.set_cons_zero, List.set_cons_succ, List.map_nil, List.append_nil, List.nil_append, List.cons_append, if_true, if_false, ite_true, ite_false, Bool.false_eq_true, reduceIte, List.length_cons, List.length_nil, List.any_nil, List.any_cons, Bool.and_true, Bool.true_and, Bool.and_false, Bool.false_and, Bool.not_true, Bool.not_false, Bool.or_false, Bool.or_true, Bool.true_or, Bool.false_or, List.isEmpty_nil, List.isEmpty_cons, wipeE, startE, Nat.zero_add, Nat.reduceAdd, Nat.reduceSub, Nat.reduceLeDiff, Nat.le_refl, List.replicate_succ, List.replicate_zero, List.zipWith_cons_cons, List.zipWith_nil_left, List.zipWith_nil_right, Nat.reduceBEq, Nat.reduceEqDiff, decide_true, decide_false, Int.reduceLT, Int.reduceLE, Int.reduceNeg, Int.reduceToNat, Nat.reduceLT, List.take_succ_cons, List.take_zero, List.drop_succ_cons, List.drop_zero, eq_self, Int.reduceEq, ti_sc, ti_seq, ti_ix, ti_len, ti_rev, ti_kt, ti_ki, ti_kb, ti_kl, ti_zip, ti_tup, p_ltt, p_all, sh_int, sh_tupI, eqv_int, eqv_tupI, h2, hs]
    exact ⟨_, _, rfl, p5, hin.set bx.toNat n w en2 w0 w1⟩
  · simp -implicitDefEqProofs only [r_rd_v, r_rd_p, r_krd, r_rds0, r_rds, r_kco, r_pr, r_kpr, r_kpr2, r_var, r_kvar1, r_kvar2, r_kvar3, r_lit, r_gl, r_un, r_bi, r_cm, r_chn, r_kch3t, r_kch3f, r_and, r_or, r_and1, r_and2, r_or1, r_or2, r_kan2t, r_kan2f, r_kor2t, r_kor2f, r_not, r_kno2, r_ite, r_tup, r_lst, r_ktu2, r_kls2, r_dic, r_kdi2, r_dnewk, r_dnewt, r_ix, r_kix3, r_kix4, r_sl, r_ksl4l, r_ksl4t, r_fn, r_isI, r_kis2, r_call, r_kcl2, r_calla, r_kca2, r_kca3, r_kca4, r_kca5, r_arg0, r_arg, r_kar1, r_kar2, r_kar3, r_kar4, r_kar5, r_kar6, r_nomix0, r_nomix1, r_pm0, r_pm1, r_kpm, r_sh0, r_sh1, r_ksh1, r_ksh2, r_fz_v, r_fz_p, r_kfz1, r_kfz2, r_fzs0, r_fzs1, r_kfs, r_kfs3, r_isL, r_kisl1, r_kisl2, r_isO, r_kiso1, r_kiso2, r_mt, r_kmt2, r_kmt31, r_kmt32, r_kmt4, r_es0, r_es1, r_o0, r_o1, r_ko2, r_tv, r_ktv2, r_ktv3, r_tcm, r_tchn, r_ktb, r_tnot, r_tand, r_tor, r_ta0, r_ta1, r_to0, r_to1, r_c0, r_c1, r_seq, r_ksq2, r_ksq3, r_rng, r_krg2, r_rr, r_krr3, r_enum, r_ken2, r_ken3, r_zip, r_kzi4, r_kzi3l, r_kzi3t, r_seqdl, r_seqdt, r_set, r_kse1, r_kse2, r_kse3, r_kse4, r_knx, r_st, r_kst1, r_kst2, r_kst3, r_sts0, r_unp, r_kup, r_kup2, r_exp, r_kex, r_ret, r_krt1, r_krt2, r_krt3, r_retn, r_iff, r_kif1, r_kif2, r_forr, r_kfo, r_step, r_ksp, r_stp1, r_stp2, r_stepc, r_kcp, r_kcp4, r_whl, r_ixs, r_kxs, r_kxs2, r_kxs6, r_kxs3, r_kxs41, r_kxs42, r_kxs5, r_pass, r_doc, r_brk, r_cont, r_ss0, r_ss1, r_kss1, r_kss2, r_kss3, r_kss4, r_krn1, r_krn2, r_krn3, r_lm0, r_lm1, r_lm2, r_klm, p_add, p_sub, p_neg, p_lt, p_le, p_gt, p_ge, p_abs, p_min, p_max, p_lenl, p_lent, p_tupl, p_tupt, p_lstl, p_lstt, p_revl, p_revt, p_inti, p_isN0, p_notN0, sc_none, sc_bool, sc_int, sc_str, sc_list, sc_tup, sc_dict, t_bool, m_rev, m_clr, ix_l, ix_t, kBi2, kBi, kUn, kCh2, kCh, kAn, kOr, kNo, kIt, kTu, kLs, kDi, kIx2, kIx, kSl3, kSl2, kSl, kFn, kIs, kCl, kMt, kEs2, kEs, kO, kTv, kTn, kTA, kTO, kTC, kSq, kRg, kRr2, kRr, kEn, kZi2, kZi, kCp3, kCp2, sl_small, slt_small, kst_any, kst_st, p_mod, p_fdiv, p_mul1, p_mul2, p_pow, p_eq, p_ne, p_catl, p_catt, m_app, m_ext, rng0, sts1, obind_some, rsbind_ok, List.getElem?_cons_zero, List.getElem?_cons_succ, List.set_cons_zero, List.set_cons_succ, List.map_nil, List.append_nil, List.nil_append, List.cons_append, if_true, if_false, ite_true, ite_false, Bool.false_eq_true, reduceIte, List.length_cons, List.length_nil, List.any_nil, List.any_cons, Bool.and_true, Bool.true_and, Bool.and_false, Bool.false_and, Bool.not_true, Bool.not_false, Bool.or_false, Bool.or_true, Bool.true_or, Bool.false_or, List.isEmpty_nil, List.isEmpty_cons, wipeE, startE, Nat.zero_add, Nat.reduceAdd, Nat.reduceSub, Nat.reduceLeDiff, Nat.le_refl, List.replicate_succ, List.replicate_zero, List.zipWith_cons_cons, List.zipWith_nil_left, List.zipWith_nil_right, Nat.reduceBEq, Nat.reduceEqDiff, decide_true, decide_false, Int.reduceLT, Int.reduceLE, Int.reduceNeg, Int.reduceToNat, Nat.reduceLT, List.take_succ_cons, List.take_zero, List.drop_succ_cons, List.drop_zero, eq_self, Int.reduceEq, ti_sc, ti_seq, ti_ix, ti_len, ti_rev, ti_kt, ti_ki, ti_kb, ti_kl, ti_zip, ti_tup, p_ltt, p_all, sh_int, sh_tupI, eqv_int, eqv_tupI, h2]
    exact ⟨_, _, rfl, p5, hin⟩
end CM
/-! PM12: the standings that keep a given. -/
namespace CM
open PySem PD
theorem all_in {room : List Int} (h : ∀ n ∈ room, 0 < n) : ∀ o ∈ allS room, InRoom room o := fun o ho => by
  unfold allS at ho
  obtain ⟨k, _, rfl⟩ := List.mem_map.mp ho
  exact stn_in room h _
theorem fm_filter {α : Type} (p : α → Bool) (k : α → D) : ∀ g : List α, (g.filterMap fun x => if p x = true then some (k x) else none) = (g.filter p).map k
  | [] => rfl
  | x :: g => by
    have ih := fm_filter p k g
    by_cases h : p x = true
    · rw [List.filterMap_cons, List.filter_cons, if_pos h, if_pos h, List.map_cons, ← ih]
    · rw [List.filterMap_cons, List.filter_cons, if_neg h, if_neg h, ← ih]
theorem keeping_sem {most : Int} {room : List Int} {i : Nat} {g : List (Int × Int)} (R : Room most room) (hm : most ≤ 1000) (G : GivB room i g) (hi : i ≤ 1000) :
    f_keeping.sem [tupI room, givD g] = .ok true (.list (tupL ((allS room).filter fun ws => keepB ws g))) [] := by
  rw [e_keeping, runF_eq rfl (by decide)]
  unfold b_keeping
  have hst := standings_sem R hm
  have hp1 := R.prod
  have hc : evE [f_standings, f_keeps] (.comp (.var 2) (.nm 2) (.seq (.call 0 [(.var 0)] [])) [(.v (.call 1 [(.var 2), (.var 1)] []))] [2]) [some ⟨.sh, tupI room⟩, some ⟨.sh, givD g⟩, none] =
      .ok (.val true (.list ((allS room).filterMap fun ws => if keepB ws g = true then some (tupI ws) else none))) [some ⟨.sh, tupI room⟩, some ⟨.sh, givD g⟩, none] := by
    refine evE_comp_map (e1 := [some ⟨.sh, tupI room⟩, some ⟨.sh, givD g⟩, none]) (h := tupI) (by simp -implicitDefEqProofs only [r_rd_v, r_rd_p, r_krd, r_rds0, r_rds, r_kco, r_pr, r_kpr, r_kpr2, r_var, r_kvar1, r_kvar2, r_kvar3, r_lit, r_gl, r_un, r_bi, r_cm, r_chn, r_kch3t, r_kch3f, r_and, r_or, r_and1, r_and2, r_or1, r_or2, r_kan2t, r_kan2f, r_kor2t, r_kor2f, r_not, r_kno2, r_ite, r_tup, r_lst, r_ktu2, r_kls2, r_dic, r_kdi2, r_dnewk, r_dnewt, r_ix, r_kix3, r_kix4, r_sl, r_ksl4l, r_ksl4t, r_fn, r_isI, r_kis2, r_call, r_kcl2, r_calla, r_kca2, r_kca3, r_kca4, r_kca5, r_arg0, r_arg, r_kar1, r_kar2, r_kar3, r_kar4, r_kar5, r_kar6, r_nomix0, r_nomix1, r_pm0, r_pm1, r_kpm, r_sh0, r_sh1, r_ksh1, r_ksh2, r_fz_v, r_fz_p, r_kfz1, r_kfz2, r_fzs0, r_fzs1, r_kfs, r_kfs3, r_isL, r_kisl1, r_kisl2, r_isO, r_kiso1, r_kiso2, r_mt, r_kmt2, r_kmt31, r_kmt32, r_kmt4, r_es0, r_es1, r_o0, r_o1, r_ko2, r_tv, r_ktv2, r_ktv3, r_tcm, r_tchn, r_ktb, r_tnot, r_tand, r_tor, r_ta0, r_ta1, r_to0, r_to1, r_c0, r_c1, r_seq, r_ksq2, r_ksq3, r_rng, r_krg2, r_rr, r_krr3, r_enum, r_ken2, r_ken3, r_zip, r_kzi4, r_kzi3l, r_kzi3t, r_seqdl, r_seqdt, r_set, r_kse1, r_kse2, r_kse3, r_kse4, r_knx, r_st, r_kst1, r_kst2, r_kst3, r_sts0, r_unp, r_kup, r_kup2, r_exp, r_kex, r_ret, r_krt1, r_krt2, r_krt3, r_retn, r_iff, r_kif1, r_kif2, r_forr, r_kfo, r_step, r_ksp, r_stp1, r_stp2, r_stepc, r_kcp, r_kcp4, r_whl, r_ixs, r_kxs, r_kxs2, r_kxs6, r_kxs3, r_kxs41, r_kxs42, r_kxs5, r_pass, r_doc, r_brk, r_cont, r_ss0, r_ss1, r_kss1, r_kss2, r_kss3, r_kss4, r_krn1, r_krn2, r_krn3, r_lm0, r_lm1, r_lm2, r_klm, p_add, p_sub, p_neg, p_lt, p_le, p_gt, p_ge, p_abs, p_min, p_max, p_lenl, p_lent, p_tupl, p_tupt, p_lstl, p_lstt, p_revl, p_revt, p_inti, p_isN0, p_notN0, sc_none, sc_bool, sc_int, sc_str, sc_list, sc_tup, sc_dict, t_bool, m_rev, m_clr, ix_l, ix_t, kBi2, kBi, kUn, kCh2, kCh, kAn, kOr, kNo, kIt, kTu, kLs, kDi, kIx2, kIx, kSl3, kSl2, kSl, kFn, kIs, kCl, kMt, kEs2, kEs, kO, kTv, kTn, kTA, kTO, kTC, kSq, kRg, kRr2, kRr, kEn, kZi2, kZi, kCp3, kCp2, sl_small, slt_small, kst_any, kst_st, p_mod, p_fdiv, p_mul1, p_mul2, p_pow, p_eq, p_ne, p_catl, p_catt, m_app, m_ext, rng0, sts1, obind_some, rsbind_ok, List.getElem?_cons_zero, List.getElem?_cons_succ, List.set_cons_zero, List.set_cons_succ, List.map_nil, List.append_nil, List.nil_append, List.cons_append, if_true, if_false, ite_true, ite_false, Bool.false_eq_true, reduceIte, List.length_cons, List.length_nil, List.any_nil, List.any_cons, Bool.and_true, Bool.true_and, Bool.and_false, Bool.false_and, Bool.not_true, Bool.not_false, Bool.or_false, Bool.or_true, Bool.true_or, Bool.false_or, List.isEmpty_nil, List.isEmpty_cons, wipeE, startE, Nat.zero_add, Nat.reduceAdd, Nat.reduceSub, Nat.reduceLeDiff, Nat.le_refl, List.replicate_succ, List.replicate_zero, List.zipWith_cons_cons, List.zipWith_nil_left, List.zipWith_nil_right, Nat.reduceBEq, Nat.reduceEqDiff, decide_true, decide_false, Int.reduceLT, Int.reduceLE, Int.reduceNeg, Int.reduceToNat, Nat.reduceLT, List.take_succ_cons, List.take_zero, List.drop_succ_cons, List.drop_zero, eq_self, Int.reduceEq, ti_sc, ti_seq, ti_ix, ti_len, ti_rev, ti_kt, ti_ki, ti_kb, ti_kl, ti_zip, ti_tup, p_ltt, p_all, sh_int, sh_tupI, eqv_int, eqv_tupI, m_standings, hst]; rfl) rfl (by rw [allS_len, sl_eq]; omega) fun ws hw e he => ?_
    have hk := keeps_sem (all_in R.pos ws hw) G hi
    rw [r_stepc, he]
    by_cases h : keepB ws g = true
    · rw [h] at hk
      simp -implicitDefEqProofs only [r_rd_v, r_rd_p, r_krd, r_rds0, r_rds, r_kco, r_pr, r_kpr, r_kpr2, r_var, r_kvar1, r_kvar2, r_kvar3, r_lit, r_gl, r_un, r_bi, r_cm, r_chn, r_kch3t, r_kch3f, r_and, r_or, r_and1, r_and2, r_or1, r_or2, r_kan2t, r_kan2f, r_kor2t, r_kor2f, r_not, r_kno2, r_ite, r_tup, r_lst, r_ktu2, r_kls2, r_dic, r_kdi2, r_dnewk, r_dnewt, r_ix, r_kix3, r_kix4, r_sl, r_ksl4l, r_ksl4t, r_fn, r_isI, r_kis2, r_call, r_kcl2, r_calla, r_kca2, r_kca3, r_kca4, r_kca5, r_arg0, r_arg, r_kar1, r_kar2, r_kar3, r_kar4, r_kar5, r_kar6, r_nomix0, r_nomix1, r_pm0, r_pm1, r_kpm, r_sh0, r_sh1, r_ksh1, r_ksh2, r_fz_v, r_fz_p, r_kfz1, r_kfz2, r_fzs0, r_fzs1, r_kfs, r_kfs3, r_isL, r_kisl1, r_kisl2, r_isO, r_kiso1, r_kiso2, r_mt, r_kmt2, r_kmt31, r_kmt32, r_kmt4, r_es0, r_es1, r_o0, r_o1, r_ko2, r_tv, r_ktv2, r_ktv3, r_tcm, r_tchn, r_ktb, r_tnot, r_tand, r_tor, r_ta0, r_ta1, r_to0, r_to1, r_c0, r_c1, r_seq, r_ksq2, r_ksq3, r_rng, r_krg2, r_rr, r_krr3, r_enum, r_ken2, r_ken3, r_zip, r_kzi4, r_kzi3l, r_kzi3t, r_seqdl, r_seqdt, r_set, r_kse1, r_kse2, r_kse3, r_kse4, r_knx, r_st, r_kst1, r_kst2, r_kst3, r_sts0, r_unp, r_kup, r_kup2, r_exp, r_kex, r_ret, r_krt1, r_krt2, r_krt3, r_retn, r_iff, r_kif1, r_kif2, r_forr, r_kfo, r_step, r_ksp, r_stp1, r_stp2, r_stepc, r_kcp, r_kcp4, r_whl, r_ixs, r_kxs, r_kxs2, r_kxs6, r_kxs3, r_kxs41, r_kxs42, r_kxs5, r_pass, r_doc, r_brk, r_cont, r_ss0, r_ss1, r_kss1, r_kss2, r_kss3, r_kss4, r_krn1, r_krn2, r_krn3, r_lm0, r_lm1, r_lm2, r_klm, p_add, p_sub, p_neg, p_lt, p_le, p_gt, p_ge, p_abs, p_min, p_max, p_lenl, p_lent, p_tupl, p_tupt, p_lstl, p_lstt, p_revl, p_revt, p_inti, p_isN0, p_notN0, sc_none, sc_bool, sc_int, sc_str, sc_list, sc_tup, sc_dict, t_bool, m_rev, m_clr, ix_l, ix_t, kBi2, kBi, kUn, kCh2, kCh, kAn, kOr, kNo, kIt, kTu, kLs, kDi, kIx2, kIx, kSl3, kSl2, kSl, kFn, kIs, kCl, kMt, kEs2, kEs, kO, kTv, kTn, kTA, kTO, kTC, kSq, kRg, kRr2, kRr, kEn, kZi2, kZi, kCp3, kCp2, sl_small, slt_small, kst_any, kst_st, p_mod, p_fdiv, p_mul1, p_mul2, p_pow, p_eq, p_ne, p_catl, p_catt, m_app, m_ext, rng0, sts1, obind_some, rsbind_ok, List.getElem?_cons_zero, List.getElem?_cons_succ, List.set_cons_zero, List.set_cons_succ, List.map_nil, List.append_nil, List.nil_append, List.cons_append, if_true, if_false, ite_true, ite_false, Bool.false_eq_true, reduceIte, List.length_cons, List.length_nil, List.any_nil, List.any_cons, Bool.and_true, Bool.true_and, Bool.and_false, Bool.false_and, Bool.not_true, Bool.not_false, Bool.or_false, Bool.or_true, Bool.true_or, Bool.false_or, List.isEmpty_nil, List.isEmpty_cons, wipeE, startE, Nat.zero_add, Nat.reduceAdd, Nat.reduceSub, Nat.reduceLeDiff, Nat.le_refl, List.replicate_succ, List.replicate_zero, List.zipWith_cons_cons, List.zipWith_nil_left, List.zipWith_nil_right, Nat.reduceBEq, Nat.reduceEqDiff, decide_true, decide_false, Int.reduceLT, Int.reduceLE, Int.reduceNeg, Int.reduceToNat, Nat.reduceLT, List.take_succ_cons, List.take_zero, List.drop_succ_cons, List.drop_zero, eq_self, Int.reduceEq, ti_sc, ti_seq, ti_ix, ti_len, ti_rev, ti_kt, ti_ki, ti_kb, ti_kl, ti_zip, ti_tup, p_ltt, p_all, sh_int, sh_tupI, eqv_int, eqv_tupI, m_keeps, hk, h]
      exact ⟨_, rfl, rfl⟩
    · have h' : keepB ws g = false := Bool.eq_false_iff.mpr h
      rw [h'] at hk
      simp -implicitDefEqProofs only [r_rd_v, r_rd_p, r_krd, r_rds0, r_rds, r_kco, r_pr, r_kpr, r_kpr2, r_var, r_kvar1, r_kvar2, r_kvar3, r_lit, r_gl, r_un, r_bi, r_cm, r_chn, r_kch3t, r_kch3f, r_and, r_or, r_and1, r_and2, r_or1, r_or2, r_kan2t, r_kan2f, r_kor2t, r_kor2f, r_not, r_kno2, r_ite, r_tup, r_lst, r_ktu2, r_kls2, r_dic, r_kdi2, r_dnewk, r_dnewt, r_ix, r_kix3, r_kix4, r_sl, r_ksl4l, r_ksl4t, r_fn, r_isI, r_kis2, r_call, r_kcl2, r_calla, r_kca2, r_kca3, r_kca4, r_kca5, r_arg0, r_arg, r_kar1, r_kar2, r_kar3, r_kar4, r_kar5, r_kar6, r_nomix0, r_nomix1, r_pm0, r_pm1, r_kpm, r_sh0, r_sh1, r_ksh1, r_ksh2, r_fz_v, r_fz_p, r_kfz1, r_kfz2, r_fzs0, r_fzs1, r_kfs, r_kfs3, r_isL, r_kisl1, r_kisl2, r_isO, r_kiso1, r_kiso2, r_mt, r_kmt2, r_kmt31, r_kmt32, r_kmt4, r_es0, r_es1, r_o0, r_o1, r_ko2, r_tv, r_ktv2, r_ktv3, r_tcm, r_tchn, r_ktb, r_tnot, r_tand, r_tor, r_ta0, r_ta1, r_to0, r_to1, r_c0, r_c1, r_seq, r_ksq2, r_ksq3, r_rng, r_krg2, r_rr, r_krr3, r_enum, r_ken2, r_ken3, r_zip, r_kzi4, r_kzi3l, r_kzi3t, r_seqdl, r_seqdt, r_set, r_kse1, r_kse2, r_kse3, r_kse4, r_knx, r_st, r_kst1, r_kst2, r_kst3, r_sts0, r_unp, r_kup, r_kup2, r_exp, r_kex, r_ret, r_krt1, r_krt2, r_krt3, r_retn, r_iff, r_kif1, r_kif2, r_forr, r_kfo, r_step, r_ksp, r_stp1, r_stp2, r_stepc, r_kcp, r_kcp4, r_whl, r_ixs, r_kxs, r_kxs2, r_kxs6, r_kxs3, r_kxs41, r_kxs42, r_kxs5, r_pass, r_doc, r_brk, r_cont, r_ss0, r_ss1, r_kss1, r_kss2, r_kss3, r_kss4, r_krn1, r_krn2, r_krn3, r_lm0, r_lm1, r_lm2, r_klm, p_add, p_sub, p_neg, p_lt, p_le, p_gt, p_ge, p_abs, p_min, p_max, p_lenl, p_lent, p_tupl, p_tupt, p_lstl, p_lstt, p_revl, p_revt, p_inti, p_isN0, p_notN0, sc_none, sc_bool, sc_int, sc_str, sc_list, sc_tup, sc_dict, t_bool, m_rev, m_clr, ix_l, ix_t, kBi2, kBi, kUn, kCh2, kCh, kAn, kOr, kNo, kIt, kTu, kLs, kDi, kIx2, kIx, kSl3, kSl2, kSl, kFn, kIs, kCl, kMt, kEs2, kEs, kO, kTv, kTn, kTA, kTO, kTC, kSq, kRg, kRr2, kRr, kEn, kZi2, kZi, kCp3, kCp2, sl_small, slt_small, kst_any, kst_st, p_mod, p_fdiv, p_mul1, p_mul2, p_pow, p_eq, p_ne, p_catl, p_catt, m_app, m_ext, rng0, sts1, obind_some, rsbind_ok, List.getElem?_cons_zero, List.getElem?_cons_succ, List.set_cons_zero, List.set_cons_succ, List.map_nil, List.append_nil, List.nil_append, List.cons_append, if_true, if_false, ite_true, ite_false, Bool.false_eq_true, reduceIte, List.length_cons, List.length_nil, List.any_nil, List.any_cons, Bool.and_true, Bool.true_and, Bool.and_false, Bool.false_and, Bool.not_true, Bool.not_false, Bool.or_false, Bool.or_true, Bool.true_or, Bool.false_or, List.isEmpty_nil, List.isEmpty_cons, wipeE, startE, Nat.zero_add, Nat.reduceAdd, Nat.reduceSub, Nat.reduceLeDiff, Nat.le_refl, List.replicate_succ, List.replicate_zero, List.zipWith_cons_cons, List.zipWith_nil_left, List.zipWith_nil_right, Nat.reduceBEq, Nat.reduceEqDiff, decide_true, decide_false, Int.reduceLT, Int.reduceLE, Int.reduceNeg, Int.reduceToNat, Nat.reduceLT, List.take_succ_cons, List.take_zero, List.drop_succ_cons, List.drop_zero, eq_self, Int.reduceEq, ti_sc, ti_seq, ti_ix, ti_len, ti_rev, ti_kt, ti_ki, ti_kb, ti_kl, ti_zip, ti_tup, p_ltt, p_all, sh_int, sh_tupI, eqv_int, eqv_tupI, m_keeps, hk, h']
      exact ⟨_, rfl, rfl⟩
  rw [fm_filter (fun ws => keepB ws g) tupI] at hc
  simp -implicitDefEqProofs only [r_rd_v, r_rd_p, r_krd, r_rds0, r_rds, r_kco, r_pr, r_kpr, r_kpr2, r_var, r_kvar1, r_kvar2, r_kvar3, r_lit, r_gl, r_un, r_bi, r_cm, r_chn, r_kch3t, r_kch3f, r_and, r_or, r_and1, r_and2, r_or1, r_or2, r_kan2t, r_kan2f, r_kor2t, r_kor2f, r_not, r_kno2, r_ite, r_tup, r_lst, r_ktu2, r_kls2, r_dic, r_kdi2, r_dnewk, r_dnewt, r_ix, r_kix3, r_kix4, r_sl, r_ksl4l, r_ksl4t, r_fn, r_isI, r_kis2, r_call, r_kcl2, r_calla, r_kca2, r_kca3, r_kca4, r_kca5, r_arg0, r_arg, r_kar1, r_kar2, r_kar3, r_kar4, r_kar5, r_kar6, r_nomix0, r_nomix1, r_pm0, r_pm1, r_kpm, r_sh0, r_sh1, r_ksh1, r_ksh2, r_fz_v, r_fz_p, r_kfz1, r_kfz2, r_fzs0, r_fzs1, r_kfs, r_kfs3, r_isL, r_kisl1, r_kisl2, r_isO, r_kiso1, r_kiso2, r_mt, r_kmt2, r_kmt31, r_kmt32, r_kmt4, r_es0, r_es1, r_o0, r_o1, r_ko2, r_tv, r_ktv2, r_ktv3, r_tcm, r_tchn, r_ktb, r_tnot, r_tand, r_tor, r_ta0, r_ta1, r_to0, r_to1, r_c0, r_c1, r_seq, r_ksq2, r_ksq3, r_rng, r_krg2, r_rr, r_krr3, r_enum, r_ken2, r_ken3, r_zip, r_kzi4, r_kzi3l, r_kzi3t, r_seqdl, r_seqdt, r_set, r_kse1, r_kse2, r_kse3, r_kse4, r_knx, r_st, r_kst1, r_kst2, r_kst3, r_sts0, r_unp, r_kup, r_kup2, r_exp, r_kex, r_ret, r_krt1, r_krt2, r_krt3, r_retn, r_iff, r_kif1, r_kif2, r_forr, r_kfo, r_step, r_ksp, r_stp1, r_stp2, r_stepc, r_kcp, r_kcp4, r_whl, r_ixs, r_kxs, r_kxs2, r_kxs6, r_kxs3, r_kxs41, r_kxs42, r_kxs5, r_pass, r_doc, r_brk, r_cont, r_ss0, r_ss1, r_kss1, r_kss2, r_kss3, r_kss4, r_krn1, r_krn2, r_krn3, r_lm0, r_lm1, r_lm2, r_klm, p_add, p_sub, p_neg, p_lt, p_le, p_gt, p_ge, p_abs, p_min, p_max, p_lenl, p_lent, p_tupl, p_tupt, p_lstl, p_lstt, p_revl, p_revt, p_inti, p_isN0, p_notN0, sc_none, sc_bool, sc_int, sc_str, sc_list, sc_tup, sc_dict, t_bool, m_rev, m_clr, ix_l, ix_t, kBi2, kBi, kUn, kCh2, kCh, kAn, kOr, kNo, kIt, kTu, kLs, kDi, kIx2, kIx, kSl3, kSl2, kSl, kFn, kIs, kCl, kMt, kEs2, kEs, kO, kTv, kTn, kTA, kTO, kTC, kSq, kRg, kRr2, kRr, kEn, kZi2, kZi, kCp3, kCp2, sl_small, slt_small, kst_any, kst_st, p_mod, p_fdiv, p_mul1, p_mul2, p_pow, p_eq, p_ne, p_catl, p_catt, m_app, m_ext, rng0, sts1, obind_some, rsbind_ok, List.getElem?_cons_zero, List.getElem?_cons_succ, List.set_cons_zero, List.set_cons_succ, List.map_nil, List.append_nil, List.nil_append, List.cons_append, if_true, if_false, ite_true, ite_false, Bool.false_eq_true, reduceIte, List.length_cons, List.length_nil, List.any_nil, List.any_cons, Bool.and_true, Bool.true_and, Bool.and_false, Bool.false_and, Bool.not_true, Bool.not_false, Bool.or_false, Bool.or_true, Bool.true_or, Bool.false_or, List.isEmpty_nil, List.isEmpty_cons, wipeE, startE, Nat.zero_add, Nat.reduceAdd, Nat.reduceSub, Nat.reduceLeDiff, Nat.le_refl, List.replicate_succ, List.replicate_zero, List.zipWith_cons_cons, List.zipWith_nil_left, List.zipWith_nil_right, Nat.reduceBEq, Nat.reduceEqDiff, decide_true, decide_false, Int.reduceLT, Int.reduceLE, Int.reduceNeg, Int.reduceToNat, Nat.reduceLT, List.take_succ_cons, List.take_zero, List.drop_succ_cons, List.drop_zero, eq_self, Int.reduceEq, ti_sc, ti_seq, ti_ix, ti_len, ti_rev, ti_kt, ti_ki, ti_kb, ti_kl, ti_zip, ti_tup, p_ltt, p_all, sh_int, sh_tupI, eqv_int, eqv_tupI, hc]
  rfl
end CM
/-! PM0b: plain laws about walks over one's own lists. -/
namespace PD
open PySem
theorem evE_compk {F : List Fn} {el : IE} {pt : Pt} {en : Bool} {i : Nat} {cs : List IT} {own : List Nat} {e : En} {o : O} {ys : List D} (h : lkG e i = some (o, ys)) (ho : ownSh (e.set i (some ⟨.mu, .list ys⟩)) own = true) :
    evE F (.compk el pt en i cs own) e = (compK i en (stepC F el pt cs own) (sizeLine + 1) 0 (e.set i (some ⟨.mu, .list ys⟩))).bind fun ds e7 => match unlk o i (backE (e.set i (some ⟨.mu, .list ys⟩)) e7 own) with
            | some e8 => .ok (.val true (.list ds)) e8
            | none => .no := by
  conv => lhs; unfold evE
  rw [h]
  show (if ownSh (e.set i (some ⟨.mu, .list ys⟩)) own = true then _ else _) = _
  rw [if_pos ho]
  rfl
theorem lkG_slot {e : En} {i : Nat} {o : O} {ys : List D} (h : lkG e i = some (o, ys)) : e[i]? = some (some ⟨o, .list ys⟩) := by
  unfold lkG at h
  split at h
  · rename_i hs; cases h; exact hs
  · rename_i hs; cases h; exact hs
  · cases h
theorem ownSh_not {e : En} {i : Nat} {d : D} : ∀ {own : List Nat}, ownSh e own = true → e[i]? = some (some ⟨.mu, d⟩) → i ∉ own
  | [], _, _, h => by cases h
  | j :: own, h, hs, hm => by
    unfold ownSh at h
    rw [Bool.and_eq_true] at h
    rcases List.mem_cons.mp hm with rfl | hm
    · rw [hs] at h
      cases h.1
    · exact ownSh_not h.2 hs hm
theorem comp_mapK {α : Type} {step : D → En → Rs (Option D)} {own : List Nat} {h : α → D} {g : α → Option D} {W : En} {i : Nat} {en : Bool} {A : List α} (hni : i ∉ own) (hW : W[i]? = some (some ⟨.mu, .list (A.map h)⟩))
    (hs : ∀ (k : Nat) (x : α), A[k]? = some x → ∀ e, wipeE e own = W → ∃ e', step (kItm en k (h x)) e = .ok (g x) e' ∧ wipeE e' own = W) :
    ∀ (n k : Nat) (e : En), wipeE e own = W → A.length < n + k → k ≤ A.length → ∃ e', compK i en step n k e = .ok ((A.drop k).filterMap g) e' ∧ wipeE e' own = W
  | 0, k, e, _, h1, h2 => by omega
  | n + 1, k, e, hw, h1, h2 => by
    have hx : e[i]? = some (some ⟨.mu, .list (A.map h)⟩) := by
      rw [← hw, wipe_get, if_neg hni] at hW
      exact hW
    have hl : lkN e i = some (A.map h) := by
      unfold lkN
      rw [hx]
    by_cases hk : k < A.length
    · have hk1 : A[k]? = some A[k] := List.getElem?_eq_getElem hk
      obtain ⟨e1, h3, h4⟩ := hs k _ hk1 e hw
      obtain ⟨e2, h5, h6⟩ := comp_mapK (step := step) (en := en) (g := g) hni hW hs n (k + 1) e1 h4 (by omega) (by omega)
      refine ⟨e2, ?_, h6⟩
      simp only [compK, hl, List.getElem?_map, hk1, Option.map_some, h3, rsbind_ok, h5]
      rw [List.drop_eq_getElem_cons hk]
      rw [List.filterMap_cons]
      cases hg : g A[k] <;> rfl
    · refine ⟨e, ?_, hw⟩
      have : (A.map h)[k]? = none := List.getElem?_eq_none (by rw [List.length_map]; omega)
      simp only [compK, hl, this]
      rw [List.drop_eq_nil_of_le (by omega)]
      rfl
/-- a comprehension over a place of one's own that changes nothing outside -/
theorem evE_compk_map {α : Type} {F : List Fn} {el : IE} {pt : Pt} {en : Bool} {i : Nat} {cs : List IT} {own : List Nat} {e : En} {o : O} {A : List α} {h : α → D} {g : α → Option D} (hi : lkG e i = some (o, A.map h)) (ho : ownSh (e.set i (some ⟨.mu, .list (A.map h)⟩)) own = true) (hl : A.length ≤ sizeLine)
    (hs : ∀ (k : Nat) (x : α), A[k]? = some x → ∀ e1, wipeE e1 own = wipeE (e.set i (some ⟨.mu, .list (A.map h)⟩)) own → ∃ e', stepC F el pt cs own (kItm en k (h x)) e1 = .ok (g x) e' ∧ wipeE e' own = wipeE (e.set i (some ⟨.mu, .list (A.map h)⟩)) own) :
    evE F (.compk el pt en i cs own) e = .ok (.val true (.list (A.filterMap g))) e := by
  have hx := lkG_slot hi
  have hlt : i < e.length := (List.getElem?_eq_some_iff.mp hx).1
  have hx1 : (e.set i (some ⟨.mu, .list (A.map h)⟩))[i]? = some (some ⟨.mu, .list (A.map h)⟩) := List.getElem?_set_self hlt
  have hni := ownSh_not ho hx1
  rw [evE_compk hi ho]
  obtain ⟨e7, h1, h2⟩ := comp_mapK (step := stepC F el pt cs own) (en := en) (g := g) hni (by rw [wipe_get, if_neg hni]; exact hx1) hs (sizeLine + 1) 0 _ rfl (by omega) (Nat.zero_le _)
  rw [h1, rsbind_ok, back_eq h2]
  unfold unlk
  rw [hx1, List.drop_zero]
  have : (e.set i (some ⟨.mu, .list (A.map h)⟩)).set i (some ⟨o, .list (A.map h)⟩) = e := by
    rw [List.set_set]
    refine List.ext_getElem? fun j => ?_
    rw [List.getElem?_set]
    by_cases hj : i = j
    · subst hj
      rw [if_pos rfl, if_pos hlt, hx]
    · rw [if_neg hj]
  simp only [this]
theorem evS_forrk {F : List Fn} {pt : Pt} {en : Bool} {i : Nat} {body : List IS} {e : En} {o : O} {ys : List D} (h : lkG e i = some (o, ys)) : evS F (.forrk pt en i body) e = Ou.unl o i (forK i en (stepF F pt body) (sizeLine + 1) 0 (e.set i (some ⟨.mu, .list ys⟩))) := by
  conv => lhs; unfold evS
  rw [h]
  rfl
/-- a loop over a place of one's own that leaves the list as it is -/
theorem forK_use {step : D → En → Ou} {i : Nat} {en : Bool} {o : O} {xs : List D} {e : En} (hl : xs.length ≤ sizeLine) (I : Nat → En → Prop) (hI : ∀ k e, I k e → e[i]? = some (some ⟨.mu, .list xs⟩)) (h0 : I 0 e)
    (hs : ∀ (k : Nat) (x : D) (e : En), xs[k]? = some x → I k e → ∃ e', step (kItm en k x) e = .nx e' ∧ I (k + 1) e') : ∃ e', Ou.unl o i (forK i en step (sizeLine + 1) 0 e) = .nx (e'.set i (some ⟨o, .list xs⟩)) ∧ I xs.length e' := by
  have key : ∀ (n k : Nat) (e : En), I k e → xs.length < n + k → k ≤ xs.length → ∃ e', forK i en step n k e = .nx e' ∧ I xs.length e' := by
    intro n
    induction n with
    | zero => intro k e _ h1 h2; omega
    | succ n ih =>
      intro k e h h1 h2
      have hl : lkN e i = some xs := by
        unfold lkN
        rw [hI k e h]
      by_cases hk : k < xs.length
      · have hk1 : xs[k]? = some xs[k] := List.getElem?_eq_getElem hk
        obtain ⟨e1, h3, h4⟩ := hs k _ e hk1 h
        obtain ⟨e2, h5, h6⟩ := ih (k + 1) e1 h4 (by omega) (by omega)
        refine ⟨e2, ?_, h6⟩
        simp only [forK, hl, hk1, h3]
        exact h5
      · have : xs[k]? = none := List.getElem?_eq_none (by omega)
        have hk2 : k = xs.length := by omega
        subst hk2
        refine ⟨e, ?_, h⟩
        simp only [forK, hl, this]
  obtain ⟨e', h1, h2⟩ := key (sizeLine + 1) 0 e h0 (by omega) (Nat.zero_le _)
  refine ⟨e', ?_, h2⟩
  rw [h1]
  simp only [Ou.unl, unlk, hI _ _ h2]
end PD
/-! PM13: rows of standings, plainly. -/
namespace CM
open PySem PD
theorem shp_rowsC {S : List (List Int)} : SeqAt.shaped (.list (tupL S)) = true := (shp_list (k := 2) fun d hd => by
  obtain ⟨o, _, rfl⟩ := List.mem_map.mp hd
  exact shp_tupI (Nat.le_refl 1)).ok (by decide)
theorem eqv_rowsC {S T : List (List Int)} : PyData.eqv (.list (tupL S)) (.list (tupL T)) = decide (S = T) := by
  rw [PyData.eqv]
  unfold tupL
  rw [eqvAll_map fun x y => eqv_tupI]
theorem at_allC {room : List Int} {i : Int} (h0 : 0 ≤ i) (h1 : i < prodI room) : atD (tupL (allS room)) i = some (tupI (stn room i)) := by
  unfold atD tupL allS
  rw [if_pos h0, List.getElem?_map, List.getElem?_map, List.getElem?_range (by omega)]
  show some (tupI (stn room (i.toNat : Int))) = _
  rw [Int.toNat_of_nonneg h0]
theorem at_lastC {room : List Int} (h : 0 < prodI room) : ∃ k, atD (tupL (allS room)) (-1) = some (tupI (stn room k)) := by
  have hl : (tupL (allS room)).length = (prodI room).toNat := by
    unfold tupL
    rw [List.length_map, allS_len]
  have := at_allC (room := room) (i := prodI room - 1) (by omega) (by omega)
  refine ⟨prodI room - 1, ?_⟩
  rw [← this]
  unfold atD
  rw [if_neg (by decide), if_pos (by rw [hl]; omega), if_pos (by omega), hl]
  congr 1
  omega
theorem atD_lastC {ws : List Int} (h : ws ≠ []) : ∃ u, atD (ws.map PyData.int) (-1) = some (.int u) ∧ ws[ws.length - 1]? = some u := by
  have h1 : 0 < ws.length := List.length_pos_iff.mpr h
  have e : ws[ws.length - 1]? = some (ws[ws.length - 1]'(by omega)) := List.getElem?_eq_getElem (by omega)
  refine ⟨_, ?_, e⟩
  unfold atD
  rw [if_neg (by decide), List.length_map, if_pos (by omega), List.getElem?_map]
  have : ((ws.length : Int) + -1).toNat = ws.length - 1 := by omega
  rw [this, e]
  rfl
theorem kitm_f {k : Nat} {d : D} : kItm false k d = d := rfl
theorem kitm_t {k : Nat} {d : D} : kItm true k d = .tuple [.int (k : Int), d] := rfl
theorem keepB_nil {ws : List Int} : keepB ws [] = true := rfl
end CM
/-! PM14: is_given of any thing. -/
namespace CM
open PySem PD
def wholeB : D → Bool
  | .int _ => true
  | _ => false
def boxB (room : List Int) : D → Bool
  | .int b => decide (0 ≤ b) && decide (b < (room.length : Int))
  | _ => false
def worthB (n : Int) : D → Bool
  | .int w => decide (0 ≤ w) && decide (w < n)
  | _ => false
theorem law_whole_sem (d : D) : f__law_is_whole.sem [d] = .ok false (.bool (wholeB d)) [] := by
  rw [e__law_is_whole, runF_eq rfl (by decide)]
  unfold b__law_is_whole
  cases h1 : kindOf .int d with
  | false =>
    simp -implicitDefEqProofs only [r_rd_v, r_rd_p, r_krd, r_rds0, r_rds, r_kco, r_pr, r_kpr, r_kpr2, r_var, r_kvar1, r_kvar2, r_kvar3, r_lit, r_gl, r_un, r_bi, r_cm, r_chn, r_kch3t, r_kch3f, r_and, r_or, r_and1, r_and2, r_or1, r_or2, r_kan2t, r_kan2f, r_kor2t, r_kor2f, r_not, r_kno2, r_ite, r_tup, r_lst, r_ktu2, r_kls2, r_dic, r_kdi2, r_dnewk, r_dnewt, r_ix, r_kix3, r_kix4, r_sl, r_ksl4l, r_ksl4t, r_fn, r_isI, r_kis2, r_call, r_kcl2, r_calla, r_kca2, r_kca3, r_kca4, r_kca5, r_arg0, r_arg, r_kar1, r_kar2, r_kar3, r_kar4, r_kar5, r_kar6, r_nomix0, r_nomix1, r_pm0, r_pm1, r_kpm, r_sh0, r_sh1, r_ksh1, r_ksh2, r_fz_v, r_fz_p, r_kfz1, r_kfz2, r_fzs0, r_fzs1, r_kfs, r_kfs3, r_isL, r_kisl1, r_kisl2, r_isO, r_kiso1, r_kiso2, r_mt, r_kmt2, r_kmt31, r_kmt32, r_kmt4, r_es0, r_es1, r_o0, r_o1, r_ko2, r_tv, r_ktv2, r_ktv3, r_tcm, r_tchn, r_ktb, r_tnot, r_tand, r_tor, r_ta0, r_ta1, r_to0, r_to1, r_c0, r_c1, r_seq, r_ksq2, r_ksq3, r_rng, r_krg2, r_rr, r_krr3, r_enum, r_ken2, r_ken3, r_zip, r_kzi4, r_kzi3l, r_kzi3t, r_seqdl, r_seqdt, r_set, r_kse1, r_kse2, r_kse3, r_kse4, r_knx, r_st, r_kst1, r_kst2, r_kst3, r_sts0, r_unp, r_kup, r_kup2, r_exp, r_kex, r_ret, r_krt1, r_krt2, r_krt3, r_retn, r_iff, r_kif1, r_kif2, r_forr, r_kfo, r_step, r_ksp, r_stp1, r_stp2, r_stepc, r_kcp, r_kcp4, r_whl, r_ixs, r_kxs, r_kxs2, r_kxs6, r_kxs3, r_kxs41, r_kxs42, r_kxs5, r_pass, r_doc, r_brk, r_cont, r_ss0, r_ss1, r_kss1, r_kss2, r_kss3, r_kss4, r_krn1, r_krn2, r_krn3, r_lm0, r_lm1, r_lm2, r_klm, p_add, p_sub, p_neg, p_lt, p_le, p_gt, p_ge, p_abs, p_min, p_max, p_lenl, p_lent, p_tupl, p_tupt, p_lstl, p_lstt, p_revl, p_revt, p_inti, p_isN0, p_notN0, sc_none, sc_bool, sc_int, sc_str, sc_list, sc_tup, sc_dict, t_bool, m_rev, m_clr, ix_l, ix_t, kBi2, kBi, kUn, kCh2, kCh, kAn, kOr, kNo, kIt, kTu, kLs, kDi, kIx2, kIx, kSl3, kSl2, kSl, kFn, kIs, kCl, kMt, kEs2, kEs, kO, kTv, kTn, kTA, kTO, kTC, kSq, kRg, kRr2, kRr, kEn, kZi2, kZi, kCp3, kCp2, sl_small, slt_small, kst_any, kst_st, p_mod, p_fdiv, p_mul1, p_mul2, p_pow, p_eq, p_ne, p_catl, p_catt, m_app, m_ext, rng0, sts1, obind_some, rsbind_ok, List.getElem?_cons_zero, List.getElem?_cons_succ, List.set_cons_zero, List.set_cons_succ, List.map_nil, List.append_nil, List.nil_append, List.cons_append, if_true, if_false, ite_true, ite_false, Bool.false_eq_true, reduceIte, List.length_cons, List.length_nil, List.any_nil, List.any_cons, Bool.and_true, Bool.true_and, Bool.and_false, Bool.false_and, Bool.not_true, Bool.not_false, Bool.or_false, Bool.or_true, Bool.true_or, Bool.false_or, List.isEmpty_nil, List.isEmpty_cons, wipeE, startE, Nat.zero_add, Nat.reduceAdd, Nat.reduceSub, Nat.reduceLeDiff, Nat.le_refl, List.replicate_succ, List.replicate_zero, List.zipWith_cons_cons, List.zipWith_nil_left, List.zipWith_nil_right, Nat.reduceBEq, Nat.reduceEqDiff, decide_true, decide_false, Int.reduceLT, Int.reduceLE, Int.reduceNeg, Int.reduceToNat, Nat.reduceLT, List.take_succ_cons, List.take_zero, List.drop_succ_cons, List.drop_zero, eq_self, Int.reduceEq, ti_sc, ti_seq, ti_ix, ti_len, ti_rev, ti_kt, ti_ki, ti_kb, ti_kl, ti_zip, ti_tup, p_ltt, p_all, sh_int, sh_tupI, eqv_int, eqv_tupI, h1]
    cases d <;> first | rfl | exact absurd (show true = false from h1) Bool.noConfusion
  | true =>
    cases h2 : kindOf .bool d with
    | false =>
      simp -implicitDefEqProofs only [r_rd_v, r_rd_p, r_krd, r_rds0, r_rds, r_kco, r_pr, r_kpr, r_kpr2, r_var, r_kvar1, r_kvar2, r_kvar3, r_lit, r_gl, r_un, r_bi, r_cm, r_chn, r_kch3t, r_kch3f, r_and, r_or, r_and1, r_and2, r_or1, r_or2, r_kan2t, r_kan2f, r_kor2t, r_kor2f, r_not, r_kno2, r_ite, r_tup, r_lst, r_ktu2, r_kls2, r_dic, r_kdi2, r_dnewk, r_dnewt, r_ix, r_kix3, r_kix4, r_sl, r_ksl4l, r_ksl4t, r_fn, r_isI, r_kis2, r_call, r_kcl2, r_calla, r_kca2, r_kca3, r_kca4, r_kca5, r_arg0, r_arg, r_kar1, r_kar2, r_kar3, r_kar4, r_kar5, r_kar6, r_nomix0, r_nomix1, r_pm0, r_pm1, r_kpm, r_sh0, r_sh1, r_ksh1, r_ksh2, r_fz_v, r_fz_p, r_kfz1, r_kfz2, r_fzs0, r_fzs1, r_kfs, r_kfs3, r_isL, r_kisl1, r_kisl2, r_isO, r_kiso1, r_kiso2, r_mt, r_kmt2, r_kmt31, r_kmt32, r_kmt4, r_es0, r_es1, r_o0, r_o1, r_ko2, r_tv, r_ktv2, r_ktv3, r_tcm, r_tchn, r_ktb, r_tnot, r_tand, r_tor, r_ta0, r_ta1, r_to0, r_to1, r_c0, r_c1, r_seq, r_ksq2, r_ksq3, r_rng, r_krg2, r_rr, r_krr3, r_enum, r_ken2, r_ken3, r_zip, r_kzi4, r_kzi3l, r_kzi3t, r_seqdl, r_seqdt, r_set, r_kse1, r_kse2, r_kse3, r_kse4, r_knx, r_st, r_kst1, r_kst2, r_kst3, r_sts0, r_unp, r_kup, r_kup2, r_exp, r_kex, r_ret, r_krt1, r_krt2, r_krt3, r_retn, r_iff, r_kif1, r_kif2, r_forr, r_kfo, r_step, r_ksp, r_stp1, r_stp2, r_stepc, r_kcp, r_kcp4, r_whl, r_ixs, r_kxs, r_kxs2, r_kxs6, r_kxs3, r_kxs41, r_kxs42, r_kxs5, r_pass, r_doc, r_brk, r_cont, r_ss0, r_ss1, r_kss1, r_kss2, r_kss3, r_kss4, r_krn1, r_krn2, r_krn3, r_lm0, r_lm1, r_lm2, r_klm, p_add, p_sub, p_neg, p_lt, p_le, p_gt, p_ge, p_abs, p_min, p_max, p_lenl, p_lent, p_tupl, p_tupt, p_lstl, p_lstt, p_revl, p_revt, p_inti, p_isN0, p_notN0, sc_none, sc_bool, sc_int, sc_str, sc_list, sc_tup, sc_dict, t_bool, m_rev, m_clr, ix_l, ix_t, kBi2, kBi, kUn, kCh2, kCh, kAn, kOr, kNo, kIt, kTu, kLs, kDi, kIx2, kIx, kSl3, kSl2, kSl, kFn, kIs, kCl, kMt, kEs2, kEs, kO, kTv, kTn, kTA, kTO, kTC, kSq, kRg, kRr2, kRr, kEn, kZi2, kZi, kCp3, kCp2, sl_small, slt_small, kst_any, kst_st, p_mod, p_fdiv, p_mul1, p_mul2, p_pow, p_eq, p_ne, p_catl, p_catt, m_app, m_ext, rng0, sts1, obind_some, rsbind_ok, List.getElem?_cons_zero, List.getElem?_cons_succ, List.set_cons_zero, List.set_cons_succ, List.map_nil, List.append_nil, List.nil_append, List.cons_append, if_true, if_false, ite_true, ite_false, Bool.false_eq_true, reduceIte, List.length_cons, List.length_nil, List.any_nil, List.any_cons, Bool.and_true, Bool.true_and, Bool.and_false, Bool.false_and, Bool.not_true, Bool.not_false, Bool.or_false, Bool.or_true, Bool.true_or, Bool.false_or, List.isEmpty_nil, List.isEmpty_cons, wipeE, startE, Nat.zero_add, Nat.reduceAdd, Nat.reduceSub, Nat.reduceLeDiff, Nat.le_refl, List.replicate_succ, List.replicate_zero, List.zipWith_cons_cons, List.zipWith_nil_left, List.zipWith_nil_right, Nat.reduceBEq, Nat.reduceEqDiff, decide_true, decide_false, Int.reduceLT, Int.reduceLE, Int.reduceNeg, Int.reduceToNat, Nat.reduceLT, List.take_succ_cons, List.take_zero, List.drop_succ_cons, List.drop_zero, eq_self, Int.reduceEq, ti_sc, ti_seq, ti_ix, ti_len, ti_rev, ti_kt, ti_ki, ti_kb, ti_kl, ti_zip, ti_tup, p_ltt, p_all, sh_int, sh_tupI, eqv_int, eqv_tupI, h1, h2]
      cases d <;> first | rfl | exact absurd (show false = true from h1) Bool.false_ne_true | exact absurd (show true = false from h2) Bool.noConfusion | exact absurd (show false = true from h2) Bool.noConfusion
    | true =>
      simp -implicitDefEqProofs only [r_rd_v, r_rd_p, r_krd, r_rds0, r_rds, r_kco, r_pr, r_kpr, r_kpr2, r_var, r_kvar1, r_kvar2, r_kvar3, r_lit, r_gl, r_un, r_bi, r_cm, r_chn, r_kch3t, r_kch3f, r_and, r_or, r_and1, r_and2, r_or1, r_or2, r_kan2t, r_kan2f, r_kor2t, r_kor2f, r_not, r_kno2, r_ite, r_tup, r_lst, r_ktu2, r_kls2, r_dic, r_kdi2, r_dnewk, r_dnewt, r_ix, r_kix3, r_kix4, r_sl, r_ksl4l, r_ksl4t, r_fn, r_isI, r_kis2, r_call, r_kcl2, r_calla, r_kca2, r_kca3, r_kca4, r_kca5, r_arg0, r_arg, r_kar1, r_kar2, r_kar3, r_kar4, r_kar5, r_kar6, r_nomix0, r_nomix1, r_pm0, r_pm1, r_kpm, r_sh0, r_sh1, r_ksh1, r_ksh2, r_fz_v, r_fz_p, r_kfz1, r_kfz2, r_fzs0, r_fzs1, r_kfs, r_kfs3, r_isL, r_kisl1, r_kisl2, r_isO, r_kiso1, r_kiso2, r_mt, r_kmt2, r_kmt31, r_kmt32, r_kmt4, r_es0, r_es1, r_o0, r_o1, r_ko2, r_tv, r_ktv2, r_ktv3, r_tcm, r_tchn, r_ktb, r_tnot, r_tand, r_tor, r_ta0, r_ta1, r_to0, r_to1, r_c0, r_c1, r_seq, r_ksq2, r_ksq3, r_rng, r_krg2, r_rr, r_krr3, r_enum, r_ken2, r_ken3, r_zip, r_kzi4, r_kzi3l, r_kzi3t, r_seqdl, r_seqdt, r_set, r_kse1, r_kse2, r_kse3, r_kse4, r_knx, r_st, r_kst1, r_kst2, r_kst3, r_sts0, r_unp, r_kup, r_kup2, r_exp, r_kex, r_ret, r_krt1, r_krt2, r_krt3, r_retn, r_iff, r_kif1, r_kif2, r_forr, r_kfo, r_step, r_ksp, r_stp1, r_stp2, r_stepc, r_kcp, r_kcp4, r_whl, r_ixs, r_kxs, r_kxs2, r_kxs6, r_kxs3, r_kxs41, r_kxs42, r_kxs5, r_pass, r_doc, r_brk, r_cont, r_ss0, r_ss1, r_kss1, r_kss2, r_kss3, r_kss4, r_krn1, r_krn2, r_krn3, r_lm0, r_lm1, r_lm2, r_klm, p_add, p_sub, p_neg, p_lt, p_le, p_gt, p_ge, p_abs, p_min, p_max, p_lenl, p_lent, p_tupl, p_tupt, p_lstl, p_lstt, p_revl, p_revt, p_inti, p_isN0, p_notN0, sc_none, sc_bool, sc_int, sc_str, sc_list, sc_tup, sc_dict, t_bool, m_rev, m_clr, ix_l, ix_t, kBi2, kBi, kUn, kCh2, kCh, kAn, kOr, kNo, kIt, kTu, kLs, kDi, kIx2, kIx, kSl3, kSl2, kSl, kFn, kIs, kCl, kMt, kEs2, kEs, kO, kTv, kTn, kTA, kTO, kTC, kSq, kRg, kRr2, kRr, kEn, kZi2, kZi, kCp3, kCp2, sl_small, slt_small, kst_any, kst_st, p_mod, p_fdiv, p_mul1, p_mul2, p_pow, p_eq, p_ne, p_catl, p_catt, m_app, m_ext, rng0, sts1, obind_some, rsbind_ok, List.getElem?_cons_zero, List.getElem?_cons_succ, List.set_cons_zero, List.set_cons_succ, List.map_nil, List.append_nil, List.nil_append, List.cons_append, if_true, if_false, ite_true, ite_false, Bool.false_eq_true, reduceIte, List.length_cons, List.length_nil, List.any_nil, List.any_cons, Bool.and_true, Bool.true_and, Bool.and_false, Bool.false_and, Bool.not_true, Bool.not_false, Bool.or_false, Bool.or_true, Bool.true_or, Bool.false_or, List.isEmpty_nil, List.isEmpty_cons, wipeE, startE, Nat.zero_add, Nat.reduceAdd, Nat.reduceSub, Nat.reduceLeDiff, Nat.le_refl, List.replicate_succ, List.replicate_zero, List.zipWith_cons_cons, List.zipWith_nil_left, List.zipWith_nil_right, Nat.reduceBEq, Nat.reduceEqDiff, decide_true, decide_false, Int.reduceLT, Int.reduceLE, Int.reduceNeg, Int.reduceToNat, Nat.reduceLT, List.take_succ_cons, List.take_zero, List.drop_succ_cons, List.drop_zero, eq_self, Int.reduceEq, ti_sc, ti_seq, ti_ix, ti_len, ti_rev, ti_kt, ti_ki, ti_kb, ti_kl, ti_zip, ti_tup, p_ltt, p_all, sh_int, sh_tupI, eqv_int, eqv_tupI, h1, h2]
      cases d <;> first | rfl | exact absurd (show false = true from h1) Bool.false_ne_true | exact absurd (show true = false from h2) Bool.noConfusion | exact absurd (show false = true from h2) Bool.noConfusion
theorem whole_sem (d : D) : f_is_whole.sem [d] = .ok false (.bool (wholeB d)) [] := law_whole_sem d
theorem box_sem {room : List Int} (d : D) : f_is_box.sem [tupI room, d] = .ok false (.bool (boxB room d)) [] := by
  rw [e_is_box, runF_eq rfl (by decide)]
  unfold b_is_box
  have hw := whole_sem d
  cases d with
  | int b =>
    by_cases h : 0 ≤ b
    · simp -implicitDefEqProofs only [r_rd_v, r_rd_p, r_krd, r_rds0, r_rds, r_kco, r_pr, r_kpr, r_kpr2, r_var, r_kvar1, r_kvar2, r_kvar3, r_lit, r_gl, r_un, r_bi, r_cm, r_chn, r_kch3t, r_kch3f, r_and, r_or, r_and1, r_and2, r_or1, r_or2, r_kan2t, r_kan2f, r_kor2t, r_kor2f, r_not, r_kno2, r_ite, r_tup, r_lst, r_ktu2, r_kls2, r_dic, r_kdi2, r_dnewk, r_dnewt, r_ix, r_kix3, r_kix4, r_sl, r_ksl4l, r_ksl4t, r_fn, r_isI, r_kis2, r_call, r_kcl2, r_calla, r_kca2, r_kca3, r_kca4, r_kca5, r_arg0, r_arg, r_kar1, r_kar2, r_kar3, r_kar4, r_kar5, r_kar6, r_nomix0, r_nomix1, r_pm0, r_pm1, r_kpm, r_sh0, r_sh1, r_ksh1, r_ksh2, r_fz_v, r_fz_p, r_kfz1, r_kfz2, r_fzs0, r_fzs1, r_kfs, r_kfs3, r_isL, r_kisl1, r_kisl2, r_isO, r_kiso1, r_kiso2, r_mt, r_kmt2, r_kmt31, r_kmt32, r_kmt4, r_es0, r_es1, r_o0, r_o1, r_ko2, r_tv, r_ktv2, r_ktv3, r_tcm, r_tchn, r_ktb, r_tnot, r_tand, r_tor, r_ta0, r_ta1, r_to0, r_to1, r_c0, r_c1, r_seq, r_ksq2, r_ksq3, r_rng, r_krg2, r_rr, r_krr3, r_enum, r_ken2, r_ken3, r_zip, r_kzi4, r_kzi3l, r_kzi3t, r_seqdl, r_seqdt, r_set, r_kse1, r_kse2, r_kse3, r_kse4, r_knx, r_st, r_kst1, r_kst2, r_kst3, r_sts0, r_unp, r_kup, r_kup2, r_exp, r_kex, r_ret, r_krt1, r_krt2, r_krt3, r_retn, r_iff, r_kif1, r_kif2, r_forr, r_kfo, r_step, r_ksp, r_stp1, r_stp2, r_stepc, r_kcp, r_kcp4, r_whl, r_ixs, r_kxs, r_kxs2, r_kxs6, r_kxs3, r_kxs41, r_kxs42, r_kxs5, r_pass, r_doc, r_brk, r_cont, r_ss0, r_ss1, r_kss1, r_kss2, r_kss3, r_kss4, r_krn1, r_krn2, r_krn3, r_lm0, r_lm1, r_lm2, r_klm, p_add, p_sub, p_neg, p_lt, p_le, p_gt, p_ge, p_abs, p_min, p_max, p_lenl, p_lent, p_tupl, p_tupt, p_lstl, p_lstt, p_revl, p_revt, p_inti, p_isN0, p_notN0, sc_none, sc_bool, sc_int, sc_str, sc_list, sc_tup, sc_dict, t_bool, m_rev, m_clr, ix_l, ix_t, kBi2, kBi, kUn, kCh2, kCh, kAn, kOr, kNo, kIt, kTu, kLs, kDi, kIx2, kIx, kSl3, kSl2, kSl, kFn, kIs, kCl, kMt, kEs2, kEs, kO, kTv, kTn, kTA, kTO, kTC, kSq, kRg, kRr2, kRr, kEn, kZi2, kZi, kCp3, kCp2, sl_small, slt_small, kst_any, kst_st, p_mod, p_fdiv, p_mul1, p_mul2, p_pow, p_eq, p_ne, p_catl, p_catt, m_app, m_ext, rng0, sts1, obind_some, rsbind_ok, List.getElem?_cons_zero, List.getElem?_cons_succ, List.set_cons_zero, List.set_cons_succ, List.map_nil, List.append_nil, List.nil_append, List.cons_append, if_true, if_false, ite_true, ite_false, Bool.false_eq_true, reduceIte, List.length_cons, List.length_nil, List.any_nil, List.any_cons, Bool.and_true, Bool.true_and, Bool.and_false, Bool.false_and, Bool.not_true, Bool.not_false, Bool.or_false, Bool.or_true, Bool.true_or, Bool.false_or, List.isEmpty_nil, List.isEmpty_cons, wipeE, startE, Nat.zero_add, Nat.reduceAdd, Nat.reduceSub, Nat.reduceLeDiff, Nat.le_refl, List.replicate_succ, List.replicate_zero, List.zipWith_cons_cons, List.zipWith_nil_left, List.zipWith_nil_right, Nat.reduceBEq, Nat.reduceEqDiff, decide_true, decide_false, Int.reduceLT, Int.reduceLE, Int.reduceNeg, Int.reduceToNat, Nat.reduceLT, List.take_succ_cons, List.take_zero, List.drop_succ_cons, List.drop_zero, eq_self, Int.reduceEq, ti_sc, ti_seq, ti_ix, ti_len, ti_rev, ti_kt, ti_ki, ti_kb, ti_kl, ti_zip, ti_tup, p_ltt, p_all, sh_int, sh_tupI, eqv_int, eqv_tupI, m_is_whole, hw, wholeB, boxB, h]
    · simp -implicitDefEqProofs only [r_rd_v, r_rd_p, r_krd, r_rds0, r_rds, r_kco, r_pr, r_kpr, r_kpr2, r_var, r_kvar1, r_kvar2, r_kvar3, r_lit, r_gl, r_un, r_bi, r_cm, r_chn, r_kch3t, r_kch3f, r_and, r_or, r_and1, r_and2, r_or1, r_or2, r_kan2t, r_kan2f, r_kor2t, r_kor2f, r_not, r_kno2, r_ite, r_tup, r_lst, r_ktu2, r_kls2, r_dic, r_kdi2, r_dnewk, r_dnewt, r_ix, r_kix3, r_kix4, r_sl, r_ksl4l, r_ksl4t, r_fn, r_isI, r_kis2, r_call, r_kcl2, r_calla, r_kca2, r_kca3, r_kca4, r_kca5, r_arg0, r_arg, r_kar1, r_kar2, r_kar3, r_kar4, r_kar5, r_kar6, r_nomix0, r_nomix1, r_pm0, r_pm1, r_kpm, r_sh0, r_sh1, r_ksh1, r_ksh2, r_fz_v, r_fz_p, r_kfz1, r_kfz2, r_fzs0, r_fzs1, r_kfs, r_kfs3, r_isL, r_kisl1, r_kisl2, r_isO, r_kiso1, r_kiso2, r_mt, r_kmt2, r_kmt31, r_kmt32, r_kmt4, r_es0, r_es1, r_o0, r_o1, r_ko2, r_tv, r_ktv2, r_ktv3, r_tcm, r_tchn, r_ktb, r_tnot, r_tand, r_tor, r_ta0, r_ta1, r_to0, r_to1, r_c0, r_c1, r_seq, r_ksq2, r_ksq3, r_rng, r_krg2, r_rr, r_krr3, r_enum, r_ken2, r_ken3, r_zip, r_kzi4, r_kzi3l, r_kzi3t, r_seqdl, r_seqdt, r_set, r_kse1, r_kse2, r_kse3, r_kse4, r_knx, r_st, r_kst1, r_kst2, r_kst3, r_sts0, r_unp, r_kup, r_kup2, r_exp, r_kex, r_ret, r_krt1, r_krt2, r_krt3, r_retn, r_iff, r_kif1, r_kif2, r_forr, r_kfo, r_step, r_ksp, r_stp1, r_stp2, r_stepc, r_kcp, r_kcp4, r_whl, r_ixs, r_kxs, r_kxs2, r_kxs6, r_kxs3, r_kxs41, r_kxs42, r_kxs5, r_pass, r_doc, r_brk, r_cont, r_ss0, r_ss1, r_kss1, r_kss2, r_kss3, r_kss4, r_krn1, r_krn2, r_krn3, r_lm0, r_lm1, r_lm2, r_klm, p_add, p_sub, p_neg, p_lt, p_le, p_gt, p_ge, p_abs, p_min, p_max, p_lenl, p_lent, p_tupl, p_tupt, p_lstl, p_lstt, p_revl, p_revt, p_inti, p_isN0, p_notN0, sc_none, sc_bool, sc_int, sc_str, sc_list, sc_tup, sc_dict, t_bool, m_rev, m_clr, ix_l, ix_t, kBi2, kBi, kUn, kCh2, kCh, kAn, kOr, kNo, kIt, kTu, kLs, kDi, kIx2, kIx, kSl3, kSl2, kSl, kFn, kIs, kCl, kMt, kEs2, kEs, kO, kTv, kTn, kTA, kTO, kTC, kSq, kRg, kRr2, kRr, kEn, kZi2, kZi, kCp3, kCp2, sl_small, slt_small, kst_any, kst_st, p_mod, p_fdiv, p_mul1, p_mul2, p_pow, p_eq, p_ne, p_catl, p_catt, m_app, m_ext, rng0, sts1, obind_some, rsbind_ok, List.getElem?_cons_zero, List.getElem?_cons_succ, List.set_cons_zero, List.set_cons_succ, List.map_nil, List.append_nil, List.nil_append, List.cons_append, if_true, if_false, ite_true, ite_false, Bool.false_eq_true, reduceIte, List.length_cons, List.length_nil, List.any_nil, List.any_cons, Bool.and_true, Bool.true_and, Bool.and_false, Bool.false_and, Bool.not_true, Bool.not_false, Bool.or_false, Bool.or_true, Bool.true_or, Bool.false_or, List.isEmpty_nil, List.isEmpty_cons, wipeE, startE, Nat.zero_add, Nat.reduceAdd, Nat.reduceSub, Nat.reduceLeDiff, Nat.le_refl, List.replicate_succ, List.replicate_zero, List.zipWith_cons_cons, List.zipWith_nil_left, List.zipWith_nil_right, Nat.reduceBEq, Nat.reduceEqDiff, decide_true, decide_false, Int.reduceLT, Int.reduceLE, Int.reduceNeg, Int.reduceToNat, Nat.reduceLT, List.take_succ_cons, List.take_zero, List.drop_succ_cons, List.drop_zero, eq_self, Int.reduceEq, ti_sc, ti_seq, ti_ix, ti_len, ti_rev, ti_kt, ti_ki, ti_kb, ti_kl, ti_zip, ti_tup, p_ltt, p_all, sh_int, sh_tupI, eqv_int, eqv_tupI, m_is_whole, hw, wholeB, boxB, h]
  | _ => simp -implicitDefEqProofs only [r_rd_v, r_rd_p, r_krd, r_rds0, r_rds, r_kco, r_pr, r_kpr, r_kpr2, r_var, r_kvar1, r_kvar2, r_kvar3, r_lit, r_gl, r_un, r_bi, r_cm, r_chn, r_kch3t, r_kch3f, r_and, r_or, r_and1, r_and2, r_or1, r_or2, r_kan2t, r_kan2f, r_kor2t, r_kor2f, r_not, r_kno2, r_ite, r_tup, r_lst, r_ktu2, r_kls2, r_dic, r_kdi2, r_dnewk, r_dnewt, r_ix, r_kix3, r_kix4, r_sl, r_ksl4l, r_ksl4t, r_fn, r_isI, r_kis2, r_call, r_kcl2, r_calla, r_kca2, r_kca3, r_kca4, r_kca5, r_arg0, r_arg, r_kar1, r_kar2, r_kar3, r_kar4, r_kar5, r_kar6, r_nomix0, r_nomix1, r_pm0, r_pm1, r_kpm, r_sh0, r_sh1, r_ksh1, r_ksh2, r_fz_v, r_fz_p, r_kfz1, r_kfz2, r_fzs0, r_fzs1, r_kfs, r_kfs3, r_isL, r_kisl1, r_kisl2, r_isO, r_kiso1, r_kiso2, r_mt, r_kmt2, r_kmt31, r_kmt32, r_kmt4, r_es0, r_es1, r_o0, r_o1, r_ko2, r_tv, r_ktv2, r_ktv3, r_tcm, r_tchn, r_ktb, r_tnot, r_tand, r_tor, r_ta0, r_ta1, r_to0, r_to1, r_c0, r_c1, r_seq, r_ksq2, r_ksq3, r_rng, r_krg2, r_rr, r_krr3, r_enum, r_ken2, r_ken3, r_zip, r_kzi4, r_kzi3l, r_kzi3t, r_seqdl, r_seqdt, r_set, r_kse1, r_kse2, r_kse3, r_kse4, r_knx, r_st, r_kst1, r_kst2, r_kst3, r_sts0, r_unp, r_kup, r_kup2, r_exp, r_kex, r_ret, r_krt1, r_krt2, r_krt3, r_retn, r_iff, r_kif1, r_kif2, r_forr, r_kfo, r_step, r_ksp, r_stp1, r_stp2, r_stepc, r_kcp, r_kcp4, r_whl, r_ixs, r_kxs, r_kxs2, r_kxs6, r_kxs3, r_kxs41, r_kxs42, r_kxs5, r_pass, r_doc, r_brk, r_cont, r_ss0, r_ss1, r_kss1, r_kss2, r_kss3, r_kss4, r_krn1, r_krn2, r_krn3, r_lm0, r_lm1, r_lm2, r_klm, p_add, p_sub, p_neg, p_lt, p_le, p_gt, p_ge, p_abs, p_min, p_max, p_lenl, p_lent, p_tupl, p_tupt, p_lstl, p_lstt, p_revl, p_revt, p_inti, p_isN0, p_notN0, sc_none, sc_bool, sc_int, sc_str, sc_list, sc_tup, sc_dict, t_bool, m_rev, m_clr, ix_l, ix_t, kBi2, kBi, kUn, kCh2, kCh, kAn, kOr, kNo, kIt, kTu, kLs, kDi, kIx2, kIx, kSl3, kSl2, kSl, kFn, kIs, kCl, kMt, kEs2, kEs, kO, kTv, kTn, kTA, kTO, kTC, kSq, kRg, kRr2, kRr, kEn, kZi2, kZi, kCp3, kCp2, sl_small, slt_small, kst_any, kst_st, p_mod, p_fdiv, p_mul1, p_mul2, p_pow, p_eq, p_ne, p_catl, p_catt, m_app, m_ext, rng0, sts1, obind_some, rsbind_ok, List.getElem?_cons_zero, List.getElem?_cons_succ, List.set_cons_zero, List.set_cons_succ, List.map_nil, List.append_nil, List.nil_append, List.cons_append, if_true, if_false, ite_true, ite_false, Bool.false_eq_true, reduceIte, List.length_cons, List.length_nil, List.any_nil, List.any_cons, Bool.and_true, Bool.true_and, Bool.and_false, Bool.false_and, Bool.not_true, Bool.not_false, Bool.or_false, Bool.or_true, Bool.true_or, Bool.false_or, List.isEmpty_nil, List.isEmpty_cons, wipeE, startE, Nat.zero_add, Nat.reduceAdd, Nat.reduceSub, Nat.reduceLeDiff, Nat.le_refl, List.replicate_succ, List.replicate_zero, List.zipWith_cons_cons, List.zipWith_nil_left, List.zipWith_nil_right, Nat.reduceBEq, Nat.reduceEqDiff, decide_true, decide_false, Int.reduceLT, Int.reduceLE, Int.reduceNeg, Int.reduceToNat, Nat.reduceLT, List.take_succ_cons, List.take_zero, List.drop_succ_cons, List.drop_zero, eq_self, Int.reduceEq, ti_sc, ti_seq, ti_ix, ti_len, ti_rev, ti_kt, ti_ki, ti_kb, ti_kl, ti_zip, ti_tup, p_ltt, p_all, sh_int, sh_tupI, eqv_int, eqv_tupI, m_is_whole, hw, wholeB, boxB]
theorem worth_sem {room : List Int} {b n : Int} (h0 : 0 ≤ b) (hb : room[b.toNat]? = some n) (d : D) : f_is_worth.sem [tupI room, .int b, d] = .ok false (.bool (worthB n d)) [] := by
  rw [e_is_worth, runF_eq rfl (by decide)]
  unfold b_is_worth
  have hw := whole_sem d
  have ha : atD (room.map .int) b = some (.int n) := by
    unfold atD
    rw [if_pos h0, List.getElem?_map, hb]
    rfl
  cases d with
  | int w =>
    by_cases h : 0 ≤ w
    · simp -implicitDefEqProofs only [r_rd_v, r_rd_p, r_krd, r_rds0, r_rds, r_kco, r_pr, r_kpr, r_kpr2, r_var, r_kvar1, r_kvar2, r_kvar3, r_lit, r_gl, r_un, r_bi, r_cm, r_chn, r_kch3t, r_kch3f, r_and, r_or, r_and1, r_and2, r_or1, r_or2, r_kan2t, r_kan2f, r_kor2t, r_kor2f, r_not, r_kno2, r_ite, r_tup, r_lst, r_ktu2, r_kls2, r_dic, r_kdi2, r_dnewk, r_dnewt, r_ix, r_kix3, r_kix4, r_sl, r_ksl4l, r_ksl4t, r_fn, r_isI, r_kis2, r_call, r_kcl2, r_calla, r_kca2, r_kca3, r_kca4, r_kca5, r_arg0, r_arg, r_kar1, r_kar2, r_kar3, r_kar4, r_kar5, r_kar6, r_nomix0, r_nomix1, r_pm0, r_pm1, r_kpm, r_sh0, r_sh1, r_ksh1, r_ksh2, r_fz_v, r_fz_p, r_kfz1, r_kfz2, r_fzs0, r_fzs1, r_kfs, r_kfs3, r_isL, r_kisl1, r_kisl2, r_isO, r_kiso1, r_kiso2, r_mt, r_kmt2, r_kmt31, r_kmt32, r_kmt4, r_es0, r_es1, r_o0, r_o1, r_ko2, r_tv, r_ktv2, r_ktv3, r_tcm, r_tchn, r_ktb, r_tnot, r_tand, r_tor, r_ta0, r_ta1, r_to0, r_to1, r_c0, r_c1, r_seq, r_ksq2, r_ksq3, r_rng, r_krg2, r_rr, r_krr3, r_enum, r_ken2, r_ken3, r_zip, r_kzi4, r_kzi3l, r_kzi3t, r_seqdl, r_seqdt, r_set, r_kse1, r_kse2, r_kse3, r_kse4, r_knx, r_st, r_kst1, r_kst2, r_kst3, r_sts0, r_unp, r_kup, r_kup2, r_exp, r_kex, r_ret, r_krt1, r_krt2, r_krt3, r_retn, r_iff, r_kif1, r_kif2, r_forr, r_kfo, r_step, r_ksp, r_stp1, r_stp2, r_stepc, r_kcp, r_kcp4, r_whl, r_ixs, r_kxs, r_kxs2, r_kxs6, r_kxs3, r_kxs41, r_kxs42, r_kxs5, r_pass, r_doc, r_brk, r_cont, r_ss0, r_ss1, r_kss1, r_kss2, r_kss3, r_kss4, r_krn1, r_krn2, r_krn3, r_lm0, r_lm1, r_lm2, r_klm, p_add, p_sub, p_neg, p_lt, p_le, p_gt, p_ge, p_abs, p_min, p_max, p_lenl, p_lent, p_tupl, p_tupt, p_lstl, p_lstt, p_revl, p_revt, p_inti, p_isN0, p_notN0, sc_none, sc_bool, sc_int, sc_str, sc_list, sc_tup, sc_dict, t_bool, m_rev, m_clr, ix_l, ix_t, kBi2, kBi, kUn, kCh2, kCh, kAn, kOr, kNo, kIt, kTu, kLs, kDi, kIx2, kIx, kSl3, kSl2, kSl, kFn, kIs, kCl, kMt, kEs2, kEs, kO, kTv, kTn, kTA, kTO, kTC, kSq, kRg, kRr2, kRr, kEn, kZi2, kZi, kCp3, kCp2, sl_small, slt_small, kst_any, kst_st, p_mod, p_fdiv, p_mul1, p_mul2, p_pow, p_eq, p_ne, p_catl, p_catt, m_app, m_ext, rng0, sts1, obind_some, rsbind_ok, List.getElem?_cons_zero, List.getElem?_cons_succ, List.set_cons_zero, List.set_cons_succ, List.map_nil, List.append_nil, List.nil_append, List.cons_append, if_true, if_false, ite_true, ite_false, Bool.false_eq_true, reduceIte, List.length_cons, List.length_nil, List.any_nil, List.any_cons, Bool.and_true, Bool.true_and, Bool.and_false, Bool.false_and, Bool.not_true, Bool.not_false, Bool.or_false, Bool.or_true, Bool.true_or, Bool.false_or, List.isEmpty_nil, List.isEmpty_cons, wipeE, startE, Nat.zero_add, Nat.reduceAdd, Nat.reduceSub, Nat.reduceLeDiff, Nat.le_refl, List.replicate_succ, List.replicate_zero, List.zipWith_cons_cons, List.zipWith_nil_left, List.zipWith_nil_right, Nat.reduceBEq, Nat.reduceEqDiff, decide_true, decide_false, Int.reduceLT, Int.reduceLE, Int.reduceNeg, Int.reduceToNat, Nat.reduceLT, List.take_succ_cons, List.take_zero, List.drop_succ_cons, List.drop_zero, eq_self, Int.reduceEq, ti_sc, ti_seq, ti_ix, ti_len, ti_rev, ti_kt, ti_ki, ti_kb, ti_kl, ti_zip, ti_tup, p_ltt, p_all, sh_int, sh_tupI, eqv_int, eqv_tupI, m_is_whole, hw, wholeB, worthB, h, ha]
    · simp -implicitDefEqProofs only [r_rd_v, r_rd_p, r_krd, r_rds0, r_rds, r_kco, r_pr, r_kpr, r_kpr2, r_var, r_kvar1, r_kvar2, r_kvar3, r_lit, r_gl, r_un, r_bi, r_cm, r_chn, r_kch3t, r_kch3f, r_and, r_or, r_and1, r_and2, r_or1, r_or2, r_kan2t, r_kan2f, r_kor2t, r_kor2f, r_not, r_kno2, r_ite, r_tup, r_lst, r_ktu2, r_kls2, r_dic, r_kdi2, r_dnewk, r_dnewt, r_ix, r_kix3, r_kix4, r_sl, r_ksl4l, r_ksl4t, r_fn, r_isI, r_kis2, r_call, r_kcl2, r_calla, r_kca2, r_kca3, r_kca4, r_kca5, r_arg0, r_arg, r_kar1, r_kar2, r_kar3, r_kar4, r_kar5, r_kar6, r_nomix0, r_nomix1, r_pm0, r_pm1, r_kpm, r_sh0, r_sh1, r_ksh1, r_ksh2, r_fz_v, r_fz_p, r_kfz1, r_kfz2, r_fzs0, r_fzs1, r_kfs, r_kfs3, r_isL, r_kisl1, r_kisl2, r_isO, r_kiso1, r_kiso2, r_mt, r_kmt2, r_kmt31, r_kmt32, r_kmt4, r_es0, r_es1, r_o0, r_o1, r_ko2, r_tv, r_ktv2, r_ktv3, r_tcm, r_tchn, r_ktb, r_tnot, r_tand, r_tor, r_ta0, r_ta1, r_to0, r_to1, r_c0, r_c1, r_seq, r_ksq2, r_ksq3, r_rng, r_krg2, r_rr, r_krr3, r_enum, r_ken2, r_ken3, r_zip, r_kzi4, r_kzi3l, r_kzi3t, r_seqdl, r_seqdt, r_set, r_kse1, r_kse2, r_kse3, r_kse4, r_knx, r_st, r_kst1, r_kst2, r_kst3, r_sts0, r_unp, r_kup, r_kup2, r_exp, r_kex, r_ret, r_krt1, r_krt2, r_krt3, r_retn, r_iff, r_kif1, r_kif2, r_forr, r_kfo, r_step, r_ksp, r_stp1, r_stp2, r_stepc, r_kcp, r_kcp4, r_whl, r_ixs, r_kxs, r_kxs2, r_kxs6, r_kxs3, r_kxs41, r_kxs42, r_kxs5, r_pass, r_doc, r_brk, r_cont, r_ss0, r_ss1, r_kss1, r_kss2, r_kss3, r_kss4, r_krn1, r_krn2, r_krn3, r_lm0, r_lm1, r_lm2, r_klm, p_add, p_sub, p_neg, p_lt, p_le, p_gt, p_ge, p_abs, p_min, p_max, p_lenl, p_lent, p_tupl, p_tupt, p_lstl, p_lstt, p_revl, p_revt, p_inti, p_isN0, p_notN0, sc_none, sc_bool, sc_int, sc_str, sc_list, sc_tup, sc_dict, t_bool, m_rev, m_clr, ix_l, ix_t, kBi2, kBi, kUn, kCh2, kCh, kAn, kOr, kNo, kIt, kTu, kLs, kDi, kIx2, kIx, kSl3, kSl2, kSl, kFn, kIs, kCl, kMt, kEs2, kEs, kO, kTv, kTn, kTA, kTO, kTC, kSq, kRg, kRr2, kRr, kEn, kZi2, kZi, kCp3, kCp2, sl_small, slt_small, kst_any, kst_st, p_mod, p_fdiv, p_mul1, p_mul2, p_pow, p_eq, p_ne, p_catl, p_catt, m_app, m_ext, rng0, sts1, obind_some, rsbind_ok, List.getElem?_cons_zero, List.getElem?_cons_succ, List.set_cons_zero, List.set_cons_succ, List.map_nil, List.append_nil, List.nil_append, List.cons_append, if_true, if_false, ite_true, ite_false, Bool.false_eq_true, reduceIte, List.length_cons, List.length_nil, List.any_nil, List.any_cons, Bool.and_true, Bool.true_and, Bool.and_false, Bool.false_and, Bool.not_true, Bool.not_false, Bool.or_false, Bool.or_true, Bool.true_or, Bool.false_or, List.isEmpty_nil, List.isEmpty_cons, wipeE, startE, Nat.zero_add, Nat.reduceAdd, Nat.reduceSub, Nat.reduceLeDiff, Nat.le_refl, List.replicate_succ, List.replicate_zero, List.zipWith_cons_cons, List.zipWith_nil_left, List.zipWith_nil_right, Nat.reduceBEq, Nat.reduceEqDiff, decide_true, decide_false, Int.reduceLT, Int.reduceLE, Int.reduceNeg, Int.reduceToNat, Nat.reduceLT, List.take_succ_cons, List.take_zero, List.drop_succ_cons, List.drop_zero, eq_self, Int.reduceEq, ti_sc, ti_seq, ti_ix, ti_len, ti_rev, ti_kt, ti_ki, ti_kb, ti_kl, ti_zip, ti_tup, p_ltt, p_all, sh_int, sh_tupI, eqv_int, eqv_tupI, m_is_whole, hw, wholeB, worthB, h, ha]
  | _ => simp -implicitDefEqProofs only [r_rd_v, r_rd_p, r_krd, r_rds0, r_rds, r_kco, r_pr, r_kpr, r_kpr2, r_var, r_kvar1, r_kvar2, r_kvar3, r_lit, r_gl, r_un, r_bi, r_cm, r_chn, r_kch3t, r_kch3f, r_and, r_or, r_and1, r_and2, r_or1, r_or2, r_kan2t, r_kan2f, r_kor2t, r_kor2f, r_not, r_kno2, r_ite, r_tup, r_lst, r_ktu2, r_kls2, r_dic, r_kdi2, r_dnewk, r_dnewt, r_ix, r_kix3, r_kix4, r_sl, r_ksl4l, r_ksl4t, r_fn, r_isI, r_kis2, r_call, r_kcl2, r_calla, r_kca2, r_kca3, r_kca4, r_kca5, r_arg0, r_arg, r_kar1, r_kar2, r_kar3, r_kar4, r_kar5, r_kar6, r_nomix0, r_nomix1, r_pm0, r_pm1, r_kpm, r_sh0, r_sh1, r_ksh1, r_ksh2, r_fz_v, r_fz_p, r_kfz1, r_kfz2, r_fzs0, r_fzs1, r_kfs, r_kfs3, r_isL, r_kisl1, r_kisl2, r_isO, r_kiso1, r_kiso2, r_mt, r_kmt2, r_kmt31, r_kmt32, r_kmt4, r_es0, r_es1, r_o0, r_o1, r_ko2, r_tv, r_ktv2, r_ktv3, r_tcm, r_tchn, r_ktb, r_tnot, r_tand, r_tor, r_ta0, r_ta1, r_to0, r_to1, r_c0, r_c1, r_seq, r_ksq2, r_ksq3, r_rng, r_krg2, r_rr, r_krr3, r_enum, r_ken2, r_ken3, r_zip, r_kzi4, r_kzi3l, r_kzi3t, r_seqdl, r_seqdt, r_set, r_kse1, r_kse2, r_kse3, r_kse4, r_knx, r_st, r_kst1, r_kst2, r_kst3, r_sts0, r_unp, r_kup, r_kup2, r_exp, r_kex, r_ret, r_krt1, r_krt2, r_krt3, r_retn, r_iff, r_kif1, r_kif2, r_forr, r_kfo, r_step, r_ksp, r_stp1, r_stp2, r_stepc, r_kcp, r_kcp4, r_whl, r_ixs, r_kxs, r_kxs2, r_kxs6, r_kxs3, r_kxs41, r_kxs42, r_kxs5, r_pass, r_doc, r_brk, r_cont, r_ss0, r_ss1, r_kss1, r_kss2, r_kss3, r_kss4, r_krn1, r_krn2, r_krn3, r_lm0, r_lm1, r_lm2, r_klm, p_add, p_sub, p_neg, p_lt, p_le, p_gt, p_ge, p_abs, p_min, p_max, p_lenl, p_lent, p_tupl, p_tupt, p_lstl, p_lstt, p_revl, p_revt, p_inti, p_isN0, p_notN0, sc_none, sc_bool, sc_int, sc_str, sc_list, sc_tup, sc_dict, t_bool, m_rev, m_clr, ix_l, ix_t, kBi2, kBi, kUn, kCh2, kCh, kAn, kOr, kNo, kIt, kTu, kLs, kDi, kIx2, kIx, kSl3, kSl2, kSl, kFn, kIs, kCl, kMt, kEs2, kEs, kO, kTv, kTn, kTA, kTO, kTC, kSq, kRg, kRr2, kRr, kEn, kZi2, kZi, kCp3, kCp2, sl_small, slt_small, kst_any, kst_st, p_mod, p_fdiv, p_mul1, p_mul2, p_pow, p_eq, p_ne, p_catl, p_catt, m_app, m_ext, rng0, sts1, obind_some, rsbind_ok, List.getElem?_cons_zero, List.getElem?_cons_succ, List.set_cons_zero, List.set_cons_succ, List.map_nil, List.append_nil, List.nil_append, List.cons_append, if_true, if_false, ite_true, ite_false, Bool.false_eq_true, reduceIte, List.length_cons, List.length_nil, List.any_nil, List.any_cons, Bool.and_true, Bool.true_and, Bool.and_false, Bool.false_and, Bool.not_true, Bool.not_false, Bool.or_false, Bool.or_true, Bool.true_or, Bool.false_or, List.isEmpty_nil, List.isEmpty_cons, wipeE, startE, Nat.zero_add, Nat.reduceAdd, Nat.reduceSub, Nat.reduceLeDiff, Nat.le_refl, List.replicate_succ, List.replicate_zero, List.zipWith_cons_cons, List.zipWith_nil_left, List.zipWith_nil_right, Nat.reduceBEq, Nat.reduceEqDiff, decide_true, decide_false, Int.reduceLT, Int.reduceLE, Int.reduceNeg, Int.reduceToNat, Nat.reduceLT, List.take_succ_cons, List.take_zero, List.drop_succ_cons, List.drop_zero, eq_self, Int.reduceEq, ti_sc, ti_seq, ti_ix, ti_len, ti_rev, ti_kt, ti_ki, ti_kb, ti_kl, ti_zip, ti_tup, p_ltt, p_all, sh_int, sh_tupI, eqv_int, eqv_tupI, m_is_whole, hw, wholeB, worthB]
/-- an entry of a given, behind a box: its box -/
def goodE (room : List Int) (last : Int) : D → Option Int
  | .tuple [.int b, .int w] => match room[b.toNat]? with
    | some n => if last < b ∧ 0 ≤ b ∧ 0 ≤ w ∧ w < n then some b else none
    | none => none
  | _ => none
def goodG (room : List Int) : Int → List D → Bool
  | _, [] => true
  | last, d :: r => match goodE room last d with
    | some b => goodG room b r
    | none => false
def goodD (room : List Int) : D → Bool
  | .tuple ds => goodG room (-1) ds
  | _ => false
theorem boxB_of {room : List Int} {d : D} (h : boxB room d = true) : ∃ b n, d = .int b ∧ 0 ≤ b ∧ b < (room.length : Int) ∧ room[b.toNat]? = some n := by
  cases d with
  | int b =>
    unfold boxB at h
    rw [Bool.and_eq_true, decide_eq_true_eq, decide_eq_true_eq] at h
    exact ⟨b, _, rfl, h.1, h.2, List.getElem?_eq_getElem (by omega)⟩
  | _ => cases h
theorem worthB_of {n : Int} {d : D} (h : worthB n d = true) : ∃ w, d = .int w ∧ 0 ≤ w ∧ w < n := by
  cases d with
  | int w =>
    unfold worthB at h
    rw [Bool.and_eq_true, decide_eq_true_eq, decide_eq_true_eq] at h
    exact ⟨w, rfl, h.1, h.2⟩
  | _ => cases h
theorem goodE_len {room : List Int} {last : Int} {ds : List D} (h : ds.length ≠ 2) : goodE room last (.tuple ds) = none := by
  match ds, h with
  | [], _ => rfl
  | [x], _ => cases x <;> rfl
  | [x, y], h => exact absurd rfl h
  | x :: y :: z :: r, _ => cases x <;> first | rfl | (cases y <;> rfl)
theorem goodE_box {room : List Int} {last : Int} {x y : D} (h : boxB room x = false) : goodE room last (.tuple [x, y]) = none := by
  cases x with
  | int b =>
    cases y with
    | int w =>
      replace h : (decide (0 ≤ b) && decide (b < (room.length : Int))) = false := h
      show (match room[b.toNat]? with | some n => if last < b ∧ 0 ≤ b ∧ 0 ≤ w ∧ w < n then some b else none | none => none) = none
      by_cases hb : 0 ≤ b ∧ b < (room.length : Int)
      · rw [decide_eq_true hb.1, decide_eq_true hb.2] at h
        cases h
      · split
        · rename_i n hn
          rw [if_neg]
          intro q
          have := (List.getElem?_eq_some_iff.mp hn).1
          exact hb ⟨q.2.1, by omega⟩
        · rfl
    | _ => rfl
  | _ => cases y <;> rfl
theorem goodE_worth {room : List Int} {last b n : Int} {y : D} (hb : room[b.toNat]? = some n) (h : worthB n y = false) : goodE room last (.tuple [.int b, y]) = none := by
  cases y with
  | int w =>
    show (match room[b.toNat]? with | some n => if last < b ∧ 0 ≤ b ∧ 0 ≤ w ∧ w < n then some b else none | none => none) = none
    rw [hb]
    show (if last < b ∧ 0 ≤ b ∧ 0 ≤ w ∧ w < n then some b else none) = none
    rw [if_neg]
    intro q
    replace h : (decide (0 ≤ w) && decide (w < n)) = false := h
    rw [decide_eq_true q.2.2.1, decide_eq_true q.2.2.2] at h
    cases h
  | _ => rfl
theorem goodE_int {room : List Int} {last b w n : Int} (hb : room[b.toNat]? = some n) : goodE room last (.tuple [.int b, .int w]) = if last < b ∧ 0 ≤ b ∧ 0 ≤ w ∧ w < n then some b else none := by
  show (match room[b.toNat]? with | some n => if last < b ∧ 0 ≤ b ∧ 0 ≤ w ∧ w < n then some b else none | none => none) = _
  rw [hb]
theorem len_ne {ds : List D} (h : ds.length ≠ 2) : prim .len [.tuple ds] = some (false, .int (ds.length : Int)) ∧ ¬ ((ds.length : Int) = 2) := ⟨rfl, by omega⟩
theorem is_given_step {room : List Int} {last : Int} {y3 : Option Sl} (t : D) (s3 : ShN y3) (d : D) :
    (∃ b, goodE room last d = some b ∧ stepF [f_is_box, f_is_worth] (.nm 3) [
    .iff (.or [(.not (.v (.isI .tuple (.var 3)))), (.cm .ne (.fn .len [(.var 3)]) (.lit (.int 2))), (.not (.v (.call 0 [(.var 0), (.ix (.var 3) (.lit (.int 0)))] [])))]) [
      .ret (.lit (.bool false))] [],
    .iff (.or [(.cm .le (.ix (.var 3) (.lit (.int 0))) (.var 2)), (.not (.v (.call 1 [(.var 0), (.ix (.var 3) (.lit (.int 0))), (.ix (.var 3) (.lit (.int 1)))] [])))]) [
      .ret (.lit (.bool false))] [],
    .set 2 (.ix (.var 3) (.lit (.int 0)))] d [some ⟨.sh, tupI room⟩, some ⟨.sh, t⟩, some ⟨.sh, .int last⟩, y3] = .nx [some ⟨.sh, tupI room⟩, some ⟨.sh, t⟩, some ⟨.sh, .int b⟩, some ⟨.sh, d⟩]) ∨
    (goodE room last d = none ∧ stepF [f_is_box, f_is_worth] (.nm 3) [
    .iff (.or [(.not (.v (.isI .tuple (.var 3)))), (.cm .ne (.fn .len [(.var 3)]) (.lit (.int 2))), (.not (.v (.call 0 [(.var 0), (.ix (.var 3) (.lit (.int 0)))] [])))]) [
      .ret (.lit (.bool false))] [],
    .iff (.or [(.cm .le (.ix (.var 3) (.lit (.int 0))) (.var 2)), (.not (.v (.call 1 [(.var 0), (.ix (.var 3) (.lit (.int 0))), (.ix (.var 3) (.lit (.int 1)))] [])))]) [
      .ret (.lit (.bool false))] [],
    .set 2 (.ix (.var 3) (.lit (.int 0)))] d [some ⟨.sh, tupI room⟩, some ⟨.sh, t⟩, some ⟨.sh, .int last⟩, y3] = .rt false (.bool false) [some ⟨.sh, tupI room⟩, some ⟨.sh, t⟩, some ⟨.sh, .int last⟩, some ⟨.sh, d⟩]) := by
  have kt : ∀ ds, kindOf .tuple (.tuple ds) = true := fun _ => rfl
  cases d with
  | tuple ds =>
    by_cases hl : ds.length = 2
    · match ds, hl with
      | [x, y], _ =>
        have l2 : prim .len [.tuple [x, y]] = some (false, .int 2) := rfl
        have hb := box_sem (room := room) x
        cases hx : boxB room x with
        | false =>
          rw [hx] at hb
          exact .inr ⟨goodE_box hx, by simp -implicitDefEqProofs only [r_rd_v, r_rd_p, r_krd, r_rds0, r_rds, r_kco, r_pr, r_kpr, r_kpr2, r_var, r_kvar1, r_kvar2, r_kvar3, r_lit, r_gl, r_un, r_bi, r_cm, r_chn, r_kch3t, r_kch3f, r_and, r_or, r_and1, r_and2, r_or1, r_or2, r_kan2t, r_kan2f, r_kor2t, r_kor2f, r_not, r_kno2, r_ite, r_tup, r_lst, r_ktu2, r_kls2, r_dic, r_kdi2, r_dnewk, r_dnewt, r_ix, r_kix3, r_kix4, r_sl, r_ksl4l, r_ksl4t, r_fn, r_isI, r_kis2, r_call, r_kcl2, r_calla, r_kca2, r_kca3, r_kca4, r_kca5, r_arg0, r_arg, r_kar1, r_kar2, r_kar3, r_kar4, r_kar5, r_kar6, r_nomix0, r_nomix1, r_pm0, r_pm1, r_kpm, r_sh0, r_sh1, r_ksh1, r_ksh2, r_fz_v, r_fz_p, r_kfz1, r_kfz2, r_fzs0, r_fzs1, r_kfs, r_kfs3, r_isL, r_kisl1, r_kisl2, r_isO, r_kiso1, r_kiso2, r_mt, r_kmt2, r_kmt31, r_kmt32, r_kmt4, r_es0, r_es1, r_o0, r_o1, r_ko2, r_tv, r_ktv2, r_ktv3, r_tcm, r_tchn, r_ktb, r_tnot, r_tand, r_tor, r_ta0, r_ta1, r_to0, r_to1, r_c0, r_c1, r_seq, r_ksq2, r_ksq3, r_rng, r_krg2, r_rr, r_krr3, r_enum, r_ken2, r_ken3, r_zip, r_kzi4, r_kzi3l, r_kzi3t, r_seqdl, r_seqdt, r_set, r_kse1, r_kse2, r_kse3, r_kse4, r_knx, r_st, r_kst1, r_kst2, r_kst3, r_sts0, r_unp, r_kup, r_kup2, r_exp, r_kex, r_ret, r_krt1, r_krt2, r_krt3, r_retn, r_iff, r_kif1, r_kif2, r_forr, r_kfo, r_step, r_ksp, r_stp1, r_stp2, r_stepc, r_kcp, r_kcp4, r_whl, r_ixs, r_kxs, r_kxs2, r_kxs6, r_kxs3, r_kxs41, r_kxs42, r_kxs5, r_pass, r_doc, r_brk, r_cont, r_ss0, r_ss1, r_kss1, r_kss2, r_kss3, r_kss4, r_krn1, r_krn2, r_krn3, r_lm0, r_lm1, r_lm2, r_klm, p_add, p_sub, p_neg, p_lt, p_le, p_gt, p_ge, p_abs, p_min, p_max, p_lenl, p_lent, p_tupl, p_tupt, p_lstl, p_lstt, p_revl, p_revt, p_inti, p_isN0, p_notN0, sc_none, sc_bool, sc_int, sc_str, sc_list, sc_tup, sc_dict, t_bool, m_rev, m_clr, ix_l, ix_t, kBi2, kBi, kUn, kCh2, kCh, kAn, kOr, kNo, kIt, kTu, kLs, kDi, kIx2, kIx, kSl3, kSl2, kSl, kFn, kIs, kCl, kMt, kEs2, kEs, kO, kTv, kTn, kTA, kTO, kTC, kSq, kRg, kRr2, kRr, kEn, kZi2, kZi, kCp3, kCp2, sl_small, slt_small, kst_any, kst_st, p_mod, p_fdiv, p_mul1, p_mul2, p_pow, p_eq, p_ne, p_catl, p_catt, m_app, m_ext, rng0, sts1, obind_some, rsbind_ok, List.getElem?_cons_zero, List.getElem?_cons_succ, List.set_cons_zero, List.set_cons_succ, List.map_nil, List.append_nil, List.nil_append, List.cons_append, if_true, if_false, ite_true, ite_false, Bool.false_eq_true, reduceIte, List.length_cons, List.length_nil, List.any_nil, List.any_cons, Bool.and_true, Bool.true_and, Bool.and_false, Bool.false_and, Bool.not_true, Bool.not_false, Bool.or_false, Bool.or_true, Bool.true_or, Bool.false_or, List.isEmpty_nil, List.isEmpty_cons, wipeE, startE, Nat.zero_add, Nat.reduceAdd, Nat.reduceSub, Nat.reduceLeDiff, Nat.le_refl, List.replicate_succ, List.replicate_zero, List.zipWith_cons_cons, List.zipWith_nil_left, List.zipWith_nil_right, Nat.reduceBEq, Nat.reduceEqDiff, decide_true, decide_false, Int.reduceLT, Int.reduceLE, Int.reduceNeg, Int.reduceToNat, Nat.reduceLT, List.take_succ_cons, List.take_zero, List.drop_succ_cons, List.drop_zero, eq_self, Int.reduceEq, ti_sc, ti_seq, ti_ix, ti_len, ti_rev, ti_kt, ti_ki, ti_kb, ti_kl, ti_zip, ti_tup, p_ltt, p_all, sh_int, sh_tupI, eqv_int, eqv_tupI, s3, kt, l2, m_is_box, hb, ix_t, at2_0]⟩
        | true =>
          rw [hx] at hb
          obtain ⟨b, n, rfl, b0, b1, hn⟩ := boxB_of hx
          by_cases hq : b ≤ last
          · refine .inr ⟨?_, by simp -implicitDefEqProofs only [r_rd_v, r_rd_p, r_krd, r_rds0, r_rds, r_kco, r_pr, r_kpr, r_kpr2, r_var, r_kvar1, r_kvar2, r_kvar3, r_lit, r_gl, r_un, r_bi, r_cm, r_chn, r_kch3t, r_kch3f, r_and, r_or, r_and1, r_and2, r_or1, r_or2, r_kan2t, r_kan2f, r_kor2t, r_kor2f, r_not, r_kno2, r_ite, r_tup, r_lst, r_ktu2, r_kls2, r_dic, r_kdi2, r_dnewk, r_dnewt, r_ix, r_kix3, r_kix4, r_sl, r_ksl4l, r_ksl4t, r_fn, r_isI, r_kis2, r_call, r_kcl2, r_calla, r_kca2, r_kca3, r_kca4, r_kca5, r_arg0, r_arg, r_kar1, r_kar2, r_kar3, r_kar4, r_kar5, r_kar6, r_nomix0, r_nomix1, r_pm0, r_pm1, r_kpm, r_sh0, r_sh1, r_ksh1, r_ksh2, r_fz_v, r_fz_p, r_kfz1, r_kfz2, r_fzs0, r_fzs1, r_kfs, r_kfs3, r_isL, r_kisl1, r_kisl2, r_isO, r_kiso1, r_kiso2, r_mt, r_kmt2, r_kmt31, r_kmt32, r_kmt4, r_es0, r_es1, r_o0, r_o1, r_ko2, r_tv, r_ktv2, r_ktv3, r_tcm, r_tchn, r_ktb, r_tnot, r_tand, r_tor, r_ta0, r_ta1, r_to0, r_to1, r_c0, r_c1, r_seq, r_ksq2, r_ksq3, r_rng, r_krg2, r_rr, r_krr3, r_enum, r_ken2, r_ken3, r_zip, r_kzi4, r_kzi3l, r_kzi3t, r_seqdl, r_seqdt, r_set, r_kse1, r_kse2, r_kse3, r_kse4, r_knx, r_st, r_kst1, r_kst2, r_kst3, r_sts0, r_unp, r_kup, r_kup2, r_exp, r_kex, r_ret, r_krt1, r_krt2, r_krt3, r_retn, r_iff, r_kif1, r_kif2, r_forr, r_kfo, r_step, r_ksp, r_stp1, r_stp2, r_stepc, r_kcp, r_kcp4, r_whl, r_ixs, r_kxs, r_kxs2, r_kxs6, r_kxs3, r_kxs41, r_kxs42, r_kxs5, r_pass, r_doc, r_brk, r_cont, r_ss0, r_ss1, r_kss1, r_kss2, r_kss3, r_kss4, r_krn1, r_krn2, r_krn3, r_lm0, r_lm1, r_lm2, r_klm, p_add, p_sub, p_neg, p_lt, p_le, p_gt, p_ge, p_abs, p_min, p_max, p_lenl, p_lent, p_tupl, p_tupt, p_lstl, p_lstt, p_revl, p_revt, p_inti, p_isN0, p_notN0, sc_none, sc_bool, sc_int, sc_str, sc_list, sc_tup, sc_dict, t_bool, m_rev, m_clr, ix_l, ix_t, kBi2, kBi, kUn, kCh2, kCh, kAn, kOr, kNo, kIt, kTu, kLs, kDi, kIx2, kIx, kSl3, kSl2, kSl, kFn, kIs, kCl, kMt, kEs2, kEs, kO, kTv, kTn, kTA, kTO, kTC, kSq, kRg, kRr2, kRr, kEn, kZi2, kZi, kCp3, kCp2, sl_small, slt_small, kst_any, kst_st, p_mod, p_fdiv, p_mul1, p_mul2, p_pow, p_eq, p_ne, p_catl, p_catt, m_app, m_ext, rng0, sts1, obind_some, rsbind_ok, List.getElem?_cons_zero, List.getElem?_cons_succ, List.set_cons_zero, List.set_cons_succ, List.map_nil, List.append_nil, List.nil_append, List.cons_append, if_true, if_false, ite_true, ite_false, Bool.false_eq_true, reduceIte, List.length_cons, List.length_nil, List.any_nil, List.any_cons, Bool.and_true, Bool.true_and, Bool.and_false, Bool.false_and, Bool.not_true, Bool.not_false, Bool.or_false, Bool.or_true, Bool.true_or, Bool.false_or, List.isEmpty_nil, List.isEmpty_cons, wipeE, startE, Nat.zero_add, Nat.reduceAdd, Nat.reduceSub, Nat.reduceLeDiff, Nat.le_refl, List.replicate_succ, List.replicate_zero, List.zipWith_cons_cons, List.zipWith_nil_left, List.zipWith_nil_right, Nat.reduceBEq, Nat.reduceEqDiff, decide_true, decide_false, Int.reduceLT, Int.reduceLE, Int.reduceNeg, Int.reduceToNat, Nat.reduceLT, List.take_succ_cons, List.take_zero, List.drop_succ_cons, List.drop_zero, eq_self, Int.reduceEq, ti_sc, ti_seq, ti_ix, ti_len, ti_rev, ti_kt, ti_ki, ti_kb, ti_kl, ti_zip, ti_tup, p_ltt, p_all, sh_int, sh_tupI, eqv_int, eqv_tupI, s3, kt, l2, m_is_box, hb, ix_t, at2_0, hq]⟩
            cases hy : worthB n y with
            | false => exact goodE_worth hn hy
            | true =>
              obtain ⟨w, rfl, w0, w1⟩ := worthB_of hy
              rw [goodE_int hn, if_neg (by omega)]
          · have hw := worth_sem (room := room) b0 hn y
            cases hy : worthB n y with
            | false =>
              rw [hy] at hw
              exact .inr ⟨goodE_worth hn hy, by simp -implicitDefEqProofs only [r_rd_v, r_rd_p, r_krd, r_rds0, r_rds, r_kco, r_pr, r_kpr, r_kpr2, r_var, r_kvar1, r_kvar2, r_kvar3, r_lit, r_gl, r_un, r_bi, r_cm, r_chn, r_kch3t, r_kch3f, r_and, r_or, r_and1, r_and2, r_or1, r_or2, r_kan2t, r_kan2f, r_kor2t, r_kor2f, r_not, r_kno2, r_ite, r_tup, r_lst, r_ktu2, r_kls2, r_dic, r_kdi2, r_dnewk, r_dnewt, r_ix, r_kix3, r_kix4, r_sl, r_ksl4l, r_ksl4t, r_fn, r_isI, r_kis2, r_call, r_kcl2, r_calla, r_kca2, r_kca3, r_kca4, r_kca5, r_arg0, r_arg, r_kar1, r_kar2, r_kar3, r_kar4, r_kar5, r_kar6, r_nomix0, r_nomix1, r_pm0, r_pm1, r_kpm, r_sh0, r_sh1, r_ksh1, r_ksh2, r_fz_v, r_fz_p, r_kfz1, r_kfz2, r_fzs0, r_fzs1, r_kfs, r_kfs3, r_isL, r_kisl1, r_kisl2, r_isO, r_kiso1, r_kiso2, r_mt, r_kmt2, r_kmt31, r_kmt32, r_kmt4, r_es0, r_es1, r_o0, r_o1, r_ko2, r_tv, r_ktv2, r_ktv3, r_tcm, r_tchn, r_ktb, r_tnot, r_tand, r_tor, r_ta0, r_ta1, r_to0, r_to1, r_c0, r_c1, r_seq, r_ksq2, r_ksq3, r_rng, r_krg2, r_rr, r_krr3, r_enum, r_ken2, r_ken3, r_zip, r_kzi4, r_kzi3l, r_kzi3t, r_seqdl, r_seqdt, r_set, r_kse1, r_kse2, r_kse3, r_kse4, r_knx, r_st, r_kst1, r_kst2, r_kst3, r_sts0, r_unp, r_kup, r_kup2, r_exp, r_kex, r_ret, r_krt1, r_krt2, r_krt3, r_retn, r_iff, r_kif1, r_kif2, r_forr, r_kfo, r_step, r_ksp, r_stp1, r_stp2, r_stepc, r_kcp, r_kcp4, r_whl, r_ixs, r_kxs, r_kxs2, r_kxs6, r_kxs3, r_kxs41, r_kxs42, r_kxs5, r_pass, r_doc, r_brk, r_cont, r_ss0, r_ss1, r_kss1, r_kss2, r_kss3, r_kss4, r_krn1, r_krn2, r_krn3, r_lm0, r_lm1, r_lm2, r_klm, p_add, p_sub, p_neg, p_lt, p_le, p_gt, p_ge, p_abs, p_min, p_max, p_lenl, p_lent, p_tupl, p_tupt, p_lstl, p_lstt, p_revl, p_revt, p_inti, p_isN0, p_notN0, sc_none, sc_bool, sc_int, sc_str, sc_list, sc_tup, sc_dict, t_bool, m_rev, m_clr, ix_l, ix_t, kBi2, kBi, kUn, kCh2, kCh, kAn, kOr, kNo, kIt, kTu, kLs, kDi, kIx2, kIx, kSl3, kSl2, kSl, kFn, kIs, kCl, kMt, kEs2, kEs, kO, kTv, kTn, kTA, kTO, kTC, kSq, kRg, kRr2, kRr, kEn, kZi2, kZi, kCp3, kCp2, sl_small, slt_small, kst_any, kst_st, p_mod, p_fdiv, p_mul1, p_mul2, p_pow, p_eq, p_ne, p_catl, p_catt, m_app, m_ext, rng0, sts1, obind_some, rsbind_ok, List.getElem?_cons_zero, List.getElem?_cons_succ, List.set_cons_zero, List.set_cons_succ, List.map_nil, List.append_nil, List.nil_append, List.cons_append, if_true, if_false, ite_true, ite_false, Bool.false_eq_true, reduceIte, List.length_cons, List.length_nil, List.any_nil, List.any_cons, Bool.and_true, Bool.true_and, Bool.and_false, Bool.false_and, Bool.not_true, Bool.not_false, Bool.or_false, Bool.or_true, Bool.true_or, Bool.false_or, List.isEmpty_nil, List.isEmpty_cons, wipeE, startE, Nat.zero_add, Nat.reduceAdd, Nat.reduceSub, Nat.reduceLeDiff, Nat.le_refl, List.replicate_succ, List.replicate_zero, List.zipWith_cons_cons, List.zipWith_nil_left, List.zipWith_nil_right, Nat.reduceBEq, Nat.reduceEqDiff, decide_true, decide_false, Int.reduceLT, Int.reduceLE, Int.reduceNeg, Int.reduceToNat, Nat.reduceLT, List.take_succ_cons, List.take_zero, List.drop_succ_cons, List.drop_zero, eq_self, Int.reduceEq, ti_sc, ti_seq, ti_ix, ti_len, ti_rev, ti_kt, ti_ki, ti_kb, ti_kl, ti_zip, ti_tup, p_ltt, p_all, sh_int, sh_tupI, eqv_int, eqv_tupI, s3, kt, l2, m_is_box, hb, ix_t, at2_0, at2_1, hq, m_is_worth, hw]⟩
            | true =>
              rw [hy] at hw
              obtain ⟨w, rfl, w0, w1⟩ := worthB_of hy
              refine .inl ⟨b, ?_, by simp -implicitDefEqProofs only [r_rd_v, r_rd_p, r_krd, r_rds0, r_rds, r_kco, r_pr, r_kpr, r_kpr2, r_var, r_kvar1, r_kvar2, r_kvar3, r_lit, r_gl, r_un, r_bi, r_cm, r_chn, r_kch3t, r_kch3f, r_and, r_or, r_and1, r_and2, r_or1, r_or2, r_kan2t, r_kan2f, r_kor2t, r_kor2f, r_not, r_kno2, r_ite, r_tup, r_lst, r_ktu2, r_kls2, r_dic, r_kdi2, r_dnewk, r_dnewt, r_ix, r_kix3, r_kix4, r_sl, r_ksl4l, r_ksl4t, r_fn, r_isI, r_kis2, r_call, r_kcl2, r_calla, r_kca2, r_kca3, r_kca4, r_kca5, r_arg0, r_arg, r_kar1, r_kar2, r_kar3, r_kar4, r_kar5, r_kar6, r_nomix0, r_nomix1, r_pm0, r_pm1, r_kpm, r_sh0, r_sh1, r_ksh1, r_ksh2, r_fz_v, r_fz_p, r_kfz1, r_kfz2, r_fzs0, r_fzs1, r_kfs, r_kfs3, r_isL, r_kisl1, r_kisl2, r_isO, r_kiso1, r_kiso2, r_mt, r_kmt2, r_kmt31, r_kmt32, r_kmt4, r_es0, r_es1, r_o0, r_o1, r_ko2, r_tv, r_ktv2, r_ktv3, r_tcm, r_tchn, r_ktb, r_tnot, r_tand, r_tor, r_ta0, r_ta1, r_to0, r_to1, r_c0, r_c1, r_seq, r_ksq2, r_ksq3, r_rng, r_krg2, r_rr, r_krr3, r_enum, r_ken2, r_ken3, r_zip, r_kzi4, r_kzi3l, r_kzi3t, r_seqdl, r_seqdt, r_set, r_kse1, r_kse2, r_kse3, r_kse4, r_knx, r_st, r_kst1, r_kst2, r_kst3, r_sts0, r_unp, r_kup, r_kup2, r_exp, r_kex, r_ret, r_krt1, r_krt2, r_krt3, r_retn, r_iff, r_kif1, r_kif2, r_forr, r_kfo, r_step, r_ksp, r_stp1, r_stp2, r_stepc, r_kcp, r_kcp4, r_whl, r_ixs, r_kxs, r_kxs2, r_kxs6, r_kxs3, r_kxs41, r_kxs42, r_kxs5, r_pass, r_doc, r_brk, r_cont, r_ss0, r_ss1, r_kss1, r_kss2, r_kss3, r_kss4, r_krn1, r_krn2, r_krn3, r_lm0, r_lm1, r_lm2, r_klm, p_add, p_sub, p_neg, p_lt, p_le, p_gt, p_ge, p_abs, p_min, p_max, p_lenl, p_lent, p_tupl, p_tupt, p_lstl, p_lstt, p_revl, p_revt, p_inti, p_isN0, p_notN0, sc_none, sc_bool, sc_int, sc_str, sc_list, sc_tup, sc_dict, t_bool, m_rev, m_clr, ix_l, ix_t, kBi2, kBi, kUn, kCh2, kCh, kAn, kOr, kNo, kIt, kTu, kLs, kDi, kIx2, kIx, kSl3, kSl2, kSl, kFn, kIs, kCl, kMt, kEs2, kEs, kO, kTv, kTn, kTA, kTO, kTC, kSq, kRg, kRr2, kRr, kEn, kZi2, kZi, kCp3, kCp2, sl_small, slt_small, kst_any, kst_st, p_mod, p_fdiv, p_mul1, p_mul2, p_pow, p_eq, p_ne, p_catl, p_catt, m_app, m_ext, rng0, sts1, obind_some, rsbind_ok, List.getElem?_cons_zero, List.getElem?_cons_succ, List.set_cons_zero, List.set_cons_succ, List.map_nil, List.append_nil, List.nil_append, List.cons_append, if_true, if_false, ite_true, ite_false, Bool.false_eq_true, reduceIte, List.length_cons, List.length_nil, List.any_nil, List.any_cons, Bool.and_true, Bool.true_and, Bool.and_false, Bool.false_and, Bool.not_true, Bool.not_false, Bool.or_false, Bool.or_true, Bool.true_or, Bool.false_or, List.isEmpty_nil, List.isEmpty_cons, wipeE, startE, Nat.zero_add, Nat.reduceAdd, Nat.reduceSub, Nat.reduceLeDiff, Nat.le_refl, List.replicate_succ, List.replicate_zero, List.zipWith_cons_cons, List.zipWith_nil_left, List.zipWith_nil_right, Nat.reduceBEq, Nat.reduceEqDiff, decide_true, decide_false, Int.reduceLT, Int.reduceLE, Int.reduceNeg, Int.reduceToNat, Nat.reduceLT, List.take_succ_cons, List.take_zero, List.drop_succ_cons, List.drop_zero, eq_self, Int.reduceEq, ti_sc, ti_seq, ti_ix, ti_len, ti_rev, ti_kt, ti_ki, ti_kb, ti_kl, ti_zip, ti_tup, p_ltt, p_all, sh_int, sh_tupI, eqv_int, eqv_tupI, s3, kt, l2, m_is_box, hb, ix_t, at2_0, at2_1, hq, m_is_worth, hw]⟩
              rw [goodE_int hn, if_pos (by omega)]
    · obtain ⟨h1, h2⟩ := len_ne hl
      exact .inr ⟨goodE_len hl, by simp -implicitDefEqProofs only [r_rd_v, r_rd_p, r_krd, r_rds0, r_rds, r_kco, r_pr, r_kpr, r_kpr2, r_var, r_kvar1, r_kvar2, r_kvar3, r_lit, r_gl, r_un, r_bi, r_cm, r_chn, r_kch3t, r_kch3f, r_and, r_or, r_and1, r_and2, r_or1, r_or2, r_kan2t, r_kan2f, r_kor2t, r_kor2f, r_not, r_kno2, r_ite, r_tup, r_lst, r_ktu2, r_kls2, r_dic, r_kdi2, r_dnewk, r_dnewt, r_ix, r_kix3, r_kix4, r_sl, r_ksl4l, r_ksl4t, r_fn, r_isI, r_kis2, r_call, r_kcl2, r_calla, r_kca2, r_kca3, r_kca4, r_kca5, r_arg0, r_arg, r_kar1, r_kar2, r_kar3, r_kar4, r_kar5, r_kar6, r_nomix0, r_nomix1, r_pm0, r_pm1, r_kpm, r_sh0, r_sh1, r_ksh1, r_ksh2, r_fz_v, r_fz_p, r_kfz1, r_kfz2, r_fzs0, r_fzs1, r_kfs, r_kfs3, r_isL, r_kisl1, r_kisl2, r_isO, r_kiso1, r_kiso2, r_mt, r_kmt2, r_kmt31, r_kmt32, r_kmt4, r_es0, r_es1, r_o0, r_o1, r_ko2, r_tv, r_ktv2, r_ktv3, r_tcm, r_tchn, r_ktb, r_tnot, r_tand, r_tor, r_ta0, r_ta1, r_to0, r_to1, r_c0, r_c1, r_seq, r_ksq2, r_ksq3, r_rng, r_krg2, r_rr, r_krr3, r_enum, r_ken2, r_ken3, r_zip, r_kzi4, r_kzi3l, r_kzi3t, r_seqdl, r_seqdt, r_set, r_kse1, r_kse2, r_kse3, r_kse4, r_knx, r_st, r_kst1, r_kst2, r_kst3, r_sts0, r_unp, r_kup, r_kup2, r_exp, r_kex, r_ret, r_krt1, r_krt2, r_krt3, r_retn, r_iff, r_kif1, r_kif2, r_forr, r_kfo, r_step, r_ksp, r_stp1, r_stp2, r_stepc, r_kcp, r_kcp4, r_whl, r_ixs, r_kxs, r_kxs2, r_kxs6, r_kxs3, r_kxs41, r_kxs42, r_kxs5, r_pass, r_doc, r_brk, r_cont, r_ss0, r_ss1, r_kss1, r_kss2, r_kss3, r_kss4, r_krn1, r_krn2, r_krn3, r_lm0, r_lm1, r_lm2, r_klm, p_add, p_sub, p_neg, p_lt, p_le, p_gt, p_ge, p_abs, p_min, p_max, p_lenl, p_lent, p_tupl, p_tupt, p_lstl, p_lstt, p_revl, p_revt, p_inti, p_isN0, p_notN0, sc_none, sc_bool, sc_int, sc_str, sc_list, sc_tup, sc_dict, t_bool, m_rev, m_clr, ix_l, ix_t, kBi2, kBi, kUn, kCh2, kCh, kAn, kOr, kNo, kIt, kTu, kLs, kDi, kIx2, kIx, kSl3, kSl2, kSl, kFn, kIs, kCl, kMt, kEs2, kEs, kO, kTv, kTn, kTA, kTO, kTC, kSq, kRg, kRr2, kRr, kEn, kZi2, kZi, kCp3, kCp2, sl_small, slt_small, kst_any, kst_st, p_mod, p_fdiv, p_mul1, p_mul2, p_pow, p_eq, p_ne, p_catl, p_catt, m_app, m_ext, rng0, sts1, obind_some, rsbind_ok, List.getElem?_cons_zero, List.getElem?_cons_succ, List.set_cons_zero, List.set_cons_succ, List.map_nil, List.append_nil, List.nil_append, List.cons_append, if_true, if_false, ite_true, ite_false, Bool.false_eq_true, reduceIte, List.length_cons, List.length_nil, List.any_nil, List.any_cons, Bool.and_true, Bool.true_and, Bool.and_false, Bool.false_and, Bool.not_true, Bool.not_false, Bool.or_false, Bool.or_true, Bool.true_or, Bool.false_or, List.isEmpty_nil, List.isEmpty_cons, wipeE, startE, Nat.zero_add, Nat.reduceAdd, Nat.reduceSub, Nat.reduceLeDiff, Nat.le_refl, List.replicate_succ, List.replicate_zero, List.zipWith_cons_cons, List.zipWith_nil_left, List.zipWith_nil_right, Nat.reduceBEq, Nat.reduceEqDiff, decide_true, decide_false, Int.reduceLT, Int.reduceLE, Int.reduceNeg, Int.reduceToNat, Nat.reduceLT, List.take_succ_cons, List.take_zero, List.drop_succ_cons, List.drop_zero, eq_self, Int.reduceEq, ti_sc, ti_seq, ti_ix, ti_len, ti_rev, ti_kt, ti_ki, ti_kb, ti_kl, ti_zip, ti_tup, p_ltt, p_all, sh_int, sh_tupI, eqv_int, eqv_tupI, s3, kt, h1, h2]⟩
  | _ => exact .inr ⟨rfl, by simp -implicitDefEqProofs only [r_rd_v, r_rd_p, r_krd, r_rds0, r_rds, r_kco, r_pr, r_kpr, r_kpr2, r_var, r_kvar1, r_kvar2, r_kvar3, r_lit, r_gl, r_un, r_bi, r_cm, r_chn, r_kch3t, r_kch3f, r_and, r_or, r_and1, r_and2, r_or1, r_or2, r_kan2t, r_kan2f, r_kor2t, r_kor2f, r_not, r_kno2, r_ite, r_tup, r_lst, r_ktu2, r_kls2, r_dic, r_kdi2, r_dnewk, r_dnewt, r_ix, r_kix3, r_kix4, r_sl, r_ksl4l, r_ksl4t, r_fn, r_isI, r_kis2, r_call, r_kcl2, r_calla, r_kca2, r_kca3, r_kca4, r_kca5, r_arg0, r_arg, r_kar1, r_kar2, r_kar3, r_kar4, r_kar5, r_kar6, r_nomix0, r_nomix1, r_pm0, r_pm1, r_kpm, r_sh0, r_sh1, r_ksh1, r_ksh2, r_fz_v, r_fz_p, r_kfz1, r_kfz2, r_fzs0, r_fzs1, r_kfs, r_kfs3, r_isL, r_kisl1, r_kisl2, r_isO, r_kiso1, r_kiso2, r_mt, r_kmt2, r_kmt31, r_kmt32, r_kmt4, r_es0, r_es1, r_o0, r_o1, r_ko2, r_tv, r_ktv2, r_ktv3, r_tcm, r_tchn, r_ktb, r_tnot, r_tand, r_tor, r_ta0, r_ta1, r_to0, r_to1, r_c0, r_c1, r_seq, r_ksq2, r_ksq3, r_rng, r_krg2, r_rr, r_krr3, r_enum, r_ken2, r_ken3, r_zip, r_kzi4, r_kzi3l, r_kzi3t, r_seqdl, r_seqdt, r_set, r_kse1, r_kse2, r_kse3, r_kse4, r_knx, r_st, r_kst1, r_kst2, r_kst3, r_sts0, r_unp, r_kup, r_kup2, r_exp, r_kex, r_ret, r_krt1, r_krt2, r_krt3, r_retn, r_iff, r_kif1, r_kif2, r_forr, r_kfo, r_step, r_ksp, r_stp1, r_stp2, r_stepc, r_kcp, r_kcp4, r_whl, r_ixs, r_kxs, r_kxs2, r_kxs6, r_kxs3, r_kxs41, r_kxs42, r_kxs5, r_pass, r_doc, r_brk, r_cont, r_ss0, r_ss1, r_kss1, r_kss2, r_kss3, r_kss4, r_krn1, r_krn2, r_krn3, r_lm0, r_lm1, r_lm2, r_klm, p_add, p_sub, p_neg, p_lt, p_le, p_gt, p_ge, p_abs, p_min, p_max, p_lenl, p_lent, p_tupl, p_tupt, p_lstl, p_lstt, p_revl, p_revt, p_inti, p_isN0, p_notN0, sc_none, sc_bool, sc_int, sc_str, sc_list, sc_tup, sc_dict, t_bool, m_rev, m_clr, ix_l, ix_t, kBi2, kBi, kUn, kCh2, kCh, kAn, kOr, kNo, kIt, kTu, kLs, kDi, kIx2, kIx, kSl3, kSl2, kSl, kFn, kIs, kCl, kMt, kEs2, kEs, kO, kTv, kTn, kTA, kTO, kTC, kSq, kRg, kRr2, kRr, kEn, kZi2, kZi, kCp3, kCp2, sl_small, slt_small, kst_any, kst_st, p_mod, p_fdiv, p_mul1, p_mul2, p_pow, p_eq, p_ne, p_catl, p_catt, m_app, m_ext, rng0, sts1, obind_some, rsbind_ok, List.getElem?_cons_zero, List.getElem?_cons_succ, List.set_cons_zero, List.set_cons_succ, List.map_nil, List.append_nil, List.nil_append, List.cons_append, if_true, if_false, ite_true, ite_false, Bool.false_eq_true, reduceIte, List.length_cons, List.length_nil, List.any_nil, List.any_cons, Bool.and_true, Bool.true_and, Bool.and_false, Bool.false_and, Bool.not_true, Bool.not_false, Bool.or_false, Bool.or_true, Bool.true_or, Bool.false_or, List.isEmpty_nil, List.isEmpty_cons, wipeE, startE, Nat.zero_add, Nat.reduceAdd, Nat.reduceSub, Nat.reduceLeDiff, Nat.le_refl, List.replicate_succ, List.replicate_zero, List.zipWith_cons_cons, List.zipWith_nil_left, List.zipWith_nil_right, Nat.reduceBEq, Nat.reduceEqDiff, decide_true, decide_false, Int.reduceLT, Int.reduceLE, Int.reduceNeg, Int.reduceToNat, Nat.reduceLT, List.take_succ_cons, List.take_zero, List.drop_succ_cons, List.drop_zero, eq_self, Int.reduceEq, ti_sc, ti_seq, ti_ix, ti_len, ti_rev, ti_kt, ti_ki, ti_kb, ti_kl, ti_zip, ti_tup, p_ltt, p_all, sh_int, sh_tupI, eqv_int, eqv_tupI, s3, kindOf, show (Kd.int == Kd.tuple) = false from rfl, show (Kd.tuple == Kd.int) = false from rfl, show (Kd.tuple == Kd.bool) = false from rfl, show (Kd.tuple == Kd.str) = false from rfl, show (Kd.tuple == Kd.list) = false from rfl, show (Kd.tuple == Kd.dict) = false from rfl]⟩
/-- a walk that goes on or tells False -/
theorem walk_good {room : List Int} {t : D} {step : D → En → Ou} (hs : ∀ (last : Int) (y3 : Option Sl) (d : D), ShN y3 → (∃ b, goodE room last d = some b ∧ step d [some ⟨.sh, tupI room⟩, some ⟨.sh, t⟩, some ⟨.sh, .int last⟩, y3] = .nx [some ⟨.sh, tupI room⟩, some ⟨.sh, t⟩, some ⟨.sh, .int b⟩, some ⟨.sh, d⟩]) ∨
    (goodE room last d = none ∧ step d [some ⟨.sh, tupI room⟩, some ⟨.sh, t⟩, some ⟨.sh, .int last⟩, y3] = .rt false (.bool false) [some ⟨.sh, tupI room⟩, some ⟨.sh, t⟩, some ⟨.sh, .int last⟩, some ⟨.sh, d⟩])) :
    ∀ (ds : List D) (last : Int) (y3 : Option Sl), ShN y3 → (goodG room last ds = true ∧ ∃ e', forL step ds [some ⟨.sh, tupI room⟩, some ⟨.sh, t⟩, some ⟨.sh, .int last⟩, y3] = .nx e') ∨ (goodG room last ds = false ∧ ∃ e', forL step ds [some ⟨.sh, tupI room⟩, some ⟨.sh, t⟩, some ⟨.sh, .int last⟩, y3] = .rt false (.bool false) e')
  | [], last, y3, s3 => .inl ⟨rfl, _, rfl⟩
  | d :: ds, last, y3, s3 => by
    rcases hs last y3 d s3 with ⟨b, h1, h2⟩ | ⟨h1, h2⟩
    · simp only [goodG, forL, h1, h2]
      exact walk_good hs ds b _ shn1
    · refine .inr ⟨by simp only [goodG, h1], [some ⟨.sh, tupI room⟩, some ⟨.sh, t⟩, some ⟨.sh, .int last⟩, some ⟨.sh, d⟩], ?_⟩
      simp only [forL, h2]
theorem kt_false {d : D} (h : ∀ ds, d ≠ .tuple ds) : kindOf .tuple d = false ∧ (∀ room, goodD room d = false) := by
  cases d <;> first | exact ⟨rfl, fun _ => rfl⟩ | exact absurd rfl (h _)
theorem is_given_sem {room : List Int} (t : D) : f_is_given.sem [tupI room, t] = .ok false (.bool (goodD room t)) [] := by
  rw [e_is_given, runF_eq rfl (by decide)]
  unfold b_is_given
  by_cases ht : ∃ ds, t = .tuple ds
  · obtain ⟨ds, rfl⟩ := ht
    have kt : kindOf .tuple (.tuple ds) = true := rfl
    have hsq : seqD (.tuple ds) = some ds := rfl
    have hg : goodD room (.tuple ds) = goodG room (-1) ds := rfl
    simp -implicitDefEqProofs only [r_rd_v, r_rd_p, r_krd, r_rds0, r_rds, r_kco, r_pr, r_kpr, r_kpr2, r_var, r_kvar1, r_kvar2, r_kvar3, r_lit, r_gl, r_un, r_bi, r_cm, r_chn, r_kch3t, r_kch3f, r_and, r_or, r_and1, r_and2, r_or1, r_or2, r_kan2t, r_kan2f, r_kor2t, r_kor2f, r_not, r_kno2, r_ite, r_tup, r_lst, r_ktu2, r_kls2, r_dic, r_kdi2, r_dnewk, r_dnewt, r_ix, r_kix3, r_kix4, r_sl, r_ksl4l, r_ksl4t, r_fn, r_isI, r_kis2, r_call, r_kcl2, r_calla, r_kca2, r_kca3, r_kca4, r_kca5, r_arg0, r_arg, r_kar1, r_kar2, r_kar3, r_kar4, r_kar5, r_kar6, r_nomix0, r_nomix1, r_pm0, r_pm1, r_kpm, r_sh0, r_sh1, r_ksh1, r_ksh2, r_fz_v, r_fz_p, r_kfz1, r_kfz2, r_fzs0, r_fzs1, r_kfs, r_kfs3, r_isL, r_kisl1, r_kisl2, r_isO, r_kiso1, r_kiso2, r_mt, r_kmt2, r_kmt31, r_kmt32, r_kmt4, r_es0, r_es1, r_o0, r_o1, r_ko2, r_tv, r_ktv2, r_ktv3, r_tcm, r_tchn, r_ktb, r_tnot, r_tand, r_tor, r_ta0, r_ta1, r_to0, r_to1, r_c0, r_c1, r_seq, r_ksq2, r_ksq3, r_rng, r_krg2, r_rr, r_krr3, r_enum, r_ken2, r_ken3, r_zip, r_kzi4, r_kzi3l, r_kzi3t, r_seqdl, r_seqdt, r_set, r_kse1, r_kse2, r_kse3, r_kse4, r_knx, r_st, r_kst1, r_kst2, r_kst3, r_sts0, r_unp, r_kup, r_kup2, r_exp, r_kex, r_ret, r_krt1, r_krt2, r_krt3, r_retn, r_iff, r_kif1, r_kif2, r_forr, r_kfo, r_step, r_ksp, r_stp1, r_stp2, r_stepc, r_kcp, r_kcp4, r_whl, r_ixs, r_kxs, r_kxs2, r_kxs6, r_kxs3, r_kxs41, r_kxs42, r_kxs5, r_pass, r_doc, r_brk, r_cont, r_ss0, r_ss1, r_kss1, r_kss2, r_kss3, r_kss4, r_krn1, r_krn2, r_krn3, r_lm0, r_lm1, r_lm2, r_klm, p_add, p_sub, p_neg, p_lt, p_le, p_gt, p_ge, p_abs, p_min, p_max, p_lenl, p_lent, p_tupl, p_tupt, p_lstl, p_lstt, p_revl, p_revt, p_inti, p_isN0, p_notN0, sc_none, sc_bool, sc_int, sc_str, sc_list, sc_tup, sc_dict, t_bool, m_rev, m_clr, ix_l, ix_t, kBi2, kBi, kUn, kCh2, kCh, kAn, kOr, kNo, kIt, kTu, kLs, kDi, kIx2, kIx, kSl3, kSl2, kSl, kFn, kIs, kCl, kMt, kEs2, kEs, kO, kTv, kTn, kTA, kTO, kTC, kSq, kRg, kRr2, kRr, kEn, kZi2, kZi, kCp3, kCp2, sl_small, slt_small, kst_any, kst_st, p_mod, p_fdiv, p_mul1, p_mul2, p_pow, p_eq, p_ne, p_catl, p_catt, m_app, m_ext, rng0, sts1, obind_some, rsbind_ok, List.getElem?_cons_zero, List.getElem?_cons_succ, List.set_cons_zero, List.set_cons_succ, List.map_nil, List.append_nil, List.nil_append, List.cons_append, if_true, if_false, ite_true, ite_false, Bool.false_eq_true, reduceIte, List.length_cons, List.length_nil, List.any_nil, List.any_cons, Bool.and_true, Bool.true_and, Bool.and_false, Bool.false_and, Bool.not_true, Bool.not_false, Bool.or_false, Bool.or_true, Bool.true_or, Bool.false_or, List.isEmpty_nil, List.isEmpty_cons, wipeE, startE, Nat.zero_add, Nat.reduceAdd, Nat.reduceSub, Nat.reduceLeDiff, Nat.le_refl, List.replicate_succ, List.replicate_zero, List.zipWith_cons_cons, List.zipWith_nil_left, List.zipWith_nil_right, Nat.reduceBEq, Nat.reduceEqDiff, decide_true, decide_false, Int.reduceLT, Int.reduceLE, Int.reduceNeg, Int.reduceToNat, Nat.reduceLT, List.take_succ_cons, List.take_zero, List.drop_succ_cons, List.drop_zero, eq_self, Int.reduceEq, ti_sc, ti_seq, ti_ix, ti_len, ti_rev, ti_kt, ti_ki, ti_kb, ti_kl, ti_zip, ti_tup, p_ltt, p_all, sh_int, sh_tupI, eqv_int, eqv_tupI, kt, hsq]
    generalize hL : forL _ _ _ = L
    rcases walk_good (fun last y3 d s3 => is_given_step (room := room) (last := last) (.tuple ds) s3 d) ds (-1) none shn0 with ⟨h1, e', h2⟩ | ⟨h1, e', h2⟩
    · rw [h2] at hL
      subst hL
      simp -implicitDefEqProofs only [r_rd_v, r_rd_p, r_krd, r_rds0, r_rds, r_kco, r_pr, r_kpr, r_kpr2, r_var, r_kvar1, r_kvar2, r_kvar3, r_lit, r_gl, r_un, r_bi, r_cm, r_chn, r_kch3t, r_kch3f, r_and, r_or, r_and1, r_and2, r_or1, r_or2, r_kan2t, r_kan2f, r_kor2t, r_kor2f, r_not, r_kno2, r_ite, r_tup, r_lst, r_ktu2, r_kls2, r_dic, r_kdi2, r_dnewk, r_dnewt, r_ix, r_kix3, r_kix4, r_sl, r_ksl4l, r_ksl4t, r_fn, r_isI, r_kis2, r_call, r_kcl2, r_calla, r_kca2, r_kca3, r_kca4, r_kca5, r_arg0, r_arg, r_kar1, r_kar2, r_kar3, r_kar4, r_kar5, r_kar6, r_nomix0, r_nomix1, r_pm0, r_pm1, r_kpm, r_sh0, r_sh1, r_ksh1, r_ksh2, r_fz_v, r_fz_p, r_kfz1, r_kfz2, r_fzs0, r_fzs1, r_kfs, r_kfs3, r_isL, r_kisl1, r_kisl2, r_isO, r_kiso1, r_kiso2, r_mt, r_kmt2, r_kmt31, r_kmt32, r_kmt4, r_es0, r_es1, r_o0, r_o1, r_ko2, r_tv, r_ktv2, r_ktv3, r_tcm, r_tchn, r_ktb, r_tnot, r_tand, r_tor, r_ta0, r_ta1, r_to0, r_to1, r_c0, r_c1, r_seq, r_ksq2, r_ksq3, r_rng, r_krg2, r_rr, r_krr3, r_enum, r_ken2, r_ken3, r_zip, r_kzi4, r_kzi3l, r_kzi3t, r_seqdl, r_seqdt, r_set, r_kse1, r_kse2, r_kse3, r_kse4, r_knx, r_st, r_kst1, r_kst2, r_kst3, r_sts0, r_unp, r_kup, r_kup2, r_exp, r_kex, r_ret, r_krt1, r_krt2, r_krt3, r_retn, r_iff, r_kif1, r_kif2, r_forr, r_kfo, r_step, r_ksp, r_stp1, r_stp2, r_stepc, r_kcp, r_kcp4, r_whl, r_ixs, r_kxs, r_kxs2, r_kxs6, r_kxs3, r_kxs41, r_kxs42, r_kxs5, r_pass, r_doc, r_brk, r_cont, r_ss0, r_ss1, r_kss1, r_kss2, r_kss3, r_kss4, r_krn1, r_krn2, r_krn3, r_lm0, r_lm1, r_lm2, r_klm, p_add, p_sub, p_neg, p_lt, p_le, p_gt, p_ge, p_abs, p_min, p_max, p_lenl, p_lent, p_tupl, p_tupt, p_lstl, p_lstt, p_revl, p_revt, p_inti, p_isN0, p_notN0, sc_none, sc_bool, sc_int, sc_str, sc_list, sc_tup, sc_dict, t_bool, m_rev, m_clr, ix_l, ix_t, kBi2, kBi, kUn, kCh2, kCh, kAn, kOr, kNo, kIt, kTu, kLs, kDi, kIx2, kIx, kSl3, kSl2, kSl, kFn, kIs, kCl, kMt, kEs2, kEs, kO, kTv, kTn, kTA, kTO, kTC, kSq, kRg, kRr2, kRr, kEn, kZi2, kZi, kCp3, kCp2, sl_small, slt_small, kst_any, kst_st, p_mod, p_fdiv, p_mul1, p_mul2, p_pow, p_eq, p_ne, p_catl, p_catt, m_app, m_ext, rng0, sts1, obind_some, rsbind_ok, List.getElem?_cons_zero, List.getElem?_cons_succ, List.set_cons_zero, List.set_cons_succ, List.map_nil, List.append_nil, List.nil_append, List.cons_append, if_true, if_false, ite_true, ite_false, Bool.false_eq_true, reduceIte, List.length_cons, List.length_nil, List.any_nil, List.any_cons, Bool.and_true, Bool.true_and, Bool.and_false, Bool.false_and, Bool.not_true, Bool.not_false, Bool.or_false, Bool.or_true, Bool.true_or, Bool.false_or, List.isEmpty_nil, List.isEmpty_cons, wipeE, startE, Nat.zero_add, Nat.reduceAdd, Nat.reduceSub, Nat.reduceLeDiff, Nat.le_refl, List.replicate_succ, List.replicate_zero, List.zipWith_cons_cons, List.zipWith_nil_left, List.zipWith_nil_right, Nat.reduceBEq, Nat.reduceEqDiff, decide_true, decide_false, Int.reduceLT, Int.reduceLE, Int.reduceNeg, Int.reduceToNat, Nat.reduceLT, List.take_succ_cons, List.take_zero, List.drop_succ_cons, List.drop_zero, eq_self, Int.reduceEq, ti_sc, ti_seq, ti_ix, ti_len, ti_rev, ti_kt, ti_ki, ti_kb, ti_kl, ti_zip, ti_tup, p_ltt, p_all, sh_int, sh_tupI, eqv_int, eqv_tupI]
      rw [hg, h1]
    · rw [h2] at hL
      subst hL
      simp -implicitDefEqProofs only [r_rd_v, r_rd_p, r_krd, r_rds0, r_rds, r_kco, r_pr, r_kpr, r_kpr2, r_var, r_kvar1, r_kvar2, r_kvar3, r_lit, r_gl, r_un, r_bi, r_cm, r_chn, r_kch3t, r_kch3f, r_and, r_or, r_and1, r_and2, r_or1, r_or2, r_kan2t, r_kan2f, r_kor2t, r_kor2f, r_not, r_kno2, r_ite, r_tup, r_lst, r_ktu2, r_kls2, r_dic, r_kdi2, r_dnewk, r_dnewt, r_ix, r_kix3, r_kix4, r_sl, r_ksl4l, r_ksl4t, r_fn, r_isI, r_kis2, r_call, r_kcl2, r_calla, r_kca2, r_kca3, r_kca4, r_kca5, r_arg0, r_arg, r_kar1, r_kar2, r_kar3, r_kar4, r_kar5, r_kar6, r_nomix0, r_nomix1, r_pm0, r_pm1, r_kpm, r_sh0, r_sh1, r_ksh1, r_ksh2, r_fz_v, r_fz_p, r_kfz1, r_kfz2, r_fzs0, r_fzs1, r_kfs, r_kfs3, r_isL, r_kisl1, r_kisl2, r_isO, r_kiso1, r_kiso2, r_mt, r_kmt2, r_kmt31, r_kmt32, r_kmt4, r_es0, r_es1, r_o0, r_o1, r_ko2, r_tv, r_ktv2, r_ktv3, r_tcm, r_tchn, r_ktb, r_tnot, r_tand, r_tor, r_ta0, r_ta1, r_to0, r_to1, r_c0, r_c1, r_seq, r_ksq2, r_ksq3, r_rng, r_krg2, r_rr, r_krr3, r_enum, r_ken2, r_ken3, r_zip, r_kzi4, r_kzi3l, r_kzi3t, r_seqdl, r_seqdt, r_set, r_kse1, r_kse2, r_kse3, r_kse4, r_knx, r_st, r_kst1, r_kst2, r_kst3, r_sts0, r_unp, r_kup, r_kup2, r_exp, r_kex, r_ret, r_krt1, r_krt2, r_krt3, r_retn, r_iff, r_kif1, r_kif2, r_forr, r_kfo, r_step, r_ksp, r_stp1, r_stp2, r_stepc, r_kcp, r_kcp4, r_whl, r_ixs, r_kxs, r_kxs2, r_kxs6, r_kxs3, r_kxs41, r_kxs42, r_kxs5, r_pass, r_doc, r_brk, r_cont, r_ss0, r_ss1, r_kss1, r_kss2, r_kss3, r_kss4, r_krn1, r_krn2, r_krn3, r_lm0, r_lm1, r_lm2, r_klm, p_add, p_sub, p_neg, p_lt, p_le, p_gt, p_ge, p_abs, p_min, p_max, p_lenl, p_lent, p_tupl, p_tupt, p_lstl, p_lstt, p_revl, p_revt, p_inti, p_isN0, p_notN0, sc_none, sc_bool, sc_int, sc_str, sc_list, sc_tup, sc_dict, t_bool, m_rev, m_clr, ix_l, ix_t, kBi2, kBi, kUn, kCh2, kCh, kAn, kOr, kNo, kIt, kTu, kLs, kDi, kIx2, kIx, kSl3, kSl2, kSl, kFn, kIs, kCl, kMt, kEs2, kEs, kO, kTv, kTn, kTA, kTO, kTC, kSq, kRg, kRr2, kRr, kEn, kZi2, kZi, kCp3, kCp2, sl_small, slt_small, kst_any, kst_st, p_mod, p_fdiv, p_mul1, p_mul2, p_pow, p_eq, p_ne, p_catl, p_catt, m_app, m_ext, rng0, sts1, obind_some, rsbind_ok, List.getElem?_cons_zero, List.getElem?_cons_succ, List.set_cons_zero, List.set_cons_succ, List.map_nil, List.append_nil, List.nil_append, List.cons_append, if_true, if_false, ite_true, ite_false, Bool.false_eq_true, reduceIte, List.length_cons, List.length_nil, List.any_nil, List.any_cons, Bool.and_true, Bool.true_and, Bool.and_false, Bool.false_and, Bool.not_true, Bool.not_false, Bool.or_false, Bool.or_true, Bool.true_or, Bool.false_or, List.isEmpty_nil, List.isEmpty_cons, wipeE, startE, Nat.zero_add, Nat.reduceAdd, Nat.reduceSub, Nat.reduceLeDiff, Nat.le_refl, List.replicate_succ, List.replicate_zero, List.zipWith_cons_cons, List.zipWith_nil_left, List.zipWith_nil_right, Nat.reduceBEq, Nat.reduceEqDiff, decide_true, decide_false, Int.reduceLT, Int.reduceLE, Int.reduceNeg, Int.reduceToNat, Nat.reduceLT, List.take_succ_cons, List.take_zero, List.drop_succ_cons, List.drop_zero, eq_self, Int.reduceEq, ti_sc, ti_seq, ti_ix, ti_len, ti_rev, ti_kt, ti_ki, ti_kb, ti_kl, ti_zip, ti_tup, p_ltt, p_all, sh_int, sh_tupI, eqv_int, eqv_tupI]
      rw [hg, h1]
  · obtain ⟨h1, h2⟩ := kt_false (d := t) fun ds h => ht ⟨ds, h⟩
    simp -implicitDefEqProofs only [r_rd_v, r_rd_p, r_krd, r_rds0, r_rds, r_kco, r_pr, r_kpr, r_kpr2, r_var, r_kvar1, r_kvar2, r_kvar3, r_lit, r_gl, r_un, r_bi, r_cm, r_chn, r_kch3t, r_kch3f, r_and, r_or, r_and1, r_and2, r_or1, r_or2, r_kan2t, r_kan2f, r_kor2t, r_kor2f, r_not, r_kno2, r_ite, r_tup, r_lst, r_ktu2, r_kls2, r_dic, r_kdi2, r_dnewk, r_dnewt, r_ix, r_kix3, r_kix4, r_sl, r_ksl4l, r_ksl4t, r_fn, r_isI, r_kis2, r_call, r_kcl2, r_calla, r_kca2, r_kca3, r_kca4, r_kca5, r_arg0, r_arg, r_kar1, r_kar2, r_kar3, r_kar4, r_kar5, r_kar6, r_nomix0, r_nomix1, r_pm0, r_pm1, r_kpm, r_sh0, r_sh1, r_ksh1, r_ksh2, r_fz_v, r_fz_p, r_kfz1, r_kfz2, r_fzs0, r_fzs1, r_kfs, r_kfs3, r_isL, r_kisl1, r_kisl2, r_isO, r_kiso1, r_kiso2, r_mt, r_kmt2, r_kmt31, r_kmt32, r_kmt4, r_es0, r_es1, r_o0, r_o1, r_ko2, r_tv, r_ktv2, r_ktv3, r_tcm, r_tchn, r_ktb, r_tnot, r_tand, r_tor, r_ta0, r_ta1, r_to0, r_to1, r_c0, r_c1, r_seq, r_ksq2, r_ksq3, r_rng, r_krg2, r_rr, r_krr3, r_enum, r_ken2, r_ken3, r_zip, r_kzi4, r_kzi3l, r_kzi3t, r_seqdl, r_seqdt, r_set, r_kse1, r_kse2, r_kse3, r_kse4, r_knx, r_st, r_kst1, r_kst2, r_kst3, r_sts0, r_unp, r_kup, r_kup2, r_exp, r_kex, r_ret, r_krt1, r_krt2, r_krt3, r_retn, r_iff, r_kif1, r_kif2, r_forr, r_kfo, r_step, r_ksp, r_stp1, r_stp2, r_stepc, r_kcp, r_kcp4, r_whl, r_ixs, r_kxs, r_kxs2, r_kxs6, r_kxs3, r_kxs41, r_kxs42, r_kxs5, r_pass, r_doc, r_brk, r_cont, r_ss0, r_ss1, r_kss1, r_kss2, r_kss3, r_kss4, r_krn1, r_krn2, r_krn3, r_lm0, r_lm1, r_lm2, r_klm, p_add, p_sub, p_neg, p_lt, p_le, p_gt, p_ge, p_abs, p_min, p_max, p_lenl, p_lent, p_tupl, p_tupt, p_lstl, p_lstt, p_revl, p_revt, p_inti, p_isN0, p_notN0, sc_none, sc_bool, sc_int, sc_str, sc_list, sc_tup, sc_dict, t_bool, m_rev, m_clr, ix_l, ix_t, kBi2, kBi, kUn, kCh2, kCh, kAn, kOr, kNo, kIt, kTu, kLs, kDi, kIx2, kIx, kSl3, kSl2, kSl, kFn, kIs, kCl, kMt, kEs2, kEs, kO, kTv, kTn, kTA, kTO, kTC, kSq, kRg, kRr2, kRr, kEn, kZi2, kZi, kCp3, kCp2, sl_small, slt_small, kst_any, kst_st, p_mod, p_fdiv, p_mul1, p_mul2, p_pow, p_eq, p_ne, p_catl, p_catt, m_app, m_ext, rng0, sts1, obind_some, rsbind_ok, List.getElem?_cons_zero, List.getElem?_cons_succ, List.set_cons_zero, List.set_cons_succ, List.map_nil, List.append_nil, List.nil_append, List.cons_append, if_true, if_false, ite_true, ite_false, Bool.false_eq_true, reduceIte, List.length_cons, List.length_nil, List.any_nil, List.any_cons, Bool.and_true, Bool.true_and, Bool.and_false, Bool.false_and, Bool.not_true, Bool.not_false, Bool.or_false, Bool.or_true, Bool.true_or, Bool.false_or, List.isEmpty_nil, List.isEmpty_cons, wipeE, startE, Nat.zero_add, Nat.reduceAdd, Nat.reduceSub, Nat.reduceLeDiff, Nat.le_refl, List.replicate_succ, List.replicate_zero, List.zipWith_cons_cons, List.zipWith_nil_left, List.zipWith_nil_right, Nat.reduceBEq, Nat.reduceEqDiff, decide_true, decide_false, Int.reduceLT, Int.reduceLE, Int.reduceNeg, Int.reduceToNat, Nat.reduceLT, List.take_succ_cons, List.take_zero, List.drop_succ_cons, List.drop_zero, eq_self, Int.reduceEq, ti_sc, ti_seq, ti_ix, ti_len, ti_rev, ti_kt, ti_ki, ti_kb, ti_kl, ti_zip, ti_tup, p_ltt, p_all, sh_int, sh_tupI, eqv_int, eqv_tupI, h1, h2]
end CM
/-! PM15: the law's own look whether a thing is a given. -/
namespace CM
open PySem PD
theorem goodE_whole1 {room : List Int} {last : Int} {x y : D} (h : wholeB x = false) : goodE room last (.tuple [x, y]) = none := by
  cases x with
  | int b => cases h
  | _ => cases y <;> rfl
theorem goodE_whole2 {room : List Int} {last : Int} {x y : D} (h : wholeB y = false) : goodE room last (.tuple [x, y]) = none := by
  cases y with
  | int b => cases h
  | _ => cases x <;> rfl
theorem wholeB_of {d : D} (h : wholeB d = true) : ∃ b, d = .int b := by
  cases d with
  | int b => exact ⟨b, rfl⟩
  | _ => cases h
theorem law_is_given_step {room : List Int} {last : Int} {y3 : Option Sl} (hlast : -1 ≤ last) (t : D) (s3 : ShN y3) (d : D) :
    (∃ b, goodE room last d = some b ∧ stepF [f__law_is_whole] (.nm 3) [
    .iff (.or [(.not (.v (.isI .tuple (.var 3)))), (.cm .ne (.fn .len [(.var 3)]) (.lit (.int 2)))]) [
      .ret (.lit (.bool false))] [],
    .iff (.or [(.not (.v (.call 0 [(.ix (.var 3) (.lit (.int 0)))] []))), (.not (.v (.call 0 [(.ix (.var 3) (.lit (.int 1)))] []))), (.not (.chn .lt .lt (.var 2) (.ix (.var 3) (.lit (.int 0))) (.fn .len [(.var 0)])))]) [
      .ret (.lit (.bool false))] [],
    .iff (.or [(.cm .lt (.ix (.var 3) (.lit (.int 1))) (.lit (.int 0))), (.cm .ge (.ix (.var 3) (.lit (.int 1))) (.ix (.var 0) (.ix (.var 3) (.lit (.int 0)))))]) [
      .ret (.lit (.bool false))] [],
    .set 2 (.ix (.var 3) (.lit (.int 0)))] d [some ⟨.sh, tupI room⟩, some ⟨.sh, t⟩, some ⟨.sh, .int last⟩, y3] = .nx [some ⟨.sh, tupI room⟩, some ⟨.sh, t⟩, some ⟨.sh, .int b⟩, some ⟨.sh, d⟩]) ∨
    (goodE room last d = none ∧ stepF [f__law_is_whole] (.nm 3) [
    .iff (.or [(.not (.v (.isI .tuple (.var 3)))), (.cm .ne (.fn .len [(.var 3)]) (.lit (.int 2)))]) [
      .ret (.lit (.bool false))] [],
    .iff (.or [(.not (.v (.call 0 [(.ix (.var 3) (.lit (.int 0)))] []))), (.not (.v (.call 0 [(.ix (.var 3) (.lit (.int 1)))] []))), (.not (.chn .lt .lt (.var 2) (.ix (.var 3) (.lit (.int 0))) (.fn .len [(.var 0)])))]) [
      .ret (.lit (.bool false))] [],
    .iff (.or [(.cm .lt (.ix (.var 3) (.lit (.int 1))) (.lit (.int 0))), (.cm .ge (.ix (.var 3) (.lit (.int 1))) (.ix (.var 0) (.ix (.var 3) (.lit (.int 0)))))]) [
      .ret (.lit (.bool false))] [],
    .set 2 (.ix (.var 3) (.lit (.int 0)))] d [some ⟨.sh, tupI room⟩, some ⟨.sh, t⟩, some ⟨.sh, .int last⟩, y3] = .rt false (.bool false) [some ⟨.sh, tupI room⟩, some ⟨.sh, t⟩, some ⟨.sh, .int last⟩, some ⟨.sh, d⟩]) := by
  have kt : ∀ ds, kindOf .tuple (.tuple ds) = true := fun _ => rfl
  cases d with
  | tuple ds =>
    by_cases hl : ds.length = 2
    · match ds, hl with
      | [x, y], _ =>
        have l2 : prim .len [.tuple [x, y]] = some (false, .int 2) := rfl
        have hw1 := law_whole_sem x
        have hw2 := law_whole_sem y
        cases h1 : wholeB x with
        | false =>
          rw [h1] at hw1
          exact .inr ⟨goodE_whole1 h1, by simp -implicitDefEqProofs only [r_rd_v, r_rd_p, r_krd, r_rds0, r_rds, r_kco, r_pr, r_kpr, r_kpr2, r_var, r_kvar1, r_kvar2, r_kvar3, r_lit, r_gl, r_un, r_bi, r_cm, r_chn, r_kch3t, r_kch3f, r_and, r_or, r_and1, r_and2, r_or1, r_or2, r_kan2t, r_kan2f, r_kor2t, r_kor2f, r_not, r_kno2, r_ite, r_tup, r_lst, r_ktu2, r_kls2, r_dic, r_kdi2, r_dnewk, r_dnewt, r_ix, r_kix3, r_kix4, r_sl, r_ksl4l, r_ksl4t, r_fn, r_isI, r_kis2, r_call, r_kcl2, r_calla, r_kca2, r_kca3, r_kca4, r_kca5, r_arg0, r_arg, r_kar1, r_kar2, r_kar3, r_kar4, r_kar5, r_kar6, r_nomix0, r_nomix1, r_pm0, r_pm1, r_kpm, r_sh0, r_sh1, r_ksh1, r_ksh2, r_fz_v, r_fz_p, r_kfz1, r_kfz2, r_fzs0, r_fzs1, r_kfs, r_kfs3, r_isL, r_kisl1, r_kisl2, r_isO, r_kiso1, r_kiso2, r_mt, r_kmt2, r_kmt31, r_kmt32, r_kmt4, r_es0, r_es1, r_o0, r_o1, r_ko2, r_tv, r_ktv2, r_ktv3, r_tcm, r_tchn, r_ktb, r_tnot, r_tand, r_tor, r_ta0, r_ta1, r_to0, r_to1, r_c0, r_c1, r_seq, r_ksq2, r_ksq3, r_rng, r_krg2, r_rr, r_krr3, r_enum, r_ken2, r_ken3, r_zip, r_kzi4, r_kzi3l, r_kzi3t, r_seqdl, r_seqdt, r_set, r_kse1, r_kse2, r_kse3, r_kse4, r_knx, r_st, r_kst1, r_kst2, r_kst3, r_sts0, r_unp, r_kup, r_kup2, r_exp, r_kex, r_ret, r_krt1, r_krt2, r_krt3, r_retn, r_iff, r_kif1, r_kif2, r_forr, r_kfo, r_step, r_ksp, r_stp1, r_stp2, r_stepc, r_kcp, r_kcp4, r_whl, r_ixs, r_kxs, r_kxs2, r_kxs6, r_kxs3, r_kxs41, r_kxs42, r_kxs5, r_pass, r_doc, r_brk, r_cont, r_ss0, r_ss1, r_kss1, r_kss2, r_kss3, r_kss4, r_krn1, r_krn2, r_krn3, r_lm0, r_lm1, r_lm2, r_klm, p_add, p_sub, p_neg, p_lt, p_le, p_gt, p_ge, p_abs, p_min, p_max, p_lenl, p_lent, p_tupl, p_tupt, p_lstl, p_lstt, p_revl, p_revt, p_inti, p_isN0, p_notN0, sc_none, sc_bool, sc_int, sc_str, sc_list, sc_tup, sc_dict, t_bool, m_rev, m_clr, ix_l, ix_t, kBi2, kBi, kUn, kCh2, kCh, kAn, kOr, kNo, kIt, kTu, kLs, kDi, kIx2, kIx, kSl3, kSl2, kSl, kFn, kIs, kCl, kMt, kEs2, kEs, kO, kTv, kTn, kTA, kTO, kTC, kSq, kRg, kRr2, kRr, kEn, kZi2, kZi, kCp3, kCp2, sl_small, slt_small, kst_any, kst_st, p_mod, p_fdiv, p_mul1, p_mul2, p_pow, p_eq, p_ne, p_catl, p_catt, m_app, m_ext, rng0, sts1, obind_some, rsbind_ok, List.getElem?_cons_zero, List.getElem?_cons_succ, List.set_cons_zero, List.set_cons_succ, List.map_nil, List.append_nil, List.nil_append, List.cons_append, if_true, if_false, ite_true, ite_false, Bool.false_eq_true, reduceIte, List.length_cons, List.length_nil, List.any_nil, List.any_cons, Bool.and_true, Bool.true_and, Bool.and_false, Bool.false_and, Bool.not_true, Bool.not_false, Bool.or_false, Bool.or_true, Bool.true_or, Bool.false_or, List.isEmpty_nil, List.isEmpty_cons, wipeE, startE, Nat.zero_add, Nat.reduceAdd, Nat.reduceSub, Nat.reduceLeDiff, Nat.le_refl, List.replicate_succ, List.replicate_zero, List.zipWith_cons_cons, List.zipWith_nil_left, List.zipWith_nil_right, Nat.reduceBEq, Nat.reduceEqDiff, decide_true, decide_false, Int.reduceLT, Int.reduceLE, Int.reduceNeg, Int.reduceToNat, Nat.reduceLT, List.take_succ_cons, List.take_zero, List.drop_succ_cons, List.drop_zero, eq_self, Int.reduceEq, ti_sc, ti_seq, ti_ix, ti_len, ti_rev, ti_kt, ti_ki, ti_kb, ti_kl, ti_zip, ti_tup, p_ltt, p_all, sh_int, sh_tupI, eqv_int, eqv_tupI, s3, kt, l2, m__law_is_whole, hw1, ix_t, at2_0]⟩
        | true =>
          cases h2 : wholeB y with
          | false =>
            rw [h1] at hw1
            rw [h2] at hw2
            exact .inr ⟨goodE_whole2 h2, by simp -implicitDefEqProofs only [r_rd_v, r_rd_p, r_krd, r_rds0, r_rds, r_kco, r_pr, r_kpr, r_kpr2, r_var, r_kvar1, r_kvar2, r_kvar3, r_lit, r_gl, r_un, r_bi, r_cm, r_chn, r_kch3t, r_kch3f, r_and, r_or, r_and1, r_and2, r_or1, r_or2, r_kan2t, r_kan2f, r_kor2t, r_kor2f, r_not, r_kno2, r_ite, r_tup, r_lst, r_ktu2, r_kls2, r_dic, r_kdi2, r_dnewk, r_dnewt, r_ix, r_kix3, r_kix4, r_sl, r_ksl4l, r_ksl4t, r_fn, r_isI, r_kis2, r_call, r_kcl2, r_calla, r_kca2, r_kca3, r_kca4, r_kca5, r_arg0, r_arg, r_kar1, r_kar2, r_kar3, r_kar4, r_kar5, r_kar6, r_nomix0, r_nomix1, r_pm0, r_pm1, r_kpm, r_sh0, r_sh1, r_ksh1, r_ksh2, r_fz_v, r_fz_p, r_kfz1, r_kfz2, r_fzs0, r_fzs1, r_kfs, r_kfs3, r_isL, r_kisl1, r_kisl2, r_isO, r_kiso1, r_kiso2, r_mt, r_kmt2, r_kmt31, r_kmt32, r_kmt4, r_es0, r_es1, r_o0, r_o1, r_ko2, r_tv, r_ktv2, r_ktv3, r_tcm, r_tchn, r_ktb, r_tnot, r_tand, r_tor, r_ta0, r_ta1, r_to0, r_to1, r_c0, r_c1, r_seq, r_ksq2, r_ksq3, r_rng, r_krg2, r_rr, r_krr3, r_enum, r_ken2, r_ken3, r_zip, r_kzi4, r_kzi3l, r_kzi3t, r_seqdl, r_seqdt, r_set, r_kse1, r_kse2, r_kse3, r_kse4, r_knx, r_st, r_kst1, r_kst2, r_kst3, r_sts0, r_unp, r_kup, r_kup2, r_exp, r_kex, r_ret, r_krt1, r_krt2, r_krt3, r_retn, r_iff, r_kif1, r_kif2, r_forr, r_kfo, r_step, r_ksp, r_stp1, r_stp2, r_stepc, r_kcp, r_kcp4, r_whl, r_ixs, r_kxs, r_kxs2, r_kxs6, r_kxs3, r_kxs41, r_kxs42, r_kxs5, r_pass, r_doc, r_brk, r_cont, r_ss0, r_ss1, r_kss1, r_kss2, r_kss3, r_kss4, r_krn1, r_krn2, r_krn3, r_lm0, r_lm1, r_lm2, r_klm, p_add, p_sub, p_neg, p_lt, p_le, p_gt, p_ge, p_abs, p_min, p_max, p_lenl, p_lent, p_tupl, p_tupt, p_lstl, p_lstt, p_revl, p_revt, p_inti, p_isN0, p_notN0, sc_none, sc_bool, sc_int, sc_str, sc_list, sc_tup, sc_dict, t_bool, m_rev, m_clr, ix_l, ix_t, kBi2, kBi, kUn, kCh2, kCh, kAn, kOr, kNo, kIt, kTu, kLs, kDi, kIx2, kIx, kSl3, kSl2, kSl, kFn, kIs, kCl, kMt, kEs2, kEs, kO, kTv, kTn, kTA, kTO, kTC, kSq, kRg, kRr2, kRr, kEn, kZi2, kZi, kCp3, kCp2, sl_small, slt_small, kst_any, kst_st, p_mod, p_fdiv, p_mul1, p_mul2, p_pow, p_eq, p_ne, p_catl, p_catt, m_app, m_ext, rng0, sts1, obind_some, rsbind_ok, List.getElem?_cons_zero, List.getElem?_cons_succ, List.set_cons_zero, List.set_cons_succ, List.map_nil, List.append_nil, List.nil_append, List.cons_append, if_true, if_false, ite_true, ite_false, Bool.false_eq_true, reduceIte, List.length_cons, List.length_nil, List.any_nil, List.any_cons, Bool.and_true, Bool.true_and, Bool.and_false, Bool.false_and, Bool.not_true, Bool.not_false, Bool.or_false, Bool.or_true, Bool.true_or, Bool.false_or, List.isEmpty_nil, List.isEmpty_cons, wipeE, startE, Nat.zero_add, Nat.reduceAdd, Nat.reduceSub, Nat.reduceLeDiff, Nat.le_refl, List.replicate_succ, List.replicate_zero, List.zipWith_cons_cons, List.zipWith_nil_left, List.zipWith_nil_right, Nat.reduceBEq, Nat.reduceEqDiff, decide_true, decide_false, Int.reduceLT, Int.reduceLE, Int.reduceNeg, Int.reduceToNat, Nat.reduceLT, List.take_succ_cons, List.take_zero, List.drop_succ_cons, List.drop_zero, eq_self, Int.reduceEq, ti_sc, ti_seq, ti_ix, ti_len, ti_rev, ti_kt, ti_ki, ti_kb, ti_kl, ti_zip, ti_tup, p_ltt, p_all, sh_int, sh_tupI, eqv_int, eqv_tupI, s3, kt, l2, m__law_is_whole, hw1, hw2, ix_t, at2_0, at2_1]⟩
          | true =>
            rw [h1] at hw1
            rw [h2] at hw2
            obtain ⟨b, rfl⟩ := wholeB_of h1
            obtain ⟨w, rfl⟩ := wholeB_of h2
            by_cases q1 : last < b
            · by_cases q2 : b < (room.length : Int)
              · have hn : room[b.toNat]? = some (room[b.toNat]'(by omega)) := List.getElem?_eq_getElem _
                have ha : atD (room.map .int) b = some (.int (room[b.toNat]'(by omega))) := by
                  unfold atD
                  rw [if_pos (by omega), List.getElem?_map, hn]
                  rfl
                generalize room[b.toNat]'(by omega) = n at hn ha
                by_cases q3 : w < 0
                · refine .inr ⟨?_, by simp -implicitDefEqProofs only [r_rd_v, r_rd_p, r_krd, r_rds0, r_rds, r_kco, r_pr, r_kpr, r_kpr2, r_var, r_kvar1, r_kvar2, r_kvar3, r_lit, r_gl, r_un, r_bi, r_cm, r_chn, r_kch3t, r_kch3f, r_and, r_or, r_and1, r_and2, r_or1, r_or2, r_kan2t, r_kan2f, r_kor2t, r_kor2f, r_not, r_kno2, r_ite, r_tup, r_lst, r_ktu2, r_kls2, r_dic, r_kdi2, r_dnewk, r_dnewt, r_ix, r_kix3, r_kix4, r_sl, r_ksl4l, r_ksl4t, r_fn, r_isI, r_kis2, r_call, r_kcl2, r_calla, r_kca2, r_kca3, r_kca4, r_kca5, r_arg0, r_arg, r_kar1, r_kar2, r_kar3, r_kar4, r_kar5, r_kar6, r_nomix0, r_nomix1, r_pm0, r_pm1, r_kpm, r_sh0, r_sh1, r_ksh1, r_ksh2, r_fz_v, r_fz_p, r_kfz1, r_kfz2, r_fzs0, r_fzs1, r_kfs, r_kfs3, r_isL, r_kisl1, r_kisl2, r_isO, r_kiso1, r_kiso2, r_mt, r_kmt2, r_kmt31, r_kmt32, r_kmt4, r_es0, r_es1, r_o0, r_o1, r_ko2, r_tv, r_ktv2, r_ktv3, r_tcm, r_tchn, r_ktb, r_tnot, r_tand, r_tor, r_ta0, r_ta1, r_to0, r_to1, r_c0, r_c1, r_seq, r_ksq2, r_ksq3, r_rng, r_krg2, r_rr, r_krr3, r_enum, r_ken2, r_ken3, r_zip, r_kzi4, r_kzi3l, r_kzi3t, r_seqdl, r_seqdt, r_set, r_kse1, r_kse2, r_kse3, r_kse4, r_knx, r_st, r_kst1, r_kst2, r_kst3, r_sts0, r_unp, r_kup, r_kup2, r_exp, r_kex, r_ret, r_krt1, r_krt2, r_krt3, r_retn, r_iff, r_kif1, r_kif2, r_forr, r_kfo, r_step, r_ksp, r_stp1, r_stp2, r_stepc, r_kcp, r_kcp4, r_whl, r_ixs, r_kxs, r_kxs2, r_kxs6, r_kxs3, r_kxs41, r_kxs42, r_kxs5, r_pass, r_doc, r_brk, r_cont, r_ss0, r_ss1, r_kss1, r_kss2, r_kss3, r_kss4, r_krn1, r_krn2, r_krn3, r_lm0, r_lm1, r_lm2, r_klm, p_add, p_sub, p_neg, p_lt, p_le, p_gt, p_ge, p_abs, p_min, p_max, p_lenl, p_lent, p_tupl, p_tupt, p_lstl, p_lstt, p_revl, p_revt, p_inti, p_isN0, p_notN0, sc_none, sc_bool, sc_int, sc_str, sc_list, sc_tup, sc_dict, t_bool, m_rev, m_clr, ix_l, ix_t, kBi2, kBi, kUn, kCh2, kCh, kAn, kOr, kNo, kIt, kTu, kLs, kDi, kIx2, kIx, kSl3, kSl2, kSl, kFn, kIs, kCl, kMt, kEs2, kEs, kO, kTv, kTn, kTA, kTO, kTC, kSq, kRg, kRr2, kRr, kEn, kZi2, kZi, kCp3, kCp2, sl_small, slt_small, kst_any, kst_st, p_mod, p_fdiv, p_mul1, p_mul2, p_pow, p_eq, p_ne, p_catl, p_catt, m_app, m_ext, rng0, sts1, obind_some, rsbind_ok, List.getElem?_cons_zero, List.getElem?_cons_succ, List.set_cons_zero, List.set_cons_succ, List.map_nil, List.append_nil, List.nil_append, List.cons_append, if_true, if_false, ite_true, ite_false, Bool.false_eq_true, reduceIte, List.length_cons, List.length_nil, List.any_nil, List.any_cons, Bool.and_true, Bool.true_and, Bool.and_false, Bool.false_and, Bool.not_true, Bool.not_false, Bool.or_false, Bool.or_true, Bool.true_or, Bool.false_or, List.isEmpty_nil, List.isEmpty_cons, wipeE, startE, Nat.zero_add, Nat.reduceAdd, Nat.reduceSub, Nat.reduceLeDiff, Nat.le_refl, List.replicate_succ, List.replicate_zero, List.zipWith_cons_cons, List.zipWith_nil_left, List.zipWith_nil_right, Nat.reduceBEq, Nat.reduceEqDiff, decide_true, decide_false, Int.reduceLT, Int.reduceLE, Int.reduceNeg, Int.reduceToNat, Nat.reduceLT, List.take_succ_cons, List.take_zero, List.drop_succ_cons, List.drop_zero, eq_self, Int.reduceEq, ti_sc, ti_seq, ti_ix, ti_len, ti_rev, ti_kt, ti_ki, ti_kb, ti_kl, ti_zip, ti_tup, p_ltt, p_all, sh_int, sh_tupI, eqv_int, eqv_tupI, s3, kt, l2, m__law_is_whole, hw1, hw2, ix_t, at2_0, at2_1, q1, q2, q3]⟩
                  rw [goodE_int hn, if_neg (by omega)]
                · by_cases q4 : n ≤ w
                  · refine .inr ⟨?_, by simp -implicitDefEqProofs only [r_rd_v, r_rd_p, r_krd, r_rds0, r_rds, r_kco, r_pr, r_kpr, r_kpr2, r_var, r_kvar1, r_kvar2, r_kvar3, r_lit, r_gl, r_un, r_bi, r_cm, r_chn, r_kch3t, r_kch3f, r_and, r_or, r_and1, r_and2, r_or1, r_or2, r_kan2t, r_kan2f, r_kor2t, r_kor2f, r_not, r_kno2, r_ite, r_tup, r_lst, r_ktu2, r_kls2, r_dic, r_kdi2, r_dnewk, r_dnewt, r_ix, r_kix3, r_kix4, r_sl, r_ksl4l, r_ksl4t, r_fn, r_isI, r_kis2, r_call, r_kcl2, r_calla, r_kca2, r_kca3, r_kca4, r_kca5, r_arg0, r_arg, r_kar1, r_kar2, r_kar3, r_kar4, r_kar5, r_kar6, r_nomix0, r_nomix1, r_pm0, r_pm1, r_kpm, r_sh0, r_sh1, r_ksh1, r_ksh2, r_fz_v, r_fz_p, r_kfz1, r_kfz2, r_fzs0, r_fzs1, r_kfs, r_kfs3, r_isL, r_kisl1, r_kisl2, r_isO, r_kiso1, r_kiso2, r_mt, r_kmt2, r_kmt31, r_kmt32, r_kmt4, r_es0, r_es1, r_o0, r_o1, r_ko2, r_tv, r_ktv2, r_ktv3, r_tcm, r_tchn, r_ktb, r_tnot, r_tand, r_tor, r_ta0, r_ta1, r_to0, r_to1, r_c0, r_c1, r_seq, r_ksq2, r_ksq3, r_rng, r_krg2, r_rr, r_krr3, r_enum, r_ken2, r_ken3, r_zip, r_kzi4, r_kzi3l, r_kzi3t, r_seqdl, r_seqdt, r_set, r_kse1, r_kse2, r_kse3, r_kse4, r_knx, r_st, r_kst1, r_kst2, r_kst3, r_sts0, r_unp, r_kup, r_kup2, r_exp, r_kex, r_ret, r_krt1, r_krt2, r_krt3, r_retn, r_iff, r_kif1, r_kif2, r_forr, r_kfo, r_step, r_ksp, r_stp1, r_stp2, r_stepc, r_kcp, r_kcp4, r_whl, r_ixs, r_kxs, r_kxs2, r_kxs6, r_kxs3, r_kxs41, r_kxs42, r_kxs5, r_pass, r_doc, r_brk, r_cont, r_ss0, r_ss1, r_kss1, r_kss2, r_kss3, r_kss4, r_krn1, r_krn2, r_krn3, r_lm0, r_lm1, r_lm2, r_klm, p_add, p_sub, p_neg, p_lt, p_le, p_gt, p_ge, p_abs, p_min, p_max, p_lenl, p_lent, p_tupl, p_tupt, p_lstl, p_lstt, p_revl, p_revt, p_inti, p_isN0, p_notN0, sc_none, sc_bool, sc_int, sc_str, sc_list, sc_tup, sc_dict, t_bool, m_rev, m_clr, ix_l, ix_t, kBi2, kBi, kUn, kCh2, kCh, kAn, kOr, kNo, kIt, kTu, kLs, kDi, kIx2, kIx, kSl3, kSl2, kSl, kFn, kIs, kCl, kMt, kEs2, kEs, kO, kTv, kTn, kTA, kTO, kTC, kSq, kRg, kRr2, kRr, kEn, kZi2, kZi, kCp3, kCp2, sl_small, slt_small, kst_any, kst_st, p_mod, p_fdiv, p_mul1, p_mul2, p_pow, p_eq, p_ne, p_catl, p_catt, m_app, m_ext, rng0, sts1, obind_some, rsbind_ok, List.getElem?_cons_zero, List.getElem?_cons_succ, List.set_cons_zero, List.set_cons_succ, List.map_nil, List.append_nil, List.nil_append, List.cons_append, if_true, if_false, ite_true, ite_false, Bool.false_eq_true, reduceIte, List.length_cons, List.length_nil, List.any_nil, List.any_cons, Bool.and_true, Bool.true_and, Bool.and_false, Bool.false_and, Bool.not_true, Bool.not_false, Bool.or_false, Bool.or_true, Bool.true_or, Bool.false_or, List.isEmpty_nil, List.isEmpty_cons, wipeE, startE, Nat.zero_add, Nat.reduceAdd, Nat.reduceSub, Nat.reduceLeDiff, Nat.le_refl, List.replicate_succ, List.replicate_zero, List.zipWith_cons_cons, List.zipWith_nil_left, List.zipWith_nil_right, Nat.reduceBEq, Nat.reduceEqDiff, decide_true, decide_false, Int.reduceLT, Int.reduceLE, Int.reduceNeg, Int.reduceToNat, Nat.reduceLT, List.take_succ_cons, List.take_zero, List.drop_succ_cons, List.drop_zero, eq_self, Int.reduceEq, ti_sc, ti_seq, ti_ix, ti_len, ti_rev, ti_kt, ti_ki, ti_kb, ti_kl, ti_zip, ti_tup, p_ltt, p_all, sh_int, sh_tupI, eqv_int, eqv_tupI, s3, kt, l2, m__law_is_whole, hw1, hw2, ix_t, at2_0, at2_1, q1, q2, q3, ha, q4]⟩
                    rw [goodE_int hn, if_neg (by omega)]
                  · refine .inl ⟨b, ?_, by simp -implicitDefEqProofs only [r_rd_v, r_rd_p, r_krd, r_rds0, r_rds, r_kco, r_pr, r_kpr, r_kpr2, r_var, r_kvar1, r_kvar2, r_kvar3, r_lit, r_gl, r_un, r_bi, r_cm, r_chn, r_kch3t, r_kch3f, r_and, r_or, r_and1, r_and2, r_or1, r_or2, r_kan2t, r_kan2f, r_kor2t, r_kor2f, r_not, r_kno2, r_ite, r_tup, r_lst, r_ktu2, r_kls2, r_dic, r_kdi2, r_dnewk, r_dnewt, r_ix, r_kix3, r_kix4, r_sl, r_ksl4l, r_ksl4t, r_fn, r_isI, r_kis2, r_call, r_kcl2, r_calla, r_kca2, r_kca3, r_kca4, r_kca5, r_arg0, r_arg, r_kar1, r_kar2, r_kar3, r_kar4, r_kar5, r_kar6, r_nomix0, r_nomix1, r_pm0, r_pm1, r_kpm, r_sh0, r_sh1, r_ksh1, r_ksh2, r_fz_v, r_fz_p, r_kfz1, r_kfz2, r_fzs0, r_fzs1, r_kfs, r_kfs3, r_isL, r_kisl1, r_kisl2, r_isO, r_kiso1, r_kiso2, r_mt, r_kmt2, r_kmt31, r_kmt32, r_kmt4, r_es0, r_es1, r_o0, r_o1, r_ko2, r_tv, r_ktv2, r_ktv3, r_tcm, r_tchn, r_ktb, r_tnot, r_tand, r_tor, r_ta0, r_ta1, r_to0, r_to1, r_c0, r_c1, r_seq, r_ksq2, r_ksq3, r_rng, r_krg2, r_rr, r_krr3, r_enum, r_ken2, r_ken3, r_zip, r_kzi4, r_kzi3l, r_kzi3t, r_seqdl, r_seqdt, r_set, r_kse1, r_kse2, r_kse3, r_kse4, r_knx, r_st, r_kst1, r_kst2, r_kst3, r_sts0, r_unp, r_kup, r_kup2, r_exp, r_kex, r_ret, r_krt1, r_krt2, r_krt3, r_retn, r_iff, r_kif1, r_kif2, r_forr, r_kfo, r_step, r_ksp, r_stp1, r_stp2, r_stepc, r_kcp, r_kcp4, r_whl, r_ixs, r_kxs, r_kxs2, r_kxs6, r_kxs3, r_kxs41, r_kxs42, r_kxs5, r_pass, r_doc, r_brk, r_cont, r_ss0, r_ss1, r_kss1, r_kss2, r_kss3, r_kss4, r_krn1, r_krn2, r_krn3, r_lm0, r_lm1, r_lm2, r_klm, p_add, p_sub, p_neg, p_lt, p_le, p_gt, p_ge, p_abs, p_min, p_max, p_lenl, p_lent, p_tupl, p_tupt, p_lstl, p_lstt, p_revl, p_revt, p_inti, p_isN0, p_notN0, sc_none, sc_bool, sc_int, sc_str, sc_list, sc_tup, sc_dict, t_bool, m_rev, m_clr, ix_l, ix_t, kBi2, kBi, kUn, kCh2, kCh, kAn, kOr, kNo, kIt, kTu, kLs, kDi, kIx2, kIx, kSl3, kSl2, kSl, kFn, kIs, kCl, kMt, kEs2, kEs, kO, kTv, kTn, kTA, kTO, kTC, kSq, kRg, kRr2, kRr, kEn, kZi2, kZi, kCp3, kCp2, sl_small, slt_small, kst_any, kst_st, p_mod, p_fdiv, p_mul1, p_mul2, p_pow, p_eq, p_ne, p_catl, p_catt, m_app, m_ext, rng0, sts1, obind_some, rsbind_ok, List.getElem?_cons_zero, List.getElem?_cons_succ, List.set_cons_zero, List.set_cons_succ, List.map_nil, List.append_nil, List.nil_append, List.cons_append, if_true, if_false, ite_true, ite_false, Bool.false_eq_true, reduceIte, List.length_cons, List.length_nil, List.any_nil, List.any_cons, Bool.and_true, Bool.true_and, Bool.and_false, Bool.false_and, Bool.not_true, Bool.not_false, Bool.or_false, Bool.or_true, Bool.true_or, Bool.false_or, List.isEmpty_nil, List.isEmpty_cons, wipeE, startE, Nat.zero_add, Nat.reduceAdd, Nat.reduceSub, Nat.reduceLeDiff, Nat.le_refl, List.replicate_succ, List.replicate_zero, List.zipWith_cons_cons, List.zipWith_nil_left, List.zipWith_nil_right, Nat.reduceBEq, Nat.reduceEqDiff, decide_true, decide_false, Int.reduceLT, Int.reduceLE, Int.reduceNeg, Int.reduceToNat, Nat.reduceLT, List.take_succ_cons, List.take_zero, List.drop_succ_cons, List.drop_zero, eq_self, Int.reduceEq, ti_sc, ti_seq, ti_ix, ti_len, ti_rev, ti_kt, ti_ki, ti_kb, ti_kl, ti_zip, ti_tup, p_ltt, p_all, sh_int, sh_tupI, eqv_int, eqv_tupI, s3, kt, l2, m__law_is_whole, hw1, hw2, ix_t, at2_0, at2_1, q1, q2, q3, ha, q4]⟩
                    rw [goodE_int hn, if_pos (by omega)]
              · refine .inr ⟨goodE_box ?_, by simp -implicitDefEqProofs only [r_rd_v, r_rd_p, r_krd, r_rds0, r_rds, r_kco, r_pr, r_kpr, r_kpr2, r_var, r_kvar1, r_kvar2, r_kvar3, r_lit, r_gl, r_un, r_bi, r_cm, r_chn, r_kch3t, r_kch3f, r_and, r_or, r_and1, r_and2, r_or1, r_or2, r_kan2t, r_kan2f, r_kor2t, r_kor2f, r_not, r_kno2, r_ite, r_tup, r_lst, r_ktu2, r_kls2, r_dic, r_kdi2, r_dnewk, r_dnewt, r_ix, r_kix3, r_kix4, r_sl, r_ksl4l, r_ksl4t, r_fn, r_isI, r_kis2, r_call, r_kcl2, r_calla, r_kca2, r_kca3, r_kca4, r_kca5, r_arg0, r_arg, r_kar1, r_kar2, r_kar3, r_kar4, r_kar5, r_kar6, r_nomix0, r_nomix1, r_pm0, r_pm1, r_kpm, r_sh0, r_sh1, r_ksh1, r_ksh2, r_fz_v, r_fz_p, r_kfz1, r_kfz2, r_fzs0, r_fzs1, r_kfs, r_kfs3, r_isL, r_kisl1, r_kisl2, r_isO, r_kiso1, r_kiso2, r_mt, r_kmt2, r_kmt31, r_kmt32, r_kmt4, r_es0, r_es1, r_o0, r_o1, r_ko2, r_tv, r_ktv2, r_ktv3, r_tcm, r_tchn, r_ktb, r_tnot, r_tand, r_tor, r_ta0, r_ta1, r_to0, r_to1, r_c0, r_c1, r_seq, r_ksq2, r_ksq3, r_rng, r_krg2, r_rr, r_krr3, r_enum, r_ken2, r_ken3, r_zip, r_kzi4, r_kzi3l, r_kzi3t, r_seqdl, r_seqdt, r_set, r_kse1, r_kse2, r_kse3, r_kse4, r_knx, r_st, r_kst1, r_kst2, r_kst3, r_sts0, r_unp, r_kup, r_kup2, r_exp, r_kex, r_ret, r_krt1, r_krt2, r_krt3, r_retn, r_iff, r_kif1, r_kif2, r_forr, r_kfo, r_step, r_ksp, r_stp1, r_stp2, r_stepc, r_kcp, r_kcp4, r_whl, r_ixs, r_kxs, r_kxs2, r_kxs6, r_kxs3, r_kxs41, r_kxs42, r_kxs5, r_pass, r_doc, r_brk, r_cont, r_ss0, r_ss1, r_kss1, r_kss2, r_kss3, r_kss4, r_krn1, r_krn2, r_krn3, r_lm0, r_lm1, r_lm2, r_klm, p_add, p_sub, p_neg, p_lt, p_le, p_gt, p_ge, p_abs, p_min, p_max, p_lenl, p_lent, p_tupl, p_tupt, p_lstl, p_lstt, p_revl, p_revt, p_inti, p_isN0, p_notN0, sc_none, sc_bool, sc_int, sc_str, sc_list, sc_tup, sc_dict, t_bool, m_rev, m_clr, ix_l, ix_t, kBi2, kBi, kUn, kCh2, kCh, kAn, kOr, kNo, kIt, kTu, kLs, kDi, kIx2, kIx, kSl3, kSl2, kSl, kFn, kIs, kCl, kMt, kEs2, kEs, kO, kTv, kTn, kTA, kTO, kTC, kSq, kRg, kRr2, kRr, kEn, kZi2, kZi, kCp3, kCp2, sl_small, slt_small, kst_any, kst_st, p_mod, p_fdiv, p_mul1, p_mul2, p_pow, p_eq, p_ne, p_catl, p_catt, m_app, m_ext, rng0, sts1, obind_some, rsbind_ok, List.getElem?_cons_zero, List.getElem?_cons_succ, List.set_cons_zero, List.set_cons_succ, List.map_nil, List.append_nil, List.nil_append, List.cons_append, if_true, if_false, ite_true, ite_false, Bool.false_eq_true, reduceIte, List.length_cons, List.length_nil, List.any_nil, List.any_cons, Bool.and_true, Bool.true_and, Bool.and_false, Bool.false_and, Bool.not_true, Bool.not_false, Bool.or_false, Bool.or_true, Bool.true_or, Bool.false_or, List.isEmpty_nil, List.isEmpty_cons, wipeE, startE, Nat.zero_add, Nat.reduceAdd, Nat.reduceSub, Nat.reduceLeDiff, Nat.le_refl, List.replicate_succ, List.replicate_zero, List.zipWith_cons_cons, List.zipWith_nil_left, List.zipWith_nil_right, Nat.reduceBEq, Nat.reduceEqDiff, decide_true, decide_false, Int.reduceLT, Int.reduceLE, Int.reduceNeg, Int.reduceToNat, Nat.reduceLT, List.take_succ_cons, List.take_zero, List.drop_succ_cons, List.drop_zero, eq_self, Int.reduceEq, ti_sc, ti_seq, ti_ix, ti_len, ti_rev, ti_kt, ti_ki, ti_kb, ti_kl, ti_zip, ti_tup, p_ltt, p_all, sh_int, sh_tupI, eqv_int, eqv_tupI, s3, kt, l2, m__law_is_whole, hw1, hw2, ix_t, at2_0, at2_1, q1, q2]⟩
                show (decide (0 ≤ b) && decide (b < (room.length : Int))) = false
                rw [decide_eq_false q2, Bool.and_false]
            · refine .inr ⟨?_, by simp -implicitDefEqProofs only [r_rd_v, r_rd_p, r_krd, r_rds0, r_rds, r_kco, r_pr, r_kpr, r_kpr2, r_var, r_kvar1, r_kvar2, r_kvar3, r_lit, r_gl, r_un, r_bi, r_cm, r_chn, r_kch3t, r_kch3f, r_and, r_or, r_and1, r_and2, r_or1, r_or2, r_kan2t, r_kan2f, r_kor2t, r_kor2f, r_not, r_kno2, r_ite, r_tup, r_lst, r_ktu2, r_kls2, r_dic, r_kdi2, r_dnewk, r_dnewt, r_ix, r_kix3, r_kix4, r_sl, r_ksl4l, r_ksl4t, r_fn, r_isI, r_kis2, r_call, r_kcl2, r_calla, r_kca2, r_kca3, r_kca4, r_kca5, r_arg0, r_arg, r_kar1, r_kar2, r_kar3, r_kar4, r_kar5, r_kar6, r_nomix0, r_nomix1, r_pm0, r_pm1, r_kpm, r_sh0, r_sh1, r_ksh1, r_ksh2, r_fz_v, r_fz_p, r_kfz1, r_kfz2, r_fzs0, r_fzs1, r_kfs, r_kfs3, r_isL, r_kisl1, r_kisl2, r_isO, r_kiso1, r_kiso2, r_mt, r_kmt2, r_kmt31, r_kmt32, r_kmt4, r_es0, r_es1, r_o0, r_o1, r_ko2, r_tv, r_ktv2, r_ktv3, r_tcm, r_tchn, r_ktb, r_tnot, r_tand, r_tor, r_ta0, r_ta1, r_to0, r_to1, r_c0, r_c1, r_seq, r_ksq2, r_ksq3, r_rng, r_krg2, r_rr, r_krr3, r_enum, r_ken2, r_ken3, r_zip, r_kzi4, r_kzi3l, r_kzi3t, r_seqdl, r_seqdt, r_set, r_kse1, r_kse2, r_kse3, r_kse4, r_knx, r_st, r_kst1, r_kst2, r_kst3, r_sts0, r_unp, r_kup, r_kup2, r_exp, r_kex, r_ret, r_krt1, r_krt2, r_krt3, r_retn, r_iff, r_kif1, r_kif2, r_forr, r_kfo, r_step, r_ksp, r_stp1, r_stp2, r_stepc, r_kcp, r_kcp4, r_whl, r_ixs, r_kxs, r_kxs2, r_kxs6, r_kxs3, r_kxs41, r_kxs42, r_kxs5, r_pass, r_doc, r_brk, r_cont, r_ss0, r_ss1, r_kss1, r_kss2, r_kss3, r_kss4, r_krn1, r_krn2, r_krn3, r_lm0, r_lm1, r_lm2, r_klm, p_add, p_sub, p_neg, p_lt, p_le, p_gt, p_ge, p_abs, p_min, p_max, p_lenl, p_lent, p_tupl, p_tupt, p_lstl, p_lstt, p_revl, p_revt, p_inti, p_isN0, p_notN0, sc_none, sc_bool, sc_int, sc_str, sc_list, sc_tup, sc_dict, t_bool, m_rev, m_clr, ix_l, ix_t, kBi2, kBi, kUn, kCh2, kCh, kAn, kOr, kNo, kIt, kTu, kLs, kDi, kIx2, kIx, kSl3, kSl2, kSl, kFn, kIs, kCl, kMt, kEs2, kEs, kO, kTv, kTn, kTA, kTO, kTC, kSq, kRg, kRr2, kRr, kEn, kZi2, kZi, kCp3, kCp2, sl_small, slt_small, kst_any, kst_st, p_mod, p_fdiv, p_mul1, p_mul2, p_pow, p_eq, p_ne, p_catl, p_catt, m_app, m_ext, rng0, sts1, obind_some, rsbind_ok, List.getElem?_cons_zero, List.getElem?_cons_succ, List.set_cons_zero, List.set_cons_succ, List.map_nil, List.append_nil, List.nil_append, List.cons_append, if_true, if_false, ite_true, ite_false, Bool.false_eq_true, reduceIte, List.length_cons, List.length_nil, List.any_nil, List.any_cons, Bool.and_true, Bool.true_and, Bool.and_false, Bool.false_and, Bool.not_true, Bool.not_false, Bool.or_false, Bool.or_true, Bool.true_or, Bool.false_or, List.isEmpty_nil, List.isEmpty_cons, wipeE, startE, Nat.zero_add, Nat.reduceAdd, Nat.reduceSub, Nat.reduceLeDiff, Nat.le_refl, List.replicate_succ, List.replicate_zero, List.zipWith_cons_cons, List.zipWith_nil_left, List.zipWith_nil_right, Nat.reduceBEq, Nat.reduceEqDiff, decide_true, decide_false, Int.reduceLT, Int.reduceLE, Int.reduceNeg, Int.reduceToNat, Nat.reduceLT, List.take_succ_cons, List.take_zero, List.drop_succ_cons, List.drop_zero, eq_self, Int.reduceEq, ti_sc, ti_seq, ti_ix, ti_len, ti_rev, ti_kt, ti_ki, ti_kb, ti_kl, ti_zip, ti_tup, p_ltt, p_all, sh_int, sh_tupI, eqv_int, eqv_tupI, s3, kt, l2, m__law_is_whole, hw1, hw2, ix_t, at2_0, at2_1, q1]⟩
              show (match room[b.toNat]? with | some n => if last < b ∧ 0 ≤ b ∧ 0 ≤ w ∧ w < n then some b else none | none => none) = none
              split
              · rw [if_neg (by omega)]
              · rfl
    · obtain ⟨h1, h2⟩ := len_ne hl
      exact .inr ⟨goodE_len hl, by simp -implicitDefEqProofs only [r_rd_v, r_rd_p, r_krd, r_rds0, r_rds, r_kco, r_pr, r_kpr, r_kpr2, r_var, r_kvar1, r_kvar2, r_kvar3, r_lit, r_gl, r_un, r_bi, r_cm, r_chn, r_kch3t, r_kch3f, r_and, r_or, r_and1, r_and2, r_or1, r_or2, r_kan2t, r_kan2f, r_kor2t, r_kor2f, r_not, r_kno2, r_ite, r_tup, r_lst, r_ktu2, r_kls2, r_dic, r_kdi2, r_dnewk, r_dnewt, r_ix, r_kix3, r_kix4, r_sl, r_ksl4l, r_ksl4t, r_fn, r_isI, r_kis2, r_call, r_kcl2, r_calla, r_kca2, r_kca3, r_kca4, r_kca5, r_arg0, r_arg, r_kar1, r_kar2, r_kar3, r_kar4, r_kar5, r_kar6, r_nomix0, r_nomix1, r_pm0, r_pm1, r_kpm, r_sh0, r_sh1, r_ksh1, r_ksh2, r_fz_v, r_fz_p, r_kfz1, r_kfz2, r_fzs0, r_fzs1, r_kfs, r_kfs3, r_isL, r_kisl1, r_kisl2, r_isO, r_kiso1, r_kiso2, r_mt, r_kmt2, r_kmt31, r_kmt32, r_kmt4, r_es0, r_es1, r_o0, r_o1, r_ko2, r_tv, r_ktv2, r_ktv3, r_tcm, r_tchn, r_ktb, r_tnot, r_tand, r_tor, r_ta0, r_ta1, r_to0, r_to1, r_c0, r_c1, r_seq, r_ksq2, r_ksq3, r_rng, r_krg2, r_rr, r_krr3, r_enum, r_ken2, r_ken3, r_zip, r_kzi4, r_kzi3l, r_kzi3t, r_seqdl, r_seqdt, r_set, r_kse1, r_kse2, r_kse3, r_kse4, r_knx, r_st, r_kst1, r_kst2, r_kst3, r_sts0, r_unp, r_kup, r_kup2, r_exp, r_kex, r_ret, r_krt1, r_krt2, r_krt3, r_retn, r_iff, r_kif1, r_kif2, r_forr, r_kfo, r_step, r_ksp, r_stp1, r_stp2, r_stepc, r_kcp, r_kcp4, r_whl, r_ixs, r_kxs, r_kxs2, r_kxs6, r_kxs3, r_kxs41, r_kxs42, r_kxs5, r_pass, r_doc, r_brk, r_cont, r_ss0, r_ss1, r_kss1, r_kss2, r_kss3, r_kss4, r_krn1, r_krn2, r_krn3, r_lm0, r_lm1, r_lm2, r_klm, p_add, p_sub, p_neg, p_lt, p_le, p_gt, p_ge, p_abs, p_min, p_max, p_lenl, p_lent, p_tupl, p_tupt, p_lstl, p_lstt, p_revl, p_revt, p_inti, p_isN0, p_notN0, sc_none, sc_bool, sc_int, sc_str, sc_list, sc_tup, sc_dict, t_bool, m_rev, m_clr, ix_l, ix_t, kBi2, kBi, kUn, kCh2, kCh, kAn, kOr, kNo, kIt, kTu, kLs, kDi, kIx2, kIx, kSl3, kSl2, kSl, kFn, kIs, kCl, kMt, kEs2, kEs, kO, kTv, kTn, kTA, kTO, kTC, kSq, kRg, kRr2, kRr, kEn, kZi2, kZi, kCp3, kCp2, sl_small, slt_small, kst_any, kst_st, p_mod, p_fdiv, p_mul1, p_mul2, p_pow, p_eq, p_ne, p_catl, p_catt, m_app, m_ext, rng0, sts1, obind_some, rsbind_ok, List.getElem?_cons_zero, List.getElem?_cons_succ, List.set_cons_zero, List.set_cons_succ, List.map_nil, List.append_nil, List.nil_append, List.cons_append, if_true, if_false, ite_true, ite_false, Bool.false_eq_true, reduceIte, List.length_cons, List.length_nil, List.any_nil, List.any_cons, Bool.and_true, Bool.true_and, Bool.and_false, Bool.false_and, Bool.not_true, Bool.not_false, Bool.or_false, Bool.or_true, Bool.true_or, Bool.false_or, List.isEmpty_nil, List.isEmpty_cons, wipeE, startE, Nat.zero_add, Nat.reduceAdd, Nat.reduceSub, Nat.reduceLeDiff, Nat.le_refl, List.replicate_succ, List.replicate_zero, List.zipWith_cons_cons, List.zipWith_nil_left, List.zipWith_nil_right, Nat.reduceBEq, Nat.reduceEqDiff, decide_true, decide_false, Int.reduceLT, Int.reduceLE, Int.reduceNeg, Int.reduceToNat, Nat.reduceLT, List.take_succ_cons, List.take_zero, List.drop_succ_cons, List.drop_zero, eq_self, Int.reduceEq, ti_sc, ti_seq, ti_ix, ti_len, ti_rev, ti_kt, ti_ki, ti_kb, ti_kl, ti_zip, ti_tup, p_ltt, p_all, sh_int, sh_tupI, eqv_int, eqv_tupI, s3, kt, h1, h2]⟩
  | _ => exact .inr ⟨rfl, by simp -implicitDefEqProofs only [r_rd_v, r_rd_p, r_krd, r_rds0, r_rds, r_kco, r_pr, r_kpr, r_kpr2, r_var, r_kvar1, r_kvar2, r_kvar3, r_lit, r_gl, r_un, r_bi, r_cm, r_chn, r_kch3t, r_kch3f, r_and, r_or, r_and1, r_and2, r_or1, r_or2, r_kan2t, r_kan2f, r_kor2t, r_kor2f, r_not, r_kno2, r_ite, r_tup, r_lst, r_ktu2, r_kls2, r_dic, r_kdi2, r_dnewk, r_dnewt, r_ix, r_kix3, r_kix4, r_sl, r_ksl4l, r_ksl4t, r_fn, r_isI, r_kis2, r_call, r_kcl2, r_calla, r_kca2, r_kca3, r_kca4, r_kca5, r_arg0, r_arg, r_kar1, r_kar2, r_kar3, r_kar4, r_kar5, r_kar6, r_nomix0, r_nomix1, r_pm0, r_pm1, r_kpm, r_sh0, r_sh1, r_ksh1, r_ksh2, r_fz_v, r_fz_p, r_kfz1, r_kfz2, r_fzs0, r_fzs1, r_kfs, r_kfs3, r_isL, r_kisl1, r_kisl2, r_isO, r_kiso1, r_kiso2, r_mt, r_kmt2, r_kmt31, r_kmt32, r_kmt4, r_es0, r_es1, r_o0, r_o1, r_ko2, r_tv, r_ktv2, r_ktv3, r_tcm, r_tchn, r_ktb, r_tnot, r_tand, r_tor, r_ta0, r_ta1, r_to0, r_to1, r_c0, r_c1, r_seq, r_ksq2, r_ksq3, r_rng, r_krg2, r_rr, r_krr3, r_enum, r_ken2, r_ken3, r_zip, r_kzi4, r_kzi3l, r_kzi3t, r_seqdl, r_seqdt, r_set, r_kse1, r_kse2, r_kse3, r_kse4, r_knx, r_st, r_kst1, r_kst2, r_kst3, r_sts0, r_unp, r_kup, r_kup2, r_exp, r_kex, r_ret, r_krt1, r_krt2, r_krt3, r_retn, r_iff, r_kif1, r_kif2, r_forr, r_kfo, r_step, r_ksp, r_stp1, r_stp2, r_stepc, r_kcp, r_kcp4, r_whl, r_ixs, r_kxs, r_kxs2, r_kxs6, r_kxs3, r_kxs41, r_kxs42, r_kxs5, r_pass, r_doc, r_brk, r_cont, r_ss0, r_ss1, r_kss1, r_kss2, r_kss3, r_kss4, r_krn1, r_krn2, r_krn3, r_lm0, r_lm1, r_lm2, r_klm, p_add, p_sub, p_neg, p_lt, p_le, p_gt, p_ge, p_abs, p_min, p_max, p_lenl, p_lent, p_tupl, p_tupt, p_lstl, p_lstt, p_revl, p_revt, p_inti, p_isN0, p_notN0, sc_none, sc_bool, sc_int, sc_str, sc_list, sc_tup, sc_dict, t_bool, m_rev, m_clr, ix_l, ix_t, kBi2, kBi, kUn, kCh2, kCh, kAn, kOr, kNo, kIt, kTu, kLs, kDi, kIx2, kIx, kSl3, kSl2, kSl, kFn, kIs, kCl, kMt, kEs2, kEs, kO, kTv, kTn, kTA, kTO, kTC, kSq, kRg, kRr2, kRr, kEn, kZi2, kZi, kCp3, kCp2, sl_small, slt_small, kst_any, kst_st, p_mod, p_fdiv, p_mul1, p_mul2, p_pow, p_eq, p_ne, p_catl, p_catt, m_app, m_ext, rng0, sts1, obind_some, rsbind_ok, List.getElem?_cons_zero, List.getElem?_cons_succ, List.set_cons_zero, List.set_cons_succ, List.map_nil, List.append_nil, List.nil_append, List.cons_append, if_true, if_false, ite_true, ite_false, Bool.false_eq_true, reduceIte, List.length_cons, List.length_nil, List.any_nil, List.any_cons, Bool.and_true, Bool.true_and, Bool.and_false, Bool.false_and, Bool.not_true, Bool.not_false, Bool.or_false, Bool.or_true, Bool.true_or, Bool.false_or, List.isEmpty_nil, List.isEmpty_cons, wipeE, startE, Nat.zero_add, Nat.reduceAdd, Nat.reduceSub, Nat.reduceLeDiff, Nat.le_refl, List.replicate_succ, List.replicate_zero, List.zipWith_cons_cons, List.zipWith_nil_left, List.zipWith_nil_right, Nat.reduceBEq, Nat.reduceEqDiff, decide_true, decide_false, Int.reduceLT, Int.reduceLE, Int.reduceNeg, Int.reduceToNat, Nat.reduceLT, List.take_succ_cons, List.take_zero, List.drop_succ_cons, List.drop_zero, eq_self, Int.reduceEq, ti_sc, ti_seq, ti_ix, ti_len, ti_rev, ti_kt, ti_ki, ti_kb, ti_kl, ti_zip, ti_tup, p_ltt, p_all, sh_int, sh_tupI, eqv_int, eqv_tupI, s3, kindOf, show (Kd.int == Kd.tuple) = false from rfl, show (Kd.tuple == Kd.int) = false from rfl, show (Kd.tuple == Kd.bool) = false from rfl, show (Kd.tuple == Kd.str) = false from rfl, show (Kd.tuple == Kd.list) = false from rfl, show (Kd.tuple == Kd.dict) = false from rfl]⟩
theorem goodE_ge {room : List Int} {last b : Int} {d : D} (h : goodE room last d = some b) : 0 ≤ b := by
  unfold goodE at h
  split at h
  · split at h
    · split at h
      · rename_i q
        cases h
        exact q.2.1
      · cases h
    · cases h
  · cases h
/-- a walk that goes on or tells False, the last box never below -1 -/
theorem walk_good1 {room : List Int} {t : D} {step : D → En → Ou} (hs : ∀ (last : Int) (y3 : Option Sl) (d : D), -1 ≤ last → ShN y3 → (∃ b, goodE room last d = some b ∧ step d [some ⟨.sh, tupI room⟩, some ⟨.sh, t⟩, some ⟨.sh, .int last⟩, y3] = .nx [some ⟨.sh, tupI room⟩, some ⟨.sh, t⟩, some ⟨.sh, .int b⟩, some ⟨.sh, d⟩]) ∨
    (goodE room last d = none ∧ step d [some ⟨.sh, tupI room⟩, some ⟨.sh, t⟩, some ⟨.sh, .int last⟩, y3] = .rt false (.bool false) [some ⟨.sh, tupI room⟩, some ⟨.sh, t⟩, some ⟨.sh, .int last⟩, some ⟨.sh, d⟩])) :
    ∀ (ds : List D) (last : Int) (y3 : Option Sl), -1 ≤ last → ShN y3 → (goodG room last ds = true ∧ ∃ e', forL step ds [some ⟨.sh, tupI room⟩, some ⟨.sh, t⟩, some ⟨.sh, .int last⟩, y3] = .nx e') ∨ (goodG room last ds = false ∧ ∃ e', forL step ds [some ⟨.sh, tupI room⟩, some ⟨.sh, t⟩, some ⟨.sh, .int last⟩, y3] = .rt false (.bool false) e')
  | [], last, y3, _, s3 => .inl ⟨rfl, _, rfl⟩
  | d :: ds, last, y3, hl, s3 => by
    rcases hs last y3 d hl s3 with ⟨b, h1, h2⟩ | ⟨h1, h2⟩
    · simp only [goodG, forL, h1, h2]
      exact walk_good1 hs ds b _ (by have := goodE_ge h1; omega) shn1
    · refine .inr ⟨by simp only [goodG, h1], [some ⟨.sh, tupI room⟩, some ⟨.sh, t⟩, some ⟨.sh, .int last⟩, some ⟨.sh, d⟩], ?_⟩
      simp only [forL, h2]
theorem law_is_given_sem {room : List Int} (t : D) : f__law_is_given.sem [tupI room, t] = .ok false (.bool (goodD room t)) [] := by
  rw [e__law_is_given, runF_eq rfl (by decide)]
  unfold b__law_is_given
  by_cases ht : ∃ ds, t = .tuple ds
  · obtain ⟨ds, rfl⟩ := ht
    have kt : kindOf .tuple (.tuple ds) = true := rfl
    have hsq : seqD (.tuple ds) = some ds := rfl
    have hg : goodD room (.tuple ds) = goodG room (-1) ds := rfl
    simp -implicitDefEqProofs only [r_rd_v, r_rd_p, r_krd, r_rds0, r_rds, r_kco, r_pr, r_kpr, r_kpr2, r_var, r_kvar1, r_kvar2, r_kvar3, r_lit, r_gl, r_un, r_bi, r_cm, r_chn, r_kch3t, r_kch3f, r_and, r_or, r_and1, r_and2, r_or1, r_or2, r_kan2t, r_kan2f, r_kor2t, r_kor2f, r_not, r_kno2, r_ite, r_tup, r_lst, r_ktu2, r_kls2, r_dic, r_kdi2, r_dnewk, r_dnewt, r_ix, r_kix3, r_kix4, r_sl, r_ksl4l, r_ksl4t, r_fn, r_isI, r_kis2, r_call, r_kcl2, r_calla, r_kca2, r_kca3, r_kca4, r_kca5, r_arg0, r_arg, r_kar1, r_kar2, r_kar3, r_kar4, r_kar5, r_kar6, r_nomix0, r_nomix1, r_pm0, r_pm1, r_kpm, r_sh0, r_sh1, r_ksh1, r_ksh2, r_fz_v, r_fz_p, r_kfz1, r_kfz2, r_fzs0, r_fzs1, r_kfs, r_kfs3, r_isL, r_kisl1, r_kisl2, r_isO, r_kiso1, r_kiso2, r_mt, r_kmt2, r_kmt31, r_kmt32, r_kmt4, r_es0, r_es1, r_o0, r_o1, r_ko2, r_tv, r_ktv2, r_ktv3, r_tcm, r_tchn, r_ktb, r_tnot, r_tand, r_tor, r_ta0, r_ta1, r_to0, r_to1, r_c0, r_c1, r_seq, r_ksq2, r_ksq3, r_rng, r_krg2, r_rr, r_krr3, r_enum, r_ken2, r_ken3, r_zip, r_kzi4, r_kzi3l, r_kzi3t, r_seqdl, r_seqdt, r_set, r_kse1, r_kse2, r_kse3, r_kse4, r_knx, r_st, r_kst1, r_kst2, r_kst3, r_sts0, r_unp, r_kup, r_kup2, r_exp, r_kex, r_ret, r_krt1, r_krt2, r_krt3, r_retn, r_iff, r_kif1, r_kif2, r_forr, r_kfo, r_step, r_ksp, r_stp1, r_stp2, r_stepc, r_kcp, r_kcp4, r_whl, r_ixs, r_kxs, r_kxs2, r_kxs6, r_kxs3, r_kxs41, r_kxs42, r_kxs5, r_pass, r_doc, r_brk, r_cont, r_ss0, r_ss1, r_kss1, r_kss2, r_kss3, r_kss4, r_krn1, r_krn2, r_krn3, r_lm0, r_lm1, r_lm2, r_klm, p_add, p_sub, p_neg, p_lt, p_le, p_gt, p_ge, p_abs, p_min, p_max, p_lenl, p_lent, p_tupl, p_tupt, p_lstl, p_lstt, p_revl, p_revt, p_inti, p_isN0, p_notN0, sc_none, sc_bool, sc_int, sc_str, sc_list, sc_tup, sc_dict, t_bool, m_rev, m_clr, ix_l, ix_t, kBi2, kBi, kUn, kCh2, kCh, kAn, kOr, kNo, kIt, kTu, kLs, kDi, kIx2, kIx, kSl3, kSl2, kSl, kFn, kIs, kCl, kMt, kEs2, kEs, kO, kTv, kTn, kTA, kTO, kTC, kSq, kRg, kRr2, kRr, kEn, kZi2, kZi, kCp3, kCp2, sl_small, slt_small, kst_any, kst_st, p_mod, p_fdiv, p_mul1, p_mul2, p_pow, p_eq, p_ne, p_catl, p_catt, m_app, m_ext, rng0, sts1, obind_some, rsbind_ok, List.getElem?_cons_zero, List.getElem?_cons_succ, List.set_cons_zero, List.set_cons_succ, List.map_nil, List.append_nil, List.nil_append, List.cons_append, if_true, if_false, ite_true, ite_false, Bool.false_eq_true, reduceIte, List.length_cons, List.length_nil, List.any_nil, List.any_cons, Bool.and_true, Bool.true_and, Bool.and_false, Bool.false_and, Bool.not_true, Bool.not_false, Bool.or_false, Bool.or_true, Bool.true_or, Bool.false_or, List.isEmpty_nil, List.isEmpty_cons, wipeE, startE, Nat.zero_add, Nat.reduceAdd, Nat.reduceSub, Nat.reduceLeDiff, Nat.le_refl, List.replicate_succ, List.replicate_zero, List.zipWith_cons_cons, List.zipWith_nil_left, List.zipWith_nil_right, Nat.reduceBEq, Nat.reduceEqDiff, decide_true, decide_false, Int.reduceLT, Int.reduceLE, Int.reduceNeg, Int.reduceToNat, Nat.reduceLT, List.take_succ_cons, List.take_zero, List.drop_succ_cons, List.drop_zero, eq_self, Int.reduceEq, ti_sc, ti_seq, ti_ix, ti_len, ti_rev, ti_kt, ti_ki, ti_kb, ti_kl, ti_zip, ti_tup, p_ltt, p_all, sh_int, sh_tupI, eqv_int, eqv_tupI, kt, hsq]
    generalize hL : forL _ _ _ = L
    rcases walk_good1 (fun last y3 d hl s3 => law_is_given_step (room := room) (last := last) hl (.tuple ds) s3 d) ds (-1) none (by decide) shn0 with ⟨h1, e', h2⟩ | ⟨h1, e', h2⟩
    · rw [h2] at hL
      subst hL
      simp -implicitDefEqProofs only [r_rd_v, r_rd_p, r_krd, r_rds0, r_rds, r_kco, r_pr, r_kpr, r_kpr2, r_var, r_kvar1, r_kvar2, r_kvar3, r_lit, r_gl, r_un, r_bi, r_cm, r_chn, r_kch3t, r_kch3f, r_and, r_or, r_and1, r_and2, r_or1, r_or2, r_kan2t, r_kan2f, r_kor2t, r_kor2f, r_not, r_kno2, r_ite, r_tup, r_lst, r_ktu2, r_kls2, r_dic, r_kdi2, r_dnewk, r_dnewt, r_ix, r_kix3, r_kix4, r_sl, r_ksl4l, r_ksl4t, r_fn, r_isI, r_kis2, r_call, r_kcl2, r_calla, r_kca2, r_kca3, r_kca4, r_kca5, r_arg0, r_arg, r_kar1, r_kar2, r_kar3, r_kar4, r_kar5, r_kar6, r_nomix0, r_nomix1, r_pm0, r_pm1, r_kpm, r_sh0, r_sh1, r_ksh1, r_ksh2, r_fz_v, r_fz_p, r_kfz1, r_kfz2, r_fzs0, r_fzs1, r_kfs, r_kfs3, r_isL, r_kisl1, r_kisl2, r_isO, r_kiso1, r_kiso2, r_mt, r_kmt2, r_kmt31, r_kmt32, r_kmt4, r_es0, r_es1, r_o0, r_o1, r_ko2, r_tv, r_ktv2, r_ktv3, r_tcm, r_tchn, r_ktb, r_tnot, r_tand, r_tor, r_ta0, r_ta1, r_to0, r_to1, r_c0, r_c1, r_seq, r_ksq2, r_ksq3, r_rng, r_krg2, r_rr, r_krr3, r_enum, r_ken2, r_ken3, r_zip, r_kzi4, r_kzi3l, r_kzi3t, r_seqdl, r_seqdt, r_set, r_kse1, r_kse2, r_kse3, r_kse4, r_knx, r_st, r_kst1, r_kst2, r_kst3, r_sts0, r_unp, r_kup, r_kup2, r_exp, r_kex, r_ret, r_krt1, r_krt2, r_krt3, r_retn, r_iff, r_kif1, r_kif2, r_forr, r_kfo, r_step, r_ksp, r_stp1, r_stp2, r_stepc, r_kcp, r_kcp4, r_whl, r_ixs, r_kxs, r_kxs2, r_kxs6, r_kxs3, r_kxs41, r_kxs42, r_kxs5, r_pass, r_doc, r_brk, r_cont, r_ss0, r_ss1, r_kss1, r_kss2, r_kss3, r_kss4, r_krn1, r_krn2, r_krn3, r_lm0, r_lm1, r_lm2, r_klm, p_add, p_sub, p_neg, p_lt, p_le, p_gt, p_ge, p_abs, p_min, p_max, p_lenl, p_lent, p_tupl, p_tupt, p_lstl, p_lstt, p_revl, p_revt, p_inti, p_isN0, p_notN0, sc_none, sc_bool, sc_int, sc_str, sc_list, sc_tup, sc_dict, t_bool, m_rev, m_clr, ix_l, ix_t, kBi2, kBi, kUn, kCh2, kCh, kAn, kOr, kNo, kIt, kTu, kLs, kDi, kIx2, kIx, kSl3, kSl2, kSl, kFn, kIs, kCl, kMt, kEs2, kEs, kO, kTv, kTn, kTA, kTO, kTC, kSq, kRg, kRr2, kRr, kEn, kZi2, kZi, kCp3, kCp2, sl_small, slt_small, kst_any, kst_st, p_mod, p_fdiv, p_mul1, p_mul2, p_pow, p_eq, p_ne, p_catl, p_catt, m_app, m_ext, rng0, sts1, obind_some, rsbind_ok, List.getElem?_cons_zero, List.getElem?_cons_succ, List.set_cons_zero, List.set_cons_succ, List.map_nil, List.append_nil, List.nil_append, List.cons_append, if_true, if_false, ite_true, ite_false, Bool.false_eq_true, reduceIte, List.length_cons, List.length_nil, List.any_nil, List.any_cons, Bool.and_true, Bool.true_and, Bool.and_false, Bool.false_and, Bool.not_true, Bool.not_false, Bool.or_false, Bool.or_true, Bool.true_or, Bool.false_or, List.isEmpty_nil, List.isEmpty_cons, wipeE, startE, Nat.zero_add, Nat.reduceAdd, Nat.reduceSub, Nat.reduceLeDiff, Nat.le_refl, List.replicate_succ, List.replicate_zero, List.zipWith_cons_cons, List.zipWith_nil_left, List.zipWith_nil_right, Nat.reduceBEq, Nat.reduceEqDiff, decide_true, decide_false, Int.reduceLT, Int.reduceLE, Int.reduceNeg, Int.reduceToNat, Nat.reduceLT, List.take_succ_cons, List.take_zero, List.drop_succ_cons, List.drop_zero, eq_self, Int.reduceEq, ti_sc, ti_seq, ti_ix, ti_len, ti_rev, ti_kt, ti_ki, ti_kb, ti_kl, ti_zip, ti_tup, p_ltt, p_all, sh_int, sh_tupI, eqv_int, eqv_tupI]
      rw [hg, h1]
    · rw [h2] at hL
      subst hL
      simp -implicitDefEqProofs only [r_rd_v, r_rd_p, r_krd, r_rds0, r_rds, r_kco, r_pr, r_kpr, r_kpr2, r_var, r_kvar1, r_kvar2, r_kvar3, r_lit, r_gl, r_un, r_bi, r_cm, r_chn, r_kch3t, r_kch3f, r_and, r_or, r_and1, r_and2, r_or1, r_or2, r_kan2t, r_kan2f, r_kor2t, r_kor2f, r_not, r_kno2, r_ite, r_tup, r_lst, r_ktu2, r_kls2, r_dic, r_kdi2, r_dnewk, r_dnewt, r_ix, r_kix3, r_kix4, r_sl, r_ksl4l, r_ksl4t, r_fn, r_isI, r_kis2, r_call, r_kcl2, r_calla, r_kca2, r_kca3, r_kca4, r_kca5, r_arg0, r_arg, r_kar1, r_kar2, r_kar3, r_kar4, r_kar5, r_kar6, r_nomix0, r_nomix1, r_pm0, r_pm1, r_kpm, r_sh0, r_sh1, r_ksh1, r_ksh2, r_fz_v, r_fz_p, r_kfz1, r_kfz2, r_fzs0, r_fzs1, r_kfs, r_kfs3, r_isL, r_kisl1, r_kisl2, r_isO, r_kiso1, r_kiso2, r_mt, r_kmt2, r_kmt31, r_kmt32, r_kmt4, r_es0, r_es1, r_o0, r_o1, r_ko2, r_tv, r_ktv2, r_ktv3, r_tcm, r_tchn, r_ktb, r_tnot, r_tand, r_tor, r_ta0, r_ta1, r_to0, r_to1, r_c0, r_c1, r_seq, r_ksq2, r_ksq3, r_rng, r_krg2, r_rr, r_krr3, r_enum, r_ken2, r_ken3, r_zip, r_kzi4, r_kzi3l, r_kzi3t, r_seqdl, r_seqdt, r_set, r_kse1, r_kse2, r_kse3, r_kse4, r_knx, r_st, r_kst1, r_kst2, r_kst3, r_sts0, r_unp, r_kup, r_kup2, r_exp, r_kex, r_ret, r_krt1, r_krt2, r_krt3, r_retn, r_iff, r_kif1, r_kif2, r_forr, r_kfo, r_step, r_ksp, r_stp1, r_stp2, r_stepc, r_kcp, r_kcp4, r_whl, r_ixs, r_kxs, r_kxs2, r_kxs6, r_kxs3, r_kxs41, r_kxs42, r_kxs5, r_pass, r_doc, r_brk, r_cont, r_ss0, r_ss1, r_kss1, r_kss2, r_kss3, r_kss4, r_krn1, r_krn2, r_krn3, r_lm0, r_lm1, r_lm2, r_klm, p_add, p_sub, p_neg, p_lt, p_le, p_gt, p_ge, p_abs, p_min, p_max, p_lenl, p_lent, p_tupl, p_tupt, p_lstl, p_lstt, p_revl, p_revt, p_inti, p_isN0, p_notN0, sc_none, sc_bool, sc_int, sc_str, sc_list, sc_tup, sc_dict, t_bool, m_rev, m_clr, ix_l, ix_t, kBi2, kBi, kUn, kCh2, kCh, kAn, kOr, kNo, kIt, kTu, kLs, kDi, kIx2, kIx, kSl3, kSl2, kSl, kFn, kIs, kCl, kMt, kEs2, kEs, kO, kTv, kTn, kTA, kTO, kTC, kSq, kRg, kRr2, kRr, kEn, kZi2, kZi, kCp3, kCp2, sl_small, slt_small, kst_any, kst_st, p_mod, p_fdiv, p_mul1, p_mul2, p_pow, p_eq, p_ne, p_catl, p_catt, m_app, m_ext, rng0, sts1, obind_some, rsbind_ok, List.getElem?_cons_zero, List.getElem?_cons_succ, List.set_cons_zero, List.set_cons_succ, List.map_nil, List.append_nil, List.nil_append, List.cons_append, if_true, if_false, ite_true, ite_false, Bool.false_eq_true, reduceIte, List.length_cons, List.length_nil, List.any_nil, List.any_cons, Bool.and_true, Bool.true_and, Bool.and_false, Bool.false_and, Bool.not_true, Bool.not_false, Bool.or_false, Bool.or_true, Bool.true_or, Bool.false_or, List.isEmpty_nil, List.isEmpty_cons, wipeE, startE, Nat.zero_add, Nat.reduceAdd, Nat.reduceSub, Nat.reduceLeDiff, Nat.le_refl, List.replicate_succ, List.replicate_zero, List.zipWith_cons_cons, List.zipWith_nil_left, List.zipWith_nil_right, Nat.reduceBEq, Nat.reduceEqDiff, decide_true, decide_false, Int.reduceLT, Int.reduceLE, Int.reduceNeg, Int.reduceToNat, Nat.reduceLT, List.take_succ_cons, List.take_zero, List.drop_succ_cons, List.drop_zero, eq_self, Int.reduceEq, ti_sc, ti_seq, ti_ix, ti_len, ti_rev, ti_kt, ti_ki, ti_kb, ti_kl, ti_zip, ti_tup, p_ltt, p_all, sh_int, sh_tupI, eqv_int, eqv_tupI]
      rw [hg, h1]
  · obtain ⟨h1, h2⟩ := kt_false (d := t) fun ds h => ht ⟨ds, h⟩
    simp -implicitDefEqProofs only [r_rd_v, r_rd_p, r_krd, r_rds0, r_rds, r_kco, r_pr, r_kpr, r_kpr2, r_var, r_kvar1, r_kvar2, r_kvar3, r_lit, r_gl, r_un, r_bi, r_cm, r_chn, r_kch3t, r_kch3f, r_and, r_or, r_and1, r_and2, r_or1, r_or2, r_kan2t, r_kan2f, r_kor2t, r_kor2f, r_not, r_kno2, r_ite, r_tup, r_lst, r_ktu2, r_kls2, r_dic, r_kdi2, r_dnewk, r_dnewt, r_ix, r_kix3, r_kix4, r_sl, r_ksl4l, r_ksl4t, r_fn, r_isI, r_kis2, r_call, r_kcl2, r_calla, r_kca2, r_kca3, r_kca4, r_kca5, r_arg0, r_arg, r_kar1, r_kar2, r_kar3, r_kar4, r_kar5, r_kar6, r_nomix0, r_nomix1, r_pm0, r_pm1, r_kpm, r_sh0, r_sh1, r_ksh1, r_ksh2, r_fz_v, r_fz_p, r_kfz1, r_kfz2, r_fzs0, r_fzs1, r_kfs, r_kfs3, r_isL, r_kisl1, r_kisl2, r_isO, r_kiso1, r_kiso2, r_mt, r_kmt2, r_kmt31, r_kmt32, r_kmt4, r_es0, r_es1, r_o0, r_o1, r_ko2, r_tv, r_ktv2, r_ktv3, r_tcm, r_tchn, r_ktb, r_tnot, r_tand, r_tor, r_ta0, r_ta1, r_to0, r_to1, r_c0, r_c1, r_seq, r_ksq2, r_ksq3, r_rng, r_krg2, r_rr, r_krr3, r_enum, r_ken2, r_ken3, r_zip, r_kzi4, r_kzi3l, r_kzi3t, r_seqdl, r_seqdt, r_set, r_kse1, r_kse2, r_kse3, r_kse4, r_knx, r_st, r_kst1, r_kst2, r_kst3, r_sts0, r_unp, r_kup, r_kup2, r_exp, r_kex, r_ret, r_krt1, r_krt2, r_krt3, r_retn, r_iff, r_kif1, r_kif2, r_forr, r_kfo, r_step, r_ksp, r_stp1, r_stp2, r_stepc, r_kcp, r_kcp4, r_whl, r_ixs, r_kxs, r_kxs2, r_kxs6, r_kxs3, r_kxs41, r_kxs42, r_kxs5, r_pass, r_doc, r_brk, r_cont, r_ss0, r_ss1, r_kss1, r_kss2, r_kss3, r_kss4, r_krn1, r_krn2, r_krn3, r_lm0, r_lm1, r_lm2, r_klm, p_add, p_sub, p_neg, p_lt, p_le, p_gt, p_ge, p_abs, p_min, p_max, p_lenl, p_lent, p_tupl, p_tupt, p_lstl, p_lstt, p_revl, p_revt, p_inti, p_isN0, p_notN0, sc_none, sc_bool, sc_int, sc_str, sc_list, sc_tup, sc_dict, t_bool, m_rev, m_clr, ix_l, ix_t, kBi2, kBi, kUn, kCh2, kCh, kAn, kOr, kNo, kIt, kTu, kLs, kDi, kIx2, kIx, kSl3, kSl2, kSl, kFn, kIs, kCl, kMt, kEs2, kEs, kO, kTv, kTn, kTA, kTO, kTC, kSq, kRg, kRr2, kRr, kEn, kZi2, kZi, kCp3, kCp2, sl_small, slt_small, kst_any, kst_st, p_mod, p_fdiv, p_mul1, p_mul2, p_pow, p_eq, p_ne, p_catl, p_catt, m_app, m_ext, rng0, sts1, obind_some, rsbind_ok, List.getElem?_cons_zero, List.getElem?_cons_succ, List.set_cons_zero, List.set_cons_succ, List.map_nil, List.append_nil, List.nil_append, List.cons_append, if_true, if_false, ite_true, ite_false, Bool.false_eq_true, reduceIte, List.length_cons, List.length_nil, List.any_nil, List.any_cons, Bool.and_true, Bool.true_and, Bool.and_false, Bool.false_and, Bool.not_true, Bool.not_false, Bool.or_false, Bool.or_true, Bool.true_or, Bool.false_or, List.isEmpty_nil, List.isEmpty_cons, wipeE, startE, Nat.zero_add, Nat.reduceAdd, Nat.reduceSub, Nat.reduceLeDiff, Nat.le_refl, List.replicate_succ, List.replicate_zero, List.zipWith_cons_cons, List.zipWith_nil_left, List.zipWith_nil_right, Nat.reduceBEq, Nat.reduceEqDiff, decide_true, decide_false, Int.reduceLT, Int.reduceLE, Int.reduceNeg, Int.reduceToNat, Nat.reduceLT, List.take_succ_cons, List.take_zero, List.drop_succ_cons, List.drop_zero, eq_self, Int.reduceEq, ti_sc, ti_seq, ti_ix, ti_len, ti_rev, ti_kt, ti_ki, ti_kb, ti_kl, ti_zip, ti_tup, p_ltt, p_all, sh_int, sh_tupI, eqv_int, eqv_tupI, h1, h2]
theorem right_sem {room : List Int} (t : D) : f__law_right.sem [tupI room, t] = .ok false (.bool true) [] := by
  rw [e__law_right, runF_eq rfl (by decide)]
  unfold b__law_right
  have htr := truth_sem (s := goodD room t) (t := goodD room t)
  rw [decide_eq_true rfl] at htr
  simp -implicitDefEqProofs only [r_rd_v, r_rd_p, r_krd, r_rds0, r_rds, r_kco, r_pr, r_kpr, r_kpr2, r_var, r_kvar1, r_kvar2, r_kvar3, r_lit, r_gl, r_un, r_bi, r_cm, r_chn, r_kch3t, r_kch3f, r_and, r_or, r_and1, r_and2, r_or1, r_or2, r_kan2t, r_kan2f, r_kor2t, r_kor2f, r_not, r_kno2, r_ite, r_tup, r_lst, r_ktu2, r_kls2, r_dic, r_kdi2, r_dnewk, r_dnewt, r_ix, r_kix3, r_kix4, r_sl, r_ksl4l, r_ksl4t, r_fn, r_isI, r_kis2, r_call, r_kcl2, r_calla, r_kca2, r_kca3, r_kca4, r_kca5, r_arg0, r_arg, r_kar1, r_kar2, r_kar3, r_kar4, r_kar5, r_kar6, r_nomix0, r_nomix1, r_pm0, r_pm1, r_kpm, r_sh0, r_sh1, r_ksh1, r_ksh2, r_fz_v, r_fz_p, r_kfz1, r_kfz2, r_fzs0, r_fzs1, r_kfs, r_kfs3, r_isL, r_kisl1, r_kisl2, r_isO, r_kiso1, r_kiso2, r_mt, r_kmt2, r_kmt31, r_kmt32, r_kmt4, r_es0, r_es1, r_o0, r_o1, r_ko2, r_tv, r_ktv2, r_ktv3, r_tcm, r_tchn, r_ktb, r_tnot, r_tand, r_tor, r_ta0, r_ta1, r_to0, r_to1, r_c0, r_c1, r_seq, r_ksq2, r_ksq3, r_rng, r_krg2, r_rr, r_krr3, r_enum, r_ken2, r_ken3, r_zip, r_kzi4, r_kzi3l, r_kzi3t, r_seqdl, r_seqdt, r_set, r_kse1, r_kse2, r_kse3, r_kse4, r_knx, r_st, r_kst1, r_kst2, r_kst3, r_sts0, r_unp, r_kup, r_kup2, r_exp, r_kex, r_ret, r_krt1, r_krt2, r_krt3, r_retn, r_iff, r_kif1, r_kif2, r_forr, r_kfo, r_step, r_ksp, r_stp1, r_stp2, r_stepc, r_kcp, r_kcp4, r_whl, r_ixs, r_kxs, r_kxs2, r_kxs6, r_kxs3, r_kxs41, r_kxs42, r_kxs5, r_pass, r_doc, r_brk, r_cont, r_ss0, r_ss1, r_kss1, r_kss2, r_kss3, r_kss4, r_krn1, r_krn2, r_krn3, r_lm0, r_lm1, r_lm2, r_klm, p_add, p_sub, p_neg, p_lt, p_le, p_gt, p_ge, p_abs, p_min, p_max, p_lenl, p_lent, p_tupl, p_tupt, p_lstl, p_lstt, p_revl, p_revt, p_inti, p_isN0, p_notN0, sc_none, sc_bool, sc_int, sc_str, sc_list, sc_tup, sc_dict, t_bool, m_rev, m_clr, ix_l, ix_t, kBi2, kBi, kUn, kCh2, kCh, kAn, kOr, kNo, kIt, kTu, kLs, kDi, kIx2, kIx, kSl3, kSl2, kSl, kFn, kIs, kCl, kMt, kEs2, kEs, kO, kTv, kTn, kTA, kTO, kTC, kSq, kRg, kRr2, kRr, kEn, kZi2, kZi, kCp3, kCp2, sl_small, slt_small, kst_any, kst_st, p_mod, p_fdiv, p_mul1, p_mul2, p_pow, p_eq, p_ne, p_catl, p_catt, m_app, m_ext, rng0, sts1, obind_some, rsbind_ok, List.getElem?_cons_zero, List.getElem?_cons_succ, List.set_cons_zero, List.set_cons_succ, List.map_nil, List.append_nil, List.nil_append, List.cons_append, if_true, if_false, ite_true, ite_false, Bool.false_eq_true, reduceIte, List.length_cons, List.length_nil, List.any_nil, List.any_cons, Bool.and_true, Bool.true_and, Bool.and_false, Bool.false_and, Bool.not_true, Bool.not_false, Bool.or_false, Bool.or_true, Bool.true_or, Bool.false_or, List.isEmpty_nil, List.isEmpty_cons, wipeE, startE, Nat.zero_add, Nat.reduceAdd, Nat.reduceSub, Nat.reduceLeDiff, Nat.le_refl, List.replicate_succ, List.replicate_zero, List.zipWith_cons_cons, List.zipWith_nil_left, List.zipWith_nil_right, Nat.reduceBEq, Nat.reduceEqDiff, decide_true, decide_false, Int.reduceLT, Int.reduceLE, Int.reduceNeg, Int.reduceToNat, Nat.reduceLT, List.take_succ_cons, List.take_zero, List.drop_succ_cons, List.drop_zero, eq_self, Int.reduceEq, ti_sc, ti_seq, ti_ix, ti_len, ti_rev, ti_kt, ti_ki, ti_kb, ti_kl, ti_zip, ti_tup, p_ltt, p_all, sh_int, sh_tupI, eqv_int, eqv_tupI, m_is_given, is_given_sem, m__law_is_given, law_is_given_sem, m__law_truth, htr]
theorem goodG_giv {room : List Int} {i : Nat} : ∀ {g : List (Int × Int)} {last : Int}, GivB room i g → (∀ p ∈ g, last < p.1) → goodG room last (g.map pairD) = true
  | [], last, _, _ => rfl
  | p :: g, last, G, h => by
    obtain ⟨n, hn, w0, w1⟩ := G.worth p List.mem_cons_self
    have hb := G.box p List.mem_cons_self
    have h1 := h p List.mem_cons_self
    have hr := G.rise
    rw [List.pairwise_cons] at hr
    have e : goodE room last (pairD p) = some p.1 := by
      unfold pairD
      rw [goodE_int hn, if_pos ⟨h1, hb.1, w0, w1⟩]
    simp only [List.map_cons, goodG, e]
    exact goodG_giv ⟨fun q hq => G.box q (List.mem_cons_of_mem _ hq), fun q hq => G.worth q (List.mem_cons_of_mem _ hq), hr.2⟩ fun q hq => hr.1 q hq
theorem goodD_giv {room : List Int} {i : Nat} {g : List (Int × Int)} (G : GivB room i g) : goodD room (givD g) = true := goodG_giv G fun p hp => by have := G.box p hp; omega
end CM
/-! K04M: the law k04, plainly. -/
namespace K04
open PySem PD CM
theorem atD_some {xs : List D} {i : Int} (h0 : 0 ≤ i) (h1 : i < xs.length) : ∃ x, atD xs i = some x := by
  unfold atD
  rw [if_pos h0, List.getElem?_eq_getElem (by omega)]
  exact ⟨_, rfl⟩
theorem bad_sem {b n : Int} {d : D} (hp : Pen b d) (hb : b < 9000000) : ∃ x d', f__law_bad.sem [d, .int n] = .ok false x [d'] ∧ Pen (b + 2) d' := by
  rw [e__law_bad, runF_eq rfl (by decide)]
  obtain ⟨v, d1, e1, p1, v0, v1⟩ := draw_sem hp (by omega) (show (0 : Int) < 10 by decide) (by decide)
  obtain ⟨u, d2, e2, p2, u0, u1⟩ := draw_sem p1 (by omega) (show (0 : Int) < 1000000 by decide) (by decide)
  have h6 : prim .pow [.int 10, .int 6] = some (false, .int 1000000) := by rw [p_pow (by decide) (by decide) (by decide) (by decide)]; rfl
  have h29 : prim .pow [.int 10, .int 29] = some (false, .int 100000000000000000000000000000) := by rw [p_pow (by decide) (by decide) (by decide) (by decide)]; rfl
  obtain ⟨x, hx⟩ := atD_some (xs := [.int n, .int (n + 1), .int (0 - 1 - u), .int (100000000000000000000000000000 + u), .bool true, .bool false, .none, .str "1", .list [.int 0], .int 0]) v0 (by show v < 10; exact v1)
  unfold b__law_bad
  simp -implicitDefEqProofs only [r_rd_v, r_rd_p, r_krd, r_rds0, r_rds, r_kco, r_pr, r_kpr, r_kpr2, r_var, r_kvar1, r_kvar2, r_kvar3, r_lit, r_gl, r_un, r_bi, r_cm, r_chn, r_kch3t, r_kch3f, r_and, r_or, r_and1, r_and2, r_or1, r_or2, r_kan2t, r_kan2f, r_kor2t, r_kor2f, r_not, r_kno2, r_ite, r_tup, r_lst, r_ktu2, r_kls2, r_dic, r_kdi2, r_dnewk, r_dnewt, r_ix, r_kix3, r_kix4, r_sl, r_ksl4l, r_ksl4t, r_fn, r_isI, r_kis2, r_call, r_kcl2, r_calla, r_kca2, r_kca3, r_kca4, r_kca5, r_arg0, r_arg, r_kar1, r_kar2, r_kar3, r_kar4, r_kar5, r_kar6, r_nomix0, r_nomix1, r_pm0, r_pm1, r_kpm, r_sh0, r_sh1, r_ksh1, r_ksh2, r_fz_v, r_fz_p, r_kfz1, r_kfz2, r_fzs0, r_fzs1, r_kfs, r_kfs3, r_isL, r_kisl1, r_kisl2, r_isO, r_kiso1, r_kiso2, r_mt, r_kmt2, r_kmt31, r_kmt32, r_kmt4, r_es0, r_es1, r_o0, r_o1, r_ko2, r_tv, r_ktv2, r_ktv3, r_tcm, r_tchn, r_ktb, r_tnot, r_tand, r_tor, r_ta0, r_ta1, r_to0, r_to1, r_c0, r_c1, r_seq, r_ksq2, r_ksq3, r_rng, r_krg2, r_rr, r_krr3, r_enum, r_ken2, r_ken3, r_zip, r_kzi4, r_kzi3l, r_kzi3t, r_seqdl, r_seqdt, r_set, r_kse1, r_kse2, r_kse3, r_kse4, r_knx, r_st, r_kst1, r_kst2, r_kst3, r_sts0, r_unp, r_kup, r_kup2, r_exp, r_kex, r_ret, r_krt1, r_krt2, r_krt3, r_retn, r_iff, r_kif1, r_kif2, r_forr, r_kfo, r_step, r_ksp, r_stp1, r_stp2, r_stepc, r_kcp, r_kcp4, r_whl, r_ixs, r_kxs, r_kxs2, r_kxs6, r_kxs3, r_kxs41, r_kxs42, r_kxs5, r_pass, r_doc, r_brk, r_cont, r_ss0, r_ss1, r_kss1, r_kss2, r_kss3, r_kss4, r_krn1, r_krn2, r_krn3, r_lm0, r_lm1, r_lm2, r_klm, p_add, p_sub, p_neg, p_lt, p_le, p_gt, p_ge, p_abs, p_min, p_max, p_lenl, p_lent, p_tupl, p_tupt, p_lstl, p_lstt, p_revl, p_revt, p_inti, p_isN0, p_notN0, sc_none, sc_bool, sc_int, sc_str, sc_list, sc_tup, sc_dict, t_bool, m_rev, m_clr, ix_l, ix_t, kBi2, kBi, kUn, kCh2, kCh, kAn, kOr, kNo, kIt, kTu, kLs, kDi, kIx2, kIx, kSl3, kSl2, kSl, kFn, kIs, kCl, kMt, kEs2, kEs, kO, kTv, kTn, kTA, kTO, kTC, kSq, kRg, kRr2, kRr, kEn, kZi2, kZi, kCp3, kCp2, sl_small, slt_small, kst_any, kst_st, p_mod, p_fdiv, p_mul1, p_mul2, p_pow, p_eq, p_ne, p_catl, p_catt, m_app, m_ext, rng0, sts1, obind_some, rsbind_ok, List.getElem?_cons_zero, List.getElem?_cons_succ, List.set_cons_zero, List.set_cons_succ, List.map_nil, List.append_nil, List.nil_append, List.cons_append, if_true, if_false, ite_true, ite_false, Bool.false_eq_true, reduceIte, List.length_cons, List.length_nil, List.any_nil, List.any_cons, Bool.and_true, Bool.true_and, Bool.and_false, Bool.false_and, Bool.not_true, Bool.not_false, Bool.or_false, Bool.or_true, Bool.true_or, Bool.false_or, List.isEmpty_nil, List.isEmpty_cons, wipeE, startE, Nat.zero_add, Nat.reduceAdd, Nat.reduceSub, Nat.reduceLeDiff, Nat.le_refl, List.replicate_succ, List.replicate_zero, List.zipWith_cons_cons, List.zipWith_nil_left, List.zipWith_nil_right, Nat.reduceBEq, Nat.reduceEqDiff, decide_true, decide_false, Int.reduceLT, Int.reduceLE, Int.reduceNeg, Int.reduceToNat, Nat.reduceLT, List.take_succ_cons, List.take_zero, List.drop_succ_cons, List.drop_zero, eq_self, Int.reduceEq, ti_sc, ti_seq, ti_ix, ti_len, ti_rev, ti_kt, ti_ki, ti_kb, ti_kl, ti_zip, ti_tup, p_ltt, p_all, sh_int, sh_tupI, eqv_int, eqv_tupI, m__law_draw, e1, h6, e2, h29, ix_l, hx, - p_pow]
  exact ⟨x, d2, rfl, p2.mono (by omega)⟩
theorem entry_sem {b n : Int} {d : D} {room : List Int} {p : Int × Int} (hp : Pen b d) (hb : b < 8000000) (h0 : 0 ≤ p.1) (hn : room[p.1.toNat]? = some n) :
    ∃ x d', f__law_entry.sem [d, tupI room, pairD p] = .ok false x [d'] ∧ Pen (b + 5) d' := by
  rw [e__law_entry, runF_eq rfl (by decide)]
  obtain ⟨v, d1, e1, p1, v0, v1⟩ := draw_sem hp (by omega) (show (0 : Int) < 6 by decide) (by decide)
  obtain ⟨x, d2, e2, p2⟩ := bad_sem (n := (room.length : Int)) p1 (by omega)
  obtain ⟨y, d3, e3, p3⟩ := bad_sem (n := n) p2 (by omega)
  have ha : atD (room.map .int) p.1 = some (.int n) := by
    unfold atD
    rw [if_pos h0, List.getElem?_map, hn]
    rfl
  have hc : prim .add [.list [.tuple [x, .int p.2], .tuple [.int p.1, y], .tuple [.int p.1], .tuple [.int p.1, .int p.2, .int 0]], .list [.list [.int p.1, .int p.2], .none]] = some (true, .list [.tuple [x, .int p.2], .tuple [.int p.1, y], .tuple [.int p.1], .tuple [.int p.1, .int p.2, .int 0], .list [.int p.1, .int p.2], .none]) := rfl
  obtain ⟨z, hz⟩ := atD_some (xs := [.tuple [x, .int p.2], .tuple [.int p.1, y], .tuple [.int p.1], .tuple [.int p.1, .int p.2, .int 0], .list [.int p.1, .int p.2], .none]) v0 (by show v < 6; exact v1)
  unfold b__law_entry pairD
  simp -implicitDefEqProofs only [r_rd_v, r_rd_p, r_krd, r_rds0, r_rds, r_kco, r_pr, r_kpr, r_kpr2, r_var, r_kvar1, r_kvar2, r_kvar3, r_lit, r_gl, r_un, r_bi, r_cm, r_chn, r_kch3t, r_kch3f, r_and, r_or, r_and1, r_and2, r_or1, r_or2, r_kan2t, r_kan2f, r_kor2t, r_kor2f, r_not, r_kno2, r_ite, r_tup, r_lst, r_ktu2, r_kls2, r_dic, r_kdi2, r_dnewk, r_dnewt, r_ix, r_kix3, r_kix4, r_sl, r_ksl4l, r_ksl4t, r_fn, r_isI, r_kis2, r_call, r_kcl2, r_calla, r_kca2, r_kca3, r_kca4, r_kca5, r_arg0, r_arg, r_kar1, r_kar2, r_kar3, r_kar4, r_kar5, r_kar6, r_nomix0, r_nomix1, r_pm0, r_pm1, r_kpm, r_sh0, r_sh1, r_ksh1, r_ksh2, r_fz_v, r_fz_p, r_kfz1, r_kfz2, r_fzs0, r_fzs1, r_kfs, r_kfs3, r_isL, r_kisl1, r_kisl2, r_isO, r_kiso1, r_kiso2, r_mt, r_kmt2, r_kmt31, r_kmt32, r_kmt4, r_es0, r_es1, r_o0, r_o1, r_ko2, r_tv, r_ktv2, r_ktv3, r_tcm, r_tchn, r_ktb, r_tnot, r_tand, r_tor, r_ta0, r_ta1, r_to0, r_to1, r_c0, r_c1, r_seq, r_ksq2, r_ksq3, r_rng, r_krg2, r_rr, r_krr3, r_enum, r_ken2, r_ken3, r_zip, r_kzi4, r_kzi3l, r_kzi3t, r_seqdl, r_seqdt, r_set, r_kse1, r_kse2, r_kse3, r_kse4, r_knx, r_st, r_kst1, r_kst2, r_kst3, r_sts0, r_unp, r_kup, r_kup2, r_exp, r_kex, r_ret, r_krt1, r_krt2, r_krt3, r_retn, r_iff, r_kif1, r_kif2, r_forr, r_kfo, r_step, r_ksp, r_stp1, r_stp2, r_stepc, r_kcp, r_kcp4, r_whl, r_ixs, r_kxs, r_kxs2, r_kxs6, r_kxs3, r_kxs41, r_kxs42, r_kxs5, r_pass, r_doc, r_brk, r_cont, r_ss0, r_ss1, r_kss1, r_kss2, r_kss3, r_kss4, r_krn1, r_krn2, r_krn3, r_lm0, r_lm1, r_lm2, r_klm, p_add, p_sub, p_neg, p_lt, p_le, p_gt, p_ge, p_abs, p_min, p_max, p_lenl, p_lent, p_tupl, p_tupt, p_lstl, p_lstt, p_revl, p_revt, p_inti, p_isN0, p_notN0, sc_none, sc_bool, sc_int, sc_str, sc_list, sc_tup, sc_dict, t_bool, m_rev, m_clr, ix_l, ix_t, kBi2, kBi, kUn, kCh2, kCh, kAn, kOr, kNo, kIt, kTu, kLs, kDi, kIx2, kIx, kSl3, kSl2, kSl, kFn, kIs, kCl, kMt, kEs2, kEs, kO, kTv, kTn, kTA, kTO, kTC, kSq, kRg, kRr2, kRr, kEn, kZi2, kZi, kCp3, kCp2, sl_small, slt_small, kst_any, kst_st, p_mod, p_fdiv, p_mul1, p_mul2, p_pow, p_eq, p_ne, p_catl, p_catt, m_app, m_ext, rng0, sts1, obind_some, rsbind_ok, List.getElem?_cons_zero, List.getElem?_cons_succ, List.set_cons_zero, List.set_cons_succ, List.map_nil, List.append_nil, List.nil_append, List.cons_append, if_true, if_false, ite_true, ite_false, Bool.false_eq_true, reduceIte, List.length_cons, List.length_nil, List.any_nil, List.any_cons, Bool.and_true, Bool.true_and, Bool.and_false, Bool.false_and, Bool.not_true, Bool.not_false, Bool.or_false, Bool.or_true, Bool.true_or, Bool.false_or, List.isEmpty_nil, List.isEmpty_cons, wipeE, startE, Nat.zero_add, Nat.reduceAdd, Nat.reduceSub, Nat.reduceLeDiff, Nat.le_refl, List.replicate_succ, List.replicate_zero, List.zipWith_cons_cons, List.zipWith_nil_left, List.zipWith_nil_right, Nat.reduceBEq, Nat.reduceEqDiff, decide_true, decide_false, Int.reduceLT, Int.reduceLE, Int.reduceNeg, Int.reduceToNat, Nat.reduceLT, List.take_succ_cons, List.take_zero, List.drop_succ_cons, List.drop_zero, eq_self, Int.reduceEq, ti_sc, ti_seq, ti_ix, ti_len, ti_rev, ti_kt, ti_ki, ti_kb, ti_kl, ti_zip, ti_tup, p_ltt, p_all, sh_int, sh_tupI, eqv_int, eqv_tupI, m__law_draw, e1, m__law_bad, e2, e3, ha, hc, ix_l, hz]
  exact ⟨z, d3, rfl, p3.mono (by omega)⟩
theorem cut_len {xs : List D} {lo hi : Option Int} : (cutD xs lo hi).length ≤ xs.length := by
  unfold cutD
  rw [List.length_take, List.length_drop]
  omega
theorem eqv_givnil {g : List (Int × Int)} : PyData.eqv (.tuple (g.map pairD)) (.tuple []) = g.isEmpty := by
  rw [PyData.eqv]
  cases g <;> rfl
theorem shp_giv {g : List (Int × Int)} : SeqAt.shaped (.tuple (g.map pairD)) = true := (shp_tup (k := 2) fun d hd => by
  obtain ⟨p, _, rfl⟩ := List.mem_map.mp hd
  exact shp_pair (Nat.le_refl 1)).ok (by decide)
theorem sh_tnil : SeqAt.shaped (.tuple []) = true := by decide
theorem spoilt_sem {b most : Int} {d : D} {room : List Int} {g : List (Int × Int)} (hp : Pen b d) (hb : b < 7000000) (R : Room most room) (G : GivB room room.length g) :
    ∃ x d', f__law_spoilt.sem [d, tupI room, givD g] = .ok false x [d'] ∧ Pen (b + 20) d' := by
  rw [e__law_spoilt, runF_eq rfl (by decide)]
  have hrl := R.len
  have hrne : 0 < room.length := List.length_pos_iff.mpr R.ne
  have hgl := G.len
  obtain ⟨way, d1, e1, p1, v0, v1⟩ := draw_sem hp (by omega) (show (0 : Int) < 5 by decide) (by decide)
  obtain ⟨bx, d2, e2, p2, l0, l1⟩ := draw_sem p1 (by omega) (show (0 : Int) < (room.length : Int) by omega) (by omega)
  obtain ⟨n, en, en2⟩ := atD_room (ws := room) l0 l1
  have hn := R.two n (List.mem_of_getElem? en2)
  obtain ⟨w, d3, e3, p3, w0, w1⟩ := draw_sem p2 (by omega) (show (0 : Int) < n by omega) (by omega)
  unfold b__law_spoilt givD
  by_cases hg : g = []
  · subst hg
    obtain ⟨z, hz⟩ := atD_some (xs := [.tuple [.tuple [.int bx, .int w], .tuple [.int bx, .int w]], .tuple [.none], .tuple [.tuple []], .tuple [.int bx, .int w], .tuple [.tuple (cutD [.int bx, .int w] (some 1) none)]]) v0 (by show way < 5; exact v1)
    have hq : PyData.eqv (.tuple []) (.tuple []) = true := by simp [PyData.eqv, PyData.eqvAll]
    simp -implicitDefEqProofs only [r_rd_v, r_rd_p, r_krd, r_rds0, r_rds, r_kco, r_pr, r_kpr, r_kpr2, r_var, r_kvar1, r_kvar2, r_kvar3, r_lit, r_gl, r_un, r_bi, r_cm, r_chn, r_kch3t, r_kch3f, r_and, r_or, r_and1, r_and2, r_or1, r_or2, r_kan2t, r_kan2f, r_kor2t, r_kor2f, r_not, r_kno2, r_ite, r_tup, r_lst, r_ktu2, r_kls2, r_dic, r_kdi2, r_dnewk, r_dnewt, r_ix, r_kix3, r_kix4, r_sl, r_ksl4l, r_ksl4t, r_fn, r_isI, r_kis2, r_call, r_kcl2, r_calla, r_kca2, r_kca3, r_kca4, r_kca5, r_arg0, r_arg, r_kar1, r_kar2, r_kar3, r_kar4, r_kar5, r_kar6, r_nomix0, r_nomix1, r_pm0, r_pm1, r_kpm, r_sh0, r_sh1, r_ksh1, r_ksh2, r_fz_v, r_fz_p, r_kfz1, r_kfz2, r_fzs0, r_fzs1, r_kfs, r_kfs3, r_isL, r_kisl1, r_kisl2, r_isO, r_kiso1, r_kiso2, r_mt, r_kmt2, r_kmt31, r_kmt32, r_kmt4, r_es0, r_es1, r_o0, r_o1, r_ko2, r_tv, r_ktv2, r_ktv3, r_tcm, r_tchn, r_ktb, r_tnot, r_tand, r_tor, r_ta0, r_ta1, r_to0, r_to1, r_c0, r_c1, r_seq, r_ksq2, r_ksq3, r_rng, r_krg2, r_rr, r_krr3, r_enum, r_ken2, r_ken3, r_zip, r_kzi4, r_kzi3l, r_kzi3t, r_seqdl, r_seqdt, r_set, r_kse1, r_kse2, r_kse3, r_kse4, r_knx, r_st, r_kst1, r_kst2, r_kst3, r_sts0, r_unp, r_kup, r_kup2, r_exp, r_kex, r_ret, r_krt1, r_krt2, r_krt3, r_retn, r_iff, r_kif1, r_kif2, r_forr, r_kfo, r_step, r_ksp, r_stp1, r_stp2, r_stepc, r_kcp, r_kcp4, r_whl, r_ixs, r_kxs, r_kxs2, r_kxs6, r_kxs3, r_kxs41, r_kxs42, r_kxs5, r_pass, r_doc, r_brk, r_cont, r_ss0, r_ss1, r_kss1, r_kss2, r_kss3, r_kss4, r_krn1, r_krn2, r_krn3, r_lm0, r_lm1, r_lm2, r_klm, p_add, p_sub, p_neg, p_lt, p_le, p_gt, p_ge, p_abs, p_min, p_max, p_lenl, p_lent, p_tupl, p_tupt, p_lstl, p_lstt, p_revl, p_revt, p_inti, p_isN0, p_notN0, sc_none, sc_bool, sc_int, sc_str, sc_list, sc_tup, sc_dict, t_bool, m_rev, m_clr, ix_l, ix_t, kBi2, kBi, kUn, kCh2, kCh, kAn, kOr, kNo, kIt, kTu, kLs, kDi, kIx2, kIx, kSl3, kSl2, kSl, kFn, kIs, kCl, kMt, kEs2, kEs, kO, kTv, kTn, kTA, kTO, kTC, kSq, kRg, kRr2, kRr, kEn, kZi2, kZi, kCp3, kCp2, sl_small, slt_small, kst_any, kst_st, p_mod, p_fdiv, p_mul1, p_mul2, p_pow, p_eq, p_ne, p_catl, p_catt, m_app, m_ext, rng0, sts1, obind_some, rsbind_ok, List.getElem?_cons_zero, List.getElem?_cons_succ, List.set_cons_zero, List.set_cons_succ, List.map_nil, List.append_nil, List.nil_append, List.cons_append, if_true, if_false, ite_true, ite_false, Bool.false_eq_true, reduceIte, List.length_cons, List.length_nil, List.any_nil, List.any_cons, Bool.and_true, Bool.true_and, Bool.and_false, Bool.false_and, Bool.not_true, Bool.not_false, Bool.or_false, Bool.or_true, Bool.true_or, Bool.false_or, List.isEmpty_nil, List.isEmpty_cons, wipeE, startE, Nat.zero_add, Nat.reduceAdd, Nat.reduceSub, Nat.reduceLeDiff, Nat.le_refl, List.replicate_succ, List.replicate_zero, List.zipWith_cons_cons, List.zipWith_nil_left, List.zipWith_nil_right, Nat.reduceBEq, Nat.reduceEqDiff, decide_true, decide_false, Int.reduceLT, Int.reduceLE, Int.reduceNeg, Int.reduceToNat, Nat.reduceLT, List.take_succ_cons, List.take_zero, List.drop_succ_cons, List.drop_zero, eq_self, Int.reduceEq, ti_sc, ti_seq, ti_ix, ti_len, ti_rev, ti_kt, ti_ki, ti_kb, ti_kl, ti_zip, ti_tup, p_ltt, p_all, sh_int, sh_tupI, eqv_int, eqv_tupI, m__law_draw, e1, e2, en, e3, sh_tnil, hq, ix_l, hz]
    exact ⟨z, d3, rfl, p3.mono (by omega)⟩
  · have hg0 : 0 < g.length := List.length_pos_iff.mpr hg
    have hge : g.isEmpty = false := by
      cases g with
      | nil => exact absurd rfl hg
      | cons _ _ => rfl
    have hGl : (g.map pairD).length = g.length := List.length_map _
    have hg8 : g.length ≤ 8 := by omega
    have ht : prim .len [.tuple (g.map pairD)] = some (false, .int (g.length : Int)) := by
      show some (false, PyData.int ((g.map pairD).length : Int)) = _
      rw [hGl]
    obtain ⟨at_, d4, e4, p4, a0, a1⟩ := draw_sem p3 (by omega) (show (0 : Int) < (g.length : Int) by omega) (by omega)
    obtain ⟨ot, d5, e5, p5, o0, o1⟩ := draw_sem p4 (by omega) (show (0 : Int) < (g.length : Int) by omega) (by omega)
    have hat : ∀ i : Int, 0 ≤ i → i < (g.length : Int) → ∃ p, p ∈ g ∧ atD (g.map pairD) i = some (pairD p) := by
      intro i h0 h1
      have e : g[i.toNat]? = some (g[i.toNat]'(by omega)) := List.getElem?_eq_getElem (by omega)
      refine ⟨_, List.mem_of_getElem? e, ?_⟩
      unfold atD
      rw [if_pos h0, List.getElem?_map, e]
      rfl
    obtain ⟨p, hpm, hpa⟩ := hat at_ a0 a1
    obtain ⟨q, hqm, hqa⟩ := hat ot o0 o1
    obtain ⟨m, hm1, _⟩ := G.worth p hpm
    have hpb := G.box p hpm
    have ha : atD (room.map .int) p.1 = some (.int m) := by
      unfold atD
      rw [if_pos hpb.1, List.getElem?_map, hm1]
      rfl
    have hm2 := R.two m (List.mem_of_getElem? hm1)
    obtain ⟨u, d6, e6, p6, u0, u1⟩ := draw_sem p5 (by omega) (show (0 : Int) < m by omega) (by omega)
    obtain ⟨x, d7, e7, p7⟩ := entry_sem p6 (by omega) hpb.1 hm1
    have hp0 : pIx (pairD p) (.int 0) = some (.int p.1) := rfl
    have eqg := eqv_givnil (g := g)
    rw [hge] at eqg
    have hsg := shp_giv (g := g)
    have l1 := cut_len (xs := g.map pairD) (lo := none) (hi := some at_)
    have l2 := cut_len (xs := g.map pairD) (lo := some (at_ + 1)) (hi := none)
    have l3 := cut_len (xs := g.map pairD) (lo := some at_) (hi := none)
    rw [hGl] at l1 l2 l3
    have cat : ∀ X Y : List D, X.length + Y.length ≤ 1000 → prim .add [.tuple X, .tuple Y] = some (false, .tuple (X ++ Y)) := fun X Y h => p_catt (by rw [sl_eq]; omega)
    have c6 : ∀ y, prim .add [.tuple (g.map pairD), .tuple [y]] = some (false, .tuple (g.map pairD ++ [y])) := fun y => cat _ _ (by rw [hGl]; show g.length + 1 ≤ _; omega)
    by_cases w0 : way = 0
    · have c1 : ∀ y, prim .add [.tuple (cutD (g.map pairD) none (some at_)), .tuple [y]] = some (false, .tuple (cutD (g.map pairD) none (some at_) ++ [y])) := fun y => cat _ _ (by show _ + 1 ≤ _; omega)
      have c2 : ∀ y, prim .add [.tuple (cutD (g.map pairD) none (some at_) ++ [y]), .tuple (cutD (g.map pairD) (some (at_ + 1)) none)] = some (false, .tuple (cutD (g.map pairD) none (some at_) ++ [y] ++ cutD (g.map pairD) (some (at_ + 1)) none)) := fun y => cat _ _ (by rw [List.length_append]; show _ + 1 + _ ≤ _; omega)
      simp -implicitDefEqProofs only [r_rd_v, r_rd_p, r_krd, r_rds0, r_rds, r_kco, r_pr, r_kpr, r_kpr2, r_var, r_kvar1, r_kvar2, r_kvar3, r_lit, r_gl, r_un, r_bi, r_cm, r_chn, r_kch3t, r_kch3f, r_and, r_or, r_and1, r_and2, r_or1, r_or2, r_kan2t, r_kan2f, r_kor2t, r_kor2f, r_not, r_kno2, r_ite, r_tup, r_lst, r_ktu2, r_kls2, r_dic, r_kdi2, r_dnewk, r_dnewt, r_ix, r_kix3, r_kix4, r_sl, r_ksl4l, r_ksl4t, r_fn, r_isI, r_kis2, r_call, r_kcl2, r_calla, r_kca2, r_kca3, r_kca4, r_kca5, r_arg0, r_arg, r_kar1, r_kar2, r_kar3, r_kar4, r_kar5, r_kar6, r_nomix0, r_nomix1, r_pm0, r_pm1, r_kpm, r_sh0, r_sh1, r_ksh1, r_ksh2, r_fz_v, r_fz_p, r_kfz1, r_kfz2, r_fzs0, r_fzs1, r_kfs, r_kfs3, r_isL, r_kisl1, r_kisl2, r_isO, r_kiso1, r_kiso2, r_mt, r_kmt2, r_kmt31, r_kmt32, r_kmt4, r_es0, r_es1, r_o0, r_o1, r_ko2, r_tv, r_ktv2, r_ktv3, r_tcm, r_tchn, r_ktb, r_tnot, r_tand, r_tor, r_ta0, r_ta1, r_to0, r_to1, r_c0, r_c1, r_seq, r_ksq2, r_ksq3, r_rng, r_krg2, r_rr, r_krr3, r_enum, r_ken2, r_ken3, r_zip, r_kzi4, r_kzi3l, r_kzi3t, r_seqdl, r_seqdt, r_set, r_kse1, r_kse2, r_kse3, r_kse4, r_knx, r_st, r_kst1, r_kst2, r_kst3, r_sts0, r_unp, r_kup, r_kup2, r_exp, r_kex, r_ret, r_krt1, r_krt2, r_krt3, r_retn, r_iff, r_kif1, r_kif2, r_forr, r_kfo, r_step, r_ksp, r_stp1, r_stp2, r_stepc, r_kcp, r_kcp4, r_whl, r_ixs, r_kxs, r_kxs2, r_kxs6, r_kxs3, r_kxs41, r_kxs42, r_kxs5, r_pass, r_doc, r_brk, r_cont, r_ss0, r_ss1, r_kss1, r_kss2, r_kss3, r_kss4, r_krn1, r_krn2, r_krn3, r_lm0, r_lm1, r_lm2, r_klm, p_add, p_sub, p_neg, p_lt, p_le, p_gt, p_ge, p_abs, p_min, p_max, p_lenl, p_lent, p_tupl, p_tupt, p_lstl, p_lstt, p_revl, p_revt, p_inti, p_isN0, p_notN0, sc_none, sc_bool, sc_int, sc_str, sc_list, sc_tup, sc_dict, t_bool, m_rev, m_clr, ix_l, ix_t, kBi2, kBi, kUn, kCh2, kCh, kAn, kOr, kNo, kIt, kTu, kLs, kDi, kIx2, kIx, kSl3, kSl2, kSl, kFn, kIs, kCl, kMt, kEs2, kEs, kO, kTv, kTn, kTA, kTO, kTC, kSq, kRg, kRr2, kRr, kEn, kZi2, kZi, kCp3, kCp2, sl_small, slt_small, kst_any, kst_st, p_mod, p_fdiv, p_mul1, p_mul2, p_pow, p_eq, p_ne, p_catl, p_catt, m_app, m_ext, rng0, sts1, obind_some, rsbind_ok, List.getElem?_cons_zero, List.getElem?_cons_succ, List.set_cons_zero, List.set_cons_succ, List.map_nil, List.append_nil, List.nil_append, List.cons_append, if_true, if_false, ite_true, ite_false, Bool.false_eq_true, reduceIte, List.length_cons, List.length_nil, List.any_nil, List.any_cons, Bool.and_true, Bool.true_and, Bool.and_false, Bool.false_and, Bool.not_true, Bool.not_false, Bool.or_false, Bool.or_true, Bool.true_or, Bool.false_or, List.isEmpty_nil, List.isEmpty_cons, wipeE, startE, Nat.zero_add, Nat.reduceAdd, Nat.reduceSub, Nat.reduceLeDiff, Nat.le_refl, List.replicate_succ, List.replicate_zero, List.zipWith_cons_cons, List.zipWith_nil_left, List.zipWith_nil_right, Nat.reduceBEq, Nat.reduceEqDiff, decide_true, decide_false, Int.reduceLT, Int.reduceLE, Int.reduceNeg, Int.reduceToNat, Nat.reduceLT, List.take_succ_cons, List.take_zero, List.drop_succ_cons, List.drop_zero, eq_self, Int.reduceEq, ti_sc, ti_seq, ti_ix, ti_len, ti_rev, ti_kt, ti_ki, ti_kb, ti_kl, ti_zip, ti_tup, p_ltt, p_all, sh_int, sh_tupI, eqv_int, eqv_tupI, m__law_draw, e1, e2, en, e3, sh_tnil, hsg, eqg, ht, e4, e5, hpa, hqa, hp0, ha, e6, w0, ix_t, m__law_entry, e7, c1, c2]
      exact ⟨_, d7, rfl, p7.mono (by omega)⟩
    · by_cases w1 : way = 1
      · have c1 : ∀ y, prim .add [.tuple (cutD (g.map pairD) none (some at_)), .tuple [y]] = some (false, .tuple (cutD (g.map pairD) none (some at_) ++ [y])) := fun y => cat _ _ (by show _ + 1 ≤ _; omega)
        have c2 : ∀ y, prim .add [.tuple (cutD (g.map pairD) none (some at_) ++ [y]), .tuple (cutD (g.map pairD) (some at_) none)] = some (false, .tuple (cutD (g.map pairD) none (some at_) ++ [y] ++ cutD (g.map pairD) (some at_) none)) := fun y => cat _ _ (by rw [List.length_append]; show _ + 1 + _ ≤ _; omega)
        simp -implicitDefEqProofs only [r_rd_v, r_rd_p, r_krd, r_rds0, r_rds, r_kco, r_pr, r_kpr, r_kpr2, r_var, r_kvar1, r_kvar2, r_kvar3, r_lit, r_gl, r_un, r_bi, r_cm, r_chn, r_kch3t, r_kch3f, r_and, r_or, r_and1, r_and2, r_or1, r_or2, r_kan2t, r_kan2f, r_kor2t, r_kor2f, r_not, r_kno2, r_ite, r_tup, r_lst, r_ktu2, r_kls2, r_dic, r_kdi2, r_dnewk, r_dnewt, r_ix, r_kix3, r_kix4, r_sl, r_ksl4l, r_ksl4t, r_fn, r_isI, r_kis2, r_call, r_kcl2, r_calla, r_kca2, r_kca3, r_kca4, r_kca5, r_arg0, r_arg, r_kar1, r_kar2, r_kar3, r_kar4, r_kar5, r_kar6, r_nomix0, r_nomix1, r_pm0, r_pm1, r_kpm, r_sh0, r_sh1, r_ksh1, r_ksh2, r_fz_v, r_fz_p, r_kfz1, r_kfz2, r_fzs0, r_fzs1, r_kfs, r_kfs3, r_isL, r_kisl1, r_kisl2, r_isO, r_kiso1, r_kiso2, r_mt, r_kmt2, r_kmt31, r_kmt32, r_kmt4, r_es0, r_es1, r_o0, r_o1, r_ko2, r_tv, r_ktv2, r_ktv3, r_tcm, r_tchn, r_ktb, r_tnot, r_tand, r_tor, r_ta0, r_ta1, r_to0, r_to1, r_c0, r_c1, r_seq, r_ksq2, r_ksq3, r_rng, r_krg2, r_rr, r_krr3, r_enum, r_ken2, r_ken3, r_zip, r_kzi4, r_kzi3l, r_kzi3t, r_seqdl, r_seqdt, r_set, r_kse1, r_kse2, r_kse3, r_kse4, r_knx, r_st, r_kst1, r_kst2, r_kst3, r_sts0, r_unp, r_kup, r_kup2, r_exp, r_kex, r_ret, r_krt1, r_krt2, r_krt3, r_retn, r_iff, r_kif1, r_kif2, r_forr, r_kfo, r_step, r_ksp, r_stp1, r_stp2, r_stepc, r_kcp, r_kcp4, r_whl, r_ixs, r_kxs, r_kxs2, r_kxs6, r_kxs3, r_kxs41, r_kxs42, r_kxs5, r_pass, r_doc, r_brk, r_cont, r_ss0, r_ss1, r_kss1, r_kss2, r_kss3, r_kss4, r_krn1, r_krn2, r_krn3, r_lm0, r_lm1, r_lm2, r_klm, p_add, p_sub, p_neg, p_lt, p_le, p_gt, p_ge, p_abs, p_min, p_max, p_lenl, p_lent, p_tupl, p_tupt, p_lstl, p_lstt, p_revl, p_revt, p_inti, p_isN0, p_notN0, sc_none, sc_bool, sc_int, sc_str, sc_list, sc_tup, sc_dict, t_bool, m_rev, m_clr, ix_l, ix_t, kBi2, kBi, kUn, kCh2, kCh, kAn, kOr, kNo, kIt, kTu, kLs, kDi, kIx2, kIx, kSl3, kSl2, kSl, kFn, kIs, kCl, kMt, kEs2, kEs, kO, kTv, kTn, kTA, kTO, kTC, kSq, kRg, kRr2, kRr, kEn, kZi2, kZi, kCp3, kCp2, sl_small, slt_small, kst_any, kst_st, p_mod, p_fdiv, p_mul1, p_mul2, p_pow, p_eq, p_ne, p_catl, p_catt, m_app, m_ext, rng0, sts1, obind_some, rsbind_ok, List.getElem?_cons_zero, List.getElem?_cons_succ, List.set_cons_zero, List.set_cons_succ, List.map_nil, List.append_nil, List.nil_append, List.cons_append, if_true, if_false, ite_true, ite_false, Bool.false_eq_true, reduceIte, List.length_cons, List.length_nil, List.any_nil, List.any_cons, Bool.and_true, Bool.true_and, Bool.and_false, Bool.false_and, Bool.not_true, Bool.not_false, Bool.or_false, Bool.or_true, Bool.true_or, Bool.false_or, List.isEmpty_nil, List.isEmpty_cons, wipeE, startE, Nat.zero_add, Nat.reduceAdd, Nat.reduceSub, Nat.reduceLeDiff, Nat.le_refl, List.replicate_succ, List.replicate_zero, List.zipWith_cons_cons, List.zipWith_nil_left, List.zipWith_nil_right, Nat.reduceBEq, Nat.reduceEqDiff, decide_true, decide_false, Int.reduceLT, Int.reduceLE, Int.reduceNeg, Int.reduceToNat, Nat.reduceLT, List.take_succ_cons, List.take_zero, List.drop_succ_cons, List.drop_zero, eq_self, Int.reduceEq, ti_sc, ti_seq, ti_ix, ti_len, ti_rev, ti_kt, ti_ki, ti_kb, ti_kl, ti_zip, ti_tup, p_ltt, p_all, sh_int, sh_tupI, eqv_int, eqv_tupI, m__law_draw, e1, e2, en, e3, sh_tnil, hsg, eqg, ht, e4, e5, hpa, hqa, hp0, ha, e6, w0, w1, ix_t, c1, c2]
        exact ⟨_, d6, rfl, p6.mono (by omega)⟩
      · by_cases w2 : way = 2
        · have c1 : prim .add [.tuple (cutD (g.map pairD) none (some at_)), .tuple (cutD (g.map pairD) (some (at_ + 1)) none)] = some (false, .tuple (cutD (g.map pairD) none (some at_) ++ cutD (g.map pairD) (some (at_ + 1)) none)) := cat _ _ (by omega)
          have c2 : ∀ y, prim .add [.tuple (cutD (g.map pairD) none (some at_) ++ cutD (g.map pairD) (some (at_ + 1)) none), .tuple [y]] = some (false, .tuple (cutD (g.map pairD) none (some at_) ++ cutD (g.map pairD) (some (at_ + 1)) none ++ [y])) := fun y => cat _ _ (by rw [List.length_append]; show _ + _ + 1 ≤ _; omega)
          simp -implicitDefEqProofs only [r_rd_v, r_rd_p, r_krd, r_rds0, r_rds, r_kco, r_pr, r_kpr, r_kpr2, r_var, r_kvar1, r_kvar2, r_kvar3, r_lit, r_gl, r_un, r_bi, r_cm, r_chn, r_kch3t, r_kch3f, r_and, r_or, r_and1, r_and2, r_or1, r_or2, r_kan2t, r_kan2f, r_kor2t, r_kor2f, r_not, r_kno2, r_ite, r_tup, r_lst, r_ktu2, r_kls2, r_dic, r_kdi2, r_dnewk, r_dnewt, r_ix, r_kix3, r_kix4, r_sl, r_ksl4l, r_ksl4t, r_fn, r_isI, r_kis2, r_call, r_kcl2, r_calla, r_kca2, r_kca3, r_kca4, r_kca5, r_arg0, r_arg, r_kar1, r_kar2, r_kar3, r_kar4, r_kar5, r_kar6, r_nomix0, r_nomix1, r_pm0, r_pm1, r_kpm, r_sh0, r_sh1, r_ksh1, r_ksh2, r_fz_v, r_fz_p, r_kfz1, r_kfz2, r_fzs0, r_fzs1, r_kfs, r_kfs3, r_isL, r_kisl1, r_kisl2, r_isO, r_kiso1, r_kiso2, r_mt, r_kmt2, r_kmt31, r_kmt32, r_kmt4, r_es0, r_es1, r_o0, r_o1, r_ko2, r_tv, r_ktv2, r_ktv3, r_tcm, r_tchn, r_ktb, r_tnot, r_tand, r_tor, r_ta0, r_ta1, r_to0, r_to1, r_c0, r_c1, r_seq, r_ksq2, r_ksq3, r_rng, r_krg2, r_rr, r_krr3, r_enum, r_ken2, r_ken3, r_zip, r_kzi4, r_kzi3l, r_kzi3t, r_seqdl, r_seqdt, r_set, r_kse1, r_kse2, r_kse3, r_kse4, r_knx, r_st, r_kst1, r_kst2, r_kst3, r_sts0, r_unp, r_kup, r_kup2, r_exp, r_kex, r_ret, r_krt1, r_krt2, r_krt3, r_retn, r_iff, r_kif1, r_kif2, r_forr, r_kfo, r_step, r_ksp, r_stp1, r_stp2, r_stepc, r_kcp, r_kcp4, r_whl, r_ixs, r_kxs, r_kxs2, r_kxs6, r_kxs3, r_kxs41, r_kxs42, r_kxs5, r_pass, r_doc, r_brk, r_cont, r_ss0, r_ss1, r_kss1, r_kss2, r_kss3, r_kss4, r_krn1, r_krn2, r_krn3, r_lm0, r_lm1, r_lm2, r_klm, p_add, p_sub, p_neg, p_lt, p_le, p_gt, p_ge, p_abs, p_min, p_max, p_lenl, p_lent, p_tupl, p_tupt, p_lstl, p_lstt, p_revl, p_revt, p_inti, p_isN0, p_notN0, sc_none, sc_bool, sc_int, sc_str, sc_list, sc_tup, sc_dict, t_bool, m_rev, m_clr, ix_l, ix_t, kBi2, kBi, kUn, kCh2, kCh, kAn, kOr, kNo, kIt, kTu, kLs, kDi, kIx2, kIx, kSl3, kSl2, kSl, kFn, kIs, kCl, kMt, kEs2, kEs, kO, kTv, kTn, kTA, kTO, kTC, kSq, kRg, kRr2, kRr, kEn, kZi2, kZi, kCp3, kCp2, sl_small, slt_small, kst_any, kst_st, p_mod, p_fdiv, p_mul1, p_mul2, p_pow, p_eq, p_ne, p_catl, p_catt, m_app, m_ext, rng0, sts1, obind_some, rsbind_ok, List.getElem?_cons_zero, List.getElem?_cons_succ, List.set_cons_zero, List.set_cons_succ, List.map_nil, List.append_nil, List.nil_append, List.cons_append, if_true, if_false, ite_true, ite_false, Bool.false_eq_true, reduceIte, List.length_cons, List.length_nil, List.any_nil, List.any_cons, Bool.and_true, Bool.true_and, Bool.and_false, Bool.false_and, Bool.not_true, Bool.not_false, Bool.or_false, Bool.or_true, Bool.true_or, Bool.false_or, List.isEmpty_nil, List.isEmpty_cons, wipeE, startE, Nat.zero_add, Nat.reduceAdd, Nat.reduceSub, Nat.reduceLeDiff, Nat.le_refl, List.replicate_succ, List.replicate_zero, List.zipWith_cons_cons, List.zipWith_nil_left, List.zipWith_nil_right, Nat.reduceBEq, Nat.reduceEqDiff, decide_true, decide_false, Int.reduceLT, Int.reduceLE, Int.reduceNeg, Int.reduceToNat, Nat.reduceLT, List.take_succ_cons, List.take_zero, List.drop_succ_cons, List.drop_zero, eq_self, Int.reduceEq, ti_sc, ti_seq, ti_ix, ti_len, ti_rev, ti_kt, ti_ki, ti_kb, ti_kl, ti_zip, ti_tup, p_ltt, p_all, sh_int, sh_tupI, eqv_int, eqv_tupI, m__law_draw, e1, e2, en, e3, sh_tnil, hsg, eqg, ht, e4, e5, hpa, hqa, hp0, ha, e6, w0, w1, w2, ix_t, c1, c2]
          exact ⟨_, d6, rfl, p6.mono (by omega)⟩
        · by_cases w3 : way = 3
          · simp -implicitDefEqProofs only [r_rd_v, r_rd_p, r_krd, r_rds0, r_rds, r_kco, r_pr, r_kpr, r_kpr2, r_var, r_kvar1, r_kvar2, r_kvar3, r_lit, r_gl, r_un, r_bi, r_cm, r_chn, r_kch3t, r_kch3f, r_and, r_or, r_and1, r_and2, r_or1, r_or2, r_kan2t, r_kan2f, r_kor2t, r_kor2f, r_not, r_kno2, r_ite, r_tup, r_lst, r_ktu2, r_kls2, r_dic, r_kdi2, r_dnewk, r_dnewt, r_ix, r_kix3, r_kix4, r_sl, r_ksl4l, r_ksl4t, r_fn, r_isI, r_kis2, r_call, r_kcl2, r_calla, r_kca2, r_kca3, r_kca4, r_kca5, r_arg0, r_arg, r_kar1, r_kar2, r_kar3, r_kar4, r_kar5, r_kar6, r_nomix0, r_nomix1, r_pm0, r_pm1, r_kpm, r_sh0, r_sh1, r_ksh1, r_ksh2, r_fz_v, r_fz_p, r_kfz1, r_kfz2, r_fzs0, r_fzs1, r_kfs, r_kfs3, r_isL, r_kisl1, r_kisl2, r_isO, r_kiso1, r_kiso2, r_mt, r_kmt2, r_kmt31, r_kmt32, r_kmt4, r_es0, r_es1, r_o0, r_o1, r_ko2, r_tv, r_ktv2, r_ktv3, r_tcm, r_tchn, r_ktb, r_tnot, r_tand, r_tor, r_ta0, r_ta1, r_to0, r_to1, r_c0, r_c1, r_seq, r_ksq2, r_ksq3, r_rng, r_krg2, r_rr, r_krr3, r_enum, r_ken2, r_ken3, r_zip, r_kzi4, r_kzi3l, r_kzi3t, r_seqdl, r_seqdt, r_set, r_kse1, r_kse2, r_kse3, r_kse4, r_knx, r_st, r_kst1, r_kst2, r_kst3, r_sts0, r_unp, r_kup, r_kup2, r_exp, r_kex, r_ret, r_krt1, r_krt2, r_krt3, r_retn, r_iff, r_kif1, r_kif2, r_forr, r_kfo, r_step, r_ksp, r_stp1, r_stp2, r_stepc, r_kcp, r_kcp4, r_whl, r_ixs, r_kxs, r_kxs2, r_kxs6, r_kxs3, r_kxs41, r_kxs42, r_kxs5, r_pass, r_doc, r_brk, r_cont, r_ss0, r_ss1, r_kss1, r_kss2, r_kss3, r_kss4, r_krn1, r_krn2, r_krn3, r_lm0, r_lm1, r_lm2, r_klm, p_add, p_sub, p_neg, p_lt, p_le, p_gt, p_ge, p_abs, p_min, p_max, p_lenl, p_lent, p_tupl, p_tupt, p_lstl, p_lstt, p_revl, p_revt, p_inti, p_isN0, p_notN0, sc_none, sc_bool, sc_int, sc_str, sc_list, sc_tup, sc_dict, t_bool, m_rev, m_clr, ix_l, ix_t, kBi2, kBi, kUn, kCh2, kCh, kAn, kOr, kNo, kIt, kTu, kLs, kDi, kIx2, kIx, kSl3, kSl2, kSl, kFn, kIs, kCl, kMt, kEs2, kEs, kO, kTv, kTn, kTA, kTO, kTC, kSq, kRg, kRr2, kRr, kEn, kZi2, kZi, kCp3, kCp2, sl_small, slt_small, kst_any, kst_st, p_mod, p_fdiv, p_mul1, p_mul2, p_pow, p_eq, p_ne, p_catl, p_catt, m_app, m_ext, rng0, sts1, obind_some, rsbind_ok, List.getElem?_cons_zero, List.getElem?_cons_succ, List.set_cons_zero, List.set_cons_succ, List.map_nil, List.append_nil, List.nil_append, List.cons_append, if_true, if_false, ite_true, ite_false, Bool.false_eq_true, reduceIte, List.length_cons, List.length_nil, List.any_nil, List.any_cons, Bool.and_true, Bool.true_and, Bool.and_false, Bool.false_and, Bool.not_true, Bool.not_false, Bool.or_false, Bool.or_true, Bool.true_or, Bool.false_or, List.isEmpty_nil, List.isEmpty_cons, wipeE, startE, Nat.zero_add, Nat.reduceAdd, Nat.reduceSub, Nat.reduceLeDiff, Nat.le_refl, List.replicate_succ, List.replicate_zero, List.zipWith_cons_cons, List.zipWith_nil_left, List.zipWith_nil_right, Nat.reduceBEq, Nat.reduceEqDiff, decide_true, decide_false, Int.reduceLT, Int.reduceLE, Int.reduceNeg, Int.reduceToNat, Nat.reduceLT, List.take_succ_cons, List.take_zero, List.drop_succ_cons, List.drop_zero, eq_self, Int.reduceEq, ti_sc, ti_seq, ti_ix, ti_len, ti_rev, ti_kt, ti_ki, ti_kb, ti_kl, ti_zip, ti_tup, p_ltt, p_all, sh_int, sh_tupI, eqv_int, eqv_tupI, m__law_draw, e1, e2, en, e3, sh_tnil, hsg, eqg, ht, e4, e5, hpa, hqa, hp0, ha, e6, w0, w1, w2, w3, ix_t, c6]
            exact ⟨_, d6, rfl, p6.mono (by omega)⟩
          · simp -implicitDefEqProofs only [r_rd_v, r_rd_p, r_krd, r_rds0, r_rds, r_kco, r_pr, r_kpr, r_kpr2, r_var, r_kvar1, r_kvar2, r_kvar3, r_lit, r_gl, r_un, r_bi, r_cm, r_chn, r_kch3t, r_kch3f, r_and, r_or, r_and1, r_and2, r_or1, r_or2, r_kan2t, r_kan2f, r_kor2t, r_kor2f, r_not, r_kno2, r_ite, r_tup, r_lst, r_ktu2, r_kls2, r_dic, r_kdi2, r_dnewk, r_dnewt, r_ix, r_kix3, r_kix4, r_sl, r_ksl4l, r_ksl4t, r_fn, r_isI, r_kis2, r_call, r_kcl2, r_calla, r_kca2, r_kca3, r_kca4, r_kca5, r_arg0, r_arg, r_kar1, r_kar2, r_kar3, r_kar4, r_kar5, r_kar6, r_nomix0, r_nomix1, r_pm0, r_pm1, r_kpm, r_sh0, r_sh1, r_ksh1, r_ksh2, r_fz_v, r_fz_p, r_kfz1, r_kfz2, r_fzs0, r_fzs1, r_kfs, r_kfs3, r_isL, r_kisl1, r_kisl2, r_isO, r_kiso1, r_kiso2, r_mt, r_kmt2, r_kmt31, r_kmt32, r_kmt4, r_es0, r_es1, r_o0, r_o1, r_ko2, r_tv, r_ktv2, r_ktv3, r_tcm, r_tchn, r_ktb, r_tnot, r_tand, r_tor, r_ta0, r_ta1, r_to0, r_to1, r_c0, r_c1, r_seq, r_ksq2, r_ksq3, r_rng, r_krg2, r_rr, r_krr3, r_enum, r_ken2, r_ken3, r_zip, r_kzi4, r_kzi3l, r_kzi3t, r_seqdl, r_seqdt, r_set, r_kse1, r_kse2, r_kse3, r_kse4, r_knx, r_st, r_kst1, r_kst2, r_kst3, r_sts0, r_unp, r_kup, r_kup2, r_exp, r_kex, r_ret, r_krt1, r_krt2, r_krt3, r_retn, r_iff, r_kif1, r_kif2, r_forr, r_kfo, r_step, r_ksp, r_stp1, r_stp2, r_stepc, r_kcp, r_kcp4, r_whl, r_ixs, r_kxs, r_kxs2, r_kxs6, r_kxs3, r_kxs41, r_kxs42, r_kxs5, r_pass, r_doc, r_brk, r_cont, r_ss0, r_ss1, r_kss1, r_kss2, r_kss3, r_kss4, r_krn1, r_krn2, r_krn3, r_lm0, r_lm1, r_lm2, r_klm, p_add, p_sub, p_neg, p_lt, p_le, p_gt, p_ge, p_abs, p_min, p_max, p_lenl, p_lent, p_tupl, p_tupt, p_lstl, p_lstt, p_revl, p_revt, p_inti, p_isN0, p_notN0, sc_none, sc_bool, sc_int, sc_str, sc_list, sc_tup, sc_dict, t_bool, m_rev, m_clr, ix_l, ix_t, kBi2, kBi, kUn, kCh2, kCh, kAn, kOr, kNo, kIt, kTu, kLs, kDi, kIx2, kIx, kSl3, kSl2, kSl, kFn, kIs, kCl, kMt, kEs2, kEs, kO, kTv, kTn, kTA, kTO, kTC, kSq, kRg, kRr2, kRr, kEn, kZi2, kZi, kCp3, kCp2, sl_small, slt_small, kst_any, kst_st, p_mod, p_fdiv, p_mul1, p_mul2, p_pow, p_eq, p_ne, p_catl, p_catt, m_app, m_ext, rng0, sts1, obind_some, rsbind_ok, List.getElem?_cons_zero, List.getElem?_cons_succ, List.set_cons_zero, List.set_cons_succ, List.map_nil, List.append_nil, List.nil_append, List.cons_append, if_true, if_false, ite_true, ite_false, Bool.false_eq_true, reduceIte, List.length_cons, List.length_nil, List.any_nil, List.any_cons, Bool.and_true, Bool.true_and, Bool.and_false, Bool.false_and, Bool.not_true, Bool.not_false, Bool.or_false, Bool.or_true, Bool.true_or, Bool.false_or, List.isEmpty_nil, List.isEmpty_cons, wipeE, startE, Nat.zero_add, Nat.reduceAdd, Nat.reduceSub, Nat.reduceLeDiff, Nat.le_refl, List.replicate_succ, List.replicate_zero, List.zipWith_cons_cons, List.zipWith_nil_left, List.zipWith_nil_right, Nat.reduceBEq, Nat.reduceEqDiff, decide_true, decide_false, Int.reduceLT, Int.reduceLE, Int.reduceNeg, Int.reduceToNat, Nat.reduceLT, List.take_succ_cons, List.take_zero, List.drop_succ_cons, List.drop_zero, eq_self, Int.reduceEq, ti_sc, ti_seq, ti_ix, ti_len, ti_rev, ti_kt, ti_ki, ti_kb, ti_kl, ti_zip, ti_tup, p_ltt, p_all, sh_int, sh_tupI, eqv_int, eqv_tupI, m__law_draw, e1, e2, en, e3, sh_tnil, hsg, eqg, ht, e4, e5, hpa, hqa, hp0, ha, e6, w0, w1, w2, w3, ix_t, c6]
            exact ⟨_, d6, rfl, p6.mono (by omega)⟩
def deepN : Nat → D
  | 0 => .tuple [.int 0]
  | n + 1 => .tuple [deepN n]
theorem deep_sem : f__law_deep.sem [] = .ok false (deepN 38) [] := by
  rw [e__law_deep, runF_eq rfl (by decide)]
  unfold b__law_deep
  simp -implicitDefEqProofs only [r_rd_v, r_rd_p, r_krd, r_rds0, r_rds, r_kco, r_pr, r_kpr, r_kpr2, r_var, r_kvar1, r_kvar2, r_kvar3, r_lit, r_gl, r_un, r_bi, r_cm, r_chn, r_kch3t, r_kch3f, r_and, r_or, r_and1, r_and2, r_or1, r_or2, r_kan2t, r_kan2f, r_kor2t, r_kor2f, r_not, r_kno2, r_ite, r_tup, r_lst, r_ktu2, r_kls2, r_dic, r_kdi2, r_dnewk, r_dnewt, r_ix, r_kix3, r_kix4, r_sl, r_ksl4l, r_ksl4t, r_fn, r_isI, r_kis2, r_call, r_kcl2, r_calla, r_kca2, r_kca3, r_kca4, r_kca5, r_arg0, r_arg, r_kar1, r_kar2, r_kar3, r_kar4, r_kar5, r_kar6, r_nomix0, r_nomix1, r_pm0, r_pm1, r_kpm, r_sh0, r_sh1, r_ksh1, r_ksh2, r_fz_v, r_fz_p, r_kfz1, r_kfz2, r_fzs0, r_fzs1, r_kfs, r_kfs3, r_isL, r_kisl1, r_kisl2, r_isO, r_kiso1, r_kiso2, r_mt, r_kmt2, r_kmt31, r_kmt32, r_kmt4, r_es0, r_es1, r_o0, r_o1, r_ko2, r_tv, r_ktv2, r_ktv3, r_tcm, r_tchn, r_ktb, r_tnot, r_tand, r_tor, r_ta0, r_ta1, r_to0, r_to1, r_c0, r_c1, r_seq, r_ksq2, r_ksq3, r_rng, r_krg2, r_rr, r_krr3, r_enum, r_ken2, r_ken3, r_zip, r_kzi4, r_kzi3l, r_kzi3t, r_seqdl, r_seqdt, r_set, r_kse1, r_kse2, r_kse3, r_kse4, r_knx, r_st, r_kst1, r_kst2, r_kst3, r_sts0, r_unp, r_kup, r_kup2, r_exp, r_kex, r_ret, r_krt1, r_krt2, r_krt3, r_retn, r_iff, r_kif1, r_kif2, r_forr, r_kfo, r_step, r_ksp, r_stp1, r_stp2, r_stepc, r_kcp, r_kcp4, r_whl, r_ixs, r_kxs, r_kxs2, r_kxs6, r_kxs3, r_kxs41, r_kxs42, r_kxs5, r_pass, r_doc, r_brk, r_cont, r_ss0, r_ss1, r_kss1, r_kss2, r_kss3, r_kss4, r_krn1, r_krn2, r_krn3, r_lm0, r_lm1, r_lm2, r_klm, p_add, p_sub, p_neg, p_lt, p_le, p_gt, p_ge, p_abs, p_min, p_max, p_lenl, p_lent, p_tupl, p_tupt, p_lstl, p_lstt, p_revl, p_revt, p_inti, p_isN0, p_notN0, sc_none, sc_bool, sc_int, sc_str, sc_list, sc_tup, sc_dict, t_bool, m_rev, m_clr, ix_l, ix_t, kBi2, kBi, kUn, kCh2, kCh, kAn, kOr, kNo, kIt, kTu, kLs, kDi, kIx2, kIx, kSl3, kSl2, kSl, kFn, kIs, kCl, kMt, kEs2, kEs, kO, kTv, kTn, kTA, kTO, kTC, kSq, kRg, kRr2, kRr, kEn, kZi2, kZi, kCp3, kCp2, sl_small, slt_small, kst_any, kst_st, p_mod, p_fdiv, p_mul1, p_mul2, p_pow, p_eq, p_ne, p_catl, p_catt, m_app, m_ext, rng0, sts1, obind_some, rsbind_ok, List.getElem?_cons_zero, List.getElem?_cons_succ, List.set_cons_zero, List.set_cons_succ, List.map_nil, List.append_nil, List.nil_append, List.cons_append, if_true, if_false, ite_true, ite_false, Bool.false_eq_true, reduceIte, List.length_cons, List.length_nil, List.any_nil, List.any_cons, Bool.and_true, Bool.true_and, Bool.and_false, Bool.false_and, Bool.not_true, Bool.not_false, Bool.or_false, Bool.or_true, Bool.true_or, Bool.false_or, List.isEmpty_nil, List.isEmpty_cons, wipeE, startE, Nat.zero_add, Nat.reduceAdd, Nat.reduceSub, Nat.reduceLeDiff, Nat.le_refl, List.replicate_succ, List.replicate_zero, List.zipWith_cons_cons, List.zipWith_nil_left, List.zipWith_nil_right, Nat.reduceBEq, Nat.reduceEqDiff, decide_true, decide_false, Int.reduceLT, Int.reduceLE, Int.reduceNeg, Int.reduceToNat, Nat.reduceLT, List.take_succ_cons, List.take_zero, List.drop_succ_cons, List.drop_zero, eq_self, Int.reduceEq, ti_sc, ti_seq, ti_ix, ti_len, ti_rev, ti_kt, ti_ki, ti_kb, ti_kl, ti_zip, ti_tup, p_ltt, p_all, sh_int, sh_tupI, eqv_int, eqv_tupI]
  generalize hL : forL _ _ _ = L
  have hI := forL_use hL (fun i e => ∃ y1, e = [some ⟨.sh, deepN i⟩, y1] ∧ ShN y1) ⟨none, rfl, shn0⟩ (by
    intro i x e hx hI
    obtain ⟨y1, rfl, s1⟩ := hI
    obtain ⟨rfl, hi⟩ := rng_at hx
    generalize hS : stepF _ _ _ _ _ = S
    simp -implicitDefEqProofs only [r_rd_v, r_rd_p, r_krd, r_rds0, r_rds, r_kco, r_pr, r_kpr, r_kpr2, r_var, r_kvar1, r_kvar2, r_kvar3, r_lit, r_gl, r_un, r_bi, r_cm, r_chn, r_kch3t, r_kch3f, r_and, r_or, r_and1, r_and2, r_or1, r_or2, r_kan2t, r_kan2f, r_kor2t, r_kor2f, r_not, r_kno2, r_ite, r_tup, r_lst, r_ktu2, r_kls2, r_dic, r_kdi2, r_dnewk, r_dnewt, r_ix, r_kix3, r_kix4, r_sl, r_ksl4l, r_ksl4t, r_fn, r_isI, r_kis2, r_call, r_kcl2, r_calla, r_kca2, r_kca3, r_kca4, r_kca5, r_arg0, r_arg, r_kar1, r_kar2, r_kar3, r_kar4, r_kar5, r_kar6, r_nomix0, r_nomix1, r_pm0, r_pm1, r_kpm, r_sh0, r_sh1, r_ksh1, r_ksh2, r_fz_v, r_fz_p, r_kfz1, r_kfz2, r_fzs0, r_fzs1, r_kfs, r_kfs3, r_isL, r_kisl1, r_kisl2, r_isO, r_kiso1, r_kiso2, r_mt, r_kmt2, r_kmt31, r_kmt32, r_kmt4, r_es0, r_es1, r_o0, r_o1, r_ko2, r_tv, r_ktv2, r_ktv3, r_tcm, r_tchn, r_ktb, r_tnot, r_tand, r_tor, r_ta0, r_ta1, r_to0, r_to1, r_c0, r_c1, r_seq, r_ksq2, r_ksq3, r_rng, r_krg2, r_rr, r_krr3, r_enum, r_ken2, r_ken3, r_zip, r_kzi4, r_kzi3l, r_kzi3t, r_seqdl, r_seqdt, r_set, r_kse1, r_kse2, r_kse3, r_kse4, r_knx, r_st, r_kst1, r_kst2, r_kst3, r_sts0, r_unp, r_kup, r_kup2, r_exp, r_kex, r_ret, r_krt1, r_krt2, r_krt3, r_retn, r_iff, r_kif1, r_kif2, r_forr, r_kfo, r_step, r_ksp, r_stp1, r_stp2, r_stepc, r_kcp, r_kcp4, r_whl, r_ixs, r_kxs, r_kxs2, r_kxs6, r_kxs3, r_kxs41, r_kxs42, r_kxs5, r_pass, r_doc, r_brk, r_cont, r_ss0, r_ss1, r_kss1, r_kss2, r_kss3, r_kss4, r_krn1, r_krn2, r_krn3, r_lm0, r_lm1, r_lm2, r_klm, p_add, p_sub, p_neg, p_lt, p_le, p_gt, p_ge, p_abs, p_min, p_max, p_lenl, p_lent, p_tupl, p_tupt, p_lstl, p_lstt, p_revl, p_revt, p_inti, p_isN0, p_notN0, sc_none, sc_bool, sc_int, sc_str, sc_list, sc_tup, sc_dict, t_bool, m_rev, m_clr, ix_l, ix_t, kBi2, kBi, kUn, kCh2, kCh, kAn, kOr, kNo, kIt, kTu, kLs, kDi, kIx2, kIx, kSl3, kSl2, kSl, kFn, kIs, kCl, kMt, kEs2, kEs, kO, kTv, kTn, kTA, kTO, kTC, kSq, kRg, kRr2, kRr, kEn, kZi2, kZi, kCp3, kCp2, sl_small, slt_small, kst_any, kst_st, p_mod, p_fdiv, p_mul1, p_mul2, p_pow, p_eq, p_ne, p_catl, p_catt, m_app, m_ext, rng0, sts1, obind_some, rsbind_ok, List.getElem?_cons_zero, List.getElem?_cons_succ, List.set_cons_zero, List.set_cons_succ, List.map_nil, List.append_nil, List.nil_append, List.cons_append, if_true, if_false, ite_true, ite_false, Bool.false_eq_true, reduceIte, List.length_cons, List.length_nil, List.any_nil, List.any_cons, Bool.and_true, Bool.true_and, Bool.and_false, Bool.false_and, Bool.not_true, Bool.not_false, Bool.or_false, Bool.or_true, Bool.true_or, Bool.false_or, List.isEmpty_nil, List.isEmpty_cons, wipeE, startE, Nat.zero_add, Nat.reduceAdd, Nat.reduceSub, Nat.reduceLeDiff, Nat.le_refl, List.replicate_succ, List.replicate_zero, List.zipWith_cons_cons, List.zipWith_nil_left, List.zipWith_nil_right, Nat.reduceBEq, Nat.reduceEqDiff, decide_true, decide_false, Int.reduceLT, Int.reduceLE, Int.reduceNeg, Int.reduceToNat, Nat.reduceLT, List.take_succ_cons, List.take_zero, List.drop_succ_cons, List.drop_zero, eq_self, Int.reduceEq, ti_sc, ti_seq, ti_ix, ti_len, ti_rev, ti_kt, ti_ki, ti_kb, ti_kl, ti_zip, ti_tup, p_ltt, p_all, sh_int, sh_tupI, eqv_int, eqv_tupI, s1] at hS
    subst hS
    exact ⟨_, rfl, _, rfl, shn1⟩)
  obtain ⟨e', rfl, y1, rfl, s1⟩ := hI
  simp -implicitDefEqProofs only [r_rd_v, r_rd_p, r_krd, r_rds0, r_rds, r_kco, r_pr, r_kpr, r_kpr2, r_var, r_kvar1, r_kvar2, r_kvar3, r_lit, r_gl, r_un, r_bi, r_cm, r_chn, r_kch3t, r_kch3f, r_and, r_or, r_and1, r_and2, r_or1, r_or2, r_kan2t, r_kan2f, r_kor2t, r_kor2f, r_not, r_kno2, r_ite, r_tup, r_lst, r_ktu2, r_kls2, r_dic, r_kdi2, r_dnewk, r_dnewt, r_ix, r_kix3, r_kix4, r_sl, r_ksl4l, r_ksl4t, r_fn, r_isI, r_kis2, r_call, r_kcl2, r_calla, r_kca2, r_kca3, r_kca4, r_kca5, r_arg0, r_arg, r_kar1, r_kar2, r_kar3, r_kar4, r_kar5, r_kar6, r_nomix0, r_nomix1, r_pm0, r_pm1, r_kpm, r_sh0, r_sh1, r_ksh1, r_ksh2, r_fz_v, r_fz_p, r_kfz1, r_kfz2, r_fzs0, r_fzs1, r_kfs, r_kfs3, r_isL, r_kisl1, r_kisl2, r_isO, r_kiso1, r_kiso2, r_mt, r_kmt2, r_kmt31, r_kmt32, r_kmt4, r_es0, r_es1, r_o0, r_o1, r_ko2, r_tv, r_ktv2, r_ktv3, r_tcm, r_tchn, r_ktb, r_tnot, r_tand, r_tor, r_ta0, r_ta1, r_to0, r_to1, r_c0, r_c1, r_seq, r_ksq2, r_ksq3, r_rng, r_krg2, r_rr, r_krr3, r_enum, r_ken2, r_ken3, r_zip, r_kzi4, r_kzi3l, r_kzi3t, r_seqdl, r_seqdt, r_set, r_kse1, r_kse2, r_kse3, r_kse4, r_knx, r_st, r_kst1, r_kst2, r_kst3, r_sts0, r_unp, r_kup, r_kup2, r_exp, r_kex, r_ret, r_krt1, r_krt2, r_krt3, r_retn, r_iff, r_kif1, r_kif2, r_forr, r_kfo, r_step, r_ksp, r_stp1, r_stp2, r_stepc, r_kcp, r_kcp4, r_whl, r_ixs, r_kxs, r_kxs2, r_kxs6, r_kxs3, r_kxs41, r_kxs42, r_kxs5, r_pass, r_doc, r_brk, r_cont, r_ss0, r_ss1, r_kss1, r_kss2, r_kss3, r_kss4, r_krn1, r_krn2, r_krn3, r_lm0, r_lm1, r_lm2, r_klm, p_add, p_sub, p_neg, p_lt, p_le, p_gt, p_ge, p_abs, p_min, p_max, p_lenl, p_lent, p_tupl, p_tupt, p_lstl, p_lstt, p_revl, p_revt, p_inti, p_isN0, p_notN0, sc_none, sc_bool, sc_int, sc_str, sc_list, sc_tup, sc_dict, t_bool, m_rev, m_clr, ix_l, ix_t, kBi2, kBi, kUn, kCh2, kCh, kAn, kOr, kNo, kIt, kTu, kLs, kDi, kIx2, kIx, kSl3, kSl2, kSl, kFn, kIs, kCl, kMt, kEs2, kEs, kO, kTv, kTn, kTA, kTO, kTC, kSq, kRg, kRr2, kRr, kEn, kZi2, kZi, kCp3, kCp2, sl_small, slt_small, kst_any, kst_st, p_mod, p_fdiv, p_mul1, p_mul2, p_pow, p_eq, p_ne, p_catl, p_catt, m_app, m_ext, rng0, sts1, obind_some, rsbind_ok, List.getElem?_cons_zero, List.getElem?_cons_succ, List.set_cons_zero, List.set_cons_succ, List.map_nil, List.append_nil, List.nil_append, List.cons_append, if_true, if_false, ite_true, ite_false, Bool.false_eq_true, reduceIte, List.length_cons, List.length_nil, List.any_nil, List.any_cons, Bool.and_true, Bool.true_and, Bool.and_false, Bool.false_and, Bool.not_true, Bool.not_false, Bool.or_false, Bool.or_true, Bool.true_or, Bool.false_or, List.isEmpty_nil, List.isEmpty_cons, wipeE, startE, Nat.zero_add, Nat.reduceAdd, Nat.reduceSub, Nat.reduceLeDiff, Nat.le_refl, List.replicate_succ, List.replicate_zero, List.zipWith_cons_cons, List.zipWith_nil_left, List.zipWith_nil_right, Nat.reduceBEq, Nat.reduceEqDiff, decide_true, decide_false, Int.reduceLT, Int.reduceLE, Int.reduceNeg, Int.reduceToNat, Nat.reduceLT, List.take_succ_cons, List.take_zero, List.drop_succ_cons, List.drop_zero, eq_self, Int.reduceEq, ti_sc, ti_seq, ti_ix, ti_len, ti_rev, ti_kt, ti_ki, ti_kb, ti_kl, ti_zip, ti_tup, p_ltt, p_all, sh_int, sh_tupI, eqv_int, eqv_tupI]
  rfl
theorem nb00 : prim .notB [.bool false, .bool false] = some (false, .bool false) := rfl
theorem nb11 : prim .notB [.bool true, .bool true] = some (false, .bool false) := rfl
theorem nb01 : prim .notB [.bool false, .bool true] = some (false, .bool true) := rfl
theorem nb10 : prim .notB [.bool true, .bool false] = some (false, .bool true) := rfl
def things : List D := [.none, .bool true, .int 0, .str "", .str "0=1", .list [], .dict [], .dict [(.int 0, .int 0)], .tuple [.tuple [.int 0]], .tuple [.int 0, .int 0], .tuple [.list [.int 0, .int 0]], .tuple [.tuple [.int 0, .int 0], .none]]
theorem things_bad {room : List Int} : ∀ x ∈ things, goodD room x = false := by
  intro x hx
  unfold things at hx
  simp only [List.mem_cons, List.not_mem_nil, or_false] at hx
  rcases hx with rfl | rfl | rfl | rfl | rfl | rfl | rfl | rfl | rfl | rfl | rfl | rfl <;> first | rfl | skip
  show goodG room (-1) [.tuple [.int 0, .int 0], .none] = false
  simp only [goodG]
  split
  · rfl
  · rfl
theorem eqv_pair {p q : Int × Int} : PyData.eqv (pairD p) (pairD q) = decide (p = q) := by
  unfold pairD
  rw [PyData.eqv, PyData.eqvAll, PyData.eqvAll, PyData.eqvAll, eqv_int, eqv_int, Bool.and_true]
  obtain ⟨a, b⟩ := p
  obtain ⟨c, d⟩ := q
  by_cases h1 : a = c
  · by_cases h2 : b = d
    · rw [decide_eq_true h1, decide_eq_true h2, decide_eq_true (by rw [h1, h2])]
      rfl
    · rw [decide_eq_false h2, Bool.and_false, decide_eq_false (by intro z; cases z; exact h2 rfl)]
  · rw [decide_eq_false h1, Bool.false_and, decide_eq_false (by intro z; cases z; exact h1 rfl)]
theorem eqv_givl {g : List (Int × Int)} : PyData.eqv (.list (g.map pairD)) (.list (g.map pairD)) = true := by
  rw [PyData.eqv, eqvAll_map fun x y => eqv_pair]
  exact decide_eq_true rfl
theorem shp_givl {g : List (Int × Int)} : SeqAt.shaped (.list (g.map pairD)) = true := (shp_list (k := 2) fun d hd => by
  obtain ⟨p, _, rfl⟩ := List.mem_map.mp hd
  exact shp_pair (Nat.le_refl 1)).ok (by decide)
def big : List D := (List.replicate (3000 : Int).toNat [.tuple [.int 0, .int 0]]).flatten
theorem sem_law : ∀ ns : List Int, ns.length ≤ 63 → ∃ fr, f_law_v2.sem [.list (ns.map .int)] = .ok fr (.bool true) [] := by
  intro ns hns
  rw [e_law_v2, runF_eq rfl (by decide)]
  obtain ⟨d0, hpen, p0⟩ := pen_sem hns
  have hm : prim .mul [.tuple [.tuple [.int 0, .int 0]], .int 3000] = some (false, .tuple big) := p_rept ⟨by decide, by decide, by rw [sl_eq]; decide⟩
  have hg1 : f_is_given.sem [.tuple [.int 2, .int 2], .tuple big] = .ok false (.bool false) [] := by
    have := is_given_sem (room := [2, 2]) (.tuple big)
    have e : goodD [2, 2] (.tuple big) = false := by
      unfold big
      have e3 : (3000 : Int).toNat = 2998 + 1 + 1 := rfl
      rw [e3, List.replicate_succ, List.replicate_succ, List.flatten_cons, List.flatten_cons]
      rfl
    rw [e] at this
    exact this
  have hg2 : f_is_given.sem [.tuple [.int 2], deepN 38] = .ok false (.bool false) [] := by
    have := is_given_sem (room := [2]) (deepN 38)
    have e : goodD [2] (deepN 38) = false := rfl
    rw [e] at this
    exact this
  unfold b_law_v2
  simp -implicitDefEqProofs only [r_rd_v, r_rd_p, r_krd, r_rds0, r_rds, r_kco, r_pr, r_kpr, r_kpr2, r_var, r_kvar1, r_kvar2, r_kvar3, r_lit, r_gl, r_un, r_bi, r_cm, r_chn, r_kch3t, r_kch3f, r_and, r_or, r_and1, r_and2, r_or1, r_or2, r_kan2t, r_kan2f, r_kor2t, r_kor2f, r_not, r_kno2, r_ite, r_tup, r_lst, r_ktu2, r_kls2, r_dic, r_kdi2, r_dnewk, r_dnewt, r_ix, r_kix3, r_kix4, r_sl, r_ksl4l, r_ksl4t, r_fn, r_isI, r_kis2, r_call, r_kcl2, r_calla, r_kca2, r_kca3, r_kca4, r_kca5, r_arg0, r_arg, r_kar1, r_kar2, r_kar3, r_kar4, r_kar5, r_kar6, r_nomix0, r_nomix1, r_pm0, r_pm1, r_kpm, r_sh0, r_sh1, r_ksh1, r_ksh2, r_fz_v, r_fz_p, r_kfz1, r_kfz2, r_fzs0, r_fzs1, r_kfs, r_kfs3, r_isL, r_kisl1, r_kisl2, r_isO, r_kiso1, r_kiso2, r_mt, r_kmt2, r_kmt31, r_kmt32, r_kmt4, r_es0, r_es1, r_o0, r_o1, r_ko2, r_tv, r_ktv2, r_ktv3, r_tcm, r_tchn, r_ktb, r_tnot, r_tand, r_tor, r_ta0, r_ta1, r_to0, r_to1, r_c0, r_c1, r_seq, r_ksq2, r_ksq3, r_rng, r_krg2, r_rr, r_krr3, r_enum, r_ken2, r_ken3, r_zip, r_kzi4, r_kzi3l, r_kzi3t, r_seqdl, r_seqdt, r_set, r_kse1, r_kse2, r_kse3, r_kse4, r_knx, r_st, r_kst1, r_kst2, r_kst3, r_sts0, r_unp, r_kup, r_kup2, r_exp, r_kex, r_ret, r_krt1, r_krt2, r_krt3, r_retn, r_iff, r_kif1, r_kif2, r_forr, r_kfo, r_step, r_ksp, r_stp1, r_stp2, r_stepc, r_kcp, r_kcp4, r_whl, r_ixs, r_kxs, r_kxs2, r_kxs6, r_kxs3, r_kxs41, r_kxs42, r_kxs5, r_pass, r_doc, r_brk, r_cont, r_ss0, r_ss1, r_kss1, r_kss2, r_kss3, r_kss4, r_krn1, r_krn2, r_krn3, r_lm0, r_lm1, r_lm2, r_klm, p_add, p_sub, p_neg, p_lt, p_le, p_gt, p_ge, p_abs, p_min, p_max, p_lenl, p_lent, p_tupl, p_tupt, p_lstl, p_lstt, p_revl, p_revt, p_inti, p_isN0, p_notN0, sc_none, sc_bool, sc_int, sc_str, sc_list, sc_tup, sc_dict, t_bool, m_rev, m_clr, ix_l, ix_t, kBi2, kBi, kUn, kCh2, kCh, kAn, kOr, kNo, kIt, kTu, kLs, kDi, kIx2, kIx, kSl3, kSl2, kSl, kFn, kIs, kCl, kMt, kEs2, kEs, kO, kTv, kTn, kTA, kTO, kTC, kSq, kRg, kRr2, kRr, kEn, kZi2, kZi, kCp3, kCp2, sl_small, slt_small, kst_any, kst_st, p_mod, p_fdiv, p_mul1, p_mul2, p_pow, p_eq, p_ne, p_catl, p_catt, m_app, m_ext, rng0, sts1, obind_some, rsbind_ok, List.getElem?_cons_zero, List.getElem?_cons_succ, List.set_cons_zero, List.set_cons_succ, List.map_nil, List.append_nil, List.nil_append, List.cons_append, if_true, if_false, ite_true, ite_false, Bool.false_eq_true, reduceIte, List.length_cons, List.length_nil, List.any_nil, List.any_cons, Bool.and_true, Bool.true_and, Bool.and_false, Bool.false_and, Bool.not_true, Bool.not_false, Bool.or_false, Bool.or_true, Bool.true_or, Bool.false_or, List.isEmpty_nil, List.isEmpty_cons, wipeE, startE, Nat.zero_add, Nat.reduceAdd, Nat.reduceSub, Nat.reduceLeDiff, Nat.le_refl, List.replicate_succ, List.replicate_zero, List.zipWith_cons_cons, List.zipWith_nil_left, List.zipWith_nil_right, Nat.reduceBEq, Nat.reduceEqDiff, decide_true, decide_false, Int.reduceLT, Int.reduceLE, Int.reduceNeg, Int.reduceToNat, Nat.reduceLT, List.take_succ_cons, List.take_zero, List.drop_succ_cons, List.drop_zero, eq_self, Int.reduceEq, ti_sc, ti_seq, ti_ix, ti_len, ti_rev, ti_kt, ti_ki, ti_kb, ti_kl, ti_zip, ti_tup, p_ltt, p_all, sh_int, sh_tupI, eqv_int, eqv_tupI, m__law_pen, hpen, p0.sc, hm, m_is_given, hg1, m__law_deep, deep_sem, hg2, nb00, show isSc (deepN 38) = false from rfl]
  generalize hL : forL _ _ _ = L
  have hI := forL_use hL (fun i e => ∃ d y2 y3 y4 y5 y6 y7 y8 y9, e = [some ⟨.sh, .list (ns.map .int)⟩, some ⟨.own, d⟩, y2, y3, y4, y5, y6, y7, y8, y9] ∧ Pen (1000 * (i : Int)) d ∧ StN y2 ∧ StN y3 ∧ StN y4 ∧ StN y5 ∧ StN y6 ∧ StN y7 ∧ StN y8 ∧ ShN y9)
    ⟨d0, none, none, none, none, none, none, none, none, rfl, p0.mono (by omega), stn0, stn0, stn0, stn0, stn0, stn0, stn0, shn0⟩ (by
    intro i x e hx hI
    obtain ⟨d, y2, y3, y4, y5, y6, y7, y8, y9, rfl, p, s2, s3, s4, s5, s6, s7, s8, s9⟩ := hI
    obtain ⟨rfl, hi⟩ := rng_at hx
    have hi4 : i < 12 := hi
    obtain ⟨room, d1, e1, p1, R⟩ := room_sem p (by omega) (show (4 : Int) ≤ 256 by decide)
    obtain ⟨v, d2, e2, p2, v0, v1⟩ := draw_sem p1 (by omega) (show (0 : Int) < 2 by decide) (by decide)
    obtain ⟨apart, ea, _⟩ := atD_int (cs := [-1, 0]) (i := v) v0 (by show v < 2; exact v1)
    replace ea : atD [.int (-1), .int 0] v = some (.int apart) := ea
    obtain ⟨g, d3, e3, p3, G, _⟩ := given_sem (apart := apart) p2 (by omega) R
    have hg := is_given_sem (room := room) (givD g)
    rw [goodD_giv G] at hg
    obtain ⟨room2, d4, e4, p4, R2⟩ := room_sem p3 (by omega) (show (4 : Int) ≤ 256 by decide)
    have hr2 := right_sem (room := room2) (givD g)
    have hgs : isSc (givD g) = false := rfl
    generalize hS : stepF _ _ _ _ _ = S'
    simp -implicitDefEqProofs only [r_rd_v, r_rd_p, r_krd, r_rds0, r_rds, r_kco, r_pr, r_kpr, r_kpr2, r_var, r_kvar1, r_kvar2, r_kvar3, r_lit, r_gl, r_un, r_bi, r_cm, r_chn, r_kch3t, r_kch3f, r_and, r_or, r_and1, r_and2, r_or1, r_or2, r_kan2t, r_kan2f, r_kor2t, r_kor2f, r_not, r_kno2, r_ite, r_tup, r_lst, r_ktu2, r_kls2, r_dic, r_kdi2, r_dnewk, r_dnewt, r_ix, r_kix3, r_kix4, r_sl, r_ksl4l, r_ksl4t, r_fn, r_isI, r_kis2, r_call, r_kcl2, r_calla, r_kca2, r_kca3, r_kca4, r_kca5, r_arg0, r_arg, r_kar1, r_kar2, r_kar3, r_kar4, r_kar5, r_kar6, r_nomix0, r_nomix1, r_pm0, r_pm1, r_kpm, r_sh0, r_sh1, r_ksh1, r_ksh2, r_fz_v, r_fz_p, r_kfz1, r_kfz2, r_fzs0, r_fzs1, r_kfs, r_kfs3, r_isL, r_kisl1, r_kisl2, r_isO, r_kiso1, r_kiso2, r_mt, r_kmt2, r_kmt31, r_kmt32, r_kmt4, r_es0, r_es1, r_o0, r_o1, r_ko2, r_tv, r_ktv2, r_ktv3, r_tcm, r_tchn, r_ktb, r_tnot, r_tand, r_tor, r_ta0, r_ta1, r_to0, r_to1, r_c0, r_c1, r_seq, r_ksq2, r_ksq3, r_rng, r_krg2, r_rr, r_krr3, r_enum, r_ken2, r_ken3, r_zip, r_kzi4, r_kzi3l, r_kzi3t, r_seqdl, r_seqdt, r_set, r_kse1, r_kse2, r_kse3, r_kse4, r_knx, r_st, r_kst1, r_kst2, r_kst3, r_sts0, r_unp, r_kup, r_kup2, r_exp, r_kex, r_ret, r_krt1, r_krt2, r_krt3, r_retn, r_iff, r_kif1, r_kif2, r_forr, r_kfo, r_step, r_ksp, r_stp1, r_stp2, r_stepc, r_kcp, r_kcp4, r_whl, r_ixs, r_kxs, r_kxs2, r_kxs6, r_kxs3, r_kxs41, r_kxs42, r_kxs5, r_pass, r_doc, r_brk, r_cont, r_ss0, r_ss1, r_kss1, r_kss2, r_kss3, r_kss4, r_krn1, r_krn2, r_krn3, r_lm0, r_lm1, r_lm2, r_klm, p_add, p_sub, p_neg, p_lt, p_le, p_gt, p_ge, p_abs, p_min, p_max, p_lenl, p_lent, p_tupl, p_tupt, p_lstl, p_lstt, p_revl, p_revt, p_inti, p_isN0, p_notN0, sc_none, sc_bool, sc_int, sc_str, sc_list, sc_tup, sc_dict, t_bool, m_rev, m_clr, ix_l, ix_t, kBi2, kBi, kUn, kCh2, kCh, kAn, kOr, kNo, kIt, kTu, kLs, kDi, kIx2, kIx, kSl3, kSl2, kSl, kFn, kIs, kCl, kMt, kEs2, kEs, kO, kTv, kTn, kTA, kTO, kTC, kSq, kRg, kRr2, kRr, kEn, kZi2, kZi, kCp3, kCp2, sl_small, slt_small, kst_any, kst_st, p_mod, p_fdiv, p_mul1, p_mul2, p_pow, p_eq, p_ne, p_catl, p_catt, m_app, m_ext, rng0, sts1, obind_some, rsbind_ok, List.getElem?_cons_zero, List.getElem?_cons_succ, List.set_cons_zero, List.set_cons_succ, List.map_nil, List.append_nil, List.nil_append, List.cons_append, if_true, if_false, ite_true, ite_false, Bool.false_eq_true, reduceIte, List.length_cons, List.length_nil, List.any_nil, List.any_cons, Bool.and_true, Bool.true_and, Bool.and_false, Bool.false_and, Bool.not_true, Bool.not_false, Bool.or_false, Bool.or_true, Bool.true_or, Bool.false_or, List.isEmpty_nil, List.isEmpty_cons, wipeE, startE, Nat.zero_add, Nat.reduceAdd, Nat.reduceSub, Nat.reduceLeDiff, Nat.le_refl, List.replicate_succ, List.replicate_zero, List.zipWith_cons_cons, List.zipWith_nil_left, List.zipWith_nil_right, Nat.reduceBEq, Nat.reduceEqDiff, decide_true, decide_false, Int.reduceLT, Int.reduceLE, Int.reduceNeg, Int.reduceToNat, Nat.reduceLT, List.take_succ_cons, List.take_zero, List.drop_succ_cons, List.drop_zero, eq_self, Int.reduceEq, ti_sc, ti_seq, ti_ix, ti_len, ti_rev, ti_kt, ti_ki, ti_kb, ti_kl, ti_zip, ti_tup, p_ltt, p_all, sh_int, sh_tupI, eqv_int, eqv_tupI, s2, s3, s4, m__law_room, e1, m__law_draw, e2, ix_l, ea, m__law_given, e3, hg, e4, m__law_right, hr2, m_is_given, hgs, nb11] at hS
    generalize hL2 : forL _ _ _ = L2 at hS
    have hI2 := forL_use hL2 (fun j e => ∃ d y5 y6, e = [some ⟨.sh, .list (ns.map .int)⟩, some ⟨.own, d⟩, some ⟨.sh, .int (i : Int)⟩, some ⟨.sh, tupI room⟩, some ⟨.sh, givD g⟩, y5, y6, y7, y8, y9] ∧ Pen (1000 * (i : Int) + 100 + 20 * (j : Int)) d ∧ StN y5 ∧ StN y6)
      ⟨d4, y5, y6, rfl, p4.mono (by omega), s5, s6⟩ (by
      intro j x e hx hI
      obtain ⟨d5, y5, y6, rfl, p5, s5, s6⟩ := hI
      obtain ⟨rfl, hj⟩ := rng_at hx
      have hj3 : j < 5 := hj
      obtain ⟨z, d6, e6, p6⟩ := spoilt_sem p5 (by omega) R G
      have hr := right_sem (room := room) z
      generalize hS2 : stepF _ _ _ _ _ = S2
      cases hz : isSc z with
      | true =>
        simp -implicitDefEqProofs only [r_rd_v, r_rd_p, r_krd, r_rds0, r_rds, r_kco, r_pr, r_kpr, r_kpr2, r_var, r_kvar1, r_kvar2, r_kvar3, r_lit, r_gl, r_un, r_bi, r_cm, r_chn, r_kch3t, r_kch3f, r_and, r_or, r_and1, r_and2, r_or1, r_or2, r_kan2t, r_kan2f, r_kor2t, r_kor2f, r_not, r_kno2, r_ite, r_tup, r_lst, r_ktu2, r_kls2, r_dic, r_kdi2, r_dnewk, r_dnewt, r_ix, r_kix3, r_kix4, r_sl, r_ksl4l, r_ksl4t, r_fn, r_isI, r_kis2, r_call, r_kcl2, r_calla, r_kca2, r_kca3, r_kca4, r_kca5, r_arg0, r_arg, r_kar1, r_kar2, r_kar3, r_kar4, r_kar5, r_kar6, r_nomix0, r_nomix1, r_pm0, r_pm1, r_kpm, r_sh0, r_sh1, r_ksh1, r_ksh2, r_fz_v, r_fz_p, r_kfz1, r_kfz2, r_fzs0, r_fzs1, r_kfs, r_kfs3, r_isL, r_kisl1, r_kisl2, r_isO, r_kiso1, r_kiso2, r_mt, r_kmt2, r_kmt31, r_kmt32, r_kmt4, r_es0, r_es1, r_o0, r_o1, r_ko2, r_tv, r_ktv2, r_ktv3, r_tcm, r_tchn, r_ktb, r_tnot, r_tand, r_tor, r_ta0, r_ta1, r_to0, r_to1, r_c0, r_c1, r_seq, r_ksq2, r_ksq3, r_rng, r_krg2, r_rr, r_krr3, r_enum, r_ken2, r_ken3, r_zip, r_kzi4, r_kzi3l, r_kzi3t, r_seqdl, r_seqdt, r_set, r_kse1, r_kse2, r_kse3, r_kse4, r_knx, r_st, r_kst1, r_kst2, r_kst3, r_sts0, r_unp, r_kup, r_kup2, r_exp, r_kex, r_ret, r_krt1, r_krt2, r_krt3, r_retn, r_iff, r_kif1, r_kif2, r_forr, r_kfo, r_step, r_ksp, r_stp1, r_stp2, r_stepc, r_kcp, r_kcp4, r_whl, r_ixs, r_kxs, r_kxs2, r_kxs6, r_kxs3, r_kxs41, r_kxs42, r_kxs5, r_pass, r_doc, r_brk, r_cont, r_ss0, r_ss1, r_kss1, r_kss2, r_kss3, r_kss4, r_krn1, r_krn2, r_krn3, r_lm0, r_lm1, r_lm2, r_klm, p_add, p_sub, p_neg, p_lt, p_le, p_gt, p_ge, p_abs, p_min, p_max, p_lenl, p_lent, p_tupl, p_tupt, p_lstl, p_lstt, p_revl, p_revt, p_inti, p_isN0, p_notN0, sc_none, sc_bool, sc_int, sc_str, sc_list, sc_tup, sc_dict, t_bool, m_rev, m_clr, ix_l, ix_t, kBi2, kBi, kUn, kCh2, kCh, kAn, kOr, kNo, kIt, kTu, kLs, kDi, kIx2, kIx, kSl3, kSl2, kSl, kFn, kIs, kCl, kMt, kEs2, kEs, kO, kTv, kTn, kTA, kTO, kTC, kSq, kRg, kRr2, kRr, kEn, kZi2, kZi, kCp3, kCp2, sl_small, slt_small, kst_any, kst_st, p_mod, p_fdiv, p_mul1, p_mul2, p_pow, p_eq, p_ne, p_catl, p_catt, m_app, m_ext, rng0, sts1, obind_some, rsbind_ok, List.getElem?_cons_zero, List.getElem?_cons_succ, List.set_cons_zero, List.set_cons_succ, List.map_nil, List.append_nil, List.nil_append, List.cons_append, if_true, if_false, ite_true, ite_false, Bool.false_eq_true, reduceIte, List.length_cons, List.length_nil, List.any_nil, List.any_cons, Bool.and_true, Bool.true_and, Bool.and_false, Bool.false_and, Bool.not_true, Bool.not_false, Bool.or_false, Bool.or_true, Bool.true_or, Bool.false_or, List.isEmpty_nil, List.isEmpty_cons, wipeE, startE, Nat.zero_add, Nat.reduceAdd, Nat.reduceSub, Nat.reduceLeDiff, Nat.le_refl, List.replicate_succ, List.replicate_zero, List.zipWith_cons_cons, List.zipWith_nil_left, List.zipWith_nil_right, Nat.reduceBEq, Nat.reduceEqDiff, decide_true, decide_false, Int.reduceLT, Int.reduceLE, Int.reduceNeg, Int.reduceToNat, Nat.reduceLT, List.take_succ_cons, List.take_zero, List.drop_succ_cons, List.drop_zero, eq_self, Int.reduceEq, ti_sc, ti_seq, ti_ix, ti_len, ti_rev, ti_kt, ti_ki, ti_kb, ti_kl, ti_zip, ti_tup, p_ltt, p_all, sh_int, sh_tupI, eqv_int, eqv_tupI, s5, s6, m__law_spoilt, e6, hz, m__law_right, hr, m_is_given, hg, nb11] at hS2
        subst hS2
        exact ⟨_, rfl, d6, _, _, rfl, p6.mono (by omega), stn_sh, stn_sh⟩
      | false =>
        simp -implicitDefEqProofs only [r_rd_v, r_rd_p, r_krd, r_rds0, r_rds, r_kco, r_pr, r_kpr, r_kpr2, r_var, r_kvar1, r_kvar2, r_kvar3, r_lit, r_gl, r_un, r_bi, r_cm, r_chn, r_kch3t, r_kch3f, r_and, r_or, r_and1, r_and2, r_or1, r_or2, r_kan2t, r_kan2f, r_kor2t, r_kor2f, r_not, r_kno2, r_ite, r_tup, r_lst, r_ktu2, r_kls2, r_dic, r_kdi2, r_dnewk, r_dnewt, r_ix, r_kix3, r_kix4, r_sl, r_ksl4l, r_ksl4t, r_fn, r_isI, r_kis2, r_call, r_kcl2, r_calla, r_kca2, r_kca3, r_kca4, r_kca5, r_arg0, r_arg, r_kar1, r_kar2, r_kar3, r_kar4, r_kar5, r_kar6, r_nomix0, r_nomix1, r_pm0, r_pm1, r_kpm, r_sh0, r_sh1, r_ksh1, r_ksh2, r_fz_v, r_fz_p, r_kfz1, r_kfz2, r_fzs0, r_fzs1, r_kfs, r_kfs3, r_isL, r_kisl1, r_kisl2, r_isO, r_kiso1, r_kiso2, r_mt, r_kmt2, r_kmt31, r_kmt32, r_kmt4, r_es0, r_es1, r_o0, r_o1, r_ko2, r_tv, r_ktv2, r_ktv3, r_tcm, r_tchn, r_ktb, r_tnot, r_tand, r_tor, r_ta0, r_ta1, r_to0, r_to1, r_c0, r_c1, r_seq, r_ksq2, r_ksq3, r_rng, r_krg2, r_rr, r_krr3, r_enum, r_ken2, r_ken3, r_zip, r_kzi4, r_kzi3l, r_kzi3t, r_seqdl, r_seqdt, r_set, r_kse1, r_kse2, r_kse3, r_kse4, r_knx, r_st, r_kst1, r_kst2, r_kst3, r_sts0, r_unp, r_kup, r_kup2, r_exp, r_kex, r_ret, r_krt1, r_krt2, r_krt3, r_retn, r_iff, r_kif1, r_kif2, r_forr, r_kfo, r_step, r_ksp, r_stp1, r_stp2, r_stepc, r_kcp, r_kcp4, r_whl, r_ixs, r_kxs, r_kxs2, r_kxs6, r_kxs3, r_kxs41, r_kxs42, r_kxs5, r_pass, r_doc, r_brk, r_cont, r_ss0, r_ss1, r_kss1, r_kss2, r_kss3, r_kss4, r_krn1, r_krn2, r_krn3, r_lm0, r_lm1, r_lm2, r_klm, p_add, p_sub, p_neg, p_lt, p_le, p_gt, p_ge, p_abs, p_min, p_max, p_lenl, p_lent, p_tupl, p_tupt, p_lstl, p_lstt, p_revl, p_revt, p_inti, p_isN0, p_notN0, sc_none, sc_bool, sc_int, sc_str, sc_list, sc_tup, sc_dict, t_bool, m_rev, m_clr, ix_l, ix_t, kBi2, kBi, kUn, kCh2, kCh, kAn, kOr, kNo, kIt, kTu, kLs, kDi, kIx2, kIx, kSl3, kSl2, kSl, kFn, kIs, kCl, kMt, kEs2, kEs, kO, kTv, kTn, kTA, kTO, kTC, kSq, kRg, kRr2, kRr, kEn, kZi2, kZi, kCp3, kCp2, sl_small, slt_small, kst_any, kst_st, p_mod, p_fdiv, p_mul1, p_mul2, p_pow, p_eq, p_ne, p_catl, p_catt, m_app, m_ext, rng0, sts1, obind_some, rsbind_ok, List.getElem?_cons_zero, List.getElem?_cons_succ, List.set_cons_zero, List.set_cons_succ, List.map_nil, List.append_nil, List.nil_append, List.cons_append, if_true, if_false, ite_true, ite_false, Bool.false_eq_true, reduceIte, List.length_cons, List.length_nil, List.any_nil, List.any_cons, Bool.and_true, Bool.true_and, Bool.and_false, Bool.false_and, Bool.not_true, Bool.not_false, Bool.or_false, Bool.or_true, Bool.true_or, Bool.false_or, List.isEmpty_nil, List.isEmpty_cons, wipeE, startE, Nat.zero_add, Nat.reduceAdd, Nat.reduceSub, Nat.reduceLeDiff, Nat.le_refl, List.replicate_succ, List.replicate_zero, List.zipWith_cons_cons, List.zipWith_nil_left, List.zipWith_nil_right, Nat.reduceBEq, Nat.reduceEqDiff, decide_true, decide_false, Int.reduceLT, Int.reduceLE, Int.reduceNeg, Int.reduceToNat, Nat.reduceLT, List.take_succ_cons, List.take_zero, List.drop_succ_cons, List.drop_zero, eq_self, Int.reduceEq, ti_sc, ti_seq, ti_ix, ti_len, ti_rev, ti_kt, ti_ki, ti_kb, ti_kl, ti_zip, ti_tup, p_ltt, p_all, sh_int, sh_tupI, eqv_int, eqv_tupI, s5, s6, m__law_spoilt, e6, hz, m__law_right, hr, m_is_given, hg, nb11] at hS2
        subst hS2
        exact ⟨_, rfl, d6, _, _, rfl, p6.mono (by omega), stn_sh, stn_sh⟩)
    obtain ⟨e', rfl, d5, y5, y6, rfl, p5, s5, s6⟩ := hI2
    rw [List.length_map, List.length_range] at p5
    have hgl : f_is_given.sem [tupI room, .list (g.map pairD)] = .ok false (.bool false) [] := is_given_sem _
    have hgn : f_is_given.sem [tupI room, .tuple []] = .ok false (.bool true) [] := is_given_sem _
    have hls : prim .list [givD g] = some (true, .list (g.map pairD)) := rfl
    have hz0 : zipDic [.int 0] [.int 0] [] = [(.int 0, .int 0)] := rfl
    have hc : evE [f__law_pen, f_is_given, f__law_deep, f__law_room, f__law_given, f__law_draw, f__law_right, f__law_spoilt] (.comp (.var 9) (.nm 9) (.seq (.var 8)) [(.cm .notB (.call 1 [(.var 3), (.var 9)] []) (.lit (.bool false)))] [9]) [some ⟨.sh, .list (ns.map .int)⟩, some ⟨.own, d5⟩, some ⟨.sh, .int (i : Int)⟩, some ⟨.sh, tupI room⟩, some ⟨.sh, givD g⟩, y5, y6, some ⟨.own, .list (g.map pairD)⟩, some ⟨.own, .list things⟩, y9] =
        .ok (.val true (.list (things.filterMap fun x => if goodD room x = true then some x else none))) [some ⟨.sh, .list (ns.map .int)⟩, some ⟨.own, d5⟩, some ⟨.sh, .int (i : Int)⟩, some ⟨.sh, tupI room⟩, some ⟨.sh, givD g⟩, y5, y6, some ⟨.own, .list (g.map pairD)⟩, some ⟨.sh, .list things⟩, y9] := by
      refine evE_comp_map (h := fun x => x) (e1 := [some ⟨.sh, .list (ns.map .int)⟩, some ⟨.own, d5⟩, some ⟨.sh, .int (i : Int)⟩, some ⟨.sh, tupI room⟩, some ⟨.sh, givD g⟩, y5, y6, some ⟨.own, .list (g.map pairD)⟩, some ⟨.sh, .list things⟩, y9]) (by rw [List.map_id']; simp -implicitDefEqProofs only [r_rd_v, r_rd_p, r_krd, r_rds0, r_rds, r_kco, r_pr, r_kpr, r_kpr2, r_var, r_kvar1, r_kvar2, r_kvar3, r_lit, r_gl, r_un, r_bi, r_cm, r_chn, r_kch3t, r_kch3f, r_and, r_or, r_and1, r_and2, r_or1, r_or2, r_kan2t, r_kan2f, r_kor2t, r_kor2f, r_not, r_kno2, r_ite, r_tup, r_lst, r_ktu2, r_kls2, r_dic, r_kdi2, r_dnewk, r_dnewt, r_ix, r_kix3, r_kix4, r_sl, r_ksl4l, r_ksl4t, r_fn, r_isI, r_kis2, r_call, r_kcl2, r_calla, r_kca2, r_kca3, r_kca4, r_kca5, r_arg0, r_arg, r_kar1, r_kar2, r_kar3, r_kar4, r_kar5, r_kar6, r_nomix0, r_nomix1, r_pm0, r_pm1, r_kpm, r_sh0, r_sh1, r_ksh1, r_ksh2, r_fz_v, r_fz_p, r_kfz1, r_kfz2, r_fzs0, r_fzs1, r_kfs, r_kfs3, r_isL, r_kisl1, r_kisl2, r_isO, r_kiso1, r_kiso2, r_mt, r_kmt2, r_kmt31, r_kmt32, r_kmt4, r_es0, r_es1, r_o0, r_o1, r_ko2, r_tv, r_ktv2, r_ktv3, r_tcm, r_tchn, r_ktb, r_tnot, r_tand, r_tor, r_ta0, r_ta1, r_to0, r_to1, r_c0, r_c1, r_seq, r_ksq2, r_ksq3, r_rng, r_krg2, r_rr, r_krr3, r_enum, r_ken2, r_ken3, r_zip, r_kzi4, r_kzi3l, r_kzi3t, r_seqdl, r_seqdt, r_set, r_kse1, r_kse2, r_kse3, r_kse4, r_knx, r_st, r_kst1, r_kst2, r_kst3, r_sts0, r_unp, r_kup, r_kup2, r_exp, r_kex, r_ret, r_krt1, r_krt2, r_krt3, r_retn, r_iff, r_kif1, r_kif2, r_forr, r_kfo, r_step, r_ksp, r_stp1, r_stp2, r_stepc, r_kcp, r_kcp4, r_whl, r_ixs, r_kxs, r_kxs2, r_kxs6, r_kxs3, r_kxs41, r_kxs42, r_kxs5, r_pass, r_doc, r_brk, r_cont, r_ss0, r_ss1, r_kss1, r_kss2, r_kss3, r_kss4, r_krn1, r_krn2, r_krn3, r_lm0, r_lm1, r_lm2, r_klm, p_add, p_sub, p_neg, p_lt, p_le, p_gt, p_ge, p_abs, p_min, p_max, p_lenl, p_lent, p_tupl, p_tupt, p_lstl, p_lstt, p_revl, p_revt, p_inti, p_isN0, p_notN0, sc_none, sc_bool, sc_int, sc_str, sc_list, sc_tup, sc_dict, t_bool, m_rev, m_clr, ix_l, ix_t, kBi2, kBi, kUn, kCh2, kCh, kAn, kOr, kNo, kIt, kTu, kLs, kDi, kIx2, kIx, kSl3, kSl2, kSl, kFn, kIs, kCl, kMt, kEs2, kEs, kO, kTv, kTn, kTA, kTO, kTC, kSq, kRg, kRr2, kRr, kEn, kZi2, kZi, kCp3, kCp2, sl_small, slt_small, kst_any, kst_st, p_mod, p_fdiv, p_mul1, p_mul2, p_pow, p_eq, p_ne, p_catl, p_catt, m_app, m_ext, rng0, sts1, obind_some, rsbind_ok, List.getElem?_cons_zero, List.getElem?_cons_succ, List.set_cons_zero, List.set_cons_succ, List.map_nil, List.append_nil, List.nil_append, List.cons_append, if_true, if_false, ite_true, ite_false, Bool.false_eq_true, reduceIte, List.length_cons, List.length_nil, List.any_nil, List.any_cons, Bool.and_true, Bool.true_and, Bool.and_false, Bool.false_and, Bool.not_true, Bool.not_false, Bool.or_false, Bool.or_true, Bool.true_or, Bool.false_or, List.isEmpty_nil, List.isEmpty_cons, wipeE, startE, Nat.zero_add, Nat.reduceAdd, Nat.reduceSub, Nat.reduceLeDiff, Nat.le_refl, List.replicate_succ, List.replicate_zero, List.zipWith_cons_cons, List.zipWith_nil_left, List.zipWith_nil_right, Nat.reduceBEq, Nat.reduceEqDiff, decide_true, decide_false, Int.reduceLT, Int.reduceLE, Int.reduceNeg, Int.reduceToNat, Nat.reduceLT, List.take_succ_cons, List.take_zero, List.drop_succ_cons, List.drop_zero, eq_self, Int.reduceEq, ti_sc, ti_seq, ti_ix, ti_len, ti_rev, ti_kt, ti_ki, ti_kb, ti_kl, ti_zip, ti_tup, p_ltt, p_all, sh_int, sh_tupI, eqv_int, eqv_tupI]) (by rcases s9 with rfl | ⟨d, rfl⟩ <;> rfl) (by rw [sl_eq]; decide) fun x hx e he => ?_
      have hb := is_given_sem (room := room) x
      rw [things_bad x hx] at hb
      rw [r_stepc, he, things_bad x hx]
      simp -implicitDefEqProofs only [r_rd_v, r_rd_p, r_krd, r_rds0, r_rds, r_kco, r_pr, r_kpr, r_kpr2, r_var, r_kvar1, r_kvar2, r_kvar3, r_lit, r_gl, r_un, r_bi, r_cm, r_chn, r_kch3t, r_kch3f, r_and, r_or, r_and1, r_and2, r_or1, r_or2, r_kan2t, r_kan2f, r_kor2t, r_kor2f, r_not, r_kno2, r_ite, r_tup, r_lst, r_ktu2, r_kls2, r_dic, r_kdi2, r_dnewk, r_dnewt, r_ix, r_kix3, r_kix4, r_sl, r_ksl4l, r_ksl4t, r_fn, r_isI, r_kis2, r_call, r_kcl2, r_calla, r_kca2, r_kca3, r_kca4, r_kca5, r_arg0, r_arg, r_kar1, r_kar2, r_kar3, r_kar4, r_kar5, r_kar6, r_nomix0, r_nomix1, r_pm0, r_pm1, r_kpm, r_sh0, r_sh1, r_ksh1, r_ksh2, r_fz_v, r_fz_p, r_kfz1, r_kfz2, r_fzs0, r_fzs1, r_kfs, r_kfs3, r_isL, r_kisl1, r_kisl2, r_isO, r_kiso1, r_kiso2, r_mt, r_kmt2, r_kmt31, r_kmt32, r_kmt4, r_es0, r_es1, r_o0, r_o1, r_ko2, r_tv, r_ktv2, r_ktv3, r_tcm, r_tchn, r_ktb, r_tnot, r_tand, r_tor, r_ta0, r_ta1, r_to0, r_to1, r_c0, r_c1, r_seq, r_ksq2, r_ksq3, r_rng, r_krg2, r_rr, r_krr3, r_enum, r_ken2, r_ken3, r_zip, r_kzi4, r_kzi3l, r_kzi3t, r_seqdl, r_seqdt, r_set, r_kse1, r_kse2, r_kse3, r_kse4, r_knx, r_st, r_kst1, r_kst2, r_kst3, r_sts0, r_unp, r_kup, r_kup2, r_exp, r_kex, r_ret, r_krt1, r_krt2, r_krt3, r_retn, r_iff, r_kif1, r_kif2, r_forr, r_kfo, r_step, r_ksp, r_stp1, r_stp2, r_stepc, r_kcp, r_kcp4, r_whl, r_ixs, r_kxs, r_kxs2, r_kxs6, r_kxs3, r_kxs41, r_kxs42, r_kxs5, r_pass, r_doc, r_brk, r_cont, r_ss0, r_ss1, r_kss1, r_kss2, r_kss3, r_kss4, r_krn1, r_krn2, r_krn3, r_lm0, r_lm1, r_lm2, r_klm, p_add, p_sub, p_neg, p_lt, p_le, p_gt, p_ge, p_abs, p_min, p_max, p_lenl, p_lent, p_tupl, p_tupt, p_lstl, p_lstt, p_revl, p_revt, p_inti, p_isN0, p_notN0, sc_none, sc_bool, sc_int, sc_str, sc_list, sc_tup, sc_dict, t_bool, m_rev, m_clr, ix_l, ix_t, kBi2, kBi, kUn, kCh2, kCh, kAn, kOr, kNo, kIt, kTu, kLs, kDi, kIx2, kIx, kSl3, kSl2, kSl, kFn, kIs, kCl, kMt, kEs2, kEs, kO, kTv, kTn, kTA, kTO, kTC, kSq, kRg, kRr2, kRr, kEn, kZi2, kZi, kCp3, kCp2, sl_small, slt_small, kst_any, kst_st, p_mod, p_fdiv, p_mul1, p_mul2, p_pow, p_eq, p_ne, p_catl, p_catt, m_app, m_ext, rng0, sts1, obind_some, rsbind_ok, List.getElem?_cons_zero, List.getElem?_cons_succ, List.set_cons_zero, List.set_cons_succ, List.map_nil, List.append_nil, List.nil_append, List.cons_append, if_true, if_false, ite_true, ite_false, Bool.false_eq_true, reduceIte, List.length_cons, List.length_nil, List.any_nil, List.any_cons, Bool.and_true, Bool.true_and, Bool.and_false, Bool.false_and, Bool.not_true, Bool.not_false, Bool.or_false, Bool.or_true, Bool.true_or, Bool.false_or, List.isEmpty_nil, List.isEmpty_cons, wipeE, startE, Nat.zero_add, Nat.reduceAdd, Nat.reduceSub, Nat.reduceLeDiff, Nat.le_refl, List.replicate_succ, List.replicate_zero, List.zipWith_cons_cons, List.zipWith_nil_left, List.zipWith_nil_right, Nat.reduceBEq, Nat.reduceEqDiff, decide_true, decide_false, Int.reduceLT, Int.reduceLE, Int.reduceNeg, Int.reduceToNat, Nat.reduceLT, List.take_succ_cons, List.take_zero, List.drop_succ_cons, List.drop_zero, eq_self, Int.reduceEq, ti_sc, ti_seq, ti_ix, ti_len, ti_rev, ti_kt, ti_ki, ti_kb, ti_kl, ti_zip, ti_tup, p_ltt, p_all, sh_int, sh_tupI, eqv_int, eqv_tupI, m_is_given, hb, nb00, Bool.false_eq_true]
      exact ⟨_, rfl, rfl⟩
    have e0 : (things.filterMap fun x => if goodD room x = true then some x else none) = [] := List.filterMap_eq_nil_iff.mpr fun x hx => by
      rw [things_bad x hx]
      rfl
    rw [e0] at hc
    have hq : PyData.eqv (.list []) (.list []) = true := by simp [PyData.eqv, PyData.eqvAll]
    unfold things at hc
    simp -implicitDefEqProofs only [r_rd_v, r_rd_p, r_krd, r_rds0, r_rds, r_kco, r_pr, r_kpr, r_kpr2, r_var, r_kvar1, r_kvar2, r_kvar3, r_lit, r_gl, r_un, r_bi, r_cm, r_chn, r_kch3t, r_kch3f, r_and, r_or, r_and1, r_and2, r_or1, r_or2, r_kan2t, r_kan2f, r_kor2t, r_kor2f, r_not, r_kno2, r_ite, r_tup, r_lst, r_ktu2, r_kls2, r_dic, r_kdi2, r_dnewk, r_dnewt, r_ix, r_kix3, r_kix4, r_sl, r_ksl4l, r_ksl4t, r_fn, r_isI, r_kis2, r_call, r_kcl2, r_calla, r_kca2, r_kca3, r_kca4, r_kca5, r_arg0, r_arg, r_kar1, r_kar2, r_kar3, r_kar4, r_kar5, r_kar6, r_nomix0, r_nomix1, r_pm0, r_pm1, r_kpm, r_sh0, r_sh1, r_ksh1, r_ksh2, r_fz_v, r_fz_p, r_kfz1, r_kfz2, r_fzs0, r_fzs1, r_kfs, r_kfs3, r_isL, r_kisl1, r_kisl2, r_isO, r_kiso1, r_kiso2, r_mt, r_kmt2, r_kmt31, r_kmt32, r_kmt4, r_es0, r_es1, r_o0, r_o1, r_ko2, r_tv, r_ktv2, r_ktv3, r_tcm, r_tchn, r_ktb, r_tnot, r_tand, r_tor, r_ta0, r_ta1, r_to0, r_to1, r_c0, r_c1, r_seq, r_ksq2, r_ksq3, r_rng, r_krg2, r_rr, r_krr3, r_enum, r_ken2, r_ken3, r_zip, r_kzi4, r_kzi3l, r_kzi3t, r_seqdl, r_seqdt, r_set, r_kse1, r_kse2, r_kse3, r_kse4, r_knx, r_st, r_kst1, r_kst2, r_kst3, r_sts0, r_unp, r_kup, r_kup2, r_exp, r_kex, r_ret, r_krt1, r_krt2, r_krt3, r_retn, r_iff, r_kif1, r_kif2, r_forr, r_kfo, r_step, r_ksp, r_stp1, r_stp2, r_stepc, r_kcp, r_kcp4, r_whl, r_ixs, r_kxs, r_kxs2, r_kxs6, r_kxs3, r_kxs41, r_kxs42, r_kxs5, r_pass, r_doc, r_brk, r_cont, r_ss0, r_ss1, r_kss1, r_kss2, r_kss3, r_kss4, r_krn1, r_krn2, r_krn3, r_lm0, r_lm1, r_lm2, r_klm, p_add, p_sub, p_neg, p_lt, p_le, p_gt, p_ge, p_abs, p_min, p_max, p_lenl, p_lent, p_tupl, p_tupt, p_lstl, p_lstt, p_revl, p_revt, p_inti, p_isN0, p_notN0, sc_none, sc_bool, sc_int, sc_str, sc_list, sc_tup, sc_dict, t_bool, m_rev, m_clr, ix_l, ix_t, kBi2, kBi, kUn, kCh2, kCh, kAn, kOr, kNo, kIt, kTu, kLs, kDi, kIx2, kIx, kSl3, kSl2, kSl, kFn, kIs, kCl, kMt, kEs2, kEs, kO, kTv, kTn, kTA, kTO, kTC, kSq, kRg, kRr2, kRr, kEn, kZi2, kZi, kCp3, kCp2, sl_small, slt_small, kst_any, kst_st, p_mod, p_fdiv, p_mul1, p_mul2, p_pow, p_eq, p_ne, p_catl, p_catt, m_app, m_ext, rng0, sts1, obind_some, rsbind_ok, List.getElem?_cons_zero, List.getElem?_cons_succ, List.set_cons_zero, List.set_cons_succ, List.map_nil, List.append_nil, List.nil_append, List.cons_append, if_true, if_false, ite_true, ite_false, Bool.false_eq_true, reduceIte, List.length_cons, List.length_nil, List.any_nil, List.any_cons, Bool.and_true, Bool.true_and, Bool.and_false, Bool.false_and, Bool.not_true, Bool.not_false, Bool.or_false, Bool.or_true, Bool.true_or, Bool.false_or, List.isEmpty_nil, List.isEmpty_cons, wipeE, startE, Nat.zero_add, Nat.reduceAdd, Nat.reduceSub, Nat.reduceLeDiff, Nat.le_refl, List.replicate_succ, List.replicate_zero, List.zipWith_cons_cons, List.zipWith_nil_left, List.zipWith_nil_right, Nat.reduceBEq, Nat.reduceEqDiff, decide_true, decide_false, Int.reduceLT, Int.reduceLE, Int.reduceNeg, Int.reduceToNat, Nat.reduceLT, List.take_succ_cons, List.take_zero, List.drop_succ_cons, List.drop_zero, eq_self, Int.reduceEq, ti_sc, ti_seq, ti_ix, ti_len, ti_rev, ti_kt, ti_ki, ti_kb, ti_kl, ti_zip, ti_tup, p_ltt, p_all, sh_int, sh_tupI, eqv_int, eqv_tupI, s7, s8, hls, m_is_given, hgl, hgn, shp_givl, eqv_givl, hz0, hc, sh_nil, hq, nb00, nb11] at hS
    subst hS
    exact ⟨_, rfl, d5, _, _, _, y5, y6, _, _, y9, rfl, p5.mono (by omega), stn_sh, stn_sh, stn_sh, s5, s6, stn_own, stn_sh, s9⟩)
  obtain ⟨e', rfl, d, y2, y3, y4, y5, y6, y7, y8, y9, rfl, _⟩ := hI
  simp -implicitDefEqProofs only [r_rd_v, r_rd_p, r_krd, r_rds0, r_rds, r_kco, r_pr, r_kpr, r_kpr2, r_var, r_kvar1, r_kvar2, r_kvar3, r_lit, r_gl, r_un, r_bi, r_cm, r_chn, r_kch3t, r_kch3f, r_and, r_or, r_and1, r_and2, r_or1, r_or2, r_kan2t, r_kan2f, r_kor2t, r_kor2f, r_not, r_kno2, r_ite, r_tup, r_lst, r_ktu2, r_kls2, r_dic, r_kdi2, r_dnewk, r_dnewt, r_ix, r_kix3, r_kix4, r_sl, r_ksl4l, r_ksl4t, r_fn, r_isI, r_kis2, r_call, r_kcl2, r_calla, r_kca2, r_kca3, r_kca4, r_kca5, r_arg0, r_arg, r_kar1, r_kar2, r_kar3, r_kar4, r_kar5, r_kar6, r_nomix0, r_nomix1, r_pm0, r_pm1, r_kpm, r_sh0, r_sh1, r_ksh1, r_ksh2, r_fz_v, r_fz_p, r_kfz1, r_kfz2, r_fzs0, r_fzs1, r_kfs, r_kfs3, r_isL, r_kisl1, r_kisl2, r_isO, r_kiso1, r_kiso2, r_mt, r_kmt2, r_kmt31, r_kmt32, r_kmt4, r_es0, r_es1, r_o0, r_o1, r_ko2, r_tv, r_ktv2, r_ktv3, r_tcm, r_tchn, r_ktb, r_tnot, r_tand, r_tor, r_ta0, r_ta1, r_to0, r_to1, r_c0, r_c1, r_seq, r_ksq2, r_ksq3, r_rng, r_krg2, r_rr, r_krr3, r_enum, r_ken2, r_ken3, r_zip, r_kzi4, r_kzi3l, r_kzi3t, r_seqdl, r_seqdt, r_set, r_kse1, r_kse2, r_kse3, r_kse4, r_knx, r_st, r_kst1, r_kst2, r_kst3, r_sts0, r_unp, r_kup, r_kup2, r_exp, r_kex, r_ret, r_krt1, r_krt2, r_krt3, r_retn, r_iff, r_kif1, r_kif2, r_forr, r_kfo, r_step, r_ksp, r_stp1, r_stp2, r_stepc, r_kcp, r_kcp4, r_whl, r_ixs, r_kxs, r_kxs2, r_kxs6, r_kxs3, r_kxs41, r_kxs42, r_kxs5, r_pass, r_doc, r_brk, r_cont, r_ss0, r_ss1, r_kss1, r_kss2, r_kss3, r_kss4, r_krn1, r_krn2, r_krn3, r_lm0, r_lm1, r_lm2, r_klm, p_add, p_sub, p_neg, p_lt, p_le, p_gt, p_ge, p_abs, p_min, p_max, p_lenl, p_lent, p_tupl, p_tupt, p_lstl, p_lstt, p_revl, p_revt, p_inti, p_isN0, p_notN0, sc_none, sc_bool, sc_int, sc_str, sc_list, sc_tup, sc_dict, t_bool, m_rev, m_clr, ix_l, ix_t, kBi2, kBi, kUn, kCh2, kCh, kAn, kOr, kNo, kIt, kTu, kLs, kDi, kIx2, kIx, kSl3, kSl2, kSl, kFn, kIs, kCl, kMt, kEs2, kEs, kO, kTv, kTn, kTA, kTO, kTC, kSq, kRg, kRr2, kRr, kEn, kZi2, kZi, kCp3, kCp2, sl_small, slt_small, kst_any, kst_st, p_mod, p_fdiv, p_mul1, p_mul2, p_pow, p_eq, p_ne, p_catl, p_catt, m_app, m_ext, rng0, sts1, obind_some, rsbind_ok, List.getElem?_cons_zero, List.getElem?_cons_succ, List.set_cons_zero, List.set_cons_succ, List.map_nil, List.append_nil, List.nil_append, List.cons_append, if_true, if_false, ite_true, ite_false, Bool.false_eq_true, reduceIte, List.length_cons, List.length_nil, List.any_nil, List.any_cons, Bool.and_true, Bool.true_and, Bool.and_false, Bool.false_and, Bool.not_true, Bool.not_false, Bool.or_false, Bool.or_true, Bool.true_or, Bool.false_or, List.isEmpty_nil, List.isEmpty_cons, wipeE, startE, Nat.zero_add, Nat.reduceAdd, Nat.reduceSub, Nat.reduceLeDiff, Nat.le_refl, List.replicate_succ, List.replicate_zero, List.zipWith_cons_cons, List.zipWith_nil_left, List.zipWith_nil_right, Nat.reduceBEq, Nat.reduceEqDiff, decide_true, decide_false, Int.reduceLT, Int.reduceLE, Int.reduceNeg, Int.reduceToNat, Nat.reduceLT, List.take_succ_cons, List.take_zero, List.drop_succ_cons, List.drop_zero, eq_self, Int.reduceEq, ti_sc, ti_seq, ti_ix, ti_len, ti_rev, ti_kt, ti_ki, ti_kb, ti_kl, ti_zip, ti_tup, p_ltt, p_all, sh_int, sh_tupI, eqv_int, eqv_tupI]
  exact ⟨_, rfl⟩
end K04
open PySem PySem.W PyProof.Rows
set_option maxHeartbeats 0 in
theorem PySem.Challenge.cw_allelse_k04_givens_known_holds : PySem.Challenge.rw_allelse_k04_givens_known.Holds := by
  w_on; o_law; k_head; (case hw => w_witness2)
  k_fill
  refine L2.walk_of (l := PySem.Challenge.rw_allelse_k04_givens_known) (n := 63) (k := 5) (x := "_law_script") (CX := fun _ => L2.CX0) (sp := fun w => PD.spLaw _) rfl (by decide) rfl ⟨rfl, by decide, by decide⟩ (fun w h Y => PySem.W.kIn_of Y) ?F (fun _ _ a ns hl _ hS => ⟨a, ns, rfl, hS, hl, fun _ => rfl⟩) (fun _ _ _ _ _ h => h)
  case F =>
    intro w mg fa h KX G hmg
    refine' K04.all_mk KX G hmg ?a0 ?l0 ?c0 ?k0 ?a1 ?l1 ?c1 ?k1 ?a2 ?l2 ?c2 ?k2 ?a3 ?l3 ?c3 ?k3 ?a4 ?l4 ?c4 ?k4 ?a5 ?l5 ?c5 ?k5 ?a6 ?l6 ?c6 ?k6 ?a7 ?l7 ?c7 ?k7 ?a8 ?l8 ?c8 ?k8 ?a9 ?l9 ?c9 ?k9 ?a10 ?l10 ?c10 ?k10 ?a11 ?l11 ?c11 ?k11 ?a12 ?l12 ?c12 ?k12 ?a13 ?l13 ?c13 ?k13 ?a14 ?l14 ?c14 ?k14 ?a15 ?l15 ?c15 ?k15 ?a16 ?l16 ?c16 ?k16 ?a17 ?l17 ?c17 ?k17 ?z0 ?z1 ?z2 ?z3 ?z4 ?z5 ?z6 ?z7 ?z8 ?z9 K04.sem_law
    (case a0 => k_is); (case l0 => k_is); (case c0 => k_is); (case k0 => k_is); (case a1 => k_is); (case l1 => k_is); (case c1 => k_is); (case k1 => k_is); (case a2 => k_is); (case l2 => k_is); (case c2 => k_is); (case k2 => k_is); (case a3 => k_is); (case l3 => k_is); (case c3 => k_is); (case k3 => k_is); (case a4 => k_is); (case l4 => k_is); (case c4 => k_is); (case k4 => k_is); (case a5 => k_is); (case l5 => k_is); (case c5 => k_is); (case k5 => k_is); (case a6 => k_is); (case l6 => k_is); (case c6 => k_is); (case k6 => k_is); (case a7 => k_is); (case l7 => k_is); (case c7 => k_is); (case k7 => k_is); (case a8 => k_is); (case l8 => k_is); (case c8 => k_is); (case k8 => k_is); (case a9 => k_is); (case l9 => k_is); (case c9 => k_is); (case k9 => k_is); (case a10 => k_is); (case l10 => k_is); (case c10 => k_is); (case k10 => k_is); (case a11 => k_is); (case l11 => k_is); (case c11 => k_is); (case k11 => k_is); (case a12 => k_is); (case l12 => k_is); (case c12 => k_is); (case k12 => k_is); (case a13 => k_is); (case l13 => k_is); (case c13 => k_is); (case k13 => k_is); (case a14 => k_is); (case l14 => k_is); (case c14 => k_is); (case k14 => k_is); (case a15 => k_is); (case l15 => k_is); (case c15 => k_is); (case k15 => k_is); (case a16 => k_is); (case l16 => k_is); (case c16 => k_is); (case k16 => k_is); (case a17 => k_is); (case l17 => k_is); (case c17 => k_is); (case k17 => k_is); (case z0 => k_is); (case z1 => k_is); (case z2 => k_is); (case z3 => k_is); (case z4 => k_is); (case z5 => k_is); (case z6 => k_is); (case z7 => k_is); (case z8 => k_is); (case z9 => k_is)
