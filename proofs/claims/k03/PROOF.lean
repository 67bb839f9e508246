import PyProof.Rows.All
import Wide.All
import OpenK.AllK
import Wide.FinOn
import HandS.ForMost
import HandS.Deep
import KE.DatumMoreOrd
import KE.SortData
import KE.DataAny
import KE.DataCmp
import PyProof.ReprReads
import HandS.TupAny
import HandS.SetFor
import HandS.Strs
import HandS.IsInst
import HandS.WordsExc
import HandS.Flow
import KE.GoesEnum
import HandS.Zip
import HandS.SortInts
import HandS.Conv
import HandS.Style
import PySem.Challenge.RW_viewstrike_k03_closures_and_chains
set_option Elab.async false
set_option linter.all false
set_option maxRecDepth 100000
set_option maxHeartbeats 4000000
/-! Mir: a small interpreter over plain data; its soundness over HandS is in the files behind. -/
namespace Mir
open PySem

/-- values; ref: the n-th mutable object; rol: a list that is only read (the script) -/
inductive D where
  | non | bl (b : Bool) | int (i : Int) | str (x : Str) | tup (xs : List D) | ref (n : Nat) | rol (xs : List D)

inductive MO where
  | lst (xs : List D)
  | dic (kvs : List (D × D))
abbrev MS := List MO

inductive R (α : Type) where
  | ok (a : α) (s : MS)
  | exc (c : Str) (fs : List (Str × D)) (s : MS)
  | bad
def R.bind {α β : Type} (r : R α) (f : α → MS → R β) : R β :=
  match r with
  | .ok a s => f a s
  | .exc c fs s => .exc c fs s
  | .bad => .bad
def R.of {α : Type} (s : MS) : Option α → R α
  | some a => .ok a s
  | none => .bad

inductive Blt where
  | len | list | tuple | all | any | int | repr | min | max | sum | sortedE | sset | lset | rangeL | rangeT
  deriving DecidableEq
inductive Ty where
  | int | bool | str | tuple | list | dict
  deriving DecidableEq
inductive Mth where
  | append | pop | extend | index
  deriving DecidableEq
inductive Tgt where
  | nm (i : Nat)
  | tup (ts : List Tgt)

mutual
inductive CE where
  | var (i : Nat)
  | cst (d : D)
  | glb (x : Str)
  | tup (es : List CE)
  | lst (es : List CE)
  | bin (o : Operator) (a b : CE)
  | neg (a : CE)
  | not (a : CE)
  | and (a b : CE)
  | or (a b : CE)
  | cmp (o : CmpOp) (a b : CE)
  | isN (a : CE)
  | ntN (a : CE)
  | chn (o₁ o₂ : CmpOp) (a b c : CE)
  | ite (t a b : CE)
  | call (f : Str) (as : List CE)
  | blt (f : Blt) (as : List CE)
  | isa (a : CE) (T : Ty)
  | mth (m : Mth) (o : CE) (as : List CE)
  | ix (a b : CE)
  | sl (pl ph : Bool) (a lo hi : CE)
  | lc (e : CE) (own : List Nat) (t : Tgt) (it : CI) (ifs : List CE)
inductive CI where
  | seq (e : CE)
  | rng (es : List CE)
  | enm (e : CE)
  | zip (a b : CE)
end

/-- statements -/
inductive CS where
  | asg (t : Tgt) (e : CE)
  | par (i j : Nat) (a b : CE)
  | par3 (i j l : Nat) (a b c : CE)
  | set (o i v : CE)
  | expr (e : CE)
  | ret (e : CE)
  | if_ (c : CE) (a b : List CS)
  | for_ (t : Tgt) (it : CI) (b : List CS)
  | while_ (c : CE) (b : List CS)
  | aug (i : Nat) (o : Operator) (e : CE)
  | pass
  | brk
  | cnt

abbrev Env := List (Option D)

/-! ### data -/
/-- an object's content as data of the library; n: how deep references are followed -/
def toPy (s : MS) : Nat → D → Option PyData
  | 0, _ => none
  | _ + 1, .non => some .none
  | _ + 1, .bl b => some (.bool b)
  | _ + 1, .int i => some (.int i)
  | _ + 1, .str x => some (.str x)
  | n + 1, .tup xs => (xs.mapM (toPy s n)).map PyData.tuple
  | n + 1, .ref k => match s[k]? with
    | some (.lst xs) => (xs.mapM (toPy s n)).map PyData.list
    | _ => none
  | _ + 1, .rol _ => none
def deepN : Nat := 40
def py (s : MS) (d : D) : Option PyData := toPy s deepN d

def truth (s : MS) : D → Option Bool
  | .non => some false
  | .bl b => some b
  | .int i => some (i != 0)
  | .str x => if x.length ≤ 1000000 then some ((x.length : Int) != 0) else none
  | .tup xs => some (!xs.isEmpty)
  | .ref k => match s[k]? with
    | some (.lst xs) => some (!xs.isEmpty)
    | _ => none
  | .rol _ => none

def lstOf (s : MS) : D → Option (List D)
  | .ref k => match s[k]? with
    | some (.lst xs) => some xs
    | _ => none
  | _ => none
/-- the items of a list or a tuple -/
def seqOf (s : MS) : D → Option (List D)
  | .tup xs => some xs
  | .ref k => match s[k]? with
    | some (.lst xs) => some xs
    | _ => none
  | .rol xs => some xs
  | _ => none

def smallI (i : Int) : Bool := decide (-(2 ^ 64) < i) && decide (i < 2 ^ 64)

/-- a new object -/
def new (s : MS) (o : MO) : R D := .ok (.ref s.length) (s ++ [o])

def binD (o : Operator) (a b : D) (s : MS) : R D :=
  match o, a, b with
  | .Add, .int i, .int j => .ok (.int (i + j)) s
  | .Sub, .int i, .int j => .ok (.int (i - j)) s
  | .Mult, .int i, .int j => if smallI i || smallI j then .ok (.int (i * j)) s else .bad
  | .Mod, .int i, .int j => if 0 < j then .ok (.int (i % j)) s else .bad
  | .FloorDiv, .int i, .int j => if 0 < j ∧ j < 1073741824 then .ok (.int (i / j)) s else .bad
  | .Pow, .int i, .int j => if 0 ≤ j ∧ j ≤ 1000 ∧ i.natAbs < 2 ^ 64 then .ok (.int (i ^ j.toNat)) s else .bad
  | .Add, .tup xs, .tup ys => if xs.length + ys.length ≤ 1000000 then .ok (.tup (xs ++ ys)) s else .bad
  | .Add, .str x, .str y => if x.length + y.length ≤ 1000000 then .ok (.str (x ++ y)) s else .bad
  | .Add, .ref m, .ref n => match lstOf s (.ref m), lstOf s (.ref n) with
    | some xs, some ys => if xs.length + ys.length ≤ 1000000 then new s (.lst (xs ++ ys)) else .bad
    | _, _ => .bad
  | _, _, _ => .bad

def ordI : CmpOp → Int → Int → Option Bool
  | .Lt, i, j => some (decide (i < j))
  | .LtE, i, j => some (decide (i ≤ j))
  | .Gt, i, j => some (decide (j < i))
  | .GtE, i, j => some (decide (j ≤ i))
  | _, _, _ => none
def ordD (o : CmpOp) : D → D → Option Bool
  | .int i, .int j => ordI o i j
  | _, _ => none
def isPlainD (p : PyData) : Bool := PyData.plain p && decide (p.depth ≤ 60)
/-- ==, over data -/
def eqD (s : MS) (a b : D) : Option Bool := do
  let x ← py s a
  let y ← py s b
  if isPlainD x && isPlainD y then some (PyData.eqv x y) else none
def inD (s : MS) (a b : D) : Option Bool := do
  let x ← py s a
  let ys ← (← seqOf s b).mapM (py s)
  if isPlainD x && ys.all isPlainD then some (ys.any fun y => PyData.eqv y x) else none
def cmpD (o : CmpOp) (a b : D) (s : MS) : Option Bool :=
  match o with
  | .Eq => eqD s a b
  | .NotEq => (eqD s a b).map (!·)
  | .In => inD s a b
  | .NotIn => (inD s a b).map (!·)
  | .Is | .IsNot => none
  | .Lt => ordD .Lt a b
  | .LtE => ordD .LtE a b
  | .Gt => ordD .Gt a b
  | .GtE => ordD .GtE a b

def isaD (s : MS) : D → Ty → Option Bool
  | .non, _ => some false
  | .bl _, T => some (T == .bool || T == .int)
  | .int _, T => some (T == .int)
  | .str _, T => some (T == .str)
  | .tup _, T => some (T == .tuple)
  | .ref k, T => match s[k]? with
    | some (.lst _) => some (T == .list)
    | some (.dic _) => some (T == .dict)
    | _ => none
  | .rol _, _ => none

def intsOf : List D → Option (List Int)
  | [] => some []
  | .int i :: r => (intsOf r).map (i :: ·)
  | _ => none

def boolsOf : List D → Option (List Bool)
  | [] => some []
  | .bl i :: r => (boolsOf r).map (i :: ·)
  | _ => none

def insI (x : Int) : List Int → List Int
  | [] => [x]
  | y :: r => if x < y then x :: y :: r else if x = y then y :: r else y :: insI x r
/-- ascending, without duplicates -/
def srt (xs : List Int) : List Int := xs.foldr insI []

/-- ascending -/
def insS (x : Int) : List Int → List Int
  | [] => [x]
  | y :: r => if x ≤ y then x :: y :: r else y :: insS x r
def isort (xs : List Int) : List Int := xs.foldr insS []
/-- a bound of range() -/
def inR (i : Int) : Bool := decide (-(2 ^ 62) ≤ i) && decide (i < 2 ^ 62)

def rgD (a b : Int) : List D := (List.range (b - a).toNat).map fun i => D.int (a + (i : Nat))

def isShow (p : PyData) : Bool := PyData.showable p && decide (p.depth ≤ 60) && !p.hasDict && decide (p.shown.length ≤ 1000000)

def bltD (f : Blt) (as : List D) (s : MS) : R D :=
  match f, as with
  | .len, [d] => match d with
    | .str x => if x.length ≤ 1000000 then .ok (.int x.length) s else .bad
    | d => R.of s ((seqOf s d).map fun xs => .int xs.length)
  | .list, [d] => match seqOf s d with
    | some xs => new s (.lst xs)
    | none => .bad
  | .tuple, [d] => R.of s ((seqOf s d).map .tup)
  | .all, [d] => R.of s (((lstOf s d).bind boolsOf).map fun bs => .bl (bs.all id))
  | .any, [d] => R.of s (((lstOf s d).bind boolsOf).map fun bs => .bl (bs.any id))
  | .int, [.int i] => .ok (.int i) s
  | .int, [.bl b] => .ok (.int (if b then 1 else 0)) s
  | .min, [.int i, .int j] => .ok (.int (if j < i then j else i)) s
  | .max, [.int i, .int j] => .ok (.int (if j > i then j else i)) s
  | .repr, [d] => match py s d with
    | some p => if isShow p then .ok (.str p.shown) s else .bad
    | none => .bad
  | .sset, [d] => match (seqOf s d).bind intsOf with
    | some ns => if ns.length < 64 then new s (.lst ((srt ns).map .int)) else .bad
    | none => .bad
  | .sortedE, [d] => match (lstOf s d).bind intsOf with
    | some ns => if ns.length ≤ 1000 then new s (.lst ((isort ns).map .int)) else .bad
    | none => .bad
  | .rangeL, [.int b] => if inR b && decide (b ≤ 1000000) then new s (.lst (rgD 0 b)) else .bad
  | .rangeL, [.int a, .int b] => if inR a && inR b && decide (b - a ≤ 1000000) then new s (.lst (rgD a b)) else .bad
  | .rangeT, [.int b] => if inR b && decide (b ≤ 1000000) then .ok (.tup (rgD 0 b)) s else .bad
  | .rangeT, [.int a, .int b] => if inR a && inR b && decide (b - a ≤ 1000000) then .ok (.tup (rgD a b)) s else .bad
  | .lset, [d] => match (seqOf s d).bind intsOf with
    | some ns => if ns.length < 64 then .ok (.int (srt ns).length) s else .bad
    | none => .bad
  | _, _ => .bad

/-- the place of an index -/
def ixD (n : Nat) (i : Int) : Option Nat := L2.ixN n i
def getIx (a b : D) (s : MS) : R D :=
  match b with
  | .int i => R.of s ((seqOf s a).bind fun xs => L2.atI xs i)
  | _ => .bad
def partD : Bool → D → Option (Option Int)
  | false, _ => some none
  | true, .int i => some (some i)
  | true, _ => none
def cutD (xs : List D) (lo hi : Option Int) : List D := (xs.drop (HT.sIx xs.length 0 lo)).take (HT.sIx xs.length xs.length hi - HT.sIx xs.length 0 lo)
def getSl (pl ph : Bool) (a lo hi : D) (s : MS) : R D :=
  match partD pl lo, partD ph hi with
  | some l, some h => match a with
    | .tup xs => .ok (.tup (cutD xs l h)) s
    | a => match seqOf s a with
      | some xs => new s (.lst (cutD xs l h))
      | none => .bad
  | _, _ => .bad

def mthD (m : Mth) (o : D) (as : List D) (s : MS) : R D :=
  match o with
  | .ref k => match s[k]? with
    | some (.lst xs) => match m, as with
      | .append, [d] => if xs.length < 1000000 then .ok .non (s.set k (.lst (xs ++ [d]))) else .bad
      | .extend, [d] => match lstOf s d with
        | some ys => if xs.length + ys.length ≤ 1000000 then .ok .non (s.set k (.lst (xs ++ ys))) else .bad
        | none => .bad
      | .pop, [] => match xs.getLast? with
        | some d => .ok d (s.set k (.lst xs.dropLast))
        | none => .bad
      | .pop, [.int i] => match L2.ixN xs.length i with
        | some j => match xs[j]? with
          | some d => .ok d (s.set k (.lst (xs.eraseIdx j)))
          | none => .bad
        | none => .bad
      | _, _ => .bad
    | _ => .bad
  | _ => .bad

def setIx (o i v : D) (s : MS) : R Unit :=
  match o, i with
  | .ref k, .int i => match s[k]? with
    | some (.lst xs) => match L2.ixN xs.length i with
      | some j => .ok () (s.set k (.lst (xs.set j v)))
      | none => .bad
    | _ => .bad
  | _, _ => .bad

def isNon : D → Bool
  | .non => true
  | _ => false

/-! ### what is walked -/
/-- the number of turns; what turn j yields; that the walk ends there -/
structure Src where
  n : Nat
  get : Nat → MS → Option D
  fin : MS → Bool
def srcSeq (s : MS) : D → Option Src
  | .tup xs => some ⟨xs.length, fun j _ => xs[j]?, fun _ => true⟩
  | .ref k => match s[k]? with
    | some (.lst xs) => some ⟨xs.length, fun j s => match s[k]? with
        | some (.lst ys) => if ys.length = xs.length then ys[j]? else none
        | _ => none, fun s => match s[k]? with
        | some (.lst ys) => decide (ys.length = xs.length)
        | _ => false⟩
    | _ => none
  | _ => none
def srcRng (a b : Int) : Src := ⟨(b - a).toNat, fun j _ => some (.int (a + j)), fun _ => true⟩
def srcEnm (s : MS) : D → Option Src
  | .tup xs => some ⟨xs.length, fun j _ => (xs[j]?).map fun d => .tup [.int j, d], fun _ => true⟩
  | .ref k => match s[k]? with
    | some (.lst xs) => some ⟨xs.length, fun j s => match s[k]? with
        | some (.lst ys) => if ys.length = xs.length then (ys[j]?).map fun d => .tup [.int j, d] else none
        | _ => none, fun s => match s[k]? with
        | some (.lst ys) => decide (ys.length = xs.length)
        | _ => false⟩
    | _ => none
  | _ => none
def srcZip : D → D → Option Src
  | .tup xs, .tup ys => some ⟨min xs.length ys.length, fun j _ => match xs[j]?, ys[j]? with
    | some x, some y => some (.tup [x, y])
    | _, _ => none, fun _ => true⟩
  | _, _ => none

/-! ### targets -/
def asgT : Nat → Tgt → D → Env → Option Env
  | 0, _, _, _ => none
  | _ + 1, .nm i, d, e => if i < e.length then some (e.set i (some d)) else none
  | n + 1, .tup ts, .tup ds, e => asgTs n ts ds e
  | _ + 1, _, _, _ => none
where asgTs : Nat → List Tgt → List D → Env → Option Env
  | 0, _, _, _ => none
  | _ + 1, [], [], e => some e
  | n + 1, t :: ts, d :: ds, e => (asgT n t d e).bind (asgTs n ts ds)
  | _ + 1, _, _, _ => none

def wipeE (e : Env) : List Nat → Env
  | [] => e
  | v :: vs => (wipeE e vs).set v none

/-- the list comprehension's turns: k left, j the turn -/
def lcGo (src : Src) (f : D → MS → R (Option D)) : Nat → Nat → List D → MS → R (List D)
  | 0, _, acc, s => if src.fin s then .ok acc s else .bad
  | k + 1, j, acc, s => match src.get j s with
    | none => .bad
    | some d => (f d s).bind fun r s1 => match r with
      | none => lcGo src f k (j + 1) acc s1
      | some y => if acc.length < 1000000 then lcGo src f k (j + 1) (acc ++ [y]) s1 else .bad

/-- what the text's own defs and constants are worth; same: two states are known to be one -/
structure G where
  fn : Str → List D → MS → R D
  con : Str → Option D
  fuel : Nat
  same : MS → MS → Bool

/-- a value that refers to nothing from k on -/
def cleanD (k : Nat) : D → Bool
  | .ref n => decide (n < k)
  | .tup xs => cleanDs k xs
  | .rol xs => cleanDs k xs
  | _ => true
where cleanDs (k : Nat) : List D → Bool
  | [] => true
  | d :: r => cleanD k d && cleanDs k r

/-- a value as a test -/
def tstR (r : R D) : R Bool := r.bind fun x s => R.of s (truth s x)
/-- what was made since s₀ is let go, where nothing else can refer to it -/
def gcB (g : G) (s₀ : MS) (r : R Bool) : R Bool := r.bind fun b s => .ok b (if g.same s₀ (s.take s₀.length) then s₀ else s)
def gcD (g : G) (s₀ : MS) (r : R D) : R D := r.bind fun d s => .ok d (if g.same s₀ (s.take s₀.length) && cleanD s₀.length d then s₀ else s)
mutual
def evE (g : G) (e : Env) : CE → MS → R D
  | .var i, s => match e[i]? with
    | some (some d) => .ok d s
    | _ => .bad
  | .cst d, s => .ok d s
  | .glb x, s => R.of s (g.con x)
  | .tup es, s => (evEs g e es s).bind fun ds s => .ok (.tup ds) s
  | .lst es, s => (evEs g e es s).bind fun ds s => new s (.lst ds)
  | .bin o a b, s => (evE g e a s).bind fun x s => (evE g e b s).bind fun y s => binD o x y s
  | .neg a, s => (evE g e a s).bind fun x s => match x with
    | .int i => .ok (.int (-i)) s
    | _ => .bad
  | .not a, s => (tstR (evE g e a s)).bind fun b s => .ok (.bl (!b)) s
  | .and a b, s => (evE g e a s).bind fun x s => match truth s x with
    | some true => evE g e b s
    | some false => .ok x s
    | none => .bad
  | .or a b, s => (evE g e a s).bind fun x s => match truth s x with
    | some false => evE g e b s
    | some true => .ok x s
    | none => .bad
  | .cmp o a b, s => (evE g e a s).bind fun x s => (evE g e b s).bind fun y s => R.of s ((cmpD o x y s).map .bl)
  | .isN a, s => (evE g e a s).bind fun x s => .ok (.bl (isNon x)) s
  | .ntN a, s => (evE g e a s).bind fun x s => .ok (.bl (!isNon x)) s
  | .chn o p a b c, s => (evE g e a s).bind fun x s => (evE g e b s).bind fun y s => match cmpD o x y s with
    | some true => (evE g e c s).bind fun z s => R.of s ((cmpD p y z s).map .bl)
    | some false => .ok (.bl false) s
    | none => .bad
  | .ite t a b, s => (gcB g s (tstR (evE g e t s))).bind fun c s => if c then evE g e a s else evE g e b s
  | .call f as, s => (evEs g e as s).bind fun ds s => g.fn f ds s
  | .blt f as, s => (evEs g e as s).bind fun ds s => bltD f ds s
  | .isa a T, s => (evE g e a s).bind fun x s => R.of s ((isaD s x T).map .bl)
  | .mth m o as, s => (evE g e o s).bind fun x s => (evEs g e as s).bind fun ds s => mthD m x ds s
  | .ix a b, s => (evE g e a s).bind fun x s => (evE g e b s).bind fun y s => getIx x y s
  | .sl pl ph a lo hi, s => (evE g e a s).bind fun x s => (evE g e lo s).bind fun l s => (evE g e hi s).bind fun h s => getSl pl ph x l h s
  | .lc elt own t it ifs, s => (evI g e it s).bind fun src s =>
    (lcGo src (fun d s => match asgT 9 t d (wipeE e own) with
      | none => .bad
      | some e2 => (evTs g e2 ifs s).bind fun b s => if b then (evE g e2 elt s).bind fun y s => .ok (some y) s else .ok none s) src.n 0 [] s).bind fun ys s => new s (.lst ys)
  termination_by structural x => x
def evTs (g : G) (e : Env) : List CE → MS → R Bool
  | [], s => .ok true s
  | c :: r, s => (gcB g s (tstR (evE g e c s))).bind fun b s => if b then evTs g e r s else .ok false s
  termination_by structural x => x
def evEs (g : G) (e : Env) : List CE → MS → R (List D)
  | [], s => .ok [] s
  | c :: r, s => (evE g e c s).bind fun d s => (evEs g e r s).bind fun ds s => .ok (d :: ds) s
  termination_by structural x => x
def evI (g : G) (e : Env) : CI → MS → R Src
  | .seq c, s => (evE g e c s).bind fun d s => R.of s (srcSeq s d)
  | .rng cs, s => (evEs g e cs s).bind fun ds s => match ds with
    | [.int b] => if inR b then .ok (srcRng 0 b) s else .bad
    | [.int a, .int b] => if inR a && inR b then .ok (srcRng a b) s else .bad
    | _ => .bad
  | .enm c, s => (evE g e c s).bind fun d s => R.of s (srcEnm s d)
  | .zip a b, s => (evE g e a s).bind fun x s => (evE g e b s).bind fun y s => R.of s (srcZip x y)
  termination_by structural x => x
end
end Mir
namespace Mir
example (g : G) (e : Env) (d : D) (s : MS) : evE g e (.cst d) s = .ok d s := rfl
end Mir

namespace Mir
open PySem PySem.Spec PyProof.Rows L2

theorem R.bind_ok {α β : Type} {r : R α} {f : α → MS → R β} {b : β} {s : MS} (h : r.bind f = .ok b s) : ∃ a s1, r = .ok a s1 ∧ f a s1 = .ok b s := by
  cases r with
  | ok a s1 => exact ⟨a, s1, rfl, h⟩
  | exc c fs s1 => cases h
  | bad => cases h
theorem R.of_ok {α : Type} {s s' : MS} {o : Option α} {a : α} (h : R.of s o = .ok a s') : o = some a ∧ s' = s := by
  cases o with
  | none => cases h
  | some b => cases h; exact ⟨rfl, rfl⟩

section
variable (K : PySem.W.Frag)
/-- a list that nobody writes -/
def RoL (H : Hp) (a : Addr) (xs : List V) : Prop := (∃ o, H a = some (.frz o (.lst xs))) ∨ (SqL K (fun _ => none) a xs)
mutual
inductive RelD (ρ : List Addr) (H : Hp) : D → V → Prop where
  | non : RelD ρ H .non .non
  | bl (b : Bool) : RelD ρ H (.bl b) (.bl b)
  | int (i : Int) : RelD ρ H (.int i) (.int i)
  | str (x : Str) : RelD ρ H (.str x) (.str x)
  | tup {ds : List D} {a : Addr} {xs : List V} : SqT K H a xs → RelDs ρ H ds xs → RelD ρ H (.tup ds) (.ref a)
  | ref {n : Nat} {a : Addr} : ρ[n]? = some a → RelD ρ H (.ref n) (.ref a)
  | rol {ds : List D} {a : Addr} {xs : List V} : RoL K H a xs → RelDs ρ H ds xs → RelD ρ H (.rol ds) (.ref a)
inductive RelDs (ρ : List Addr) (H : Hp) : List D → List V → Prop where
  | nil : RelDs ρ H [] []
  | cons {d : D} {v : V} {ds : List D} {vs : List V} : RelD ρ H d v → RelDs ρ H ds vs → RelDs ρ H (d :: ds) (v :: vs)
end
def RelO (ρ : List Addr) (H : Hp) : MO → Addr → Prop
  | .lst ds, a => ∃ xs, H a = some (.lst xs) ∧ RelDs K ρ H ds xs
  | .dic _, _ => False
structure RelS (ρ : List Addr) (H : Hp) (s : MS) : Prop where
  len : ρ.length = s.length
  nd : ρ.Nodup
  obj : ∀ (n : Nat) (o : MO) (a : Addr), s[n]? = some o → ρ[n]? = some a → RelO K ρ H o a
def RelE (ρ : List Addr) (H : Hp) (e : Env) (σ : L2.St) : Prop := e.length = σ.length ∧ ∀ (i : Nat) (d : D), e[i]? = some (some d) → ∃ v, σ[i]? = some (some v) ∧ RelD K ρ H d v
/-- what a step leaves: the objects keep their places, the tuples stay -/
structure HX (H H' : Hp) : Prop where
  tup : ∀ a xs, SqT K H a xs → SqT K H' a xs
  rol : ∀ a xs, RoL K H a xs → RoL K H' a xs
/-- what the state does not know stays as it is -/
def Fr (ρ : List Addr) (H : Hp) (ρ' : List Addr) (H' : Hp) : Prop := ∀ a o, H a = some o → a ∉ ρ → H' a = some o ∧ a ∉ ρ'
def Step (ρ : List Addr) (H : Hp) (ρ' : List Addr) (H' : Hp) : Prop := ρ <+: ρ' ∧ HX K H H' ∧ Fr ρ H ρ' H'
end

section
variable {K : PySem.W.Frag} {ρ ρ' ρ'' : List Addr} {H H' H'' : Hp}
theorem HX.refl : HX K H H := ⟨fun _ _ h => h, fun _ _ h => h⟩
theorem HX.trans (a : HX K H H') (b : HX K H' H'') : HX K H H'' := ⟨fun p xs h => b.tup p xs (a.tup p xs h), fun p xs h => b.rol p xs (a.rol p xs h)⟩
theorem Step.refl : Step K ρ H ρ H := ⟨List.prefix_refl _, .refl, fun _ _ h n => ⟨h, n⟩⟩
theorem Step.trans (a : Step K ρ H ρ' H') (b : Step K ρ' H' ρ'' H'') : Step K ρ H ρ'' H'' :=
  ⟨a.1.trans b.1, a.2.1.trans b.2.1, fun x o h n => let q := a.2.2 x o h n; b.2.2 x o q.1 q.2⟩
theorem pre_get {n : Nat} {a : Addr} (p : ρ <+: ρ') (h : ρ[n]? = some a) : ρ'[n]? = some a := by
  obtain ⟨t, rfl⟩ := p
  have hn : n < ρ.length := (List.getElem?_eq_some_iff.mp h).1
  rw [List.getElem?_append_left hn]
  exact h
mutual
theorem RelD.mono (p : ρ <+: ρ') (x : HX K H H') : ∀ {d : D} {v : V}, RelD K ρ H d v → RelD K ρ' H' d v
  | _, _, .non => .non
  | _, _, .bl b => .bl b
  | _, _, .int i => .int i
  | _, _, .str x => .str x
  | _, _, .tup h r => .tup (x.tup _ _ h) (RelDs.mono p x r)
  | _, _, .ref h => .ref (pre_get p h)
  | _, _, .rol h r => .rol (x.rol _ _ h) (RelDs.mono p x r)
theorem RelDs.mono (p : ρ <+: ρ') (x : HX K H H') : ∀ {d : List D} {v : List V}, RelDs K ρ H d v → RelDs K ρ' H' d v
  | _, _, .nil => .nil
  | _, _, .cons h r => .cons (RelD.mono p x h) (RelDs.mono p x r)
end
theorem RelD.step (st : Step K ρ H ρ' H') {d : D} {v : V} (r : RelD K ρ H d v) : RelD K ρ' H' d v := r.mono st.1 st.2.1
theorem RelDs.step (st : Step K ρ H ρ' H') {d : List D} {v : List V} (r : RelDs K ρ H d v) : RelDs K ρ' H' d v := r.mono st.1 st.2.1
theorem RelE.mono {e : Env} {σ : L2.St} (p : ρ <+: ρ') (x : HX K H H') (h : RelE K ρ H e σ) : RelE K ρ' H' e σ :=
  ⟨h.1, fun i d hi => let ⟨v, h1, h2⟩ := h.2 i d hi; ⟨v, h1, h2.mono p x⟩⟩
theorem RelE.step {e : Env} {σ : L2.St} (st : Step K ρ H ρ' H') (h : RelE K ρ H e σ) : RelE K ρ' H' e σ := h.mono st.1 st.2.1
theorem RelDs.length : ∀ {ds : List D} {vs : List V}, RelDs K ρ H ds vs → ds.length = vs.length
  | _, _, .nil => rfl
  | _, _, .cons _ r => by rw [List.length_cons, List.length_cons, RelDs.length r]
theorem RelDs.get : ∀ {ds : List D} {vs : List V} {i : Nat} {d : D}, RelDs K ρ H ds vs → ds[i]? = some d → ∃ v, vs[i]? = some v ∧ RelD K ρ H d v
  | _, _, _, _, .nil, h => by simp at h
  | _, _, 0, _, .cons h _, e => by simp at e; subst e; exact ⟨_, rfl, h⟩
  | _, _, i + 1, _, .cons _ r, e => by
    obtain ⟨v, h1, h2⟩ := RelDs.get (i := i) r (by simpa using e)
    exact ⟨v, by simpa using h1, h2⟩
theorem RelDs.append : ∀ {ds es : List D} {vs ws : List V}, RelDs K ρ H ds vs → RelDs K ρ H es ws → RelDs K ρ H (ds ++ es) (vs ++ ws)
  | _, _, _, _, .nil, s => s
  | _, _, _, _, .cons h r, s => .cons h (RelDs.append r s)
theorem RelDs.take : ∀ {ds : List D} {vs : List V} (n : Nat), RelDs K ρ H ds vs → RelDs K ρ H (ds.take n) (vs.take n)
  | _, _, 0, _ => .nil
  | _, _, _ + 1, .nil => .nil
  | _, _, n + 1, .cons h r => .cons h (RelDs.take n r)
theorem RelDs.drop : ∀ {ds : List D} {vs : List V} (n : Nat), RelDs K ρ H ds vs → RelDs K ρ H (ds.drop n) (vs.drop n)
  | _, _, 0, r => r
  | _, _, _ + 1, .nil => .nil
  | _, _, n + 1, .cons _ r => RelDs.drop n r
theorem RelDs.set {d : D} {v : V} (h : RelD K ρ H d v) : ∀ {ds : List D} {vs : List V} (n : Nat), RelDs K ρ H ds vs → RelDs K ρ H (ds.set n d) (vs.set n v)
  | _, _, _, .nil => .nil
  | _, _, 0, .cons _ r => .cons h r
  | _, _, n + 1, .cons h' r => .cons h' (RelDs.set h n r)
theorem RelDs.eraseIdx : ∀ {ds : List D} {vs : List V} (n : Nat), RelDs K ρ H ds vs → RelDs K ρ H (ds.eraseIdx n) (vs.eraseIdx n)
  | _, _, _, .nil => .nil
  | _, _, 0, .cons _ r => r
  | _, _, n + 1, .cons h r => .cons h (RelDs.eraseIdx n r)
theorem RelDs.dropLast : ∀ {ds : List D} {vs : List V}, RelDs K ρ H ds vs → RelDs K ρ H ds.dropLast vs.dropLast
  | _, _, .nil => .nil
  | _, _, .cons h .nil => .nil
  | _, _, .cons h (.cons h' r) => .cons h (RelDs.dropLast (.cons h' r))

/-! ### heaps -/
theorem sqT_new {p a : Addr} {o : HO} {xs : List V} (hp : H p = none) (h : SqT K H a xs) : SqT K (upd H p o) a xs := by
  rcases h with (h | ⟨u, h⟩) | h
  · exact .inl (.inl (by rw [upd_ne (ne_of_none h hp)]; exact h))
  · exact .inl (.inr ⟨u, by rw [upd_ne (ne_of_none h hp)]; exact h⟩)
  · exact .inr h
theorem roL_new {p a : Addr} {o : HO} {xs : List V} (hp : H p = none) (h : RoL K H a xs) : RoL K (upd H p o) a xs := by
  rcases h with ⟨u, h⟩ | h
  · exact .inl ⟨u, by rw [upd_ne (ne_of_none h hp)]; exact h⟩
  · exact .inr h
theorem HX.new {p : Addr} {o : HO} (hp : H p = none) : HX K H (upd H p o) := ⟨fun _ _ h => sqT_new hp h, fun _ _ h => roL_new hp h⟩
theorem HX.set {p : Addr} {o : HO} {ys : List V} (hp : H p = some (.lst ys)) : HX K H (upd H p o) := ⟨fun a xs h => by
  rcases h with (h | ⟨u, h⟩) | h
  · exact .inl (.inl (by rw [upd_ne (ne_of h hp (by intro z; cases z))]; exact h))
  · exact .inl (.inr ⟨u, by rw [upd_ne (ne_of h hp (by intro z; cases z))]; exact h⟩)
  · exact .inr h, fun a xs h => by
  rcases h with ⟨u, h⟩ | h
  · exact .inl ⟨u, by rw [upd_ne (ne_of h hp (by intro z; cases z))]; exact h⟩
  · exact .inr h⟩
theorem Step.fresh {p : Addr} {o : HO} (hp : H p = none) : Step K ρ H ρ (upd H p o) := ⟨List.prefix_refl _, .new hp, fun a o' h n => ⟨by rw [upd_ne (ne_of_none h hp)]; exact h, n⟩⟩
theorem RoL.sq {a : Addr} {xs : List V} (h : RoL K H a xs) : SqL K H a xs := by
  rcases h with ⟨u, h⟩ | h
  · exact .inl (.inr ⟨u, h⟩)
  · rcases h with (h | ⟨u, h⟩) | h
    · cases h
    · cases h
    · exact .inr h
theorem RelO.step {o : MO} {a : Addr} (st : Step K ρ H ρ' H') (hl : ∀ xs, H a = some (.lst xs) → H' a = some (.lst xs)) (h : RelO K ρ H o a) : RelO K ρ' H' o a := by
  cases o with
  | lst ds => obtain ⟨xs, h1, h2⟩ := h; exact ⟨xs, hl _ h1, h2.step st⟩
  | dic _ => exact h.elim
variable {s : MS}
theorem RelS.there (S : RelS K ρ H s) {n : Nat} {o : MO} (h : s[n]? = some o) : ∃ a, ρ[n]? = some a ∧ RelO K ρ H o a := by
  have hn : n < ρ.length := by rw [S.len]; exact (List.getElem?_eq_some_iff.mp h).1
  exact ⟨ρ[n], by simp [hn], S.obj n o _ h (by simp [hn])⟩
theorem RelS.lst (S : RelS K ρ H s) {n : Nat} {ds : List D} (h : s[n]? = some (.lst ds)) : ∃ a xs, ρ[n]? = some a ∧ H a = some (.lst xs) ∧ RelDs K ρ H ds xs := by
  obtain ⟨a, h1, xs, h2, h3⟩ := S.there h
  exact ⟨a, xs, h1, h2, h3⟩
/-- a new thing that the state does not know -/
theorem RelS.more {p : Addr} {o : HO} (S : RelS K ρ H s) (hp : H p = none) : RelS K ρ (upd H p o) s :=
  ⟨S.len, S.nd, fun n o' a h1 h2 => (S.obj n o' a h1 h2).step (.fresh hp) fun xs h => by rw [upd_ne (ne_of_none h hp)]; exact h⟩
theorem RelS.tracked (S : RelS K ρ H s) {a : Addr} (h : a ∈ ρ) : H a ≠ none := by
  obtain ⟨n, hn, e⟩ := List.getElem_of_mem h
  have hs : n < s.length := by rw [← S.len]; exact hn
  have q := S.obj n s[n] a (by simp [hs]) (by simp [hn, e])
  generalize s[n] = o at q
  cases o with
  | lst ds => obtain ⟨xs, h1, _⟩ := q; rw [h1]; intro z; cases z
  | dic _ => exact q.elim
/-- a new list of the state -/
theorem RelS.new {p : Addr} {ds : List D} {xs : List V} (S : RelS K ρ H s) (hp : H p = none) (r : RelDs K ρ H ds xs) :
    RelS K (ρ ++ [p]) (upd H p (.lst xs)) (s ++ [.lst ds]) ∧ Step K ρ H (ρ ++ [p]) (upd H p (.lst xs)) ∧ (ρ ++ [p])[s.length]? = some p := by
  have st : Step K ρ H (ρ ++ [p]) (upd H p (.lst xs)) := ⟨List.prefix_append _ _, .new hp, fun a o h n => ⟨by rw [upd_ne (ne_of_none h hp)]; exact h, fun z => (List.mem_append.mp z).elim n fun z => ne_of_none h hp (by simpa using z)⟩⟩
  refine ⟨⟨by rw [List.length_append, List.length_append, S.len]; rfl, ?_, fun n o a h1 h2 => ?_⟩, st, ?_⟩
  · rw [List.nodup_append]
    refine ⟨S.nd, by simp, fun a ha b hb => ?_⟩
    have e : b = p := by simpa using hb
    rintro rfl
    exact S.tracked ha (e ▸ hp)
  · by_cases hn : n < s.length
    · rw [List.getElem?_append_left hn] at h1
      rw [List.getElem?_append_left (by rw [S.len]; exact hn)] at h2
      exact (S.obj n o a h1 h2).step st fun xs h => by rw [upd_ne (ne_of_none h hp)]; exact h
    · have e : n = s.length := by
        have := (List.getElem?_eq_some_iff.mp h1).1
        rw [List.length_append] at this
        simp at this
        omega
      subst e
      rw [List.getElem?_append_right (Nat.le_refl _)] at h1
      rw [← S.len, List.getElem?_append_right (Nat.le_refl _)] at h2
      simp at h1 h2
      subst h1; subst h2
      exact ⟨xs, upd_same, r.step st⟩
  · rw [← S.len, List.getElem?_append_right (Nat.le_refl _)]
    simp
/-- a list of the state gets other items -/
theorem RelS.put {n : Nat} {p : Addr} {ds : List D} {xs : List V} {ys : List V} (S : RelS K ρ H s) (hn : ρ[n]? = some p) (hp : H p = some (.lst ys)) (r : RelDs K ρ H ds xs) :
    RelS K ρ (upd H p (.lst xs)) (s.set n (.lst ds)) ∧ Step K ρ H ρ (upd H p (.lst xs)) := by
  have hm : p ∈ ρ := List.mem_of_getElem? hn
  have st : Step K ρ H ρ (upd H p (.lst xs)) := ⟨List.prefix_refl _, .set hp, fun a o h n => ⟨by rw [upd_ne (show a ≠ p from fun e => n (by rw [e]; exact hm))]; exact h, n⟩⟩
  refine ⟨⟨by rw [List.length_set, S.len], S.nd, fun m o a h1 h2 => ?_⟩, st⟩
  by_cases e : n = m
  · subst e
    have hl : n < s.length := by
      have := (List.getElem?_eq_some_iff.mp h1).1
      rw [List.length_set] at this
      exact this
    rw [List.getElem?_set_self hl] at h1
    rw [hn] at h2
    cases h1; cases h2
    exact ⟨xs, upd_same, r.step st⟩
  · rw [List.getElem?_set_ne e] at h1
    refine (S.obj m o a h1 h2).step st fun zs h => ?_
    have : a ≠ p := by
      rintro rfl
      obtain ⟨l1, e1⟩ := List.getElem?_eq_some_iff.mp hn
      obtain ⟨l2, e2⟩ := List.getElem?_eq_some_iff.mp h2
      exact e ((List.getElem_inj S.nd).mp (e1.trans e2.symm))
    rw [upd_ne this]
    exact h
end
end Mir

namespace Mir
open PySem PySem.Spec PyProof.Rows L2

/-! ### what a value reads as -/
section
variable {X : Cx} {pins : List (Addr × Obj)} {σ : L2.St} {H : Hp} {s : Shared} {ρ : List Addr} {ms : MS}
theorem mapM_cons_some {α β : Type} {f : α → Option β} {a : α} {l : List α} {r : List β} (h : (a :: l).mapM f = some r) : ∃ b bs, f a = some b ∧ l.mapM f = some bs ∧ r = b :: bs := by
  rw [List.mapM_cons] at h
  cases e1 : f a with
  | none => rw [e1] at h; cases h
  | some b =>
    rw [e1] at h
    cases e2 : l.mapM f with
    | none => rw [e2] at h; cases h
    | some bs =>
      rw [e2] at h
      cases h
      exact ⟨b, bs, rfl, rfl, rfl⟩
theorem readsAll_of {f : D → Option PyData} (ih : ∀ (d : D) (x : V) (v : Value) (p : PyData), RelD X.K ρ H d x → RelV x v → f d = some p → ∃ as, Reads s.heap v p as) :
    ∀ (ds : List D) (xs : List V) (vs : List Value) (ps : List PyData), RelDs X.K ρ H ds xs → Vals xs vs → ds.mapM f = some ps → ∃ as, ReadsAll s.heap vs ps as
  | [], _, _, ps, .nil, .nil, h => by
    have e : ps = [] := by
      have : ([] : List D).mapM f = some [] := rfl
      rw [this] at h
      exact (Option.some.inj h).symm
    subst e
    exact ⟨_, .nil⟩
  | d :: ds, _, _, ps, .cons r rs, .cons q qs, h => by
    obtain ⟨b, bs, h1, h2, rfl⟩ := mapM_cons_some h
    obtain ⟨as, r1⟩ := ih _ _ _ _ r q h1
    obtain ⟨cs, r2⟩ := readsAll_of ih ds _ _ bs rs qs h2
    exact ⟨_, .cons r1 r2⟩
theorem reads_of (I : Inv X pins σ H s) (S : RelS X.K ρ H ms) : ∀ (n : Nat) (d : D) (x : V) (v : Value) (p : PyData), RelD X.K ρ H d x → RelV x v → toPy ms n d = some p → ∃ as, Reads s.heap v p as
  | 0, _, _, _, _, _, _, h => by simp [toPy] at h
  | n + 1, _, _, _, p, .non, rv, h => by
    cases (show _ = Value.none from rv)
    simp [toPy] at h; subst h
    exact ⟨_, .none⟩
  | n + 1, _, _, _, p, .bl b, rv, h => by
    cases (show _ = Value.bool b from rv)
    simp [toPy] at h; subst h
    exact ⟨_, .bool b⟩
  | n + 1, _, _, _, p, .int i, rv, h => by
    obtain ⟨t, rfl⟩ := rv
    simp [toPy] at h; subst h
    exact ⟨_, .int i t⟩
  | n + 1, _, _, _, p, .str z, rv, h => by
    obtain ⟨t, rfl⟩ := rv
    simp [toPy] at h; subst h
    exact ⟨_, .str z t⟩
  | n + 1, _, _, _, p, .tup (ds := ds) (a := a) (xs := xs) ht rs, rv, h => by
    cases (show _ = Value.ref a from rv)
    simp only [toPy] at h
    obtain ⟨ps, h1, rfl⟩ := Option.map_eq_some_iff.mp h
    obtain ⟨its, r, ⟨o, e1, e2, m, e3⟩, _⟩ := I.tuple ht
    obtain ⟨as, ra⟩ := readsAll_of (reads_of I S n) ds xs its ps rs r h1
    exact ⟨_, .tuple e1 e2 e3 (by simpa using ra)⟩
  | n + 1, _, _, _, p, .ref (n := k) (a := a) hk, rv, h => by
    cases (show _ = Value.ref a from rv)
    simp only [toPy] at h
    split at h
    · rename_i ds e
      obtain ⟨ps, h1, rfl⟩ := Option.map_eq_some_iff.mp h
      obtain ⟨a', xs, h2, h3, rs⟩ := S.lst e
      rw [hk] at h2; cases h2
      obtain ⟨its, r, ⟨o, m, e1, e2, _, e3⟩, _⟩ := I.list (SqL.of h3)
      obtain ⟨as, ra⟩ := readsAll_of (reads_of I S n) ds xs its ps rs r h1
      exact ⟨_, .list e1 e2 e3 (by simpa using ra)⟩
    · cases h
  | n + 1, _, _, _, p, .rol _ _, rv, h => by simp [toPy] at h
end

/-! ### by values -/
section
variable (K : PySem.W.Frag)
/-- what follows once d is told in the state s' -/
def Kt (ρ : List Addr) (H : Hp) (Q : VK) (s' : MS) (d : D) : Prop := ∀ ρ' H' v, Step K ρ H ρ' H' → RelS K ρ' H' s' → RelD K ρ' H' d v → Q v H'
def rOp2 (f : D → D → MS → R D) : R2 := fun x y H Q => ∃ ρ s a b d s', RelS K ρ H s ∧ RelD K ρ H a x ∧ RelD K ρ H b y ∧ f a b s = .ok d s' ∧ Kt K ρ H Q s' d
def rOps (f : List D → MS → R D) : List V → Hp → VK → Prop := fun xs H Q => ∃ ρ s as d s', RelS K ρ H s ∧ RelDs K ρ H as xs ∧ f as s = .ok d s' ∧ Kt K ρ H Q s' d
def rMth (f : D → List D → MS → R D) : V → List V → Hp → VK → Prop := fun x xs H Q => ∃ ρ s a as d s', RelS K ρ H s ∧ RelD K ρ H a x ∧ RelDs K ρ H as xs ∧ f a as s = .ok d s' ∧ Kt K ρ H Q s' d
end
section
variable {K : PySem.W.Frag} {ρ : List Addr} {H : Hp} {Q : VK} {s : MS} {d : D}
theorem Kt.now {v : V} (k : Kt K ρ H Q s d) (S : RelS K ρ H s) (r : RelD K ρ H d v) : Q v H := k ρ H v .refl S r
theorem Kt.tup {p : Addr} {ds : List D} {xs : List V} (k : Kt K ρ H Q s (.tup ds)) (S : RelS K ρ H s) (hp : H p = none) (r : RelDs K ρ H ds xs) : Q (.ref p) (upd H p (.tup xs)) := by
  have st : Step K ρ H ρ (upd H p (.tup xs)) := .fresh hp
  exact k ρ _ _ st (S.more hp) (.tup (SqT.of upd_same) (r.step st))
theorem Kt.new {p : Addr} {ds : List D} {xs : List V} (k : Kt K ρ H Q (s ++ [.lst ds]) (.ref s.length)) (S : RelS K ρ H s) (hp : H p = none) (r : RelDs K ρ H ds xs) : Q (.ref p) (upd H p (.lst xs)) := by
  obtain ⟨S', st, e⟩ := S.new hp r
  exact k _ _ _ st S' (.ref e)
theorem Kt.put {n : Nat} {p : Addr} {ds : List D} {xs ys : List V} {d : D} {v : V} (k : Kt K ρ H Q (s.set n (.lst ds)) d) (S : RelS K ρ H s) (hn : ρ[n]? = some p) (hp : H p = some (.lst ys)) (r : RelDs K ρ H ds xs) (rd : RelD K ρ H d v) : Q v (upd H p (.lst xs)) := by
  obtain ⟨S', st⟩ := S.put hn hp r
  exact k _ _ _ st S' (rd.step st)
/-- the items of a list or a tuple stand at their place -/
theorem RelD.seq {a : D} {x : V} {ds : List D} (S : RelS K ρ H s) (r : RelD K ρ H a x) (h : seqOf s a = some ds) : ∃ p xs, x = .ref p ∧ RelDs K ρ H ds xs ∧ ((∃ es, a = .tup es ∧ SqT K H p xs) ∨ (∀ es, a ≠ .tup es) ∧ SqL K H p xs) := by
  cases r with
  | tup ht rs => cases h; exact ⟨_, _, rfl, rs, .inl ⟨_, rfl, ht⟩⟩
  | ref hk =>
    simp only [seqOf] at h
    split at h
    · rename_i e
      cases h
      obtain ⟨p, xs, h2, h3, rs⟩ := S.lst e
      rw [hk] at h2; cases h2
      exact ⟨_, xs, rfl, rs, .inr ⟨fun _ z => (by cases z), SqL.of h3⟩⟩
    · cases h
  | rol ht rs => cases h; exact ⟨_, _, rfl, rs, .inr ⟨fun _ z => (by cases z), ht.sq⟩⟩
  | non => cases h
  | bl _ => cases h
  | int _ => cases h
  | str _ => cases h
theorem lstOf_ref {a : D} {ds : List D} (h : lstOf s a = some ds) : ∃ n, a = .ref n ∧ s[n]? = some (.lst ds) := by
  cases a with
  | ref n =>
    simp only [lstOf] at h
    split at h
    · rename_i e; cases h; exact ⟨n, rfl, e⟩
    · cases h
  | _ => cases h
end

theorem smallI_ok {i : Int} (h : smallI i = true) : -(2 ^ 64) < i ∧ i < 2 ^ 64 := by
  simp only [smallI, Bool.and_eq_true, decide_eq_true_eq] at h
  exact h
theorem sz_of {n : Nat} (h : n ≤ 1000000) : n ≤ sizeLine := Nat.le_trans h (by decide)
theorem sz_lt {n : Nat} (h : n < 1000000) : n < sizeLine := Nat.lt_of_lt_of_le h (by decide)

section
variable {X : Cx}
theorem bin_ok (o : Operator) : OpR X (binaryOp o) (rOp2 X.K (binD o)) := by
  intro pins s σ H x y v u Q I rx ry h
  obtain ⟨ρ, ms, a, b, d, ms', S, ra, rb, e, k⟩ := h
  unfold binD at e
  split at e
  · cases e; cases ra; cases rb
    exact op_add pins s σ H _ _ v u Q I rx ry ⟨_, _, rfl, rfl, k.now S (.int _)⟩
  · cases e; cases ra; cases rb
    exact op_sub pins s σ H _ _ v u Q I rx ry ⟨_, _, rfl, rfl, k.now S (.int _)⟩
  · split at e
    · rename_i hc
      cases e; cases ra; cases rb
      refine op_mul pins s σ H _ _ v u Q I rx ry ⟨_, _, rfl, rfl, ?_, k.now S (.int _)⟩
      rcases Bool.or_eq_true_iff.mp hc with z | z
      · exact .inl (smallI_ok z)
      · exact .inr (smallI_ok z)
    · cases e
  · split at e
    · rename_i hc
      cases e; cases ra; cases rb
      exact op_mod pins s σ H _ _ v u Q I rx ry ⟨_, _, rfl, rfl, hc, k.now S (.int _)⟩
    · cases e
  · split at e
    · rename_i hc
      cases e; cases ra; cases rb
      exact op_fdiv pins s σ H _ _ v u Q I rx ry ⟨_, _, rfl, rfl, hc, k.now S (.int _)⟩
    · cases e
  · split at e
    · rename_i hc
      cases e; cases ra; cases rb
      exact op_pow pins s σ H _ _ v u Q I rx ry ⟨_, _, rfl, rfl, ⟨hc.1, by omega, hc.2.2⟩, k.now S (.int _)⟩
    · cases e
  · split at e
    · rename_i hc
      cases e
      cases ra with
      | tup h1 r1 =>
      cases rb with
      | tup h2 r2 =>
      refine op_catA pins s σ H _ _ v u Q I rx ry ⟨_, _, _, _, rfl, rfl, h1, h2, ?_, fun z => ?_, fun _ z => ?_, fun _ _ p hp => ?_⟩
      · rw [← r1.length, ← r2.length]; exact sz_of hc
      · subst z
        cases r1
        exact k.now S (.tup h2 r2)
      · subst z
        cases r2
        rw [List.append_nil] at k
        exact k.now S (.tup h1 r1)
      · exact k.tup S hp (r1.append r2)
    · cases e
  · split at e
    · rename_i hc
      cases e; cases ra; cases rb
      exact op_add_str pins s σ H _ _ v u Q I rx ry ⟨_, _, rfl, rfl, sz_of hc, k.now S (.str _)⟩
    · cases e
  · split at e
    · rename_i e1 e2
      split at e
      · rename_i hc
        cases e
        cases ra with
        | ref hm =>
        cases rb with
        | ref hn =>
        obtain ⟨_, q1, l1⟩ := lstOf_ref e1
        obtain ⟨_, q2, l2⟩ := lstOf_ref e2
        cases q1; cases q2
        obtain ⟨p1, xs, g1, f1, r1⟩ := S.lst l1
        obtain ⟨p2, ys, g2, f2, r2⟩ := S.lst l2
        rw [hm] at g1; cases g1
        rw [hn] at g2; cases g2
        exact op_cat pins s σ H _ _ v u Q I rx ry ⟨_, _, _, _, rfl, rfl, f1, f2, by rw [← r1.length, ← r2.length]; exact sz_of hc, fun p hp => k.new S hp (r1.append r2)⟩
      · cases e
    · cases e
  · cases e

theorem room60 {A : Around} {p q : PyData} (hu : A.units + 64 < cLine) (h : p.depth ≤ 60) : A.units + min p.depth q.depth < cLine := by
  have := Nat.min_le_left p.depth q.depth
  omega
theorem isPlain {p : PyData} (h : isPlainD p = true) : p.plain = true ∧ p.depth ≤ 60 := by
  simp only [isPlainD, Bool.and_eq_true, decide_eq_true_eq] at h
  exact h
theorem py_mapM {ms : MS} : ∀ {ds : List D} {ps : List PyData}, ds.mapM (py ms) = some ps → ps.all isPlainD = true → PyData.plainAll ps = true ∧ PyData.depthAll ps ≤ 60
  | [], ps, h, _ => by
    have : ([] : List D).mapM (py ms) = some [] := rfl
    rw [this] at h; cases h
    exact ⟨rfl, Nat.zero_le _⟩
  | d :: ds, ps, h, ha => by
    obtain ⟨b, bs, h1, h2, rfl⟩ := mapM_cons_some h
    rw [List.all_cons, Bool.and_eq_true] at ha
    obtain ⟨q1, q2⟩ := py_mapM h2 ha.2
    obtain ⟨q3, q4⟩ := isPlain ha.1
    refine ⟨by rw [PyData.plainAll, q3, q1]; rfl, ?_⟩
    rw [PyData.depthAll]
    exact Nat.max_le.mpr ⟨q4, q2⟩

/-- a comparison that the data decide -/
theorem cmp_ok (hu : X.A.units + 64 < cLine) (o : CmpOp) : OpR X (compareOp o) (rOp2 X.K fun a b s => R.of s ((cmpD o a b s).map .bl)) := by
  intro pins s σ H x y v u Q I rx ry h
  obtain ⟨ρ, ms, a, b, d, ms', S, ra, rb, e, k⟩ := h
  obtain ⟨e2, e3⟩ := R.of_ok e
  subst e3
  clear e
  obtain ⟨c, e, e4⟩ := Option.map_eq_some_iff.mp e2
  subst e4
  clear e2
  have fin : ∀ {s' : Shared}, s' = s → EP X pins σ Q (.bool c) s' := fun z => by subst z; exact ⟨.bl c, H, I, rfl, k.now S (.bl c)⟩
  have eqv : ∀ {c : Bool}, eqD ms' a b = some c → ∃ p q as bs, Reads s.heap v p as ∧ Reads s.heap u q bs ∧ p.plain = true ∧ q.plain = true ∧ p.depth ≤ 60 ∧ c = PyData.eqv p q := fun {c} h => by
    unfold eqD at h
    simp only [Option.bind_eq_bind, Option.bind_eq_some_iff] at h
    obtain ⟨p, hp, q, hq, h⟩ := h
    split at h
    · rename_i hpq
      cases h
      rw [Bool.and_eq_true] at hpq
      obtain ⟨as, r1⟩ := reads_of I S _ _ _ _ _ ra rx hp
      obtain ⟨bs, r2⟩ := reads_of I S _ _ _ _ _ rb ry hq
      exact ⟨p, q, as, bs, r1, r2, (isPlain hpq.1).1, (isPlain hpq.2).1, (isPlain hpq.1).2, rfl⟩
    · cases h
  have inv : ∀ {c : Bool}, inD ms' a b = some c → ∃ p qs as bs, Reads s.heap v p as ∧ (Reads s.heap u (.list qs) bs ∨ Reads s.heap u (.tuple qs) bs) ∧ p.plain = true ∧ PyData.plainAll qs = true ∧ p.depth ≤ 60 ∧ c = qs.any fun y => PyData.eqv y p := fun {c} h => by
    unfold inD at h
    simp only [Option.bind_eq_bind, Option.bind_eq_some_iff] at h
    obtain ⟨p, hp, ds, hds, qs, hq, h⟩ := h
    split at h
    · rename_i hpq
      cases h
      rw [Bool.and_eq_true] at hpq
      obtain ⟨as, r1⟩ := reads_of I S _ _ _ _ _ ra rx hp
      obtain ⟨pp, xs, rfl, rs, hh⟩ := RelD.seq S rb hds
      obtain ⟨pl, _⟩ := py_mapM hq hpq.2
      cases (show u = Value.ref pp from ry)
      rcases hh with ⟨_, _, ht⟩ | ⟨_, hl⟩
      · obtain ⟨its, r, ⟨o, e1, e2, m, e3⟩, _⟩ := I.tuple ht
        obtain ⟨bs, ra'⟩ := readsAll_of (reads_of I S _) ds xs its qs rs r hq
        exact ⟨p, qs, as, _, r1, .inr (.tuple e1 e2 e3 (by simpa using ra')), (isPlain hpq.1).1, pl, (isPlain hpq.1).2, rfl⟩
      · obtain ⟨its, r, ⟨o, m, e1, e2, _, e3⟩, _⟩ := I.list hl
        obtain ⟨bs, ra'⟩ := readsAll_of (reads_of I S _) ds xs its qs rs r hq
        exact ⟨p, qs, as, _, r1, .inl (.list e1 e2 e3 (by simpa using ra')), (isPlain hpq.1).1, pl, (isPlain hpq.1).2, rfl⟩
    · cases h
  have intsE : ∀ {o : CmpOp} {c : Bool}, ordD o a b = some c → ∃ i j, a = .int i ∧ b = .int j ∧ ordI o i j = some c := fun {o c} h => by
    unfold ordD at h
    split at h
    · exact ⟨_, _, rfl, rfl, h⟩
    · cases h
  cases o with
  | Eq =>
    obtain ⟨p, q, as, bs, r1, r2, h1, h2, h3, rfl⟩ := eqv e
    exact PySem.SeqAt.eq_plain r1 r2 h1 h2 (room60 hu h3) (fin rfl)
  | NotEq =>
    obtain ⟨c', e', e5⟩ := Option.map_eq_some_iff.mp e
    subst e5
    obtain ⟨p, q, as, bs, r1, r2, h1, h2, h3, rfl⟩ := eqv e'
    exact PySem.SeqAt.ne_plain r1 r2 h1 h2 (room60 hu h3) (fin rfl)
  | In =>
    obtain ⟨p, qs, as, bs, r1, r2, h1, h2, h3, rfl⟩ := inv e
    have hm : X.A.units + 1 + min (PyData.depthAll qs) p.depth < cLine := by
      have := Nat.min_le_right (PyData.depthAll qs) p.depth
      omega
    rcases r2 with r2 | r2
    · exact PySem.SeqAt.in_list_data r2 r1 h2 h1 hm (fin rfl)
    · exact PySem.SeqAt.in_tuple_data r2 r1 h2 h1 hm (fin rfl)
  | NotIn =>
    obtain ⟨c', e', e5⟩ := Option.map_eq_some_iff.mp e
    subst e5
    obtain ⟨p, qs, as, bs, r1, r2, h1, h2, h3, rfl⟩ := inv e'
    have hm : X.A.units + 1 + min (PyData.depthAll qs) p.depth < cLine := by
      have := Nat.min_le_right (PyData.depthAll qs) p.depth
      omega
    rcases r2 with r2 | r2
    · exact PySem.SeqAt.notIn_list_data r2 r1 h2 h1 hm (fin rfl)
    · exact PySem.SeqAt.notIn_tuple_data r2 r1 h2 h1 hm (fin rfl)
  | Is => cases e
  | IsNot => cases e
  | Lt =>
    obtain ⟨i, j, rfl, rfl, e⟩ := intsE e
    cases e; cases ra; cases rb
    exact op_lt pins s σ H _ _ v u Q I rx ry ⟨_, _, rfl, rfl, k.now S (.bl _)⟩
  | LtE =>
    obtain ⟨i, j, rfl, rfl, e⟩ := intsE e
    cases e; cases ra; cases rb
    exact op_le pins s σ H _ _ v u Q I rx ry ⟨_, _, rfl, rfl, k.now S (.bl _)⟩
  | Gt =>
    obtain ⟨i, j, rfl, rfl, e⟩ := intsE e
    cases e; cases ra; cases rb
    exact op_gt pins s σ H _ _ v u Q I rx ry ⟨_, _, rfl, rfl, k.now S (.bl _)⟩
  | GtE =>
    obtain ⟨i, j, rfl, rfl, e⟩ := intsE e
    cases e; cases ra; cases rb
    exact op_ge pins s σ H _ _ v u Q I rx ry ⟨_, _, rfl, rfl, k.now S (.bl _)⟩
end
end Mir

namespace Mir
open PySem PySem.Spec PyProof.Rows L2
section
variable {K : PySem.W.Frag} {ρ : List Addr} {H : Hp} {Q : VK} {s : MS} {d : D}
theorem bools_vals : ∀ {ds : List D} {xs : List V} {bs : List Bool}, RelDs K ρ H ds xs → boolsOf ds = some bs → xs = bs.map V.bl
  | [], _, bs, .nil, h => by cases h; rfl
  | _ :: _, _, bs, .cons (.bl b) r, h => by
    simp only [boolsOf] at h
    obtain ⟨cs, h1, rfl⟩ := Option.map_eq_some_iff.mp h
    rw [bools_vals r h1]
    rfl
  | _ :: _, _, _, .cons .non _, h => by cases h
  | _ :: _, _, _, .cons (.int _) _, h => by cases h
  | _ :: _, _, _, .cons (.str _) _, h => by cases h
  | _ :: _, _, _, .cons (.tup _ _) _, h => by cases h
  | _ :: _, _, _, .cons (.ref _) _, h => by cases h
  | _ :: _, _, _, .cons (.rol _ _) _, h => by cases h
theorem ints_vals : ∀ {ds : List D} {xs : List V} {ns : List Int}, RelDs K ρ H ds xs → intsOf ds = some ns → xs = ns.map V.int
  | [], _, bs, .nil, h => by cases h; rfl
  | _ :: _, _, bs, .cons (.int b) r, h => by
    simp only [intsOf] at h
    obtain ⟨cs, h1, rfl⟩ := Option.map_eq_some_iff.mp h
    rw [ints_vals r h1]
    rfl
  | _ :: _, _, _, .cons .non _, h => by cases h
  | _ :: _, _, _, .cons (.bl _) _, h => by cases h
  | _ :: _, _, _, .cons (.str _) _, h => by cases h
  | _ :: _, _, _, .cons (.tup _ _) _, h => by cases h
  | _ :: _, _, _, .cons (.ref _) _, h => by cases h
  | _ :: _, _, _, .cons (.rol _ _) _, h => by cases h
theorem rel_ints : ∀ ns : List Int, RelDs K ρ H (ns.map D.int) (ns.map V.int)
  | [] => .nil
  | n :: ns => .cons (.int n) (rel_ints ns)
theorem RelDs.one {as : List D} {xs : List V} (r : RelDs K ρ H as xs) (e : as = [d]) : ∃ x, xs = [x] ∧ RelD K ρ H d x := by
  subst e
  cases r with
  | cons h t => cases t; exact ⟨_, rfl, h⟩
theorem RelDs.two {as : List D} {xs : List V} {d2 : D} (r : RelDs K ρ H as xs) (e : as = [d, d2]) : ∃ x y, xs = [x, y] ∧ RelD K ρ H d x ∧ RelD K ρ H d2 y := by
  subst e
  cases r with
  | cons h t =>
    obtain ⟨y, rfl, hy⟩ := t.one rfl
    exact ⟨_, y, rfl, h, hy⟩

/-- a sequence, by its kind -/
theorem RelD.seqLT {a : D} {x : V} {ds : List D} (S : RelS K ρ H s) (r : RelD K ρ H a x) (h : seqOf s a = some ds) : ∃ p xs, x = .ref p ∧ RelDs K ρ H ds xs ∧ (SqL K H p xs ∨ SqT K H p xs) := by
  obtain ⟨p, xs, e, rs, hh⟩ := r.seq S h
  rcases hh with ⟨_, _, ht⟩ | ⟨_, hl⟩
  · exact ⟨p, xs, e, rs, .inr ht⟩
  · exact ⟨p, xs, e, rs, .inl hl⟩
end

section
variable {X : Cx}
theorem blt_len : CallR X (.builtin "len") (rOps X.K (bltD .len)) := by
  intro pins s σ H xs us Q I r h
  obtain ⟨ρ, ms, as, d, ms', S, ra, e, k⟩ := h
  cases as with
  | nil => cases e
  | cons a t =>
    cases t with
    | cons _ _ => cases e
    | nil =>
      obtain ⟨x, rfl, rx⟩ := ra.one rfl
      simp only [bltD] at e
      split at e
      · rename_i z
        cases rx
        split at e
        · rename_i hz
          cases e
          exact call_len_str pins s σ H _ us Q I r ⟨z, rfl, sz_of hz, k.now S (.int _)⟩
        · cases e
      · obtain ⟨h1, h2⟩ := R.of_ok e
        subst h2
        obtain ⟨ds, h3, h4⟩ := Option.map_eq_some_iff.mp h1
        subst h4
        obtain ⟨p, xs, rfl, rs, hh⟩ := rx.seqLT S h3
        exact call_len_seq pins s σ H _ us Q I r ⟨p, xs, rfl, hh, by rw [← rs.length]; exact k.now S (.int _)⟩
theorem blt_list : CallR X (.type "list") (rOps X.K (bltD .list)) := by
  intro pins s σ H xs us Q I r h
  obtain ⟨ρ, ms, as, d, ms', S, ra, e, k⟩ := h
  cases as with
  | nil => cases e
  | cons a t =>
    cases t with
    | cons _ _ => cases e
    | nil =>
      obtain ⟨x, rfl, rx⟩ := ra.one rfl
      simp only [bltD] at e
      split at e
      · rename_i ds hs
        cases e
        obtain ⟨p, xs, rfl, rs, hh⟩ := rx.seqLT S hs
        exact call_list_of pins s σ H _ us Q I r ⟨p, xs, rfl, hh, fun l hl => k.new S hl rs⟩
      · cases e
theorem blt_tuple : CallR X (.type "tuple") (rOps X.K (bltD .tuple)) := by
  intro pins s σ H xs us Q I r h
  obtain ⟨ρ, ms, as, d, ms', S, ra, e, k⟩ := h
  cases as with
  | nil => cases e
  | cons a t =>
    cases t with
    | cons _ _ => cases e
    | nil =>
      obtain ⟨x, rfl, rx⟩ := ra.one rfl
      simp only [bltD] at e
      obtain ⟨h1, h2⟩ := R.of_ok e
      subst h2
      obtain ⟨ds, h3, h4⟩ := Option.map_eq_some_iff.mp h1
      subst h4
      obtain ⟨p, xs, rfl, rs, hh⟩ := rx.seqLT S h3
      refine call_tuple_of pins s σ H _ us Q I r ⟨p, xs, rfl, ?_⟩
      rcases hh with hh | hh
      · exact .inl ⟨hh, fun l hl => k.tup S hl rs⟩
      · exact .inr ⟨hh, k.now S (.tup hh rs)⟩
theorem blt_all (hc : X.calm = true) : CallR X (.builtin "all") (rOps X.K (bltD .all)) := by
  intro pins s σ H xs us Q I r h
  obtain ⟨ρ, ms, as, d, ms', S, ra, e, k⟩ := h
  cases as with
  | nil => cases e
  | cons a t =>
    cases t with
    | cons _ _ => cases e
    | nil =>
      obtain ⟨x, rfl, rx⟩ := ra.one rfl
      simp only [bltD] at e
      obtain ⟨h1, h2⟩ := R.of_ok e
      subst h2
      obtain ⟨bs, h3, h4⟩ := Option.map_eq_some_iff.mp h1
      subst h4
      obtain ⟨ds, h5, h6⟩ := Option.bind_eq_some_iff.mp h3
      obtain ⟨n, rfl, hl⟩ := lstOf_ref h5
      obtain ⟨p, ys, g1, g2, rs⟩ := S.lst hl
      cases rx with
      | ref hn =>
        rw [hn] at g1; cases g1
        have ev := bools_vals rs h6
        subst ev
        exact cr_all hc pins s σ H _ us Q I r ⟨_, bs, rfl, SqL.of g2, k.now S (.bl _)⟩
theorem blt_any (hc : X.calm = true) : CallR X (.builtin "any") (rOps X.K (bltD .any)) := by
  intro pins s σ H xs us Q I r h
  obtain ⟨ρ, ms, as, d, ms', S, ra, e, k⟩ := h
  cases as with
  | nil => cases e
  | cons a t =>
    cases t with
    | cons _ _ => cases e
    | nil =>
      obtain ⟨x, rfl, rx⟩ := ra.one rfl
      simp only [bltD] at e
      obtain ⟨h1, h2⟩ := R.of_ok e
      subst h2
      obtain ⟨bs, h3, h4⟩ := Option.map_eq_some_iff.mp h1
      subst h4
      obtain ⟨ds, h5, h6⟩ := Option.bind_eq_some_iff.mp h3
      obtain ⟨n, rfl, hl⟩ := lstOf_ref h5
      obtain ⟨p, ys, g1, g2, rs⟩ := S.lst hl
      cases rx with
      | ref hn =>
        rw [hn] at g1; cases g1
        have ev := bools_vals rs h6
        subst ev
        exact cr_any hc pins s σ H _ us Q I r ⟨_, bs, rfl, SqL.of g2, k.now S (.bl _)⟩
theorem blt_int : CallR X (.type "int") (rOps X.K (bltD .int)) := by
  intro pins s σ H xs us Q I r h
  obtain ⟨ρ, ms, as, d, ms', S, ra, e, k⟩ := h
  unfold bltD at e
  split at e
  all_goals first | contradiction | skip
  · cases e
    obtain ⟨x, rfl, rx⟩ := ra.one rfl
    cases rx
    exact call_int1 pins s σ H _ us Q I r (.inl ⟨_, rfl, k.now S (.int _)⟩)
  · cases e
    obtain ⟨x, rfl, rx⟩ := ra.one rfl
    cases rx
    exact call_int1 pins s σ H _ us Q I r (.inr ⟨_, rfl, k.now S (.int _)⟩)
theorem blt_min (hc : X.calm = true) : CallR X (.builtin "min") (rOps X.K (bltD .min)) := by
  intro pins s σ H xs us Q I r h
  obtain ⟨ρ, ms, as, d, ms', S, ra, e, k⟩ := h
  unfold bltD at e
  split at e
  all_goals first | contradiction | skip
  cases e
  obtain ⟨x, y, rfl, rx, ry⟩ := ra.two rfl
  cases rx; cases ry
  exact call_min2 hc pins s σ H _ us Q I r ⟨_, _, rfl, k.now S (.int _)⟩
theorem blt_max (hc : X.calm = true) : CallR X (.builtin "max") (rOps X.K (bltD .max)) := by
  intro pins s σ H xs us Q I r h
  obtain ⟨ρ, ms, as, d, ms', S, ra, e, k⟩ := h
  unfold bltD at e
  split at e
  all_goals first | contradiction | skip
  cases e
  obtain ⟨x, y, rfl, rx, ry⟩ := ra.two rfl
  cases rx; cases ry
  exact call_max2 hc pins s σ H _ us Q I r ⟨_, _, rfl, k.now S (.int _)⟩
end
end Mir

namespace Mir
open PySem PySem.Spec PyProof.Rows L2
section
variable {X : Cx}
theorem isShow_ok {p : PyData} (h : isShow p = true) : p.showable = true ∧ p.depth ≤ 60 ∧ p.hasDict = false ∧ p.shown.length ≤ 1000000 := by
  simp only [isShow, Bool.and_eq_true, decide_eq_true_eq, Bool.not_eq_true'] at h
  exact ⟨h.1.1.1, h.1.1.2, h.1.2, h.2⟩
theorem blt_repr (hg : X.A.guards = some []) (hu : X.A.units + 64 < cLine) : CallR X (.builtin "repr") (rOps X.K (bltD .repr)) := by
  intro pins s σ H xs us Q I r h
  obtain ⟨ρ, ms, as, d, ms', S, ra, e, k⟩ := h
  unfold bltD at e
  split at e
  all_goals first | contradiction | skip
  split at e
  · rename_i a p hp
    split at e
    · rename_i hs
      cases e
      obtain ⟨x, rfl, rx⟩ := ra.one rfl
      obtain ⟨u, rfl, ru⟩ := vals1 r
      obtain ⟨h1, h2, h3, h4⟩ := isShow_ok hs
      obtain ⟨cs, rd⟩ := reads_of I S _ _ _ _ _ rx ru hp
      have fin : ∀ (h' : Heap) (u : Tok) (tk : Nat), (∀ b o, s.heap.get? b = some o → h'.get? b = some o) → EP X pins σ Q (.str p.shown u) { s with heap := h', toks := tk } :=
        fun h' u tk hk => ⟨.str p.shown, H, I.kept hk, ⟨u, rfl⟩, k.now S (.str _)⟩
      cases rd with
      | none =>
        simp only [PyData.shown] at fin
        exact P.repr_of_none (fin _ _ _ fun _ _ q => q)
      | bool b =>
        simp only [PyData.shown] at fin
        exact P.repr_of_bool (fin _ _ _ fun _ _ q => q)
      | int i t =>
        simp only [PyData.shown] at fin
        exact P.repr_of_int (by simpa [PyData.showable] using h1) (fin _ _ _ fun _ _ q => q)
      | str z t =>
        simp only [PyData.shown] at fin h4
        exact P.repr_of_str (fin _ _ _ fun _ _ q => q) (sz_of h4)
      | list q1 q2 q3 q4 => exact repr_of_reads' (.list q1 q2 q3 q4) h1 (PyData.noDict_hsm h3) hg (by omega) (fun _ _ q => q) (fun h' u tk hk => fin h' u tk hk) (sz_of h4)
      | tuple q1 q2 q3 q4 => exact repr_of_reads' (.tuple q1 q2 q3 q4) h1 (PyData.noDict_hsm h3) hg (by omega) (fun _ _ q => q) (fun h' u tk hk => fin h' u tk hk) (sz_of h4)
      | dict q1 q2 q3 q4 q5 => simp [PyData.hasDict] at h3
    · cases e
  · cases e

/-! ### isinstance -/
def Ty.name : Ty → String
  | .int => "int"
  | .bool => "bool"
  | .str => "str"
  | .tuple => "tuple"
  | .list => "list"
  | .dict => "dict"
theorem isa_ok (T : Ty) : CallR X (.builtin "isinstance") (fun xs H Q => ∃ ρ s a x b, xs = [x, .ty T.name] ∧ RelS X.K ρ H s ∧ RelD X.K ρ H a x ∧ isaD s a T = some b ∧ Q (.bl b) H) := by
  intro pins s σ H xs us Q I r h
  obtain ⟨ρ, ms, a, x, b, rfl, S, ra, e, q⟩ := h
  have go : ∀ {t : String}, TyX X.K H x (.type t) → PySem.W.kitOne X.K (.type t) (.type T.name) = some b → wpAny (model X.prog X.w) X.A (call (.builtin "isinstance") us) (EP X pins σ Q) X.xe s :=
    fun {t} ty hk => call_isi pins s σ H _ us Q I r ⟨x, .ty T.name, .type t, .type T.name, b, rfl, .ty _, ty, hk, q⟩
  cases ra with
  | non =>
    simp only [isaD] at e; cases e
    exact go (t := "NoneType") (.base .non) (by cases T <;> exact kit_ty (by decide +kernel))
  | bl c =>
    simp only [isaD] at e; cases e
    exact go (t := "bool") (.base (.bl c)) (by cases T <;> exact kit_ty (by decide +kernel))
  | int i =>
    simp only [isaD] at e; cases e
    exact go (t := "int") (.base (.int i)) (by cases T <;> exact kit_ty (by decide +kernel))
  | str z =>
    simp only [isaD] at e; cases e
    exact go (t := "str") (.base (.str z)) (by cases T <;> exact kit_ty (by decide +kernel))
  | @tup ds a xs ht rs =>
    simp only [isaD] at e; cases e
    have ty : TyX X.K H (.ref a) (.type "tuple") := by
      rcases ht with (ht | ⟨o, ht⟩) | ⟨o, its, n, h1, h2, _⟩
      · exact .base (.tup ht)
      · exact .fTuple ht
      · exact .kTuple h1 h2
    exact go ty (by cases T <;> exact kit_ty (by decide +kernel))
  | ref hn =>
    simp only [isaD] at e
    split at e
    · rename_i ds hs
      cases e
      obtain ⟨p, ys, g1, g2, rs⟩ := S.lst hs
      rw [hn] at g1; cases g1
      exact go (.base (.lst g2)) (by cases T <;> exact kit_ty (by decide +kernel))
    · rename_i ds hs
      obtain ⟨p, g1, g2⟩ := S.there hs
      exact g2.elim
    · cases e
  | rol _ _ => simp [isaD] at e

/-! ### truth -/
theorem truth_ok {ρ : List Addr} {H : Hp} {ms : MS} {d : D} {x : V} {b : Bool} {K : PySem.W.Frag} (S : RelS K ρ H ms) (r : RelD K ρ H d x) (h : truth ms d = some b) : TruV K x H b := by
  cases r with
  | non => cases h; exact rfl
  | bl c => cases h; exact rfl
  | int i => cases h; exact rfl
  | str z =>
    simp only [truth] at h
    split at h
    · rename_i hz; cases h; exact ⟨sz_of hz, rfl⟩
    · cases h
  | tup ht rs =>
    cases h
    refine .inr (.inl ⟨_, ht, ?_⟩)
    cases rs <;> rfl
  | ref hn =>
    simp only [truth] at h
    split at h
    · rename_i ds hs
      cases h
      obtain ⟨p, ys, g1, g2, rs⟩ := S.lst hs
      rw [hn] at g1; cases g1
      refine .inl ⟨ys, SqL.of g2, ?_⟩
      cases rs <;> rfl
    · cases h
  | rol _ _ => cases h

/-! ### an index, a slice, a store -/
theorem atI_rel {K : PySem.W.Frag} {ρ : List Addr} {H : Hp} {ds : List D} {xs : List V} {i : Int} {d : D} (r : RelDs K ρ H ds xs) (h : atI ds i = some d) : ∃ v, atI xs i = some v ∧ RelD K ρ H d v := by
  unfold atI at h ⊢
  rw [← r.length]
  obtain ⟨j, h1, h2⟩ := Option.bind_eq_some_iff.mp h
  obtain ⟨v, h3, h4⟩ := r.get h2
  exact ⟨v, by rw [h1]; exact h3, h4⟩
theorem ix_ok : IxR X (rOp2 X.K getIx) := by
  intro value slice pins s σ H x y v u Q I rx ry h hs
  obtain ⟨ρ, ms, a, b, d, ms', S, ra, rb, e, k⟩ := h
  unfold getIx at e
  split at e
  · obtain ⟨h1, h2⟩ := R.of_ok e
    subst h2
    obtain ⟨ds, h3, h4⟩ := Option.bind_eq_some_iff.mp h1
    obtain ⟨p, xs, rfl, rs, hh⟩ := ra.seqLT S h3
    obtain ⟨w, h5, h6⟩ := atI_rel rs h4
    cases rb
    rcases hh with hh | hh
    · exact ix_list value slice pins s σ H _ _ v u Q I rx ry ⟨p, xs, _, w, rfl, rfl, hh, h5, k.now S h6⟩ hs
    · exact ix_tup value slice pins s σ H _ _ v u Q I rx ry ⟨p, xs, _, w, rfl, rfl, hh, h5, k.now S h6⟩ hs
  · cases e
theorem cut_rel {K : PySem.W.Frag} {ρ : List Addr} {H : Hp} {ds : List D} {xs : List V} {lo hi : Option Int} (r : RelDs K ρ H ds xs) : RelDs K ρ H (cutD ds lo hi) (cutV xs lo hi) := by
  unfold cutD cutV
  rw [r.length]
  exact (r.drop _).take _
/-- what a slice's two parts and its subject ask -/
def rSlD (K : PySem.W.Frag) : V → Option Int → Option Int → Hp → VK → Prop := fun x lo hi H Q => ∃ ρ s a pl ph l h d s', RelS K ρ H s ∧ RelD K ρ H a x ∧ partD pl l = some lo ∧ partD ph h = some hi ∧ getSl pl ph a l h s = .ok d s' ∧ Kt K ρ H Q s' d
theorem sl_ok : SlR X (rSlD X.K) := by
  intro pins s σ H x v vl vu lo hi sl Q I rx hs pl pu h
  obtain ⟨ρ, ms, a, fl, fh, l, h, d, ms', S, ra, p1, p2, e, k⟩ := h
  unfold getSl at e
  rw [p1, p2] at e
  simp only at e
  split at e
  · rename_i ds
    cases e
    cases ra with
    | @tup _ a xs ht rs =>
    refine sl_tupA pins s σ H _ v vl vu lo hi sl Q I rx hs pl pu ⟨_, _, rfl, ht, fun hw => ?_, fun hw p hp => k.tup S hp (cut_rel rs)⟩
    rw [← rs.length] at hw
    have e : cutD ds lo hi = ds := by
      unfold cutD
      rw [hw.1, hw.2, List.drop_zero, Nat.sub_zero, List.take_length]
    rw [e] at k
    exact k.now S (.tup ht rs)
  · rename_i hnt
    split at e
    · rename_i ds hds
      cases e
      obtain ⟨p, xs, rfl, rs, hh⟩ := ra.seq S hds
      rcases hh with ⟨es, he, _⟩ | ⟨_, hl⟩
      · exact absurd he (by intro z; exact hnt _ z)
      · exact sl_list pins s σ H _ v vl vu lo hi sl Q I rx hs pl pu ⟨p, xs, rfl, hl, fun q hq => k.new S hq (cut_rel rs)⟩
    · cases e
theorem set_ok : PSet X (fun o i v H Q => ∃ ρ s a b c s', RelS X.K ρ H s ∧ RelD X.K ρ H a o ∧ RelD X.K ρ H b i ∧ RelD X.K ρ H c v ∧ setIx a b c s = .ok () s' ∧ ∀ H', Step X.K ρ H ρ H' → RelS X.K ρ H' s' → Q H') := by
  intro pins s σ H o i v ov iv u Q I ro ri rv h
  obtain ⟨ρ, ms, a, b, c, ms', S, ra, rb, rc, e, k⟩ := h
  unfold setIx at e
  split at e
  · split at e
    · rename_i ds hds
      split at e
      · rename_i j hj
        cases e
        cases ra with
        | ref hn =>
        cases rb
        obtain ⟨p, xs, g1, g2, rs⟩ := S.lst hds
        rw [hn] at g1; cases g1
        obtain ⟨S', st⟩ := S.put hn g2 (rs.set rc j)
        exact set_list pins s σ H _ _ _ ov iv u Q I ro ri rv ⟨_, xs, _, j, rfl, rfl, g2, by rw [← rs.length]; exact hj, k _ st S'⟩
      · cases e
    · cases e
  · cases e

/-! ### methods -/
theorem append_ok : MtR X "list.append" (rMth X.K (mthD .append)) := by
  intro pins s σ H x xs v us Q I rx rv h
  obtain ⟨ρ, ms, a, as, d, ms', S, ra, rs, e, k⟩ := h
  unfold mthD at e
  split at e
  · split at e
    · rename_i ds hds
      cases ra with
      | ref hn =>
      obtain ⟨p, ys, g1, g2, rl⟩ := S.lst hds
      rw [hn] at g1; cases g1
      split at e
      all_goals first | contradiction | skip
      split at e
      · rename_i hz
        cases e
        obtain ⟨y, rfl, ry⟩ := rs.one rfl
        exact mt_append pins s σ H _ _ v us Q I rx rv ⟨_, ys, y, rfl, rfl, g2, by rw [← rl.length]; exact sz_lt hz, k.put S hn g2 (rl.append (.cons ry .nil)) .non⟩
      · cases e
    · cases e
  · cases e
theorem extend_ok : MtR X "list.extend" (rMth X.K (mthD .extend)) := by
  intro pins s σ H x xs v us Q I rx rv h
  obtain ⟨ρ, ms, a, as, d, ms', S, ra, rs, e, k⟩ := h
  unfold mthD at e
  split at e
  · split at e
    · rename_i ds hds
      cases ra with
      | ref hn =>
      obtain ⟨p, ys, g1, g2, rl⟩ := S.lst hds
      rw [hn] at g1; cases g1
      split at e
      all_goals first | contradiction | skip
      split at e
      · rename_i es hes
        split at e
        · rename_i hz
          cases e
          obtain ⟨y, rfl, ry⟩ := rs.one rfl
          obtain ⟨m, rfl, hm⟩ := lstOf_ref hes
          obtain ⟨q, zs, f1, f2, rl2⟩ := S.lst hm
          cases ry with
          | ref hm' =>
          rw [hm'] at f1; cases f1
          exact mt_extend pins s σ H _ _ v us Q I rx rv ⟨_, _, ys, zs, rfl, rfl, g2, f2, by rw [← rl.length, ← rl2.length]; exact sz_of hz, k.put S hn g2 (rl.append rl2) .non⟩
        · cases e
      · cases e
    · cases e
  · cases e
theorem pop_ok : MtR X "list.pop" (rMth X.K (mthD .pop)) := by
  intro pins s σ H x xs v us Q I rx rv h
  obtain ⟨ρ, ms, a, as, d, ms', S, ra, rs, e, k⟩ := h
  unfold mthD at e
  split at e
  · split at e
    · rename_i ds hds
      cases ra with
      | ref hn =>
      obtain ⟨p, ys, g1, g2, rl⟩ := S.lst hds
      rw [hn] at g1; cases g1
      split at e
      all_goals first | contradiction | skip
      · split at e
        · rename_i d0 hd
          cases e
          rw [List.getLast?_eq_getElem?] at hd
          obtain ⟨w, h1, h2⟩ := rl.get hd
          cases rs
          exact mt_pop pins s σ H _ _ v us Q I rx rv ⟨_, ys, w, rfl, rfl, g2, by rw [← rl.length]; exact h1, k.put S hn g2 rl.dropLast h2⟩
        · cases e
      · split at e
        · rename_i j hj
          split at e
          · rename_i d0 hd
            cases e
            obtain ⟨y, rfl, ry⟩ := rs.one rfl
            cases ry
            obtain ⟨w, h1, h2⟩ := rl.get hd
            obtain ⟨q1, q2, q3, q4⟩ := ixN_seq hj
            obtain ⟨_, _, _, hz⟩ := I.list (SqL.of g2)
            have hs : sizeLine = 16777216 := sizeLine_eq
            have hl := rl.length
            exact mt_popAt pins s σ H _ _ v us Q I rx rv ⟨_, ys, _, j, w, rfl, rfl, g2, by omega, by omega, by rw [← hl]; exact q1, h1, k.put S hn g2 (rl.eraseIdx j) h2⟩
          · cases e
        · cases e
    · cases e
  · cases e
end
end Mir

namespace Mir
open PySem PySem.Spec PyProof.Rows L2

/-! ### what is let go -/
section
variable {K : PySem.W.Frag} {ρ ρ' : List Addr} {H H' : Hp}
theorem take_pre {k : Nat} (p : ρ <+: ρ') (h : ρ.length = k) : ρ'.take k = ρ := by
  obtain ⟨t, rfl⟩ := p
  subst h
  rw [List.take_left]
mutual
theorem RelD.clean {k : Nat} (p : ρ <+: ρ') (hk : ρ.length = k) : ∀ {d : D} {v : V}, cleanD k d = true → RelD K ρ' H d v → RelD K ρ H d v
  | _, _, _, .non => .non
  | _, _, _, .bl b => .bl b
  | _, _, _, .int i => .int i
  | _, _, _, .str x => .str x
  | _, _, c, .tup h r => .tup h (RelDs.clean p hk (by simpa only [cleanD] using c) r)
  | .ref n, .ref a, c, h => by
      have hn : n < k := by simpa [cleanD] using c
      cases h with
      | ref h =>
        refine .ref ?_
        rw [← take_pre p hk, List.getElem?_take_of_lt hn]
        exact h
  | _, _, c, .rol h r => .rol h (RelDs.clean p hk (by simpa only [cleanD] using c) r)
theorem RelDs.clean {k : Nat} (p : ρ <+: ρ') (hk : ρ.length = k) : ∀ {d : List D} {v : List V}, cleanD.cleanDs k d = true → RelDs K ρ' H d v → RelDs K ρ H d v
  | _, _, _, .nil => .nil
  | _, _, c, .cons h r => by
    rw [cleanD.cleanDs, Bool.and_eq_true] at c
    exact .cons (RelD.clean p hk c.1 h) (RelDs.clean p hk c.2 r)
end
mutual
theorem RelD.low {k : Nat} : ∀ {d : D} {v : V}, ρ.length = k → RelD K ρ H d v → cleanD k d = true
  | _, _, _, .non => rfl
  | _, _, _, .bl b => rfl
  | _, _, _, .int i => rfl
  | _, _, _, .str x => rfl
  | _, _, e, .tup h r => by rw [cleanD]; exact RelDs.low e r
  | _, _, e, .ref h => by
    rw [cleanD, decide_eq_true_eq, ← e]
    exact (List.getElem?_eq_some_iff.mp h).1
  | _, _, e, .rol h r => by rw [cleanD]; exact RelDs.low e r
theorem RelDs.low {k : Nat} : ∀ {d : List D} {v : List V}, ρ.length = k → RelDs K ρ H d v → cleanD.cleanDs k d = true
  | _, _, _, .nil => rfl
  | _, _, e, .cons h r => by rw [cleanD.cleanDs, RelD.low e h, RelDs.low e r]; rfl
end
/-- the state ahead, if it stands unchanged as the first part of the state behind -/
theorem RelS.back {s s' : MS} (S : RelS K ρ H s) (p : ρ <+: ρ') (S' : RelS K ρ' H' s') (e : s'.take s.length = s) : RelS K ρ H' s := by
  have hk : ρ.length = s.length := S.len
  refine ⟨S.len, S.nd, fun n o a h1 h2 => ?_⟩
  have hn : n < s.length := (List.getElem?_eq_some_iff.mp h1).1
  have h1' : s'[n]? = some o := by
    rw [← e, List.getElem?_take_of_lt hn] at h1
    exact h1
  have q := S'.obj n o a h1' (pre_get p h2)
  have q0 := S.obj n o a h1 h2
  cases o with
  | lst ds =>
    obtain ⟨xs, g1, g2⟩ := q
    obtain ⟨ys, g3, g4⟩ := q0
    exact ⟨xs, g1, g2.clean p hk (g4.low hk)⟩
  | dic _ => exact q.elim
end

/-! ### readings -/
section
variable (K : PySem.W.Frag)
def tM (m : Mir.Env → MS → R D) : TE := fun σ H Q => ∃ ρ e s d s', RelE K ρ H e σ ∧ RelS K ρ H s ∧ m e s = .ok d s' ∧ Kt K ρ H Q s' d
def tMT (m : Mir.Env → MS → R Bool) : TT := fun σ H Q => ∃ ρ e s b s', RelE K ρ H e σ ∧ RelS K ρ H s ∧ m e s = .ok b s' ∧ ∀ ρ' H', Step K ρ H ρ' H' → RelS K ρ' H' s' → Q b H'
def tMA (m : Mir.Env → MS → R (List D)) : TA := fun σ H Q => ∃ ρ e s ds s', RelE K ρ H e σ ∧ RelS K ρ H s ∧ m e s = .ok ds s' ∧ ∀ ρ' H' vs, Step K ρ H ρ' H' → RelS K ρ' H' s' → RelDs K ρ' H' ds vs → Q vs H'
def spM (n : Nat) (m : List D → MS → R D) : Sp := fun vs H Q _ => ∃ ρ ds s d s', RelDs K ρ H ds vs ∧ RelS K ρ H s ∧ ds.length = n ∧ m ds s = .ok d s' ∧ Kt K ρ H Q s' d
end
theorem _root_.L2.PE.of {X : Cx} {e : Expr} {t t' : TE} (h : PE X e t) (c : ∀ σ H Q, t' σ H Q → t σ H Q) : PE X e t' := ⟨fun pins s σ H Q I q => h.run pins s σ H Q I (c σ H Q q)⟩
theorem _root_.L2.PT.of {X : Cx} {e : Expr} {t t' : TT} (h : PT X e t) (c : ∀ σ H Q, t' σ H Q → t σ H Q) : PT X e t' := ⟨fun pins s σ H Q I q => h.run pins s σ H Q I (c σ H Q q)⟩
theorem _root_.L2.PA.of {X : Cx} {e : List Expr} {t t' : TA} (h : PA X e t) (c : ∀ σ H Q, t' σ H Q → t σ H Q) : PA X e t' := ⟨fun pos pins s σ H Q I q => h.run pos pins s σ H Q I (c σ H Q q)⟩

section
variable {K : PySem.W.Frag} {σ : L2.St} {H : Hp} {Q : VK} {ma mb mc : Mir.Env → MS → R D} {mt : Mir.Env → MS → R Bool} {ms : Mir.Env → MS → R (List D)}
theorem conv2 {f : D → D → MS → R D} (h : tM K (fun e s => (ma e s).bind fun x s => (mb e s).bind fun y s => f x y s) σ H Q) : tOp (rOp2 K f) (tM K ma) (tM K mb) σ H Q := by
  obtain ⟨ρ, e, s, d, s', E, S, h, k⟩ := h
  obtain ⟨x, s1, h1, h⟩ := R.bind_ok h
  obtain ⟨y, s2, h2, h⟩ := R.bind_ok h
  exact ⟨ρ, e, s, x, s1, E, S, h1, fun ρ1 H1 v1 st1 S1 r1 => ⟨ρ1, e, s1, y, s2, E.step st1, S1, h2, fun ρ2 H2 v2 st2 S2 r2 =>
    ⟨ρ2, s2, x, y, d, s', S2, r1.step st2, r2, h, fun ρ' H' v st S' r => k ρ' H' v (st1.trans (st2.trans st)) S' r⟩⟩⟩
theorem convB {f : List D → MS → R D} (h : tM K (fun e s => (ms e s).bind fun ds s => f ds s) σ H Q) : tCB (rOps K f) (tMA K ms) σ H Q := by
  obtain ⟨ρ, e, s, d, s', E, S, h, k⟩ := h
  obtain ⟨x, s1, h1, h⟩ := R.bind_ok h
  exact ⟨ρ, e, s, x, s1, E, S, h1, fun ρ1 H1 v1 st1 S1 r1 => ⟨ρ1, s1, x, d, s', S1, r1, h, fun ρ' H' v st S' r => k ρ' H' v (st1.trans st) S' r⟩⟩
theorem convTup (h : tM K (fun e s => (ms e s).bind fun ds s => .ok (.tup ds) s) σ H Q) (hz : ∀ ρ e s ds s', RelE K ρ H e σ → RelS K ρ H s → ms e s = .ok ds s' → ds.length ≤ 1000000) : tTup (tMA K ms) σ H Q := by
  obtain ⟨ρ, e, s, d, s', E, S, h, k⟩ := h
  obtain ⟨ds, s1, h1, h⟩ := R.bind_ok h
  cases h
  exact ⟨ρ, e, s, ds, _, E, S, h1, fun ρ1 H1 vs st1 S1 r1 => ⟨by rw [← r1.length]; exact sz_of (hz _ _ _ _ _ E S h1), fun p hp => by
    have st : Step K ρ1 H1 ρ1 (upd H1 p (.tup vs)) := .fresh hp
    exact k ρ1 _ _ (st1.trans st) (S1.more hp) (.tup (SqT.of upd_same) (r1.step st))⟩⟩
theorem convLst (h : tM K (fun e s => (ms e s).bind fun ds s => new s (.lst ds)) σ H Q) (hz : ∀ ρ e s ds s', RelE K ρ H e σ → RelS K ρ H s → ms e s = .ok ds s' → ds.length ≤ 1000000) : tLst (tMA K ms) σ H Q := by
  obtain ⟨ρ, e, s, d, s', E, S, h, k⟩ := h
  obtain ⟨ds, s1, h1, h⟩ := R.bind_ok h
  cases h
  exact ⟨ρ, e, s, ds, _, E, S, h1, fun ρ1 H1 vs st1 S1 r1 => ⟨by rw [← r1.length]; exact sz_of (hz _ _ _ _ _ E S h1), fun p hp => by
    obtain ⟨S', st, e⟩ := S1.new hp r1
    exact k _ _ _ (st1.trans st) S' (.ref e)⟩⟩
theorem convTruth {Q : Bool → Hp → Prop} (h : tMT K (fun e s => tstR (ma e s)) σ H Q) : tM K ma σ H fun x H' => ∃ k, TruV K x H' k ∧ Q k H' := by
  obtain ⟨ρ, e, s, b, s', E, S, h, k⟩ := h
  unfold tstR at h
  obtain ⟨x, s1, h1, h4⟩ := R.bind_ok h
  obtain ⟨h2, h3⟩ := R.of_ok h4
  subst h3
  exact ⟨ρ, e, s, x, _, E, S, h1, fun ρ1 H1 v st S1 r => ⟨b, truth_ok S1 r h2, k ρ1 H1 st S1⟩⟩
/-- what a test made may be let go -/
theorem gcB_ok {g : G} (hs : ∀ a b, g.same a b = true → a = b) {Q : Bool → Hp → Prop} (h : tMT K (fun e s => gcB g s (mt e s)) σ H Q) : tMT K mt σ H Q := by
  obtain ⟨ρ, e, s, b, s', E, S, h, k⟩ := h
  obtain ⟨x, s1, h1, h⟩ := R.bind_ok h
  cases h
  refine ⟨ρ, e, s, _, s1, E, S, h1, fun ρ' H' st S' => ?_⟩
  split at k
  · rename_i hc
    exact k ρ H' ⟨List.prefix_refl _, st.2.1, fun a o h n => ⟨(st.2.2 a o h n).1, n⟩⟩ (S.back st.1 S' (hs _ _ hc).symm)
  · exact k ρ' H' st S'
end
end Mir

namespace Mir
open PySem PySem.Spec PyProof.Rows L2

/-! ### enumerate(t), t a tuple -/
abbrev enumO (a : Addr) : Obj := { cls := .type "enumerate", data := .fields #[.none, .bool false, .ref a, rawInt 0, .none, .none] }
theorem enum1_meets {v : Value} {o : Obj} {HB : Heap → Prop} (B : Begins v o HB) :
    Meets (Builtin.«enumerate.__new__» ⟨[.type "enumerate", v], []⟩) (fun _ R s => HB s.heap ∧ R (.ok (.ret (.ref (s.heap.push o).objs.size))) { s with heap := (s.heap.push o).push (enumO s.heap.objs.size) }) := by
  refine .of_wp fun prog w A R s hh => ?_
  rcases s with ⟨hp, ga, dr, tt, oo⟩
  have sb := sub_enumerate
  have it : ∀ {A' : Around} {E Q : Value → Shared → Prop}, Q (.ref hp.objs.size) ⟨hp.push o, ga, dr, tt, oo⟩ → wpAny (model prog w) A' (pyIter v) Q E ⟨hp, ga, dr, tt, oo⟩ := fun q => B.iter prog w _ _ ⟨hp, ga, dr, tt, oo⟩ _ hh.1 q
  wp_walk using it
  refine wpAny_stack_any fun st => wpAny_pure ?_
  split
  case h_1 c _ _ _ _ _ =>
    cases (c == Value.type "enumerate") <;> (wp_walk using it; exact ⟨_, rfl, hh.2⟩)
  case h_2 => wp_walk using it; exact ⟨_, rfl, hh.2⟩
theorem enum1_call {prog : Program} {w : World} {A : Around} {E : Value → Shared → Prop} {s : Shared} {v : Value} {o : Obj} {HB : Heap → Prop} {Q : Value → Shared → Prop} (B : Begins v o HB) (hb : HB s.heap)
    (k : ∀ h', IsEnum h' (s.heap.objs.size + 1) s.heap.objs.size 0 .none → h'.get? s.heap.objs.size = some o → (∀ b u, s.heap.get? b = some u → h'.get? b = some u) → Q (.ref (s.heap.objs.size + 1)) { s with heap := h' }) :
    wpAny (model prog w) A (call (.type "enumerate") [v]) Q E s := by
  have hz : (s.heap.push o).objs.size = s.heap.objs.size + 1 := Heap.size_push ..
  have en : IsEnum ((s.heap.push o).push (enumO s.heap.objs.size)) (s.heap.objs.size + 1) s.heap.objs.size 0 .none := by
    have q := Heap.get?_push_size (s.heap.push o) (o := enumO s.heap.objs.size) rfl
    rw [hz] at q
    exact q
  refine callType_new F.called_enumerate (by decide) (F.typeCall_enumerate_1 _) (F.newCall_enumerate_1 _) (fun u => F.args_object_init_2 u _) F.entry_enumerate_new (enum1_meets B) ⟨hb, ?_⟩
  rw [hz]
  exact ⟨⟨_, en, rfl⟩, k _ en (Heap.get?_push_of_some _ (Heap.get?_push_size _ B.free)) fun b u e => Heap.get?_push_of_some _ (Heap.get?_push_of_some _ e)⟩
/-- the tuple's items, each in a new pair with its place -/
def IteT (K : PySem.W.Frag) (a : Addr) : It where
  go i H := ∃ (xs : List V) (x : V), SqT K H a xs ∧ xs[i]? = some x
  yld i H v H' := ∃ T x, v = .ref T ∧ H T = none ∧ H' = upd H T (.tup [.int (i : Nat), x]) ∧ ∀ xs, SqT K H a xs → xs[i]? = some x
  stop i H := ∃ xs : List V, SqT K H a xs ∧ xs.length = i
theorem enumT_turn {P : Program} {w : World} {K : PySem.W.Frag} {elts : List Expr} {kk : Nat} {tpos : Pos} {a e it : Addr} (hei : e ≠ it) (hae : a ≠ e) (hai : a ≠ it) :
    Turn P w K (.Tuple elts kk tpos) (IteT K a) [e, it] e (fun i h => (∃ old, IsEnum h e it ((i : Nat) : Int) old) ∧ h.IsTupleIter it a i) where
  mem := List.mem_cons_self
  obj i h st b hb := by
    obtain ⟨⟨old, h1⟩, ⟨o, h2, _, h3⟩⟩ := st
    rcases List.mem_cons.mp hb with rfl | hb
    · exact ⟨_, h1, fun v q => nomatch q⟩
    · rw [List.mem_singleton.mp hb]
      exact ⟨o, h2, fun v q => by rw [h3] at q; cases q⟩
  keep i h h' st k := ⟨⟨st.1.choose, k e (by simp) _ st.1.choose_spec⟩, st.2.at fun o q => k it (by simp) o q⟩
  item := by
    intro X hP hw hK hc i pins s σ H E I hf st hg
    subst hP hw hK
    obtain ⟨⟨old, he⟩, hit⟩ := st
    obtain ⟨xs, x, hq, hx⟩ := hg
    obtain ⟨its, rv, p, hz⟩ := I.tuple hq
    obtain ⟨u, hu, ru⟩ := rv.get hx
    have D := Draws.tuple (prog := X.prog) (w := X.w) (A := X.A.in1) (I.ok.hd hc) it a hai its.toArray
    have hlt : i < its.toArray.size := by
      rw [List.size_toArray, ← rv.length]
      exact (List.getElem?_eq_some_iff.mp hx).1
    have hel : e < s.heap.objs.size := Heap.lt_size he
    refine wpAny_pyNext_enum_itemD D he ⟨hit, p⟩ hlt hei (by simp [hei, Ne.symm hae]) fun v h' tk hv ho hst hT hsz hk => ?_
    have hv' : v = u := by
      have hv2 : its.toArray[i]? = some v := hv
      have : its[i]? = some v := by simpa using hv2
      exact Option.some.inj (this.symm.trans hu)
    subst hv'
    refine ⟨_, rfl, wpAny_letOwnedTupleGo_enum (s := { s with heap := h', toks := tk + 1 }) ho fun h2 he2 sb => ?_⟩
    have hT2 := (sb.2 _ (Nat.ne_of_gt hel)).trans hT
    have new : ObjOk X.prog X.w (upd H s.heap.objs.size (.tup [.int (i : Nat), x])) h2 s.heap.objs.size (.tup [.int (i : Nat), x]) :=
      ⟨by show 2 ≤ sizeLine; decide, _, .cons ⟨_, rfl⟩ (.cons ru .nil), ⟨_, hT2, rfl, _, rfl⟩⟩
    have kp : ∀ b ob, b ∉ [e, it] → s.heap.get? b = some ob → h2.get? b = some ob := fun b ob hb q => by
      simp only [List.mem_cons, List.not_mem_nil, or_false, not_or] at hb
      exact (sb.2 b hb.1).trans (hk b ob hb.1 hb.2 q)
    have I1 := I.turnedNew (t' := tk + 1) kp hf (Nat.le_refl _) new
    refine ⟨.ref s.heap.objs.size, _, I1, rfl, ⟨_, x, rfl, I.hok.fresh (Nat.le_refl _), rfl, fun ys hy => by rw [I.tuple_inj hy hq]; exact hx⟩, ⟨⟨v, by rw [show ((i + 1 : Nat) : Int) = (i : Int) + 1 by omega]; exact he2⟩, hst.1.at fun o q => (sb.2 it (Ne.symm hei)).trans q⟩, fun b hb => ?_⟩
    obtain ⟨ob, hob, _⟩ : ∃ ob, s.heap.get? b = some ob ∧ True := by
      rcases List.mem_cons.mp hb with rfl | hb
      · exact ⟨_, he, trivial⟩
      · rw [List.mem_singleton.mp hb]
        obtain ⟨o, q, _⟩ := hit
        exact ⟨o, q, trivial⟩
    rw [upd_ne (Nat.ne_of_lt (Heap.lt_size hob))]
    exact (hf b hb).1
  done := by
    intro X hP hw hK hc i pins s σ H E I hf st hg
    subst hP hw hK
    obtain ⟨⟨old, he⟩, hit⟩ := st
    obtain ⟨xs, hq, hx⟩ := hg
    obtain ⟨its, rv, p, hz⟩ := I.tuple hq
    have D := Draws.tuple (prog := X.prog) (w := X.w) (A := X.A.in1) (I.ok.hd hc) it a hai its.toArray
    obtain ⟨f0, f1, f2, f3, f4, f5⟩ := hf it (by simp)
    have hn : its.toArray.size = i := by rw [List.size_toArray, ← rv.length]; exact hx
    exact wpAny_pyNext_enum_endD D he ⟨by rw [hn]; exact hit, p⟩ fun h' eb => ⟨rfl, I.turned (t' := s.toks) (fun b o hb q => eb b o hb q) f0 f1 f3 f4 f5⟩
  self A i s Q E st h := wpAny_pyIter_enum st.1.choose_spec h
def iEnumT (K : PySem.W.Frag) (ta : TA) : TI := fun σ H R => ta σ H fun vs H1 => ∃ a xs, vs = [.ref a] ∧ SqT K H1 a xs ∧ R (IteT K a) H1
theorem pi_enumT {X : Cx} {e : Expr} {ta : TA} {p pos tpos : Pos} {elts : List Expr} {kk : Nat} (hg : Gl X "enumerate") (hm : X.mg "enumerate" = none) (ha : PA X [e] ta) (hs : starEach [e] X.env = [(false, eval e X.env)]) :
    PI X (.Tuple elts kk tpos) (.Call (.Name "enumerate" p) [e] [] pos) (iEnumT X.K ta) := by
  constructor
  intro pins s σ H R I h
  refine Call_ (ld_blt I hg hm boot_enumerate (PyProof.Rows.callWith_type1 (thn (ha.run pos pins s σ H _ I h) fun us s1 ⟨vs, H1, I1, r1, q1⟩ => ?_) hs rfl))
  obtain ⟨a, xs, rfl, hq, q⟩ := q1
  obtain ⟨u, rfl, ru⟩ := vals1 r1
  cases (show u = Value.ref a from ru)
  obtain ⟨its, rv, p', hz⟩ := I1.tuple hq
  have hal : a < s1.heap.objs.size := p'.lt
  refine enum1_call (begins_tuple a its.toArray) p' fun h' he hit hk => wpAny_pyIter_enum he ?_
  have I2 := I1.kept (t' := s1.toks) hk
  refine ⟨s1.heap.objs.size + 1, [s1.heap.objs.size + 1, s1.heap.objs.size], _, _, H1, rfl, I2, enumT_turn (Nat.succ_ne_self _) (Nat.ne_of_lt (Nat.lt_succ_of_lt hal)) (Nat.ne_of_lt hal), ⟨⟨.none, he⟩, ⟨_, hit, rfl, rfl⟩⟩, fun b hb => ?_, q⟩
  have hle : s1.heap.objs.size ≤ b := by
    rcases List.mem_cons.mp hb with rfl | hb
    · exact Nat.le_succ _
    · rw [List.mem_singleton.mp hb]
      exact Nat.le_refl _
  exact I1.fpOk hle (I1.hok.fresh hle)
end Mir

namespace Mir
open PySem PySem.Spec PyProof.Rows L2

/-! ### set(l), l a list of ints, so that sorted takes it -/
abbrev freshSet (w : World) : Obj := { cls := .type "set", dict := none, data := .set #[] 0 (.fresh 0 0 (!w.params.followText "set-order")) }
section
variable {P : Program} {w : World} {A : Around} {E : Value → Shared → Prop} {s : Shared}
theorem setL_call {l : Addr} {its : Array Value} {ns : List Int} {Q : Value → Shared → Prop} (hh : A.handled = none) (hl : s.heap.IsList l its) (hi : IntsAre its.toList ns) (hb : ns.length + 1 < scanBound)
    (k : ∀ h' tk c, SetR w h' s.heap.objs.size (fun j => decide (j ∈ ns)) c → (∀ b o, s.heap.get? b = some o → h'.get? b = some o) → Q (.ref s.heap.objs.size) { s with heap := h', toks := tk }) :
    wpAny (model P w) A (call (.type "set") [.ref l]) Q E s := by
  have hn : its.size = ns.length := by
    have q := hi.length
    rwa [Array.length_toList] at q
  have ll : l < s.heap.objs.size := by
    obtain ⟨_, q, _⟩ := hl
    exact Heap.lt_size q
  obtain ⟨_, _, mro⟩ := F.called_set.mro
  have f1 := F.called_set.made
  have f2 := F.called_set.sub
  have f3 := F.called_set.notType
  have f4 := F.called_set.canCreate
  have f5 := F.typeCall_set_1 (.ref l)
  refine wpAny_call (codeAny_of_tree ?_)
  show wpAny _ _ (callAny (.type "set") _) _ _ _
  refine wpAny_pure ⟨Code.quiet_builtin _ (by decide +kernel), codeAny_builtin F.entry_type_call ?_⟩
  rw [Around.under_plain (weight_type_call_type "set" [.ref l] []) rfl]
  repeat (any_goals (first | assumption | wp_step))
  refine codeAny_mono (code_set_led1 (.ref l) (E := E) (Q₁ := fun obj s1 => obj = .ref s.heap.objs.size ∧ s1 = { s with heap := s.heap.push (freshSet w) }) ⟨rfl, rfl⟩) fun r s1 hs1 => ?_
  rcases r with er | (_ | _ | _ | obj)
  · exact hs1
  · exact hs1.elim
  · exact hs1.elim
  · exact hs1.elim
  obtain ⟨rfl, rfl⟩ := hs1
  have g0 : (s.heap.push (freshSet w)).get? s.heap.objs.size = some (freshSet w) := Heap.get?_push_size _ rfl
  have f6 := F.called_set.init.lookup
  have f7 := F.called_set.init.bind (.ref s.heap.objs.size)
  have f8 : Shared.TypeIs { s with heap := s.heap.push (freshSet w) } (.ref s.heap.objs.size) "set" := ⟨_, g0, rfl⟩
  repeat (any_goals (first | assumption | wp_step))
  refine codeAny_mono (codeAny_call_builtin (R := wants (fun r s2 => r = .none ∧ ∃ h' tk c, s2 = { s with heap := h', toks := tk } ∧ SetR w h' s.heap.objs.size (fun j => decide (j ∈ ns)) c ∧ ∀ b o, s.heap.get? b = some o → h'.get? b = some o) E) F.called_set.init.plain F.entry_set_init (check_set_init_1 f8 ?_)) fun r s2 hs2 => ?_
  case refine_2 =>
    rcases r with er | (_ | _ | _ | r)
    · exact hs2
    · exact hs2.elim
    · exact hs2.elim
    · exact hs2.elim
    obtain ⟨rfl, h', tk, c, rfl, q1, q2⟩ := hs2
    repeat (any_goals (first | assumption | wp_step))
    exact k _ _ _ q1 q2
  have hl1 : (s.heap.push (freshSet w)).IsList l its := hl.push _
  obtain ⟨⟨oc, od, odt, osl⟩, h0, h1, nl, h2⟩ := hl1
  simp only at h1 h2
  subst h1 h2
  have hl1 : (s.heap.push (freshSet w)).IsList l its := ⟨_, h0, rfl, nl, rfl⟩
  have sa := F.sub_list_set
  have sb := F.sub_list_frozenset
  have nd : (Value.type "list" == Value.type "dict") = false := by decide
  have zS : (s.heap.push (freshSet w)).objs.size = s.heap.objs.size + 1 := Heap.size_push ..
  unfold Builtin.«set.__init__» noKeywords Builtin.Frozenset.updateFrom
  generalize hp : pyIter = PI
  wp_walk
  subst hp
  refine wpAny_pyIter_list hl1 (wpAny_bind (wpAny_runValue ?_))
  have neI : l ≠ (s.heap.push (freshSet w)).objs.size := by rw [zS]; exact Nat.ne_of_lt (Nat.lt_succ_of_lt ll)
  have val : ∀ (i : Nat) (v : Value), its[i]? = some v → ∃ z t, ns[i]? = some z ∧ v = .int z t := fun i v hv => by
    have hil : i < ns.length := by rw [← hn]; exact (Array.getElem?_eq_some_iff.mp hv).1
    obtain ⟨t, e⟩ := IntsAre.int_at hi i v (by rw [Array.getElem?_toList]; exact hv)
    rw [List.getD_eq_getElem?_getD, List.getElem?_eq_getElem hil] at e
    exact ⟨ns[i], t, List.getElem?_eq_getElem hil, e⟩
  refine set_update_ints ((Walks.list (prog := P) (w := w) (A := A.in1.in1.in1) (by simp [hh]) _ l neI its).toS) s.heap.objs.size (by rw [zS]; simp only [List.mem_cons, List.not_mem_nil, or_false, not_or]; exact ⟨Nat.ne_of_lt (Nat.lt_succ_self _), Nat.ne_of_gt ll⟩)
    ns hn hb val (its.size - 0) 0 _ (by omega) (Nat.zero_le _) ⟨⟨_, Heap.get?_push_size _ rfl, rfl, rfl⟩, hl1.push _⟩ ⟨0, Nat.le_refl 0, setR_new_at (Heap.get?_push_of_some _ g0)⟩ ?_
  rintro ⟨h', g', d', tk', os'⟩ c mv hc hS
  obtain rfl : g' = s.gens := mv.gens
  obtain rfl : d' = s.drawn := mv.drawn
  obtain rfl : os' = s.os := mv.os
  refine wpAny_pure ?_
  refine wpAny_pure ⟨rfl, h', tk', c, rfl, hS, fun b o e => ?_⟩
  have lb : b < s.heap.objs.size := Heap.lt_size e
  refine mv.heap b o ?_ (Heap.get?_push_of_some _ (Heap.get?_push_of_some _ e))
  rw [zS]
  simp only [List.mem_cons, List.not_mem_nil, or_false, not_or]
  exact ⟨Nat.ne_of_lt lb, Nat.ne_of_lt (Nat.lt_succ_of_lt lb)⟩
end
end Mir

namespace Mir
open PySem PySem.Spec PyProof.Rows L2
theorem mem_insI (x k : Int) : ∀ l : List Int, k ∈ insI x l ↔ k = x ∨ k ∈ l
  | [] => by simp [insI]
  | y :: r => by
    unfold insI
    split
    · simp
    · split
      · rename_i h; subst h; simp
      · rw [List.mem_cons, mem_insI x k r, List.mem_cons]
        constructor
        · rintro (h | h | h)
          · exact .inr (.inl h)
          · exact .inl h
          · exact .inr (.inr h)
        · rintro (h | h | h)
          · exact .inr (.inl h)
          · exact .inl h
          · exact .inr (.inr h)
theorem pw_insI (x : Int) : ∀ l : List Int, l.Pairwise (· < ·) → (insI x l).Pairwise (· < ·)
  | [], _ => by simp [insI]
  | y :: r, h => by
    obtain ⟨h1, h2⟩ := List.pairwise_cons.mp h
    unfold insI
    split
    · rename_i hx
      refine List.pairwise_cons.mpr ⟨fun z hz => ?_, h⟩
      rcases List.mem_cons.mp hz with rfl | hz
      · exact hx
      · exact Int.lt_trans hx (h1 z hz)
    · split
      · exact h
      · rename_i h3 h4
        refine List.pairwise_cons.mpr ⟨fun z hz => ?_, pw_insI x r h2⟩
        rcases (mem_insI x z r).mp hz with rfl | hz
        · omega
        · exact h1 z hz
theorem mem_srt (k : Int) : ∀ ns : List Int, k ∈ srt ns ↔ k ∈ ns
  | [] => by simp [srt]
  | x :: r => by
    show k ∈ insI x (srt r) ↔ _
    rw [mem_insI, mem_srt k r, List.mem_cons]
theorem pw_srt : ∀ ns : List Int, (srt ns).Pairwise (· < ·)
  | [] => List.Pairwise.nil
  | x :: r => pw_insI x _ (pw_srt r)
/-- an ascending list is told by its members -/
theorem asc_one : ∀ {l m : List Int}, l.Pairwise (· < ·) → m.Pairwise (· < ·) → (∀ k, k ∈ l ↔ k ∈ m) → l = m
  | [], [], _, _, _ => rfl
  | [], y :: m, _, _, h => absurd ((h y).mpr List.mem_cons_self) (by simp)
  | x :: l, [], _, _, h => absurd ((h x).mp List.mem_cons_self) (by simp)
  | x :: l, y :: m, h1, h2, h => by
    obtain ⟨a1, a2⟩ := List.pairwise_cons.mp h1
    obtain ⟨b1, b2⟩ := List.pairwise_cons.mp h2
    have e : x = y := by
      rcases List.mem_cons.mp ((h x).mp List.mem_cons_self) with e | e
      · exact e
      · rcases List.mem_cons.mp ((h y).mpr List.mem_cons_self) with e2 | e2
        · exact e2.symm
        · have := b1 x e
          have := a1 y e2
          omega
    subst e
    rw [asc_one a2 b2 fun k => ?_]
    constructor
    · intro hk
      rcases List.mem_cons.mp ((h k).mp (List.mem_cons_of_mem _ hk)) with e | e
      · subst e; exact absurd (a1 k hk) (by omega)
      · exact e
    · intro hk
      rcases List.mem_cons.mp ((h k).mpr (List.mem_cons_of_mem _ hk)) with e | e
      · subst e; exact absurd (b1 k hk) (by omega)
      · exact e
theorem nd_asc {l : List Int} (h : l.Pairwise (· < ·)) : l.Nodup := h.imp (fun hab e => by omega)
theorem srt_len {l ns : List Int} (h : l.Nodup) (e : ∀ k, k ∈ l ↔ k ∈ ns) : l.length = (srt ns).length :=
  ((List.perm_ext_iff_of_nodup h (nd_asc (pw_srt ns))).mpr fun k => by rw [e, mem_srt]).length_eq
theorem srt_len_le (ns : List Int) : (srt ns).length ≤ ns.length := by
  induction ns with
  | nil => exact Nat.le_refl _
  | cons x r ih =>
    have : ∀ l : List Int, (insI x l).length ≤ l.length + 1 := by
      intro l
      induction l with
      | nil => simp [insI]
      | cons y t ih =>
        unfold insI
        split
        · simp
        · split
          · simp
          · simp only [List.length_cons]; omega
    have h2 := this (srt r)
    show (insI x (srt r)).length ≤ _
    simp only [List.length_cons]
    omega

section
variable {X : Cx}
/-- set(a sequence of ints) -/
def rSetD (K : PySem.W.Frag) (w : World) : List V → Hp → VK → Prop := fun xs H Q => ∃ (p : Addr) (ns : List Int), xs = [.ref p] ∧ (SqL K H p (ns.map V.int) ∨ SqT K H p (ns.map V.int)) ∧ ns.length < 64 ∧ ∀ q, H q = none → ∀ c, c = (srt ns).length → Q (.ref q) (upd H q (SetO w q (fun j => decide (j ∈ ns)) c))
theorem ints_of_vals : ∀ {ns : List Int} {us : List Value}, Vals (ns.map V.int) us → IntsAre us ns
  | [], _, .nil => .nil
  | _ :: _, _, .cons ⟨_, rfl⟩ t => .cons _ _ (ints_of_vals t)
theorem setR_size {w : World} {h : Heap} {a : Addr} {ns : List Int} {c : Nat} (R : SetR w h a (fun j => decide (j ∈ ns)) c) : c = (srt ns).length := by
  obtain ⟨o, es, ep, t, ho, hex, hd, g, nd, hm, hb, hf, hn, hr, hl⟩ := R
  rw [← hn, ← srt_len nd (fun k => by rw [← hm k]; exact decide_eq_true_iff), List.length_map, Array.length_toList]
theorem set_D (hc : X.calm = true) : CallR X (.type "set") (rSetD X.K X.w) := by
  intro pins s σ H xs us Q I r h
  obtain ⟨p, ns, rfl, hh, hz, k⟩ := h
  obtain ⟨u, rfl, ru⟩ := vals1 r
  cases (show u = Value.ref p from ru)
  have hb : ns.length + 1 < scanBound := by unfold scanBound; omega
  have fin : ∀ (h' : Heap) (tk c : Nat), SetR X.w h' s.heap.objs.size (fun j => decide (j ∈ ns)) c → (∀ b o, s.heap.get? b = some o → h'.get? b = some o) → EP X pins σ Q (.ref s.heap.objs.size) { s with heap := h', toks := tk } :=
    fun h' tk c R hk => ⟨.ref s.heap.objs.size, _, I.laid hk (Nat.le_refl _) (setO_new R), rfl, k _ I.fresh c (setR_size R)⟩
  rcases hh with hh | hh
  · obtain ⟨its, rv, pl, _⟩ := I.list hh
    exact setL_call (I.ok.hd hc) pl.isList (by simpa using ints_of_vals rv) hb fun h' tk c R hk => fin h' tk c R hk
  · obtain ⟨its, rv, pl, _⟩ := I.tuple hh
    exact call_set_tupI ns (I.ok.hd hc) pl (by simpa using ints_of_vals rv) hb fun h' tk c R _ hk => fin h' tk c R hk
theorem len_set : CallR X (.builtin "len") (fun xs H Q => ∃ a S n, xs = [.ref a] ∧ H a = some (SetO X.w a S n) ∧ n < 64 ∧ Q (.int n) H) := by
  intro pins s σ H xs us Q I r h
  obtain ⟨a, S, n, rfl, ha, hz, q⟩ := h
  obtain ⟨u, rfl, ru⟩ := vals1 r
  cases (show u = Value.ref a from ru)
  obtain ⟨o, es, ep, t, ho, hex, hd, g, nd, hm, hb, hf, hn, hr, hl⟩ := setO_get I ha
  exact call_len_set ho hex hd hf (by rw [hn]; omega) ⟨.int n, H, I.tok _, ⟨_, by rw [hn]⟩, q⟩
end
end Mir

namespace Mir
open PySem PySem.Spec PyProof.Rows L2

/-- built-in names that the rules read -/
def bltNames : List Str := ["len", "list", "tuple", "all", "any", "int", "repr", "min", "max", "sorted", "set", "range", "enumerate", "zip", "isinstance", "bool", "str", "dict", "sum"]
structure Good (X : Cx) (g : G) (k : Nat) : Prop where
  calm : X.calm = true
  nd : X.N.Nodup
  room : Room k X.A
  gd : X.A.guards = some []
  no : ∀ x ∈ bltNames, X.mg x = none
  same : ∀ a b, g.same a b = true → a = b

def EM (X : Cx) (g : G) (e : Expr) (c : CE) : Prop := PE X e (tM X.K fun en s => evE g en c s)
def TM (X : Cx) (g : G) (e : Expr) (c : CE) : Prop := PT X e (tMT X.K fun en s => tstR (evE g en c s))
def WM (X : Cx) (g : G) (e : Expr) (c : CE) : Prop := PW X e (tMT X.K fun en s => tstR (evE g en c s))
def AM (X : Cx) (g : G) (es : List Expr) (cs : List CE) : Prop := PA X es (tMA X.K fun en s => evEs g en cs s)

theorem evEs_len (g : G) (e : Mir.Env) : ∀ (cs : List CE) (s : MS) (ds : List D) (s' : MS), evEs g e cs s = .ok ds s' → ds.length = cs.length
  | [], s, ds, s', h => by cases h; rfl
  | c :: r, s, ds, s', h => by
    have h : ((evE g e c s).bind fun d s => (evEs g e r s).bind fun ds s => .ok (d :: ds) s) = .ok ds s' := h
    obtain ⟨d, s1, h1, h⟩ := R.bind_ok h
    obtain ⟨t, s2, h2, h⟩ := R.bind_ok h
    cases h
    simp only [List.length_cons, evEs_len g e r _ _ _ h2]

section
variable {X : Cx} {g : G} {k : Nat} {a b c e : Expr} {ca cb cc ce : CE} {pos p : Pos} {es rest : List Expr} {cs : List CE} {x : Str}

/-! ### names, constants -/
theorem em_var {i : Nat} (hN : X.N[i]? = some x) (hv : Vis X.env.scope x) (hd : (x == ("__debug__" : Str)) = false) (hcd : (x == ("__classdict__" : Str)) = false) : EM X g (.Name x pos) (.var i) :=
  (pe_var hN hv hd hcd).of fun σ H Q ⟨ρ, en, s, d, s', E, S, h, kt⟩ => by
    have h : (match en[i]? with
      | some (some d) => R.ok d s
      | _ => .bad) = .ok d s' := h
    split at h
    · rename_i q
      cases h
      obtain ⟨v, hv, r⟩ := E.2 i _ q
      exact ⟨v, hv, kt.now S r⟩
    · cases h
theorem em_int {i : Int} {j} : EM X g (.Constant (.int i) j pos) (.cst (.int i)) := pe_int.of fun σ H Q ⟨ρ, en, s, d, s', E, S, h, kt⟩ => by cases h; exact kt.now S (.int i)
theorem em_bl {i : Bool} {j} : EM X g (.Constant (.bool i) j pos) (.cst (.bl i)) := pe_bl.of fun σ H Q ⟨ρ, en, s, d, s', E, S, h, kt⟩ => by cases h; exact kt.now S (.bl i)
theorem em_non {j} : EM X g (.Constant .none j pos) (.cst .non) := pe_non.of fun σ H Q ⟨ρ, en, s, d, s', E, S, h, kt⟩ => by cases h; exact kt.now S .non
theorem em_str {i : Str} {j} : EM X g (.Constant (.str i) j pos) (.cst (.str i)) := pe_str.of fun σ H Q ⟨ρ, en, s, d, s', E, S, h, kt⟩ => by cases h; exact kt.now S (.str i)

/-! ### argument lists, displays -/
theorem am_nil : AM X g [] [] := pa_nil.of fun σ H Q ⟨ρ, en, s, d, s', E, S, h, kt⟩ => by cases h; exact kt ρ H [] .refl S .nil
theorem am_cons (ha : EM X g e ce) (hr : AM X g es cs) (hs : starEach (e :: es) X.env = (false, eval e X.env) :: starEach es X.env := by rfl) : AM X g (e :: es) (ce :: cs) :=
  (pa_cons ha hr hs).of fun σ H Q ⟨ρ, en, s, d, s', E, S, h, kt⟩ => by
    have h : ((evE g en ce s).bind fun d s => (evEs g en cs s).bind fun ds s => .ok (d :: ds) s) = .ok d s' := h
    obtain ⟨d1, s1, h1, h⟩ := R.bind_ok h
    obtain ⟨t, s2, h2, h⟩ := R.bind_ok h
    cases h
    exact ⟨ρ, en, s, d1, s1, E, S, h1, fun ρ1 H1 v st1 S1 r1 => ⟨ρ1, en, s1, t, _, E.step st1, S1, h2, fun ρ2 H2 vs st2 S2 r2 => kt ρ2 H2 _ (st1.trans st2) S2 (.cons (r1.step st2) r2)⟩⟩
theorem em_tup {j} (h : AM X g es cs) (hl : cs.length ≤ 1000000 := by decide) : EM X g (.Tuple es j pos) (.tup cs) :=
  (pe_tup h).of fun σ H Q q => convTup q fun ρ en s ds s' E S h => by rw [evEs_len g en cs _ _ _ h]; exact hl
theorem em_lst (h : AM X g es cs) (hl : cs.length ≤ 1000000 := by decide) : EM X g (.List es pos) (.lst cs) :=
  (pe_lst h).of fun σ H Q q => convLst q fun ρ en s ds s' E S h => by rw [evEs_len g en cs _ _ _ h]; exact hl

/-! ### operators -/
theorem em_bin (o : Operator) (ha : EM X g a ca) (hb : EM X g b cb) : EM X g (.BinOp a o b pos) (.bin o ca cb) := (pe_op (bin_ok o) ha hb).of fun σ H Q h => conv2 h
theorem em_neg (ha : EM X g a ca) : EM X g (.UnaryOp .USub a pos) (.neg ca) := (pe_un un_neg ha).of fun σ H Q ⟨ρ, en, s, d, s', E, S, h, kt⟩ => by
  obtain ⟨y, s1, h1, h⟩ := R.bind_ok h
  refine ⟨ρ, en, s, y, s1, E, S, h1, fun ρ1 H1 v st1 S1 r1 => ?_⟩
  split at h
  · cases h
    cases r1
    exact ⟨_, rfl, kt ρ1 H1 _ st1 S1 (.int _)⟩
  · cases h
theorem em_not (ha : EM X g a ca) : EM X g (.UnaryOp .Not a pos) (.not ca) := (pe_notT ha).of fun σ H Q ⟨ρ, en, s, d, s', E, S, h, kt⟩ => by
  obtain ⟨y, s1, h1, h⟩ := R.bind_ok h
  cases h
  exact convTruth ⟨ρ, en, s, y, _, E, S, h1, fun ρ1 H1 st1 S1 => kt ρ1 H1 _ st1 S1 (.bl _)⟩
theorem em_one {o} (ha : EM X g a ca) : EM X g (.BoolOp o [a] pos) ca := pe_one ha
theorem em_and (ha : EM X g a ca) (hb : EM X g (.BoolOp .And (b :: rest) pos) cb) : EM X g (.BoolOp .And (a :: b :: rest) pos) (.and ca cb) := (pe_andT ha hb).of fun σ H Q ⟨ρ, en, s, d, s', E, S, h, kt⟩ => by
  obtain ⟨y, s1, h1, h⟩ := R.bind_ok h
  refine ⟨ρ, en, s, y, s1, E, S, h1, fun ρ1 H1 v st1 S1 r1 => ?_⟩
  split at h
  · rename_i q
    exact ⟨true, truth_ok S1 r1 q, by rw [if_pos rfl]; exact ⟨ρ1, en, s1, d, s', E.step st1, S1, h, fun ρ2 H2 v2 st2 => kt ρ2 H2 v2 (st1.trans st2)⟩⟩
  · rename_i q
    cases h
    exact ⟨false, truth_ok S1 r1 q, by rw [if_neg Bool.false_ne_true]; exact kt ρ1 H1 v st1 S1 r1⟩
  · cases h
theorem em_or (ha : EM X g a ca) (hb : EM X g (.BoolOp .Or (b :: rest) pos) cb) : EM X g (.BoolOp .Or (a :: b :: rest) pos) (.or ca cb) := (pe_orT ha hb).of fun σ H Q ⟨ρ, en, s, d, s', E, S, h, kt⟩ => by
  obtain ⟨y, s1, h1, h⟩ := R.bind_ok h
  refine ⟨ρ, en, s, y, s1, E, S, h1, fun ρ1 H1 v st1 S1 r1 => ?_⟩
  split at h
  · rename_i q
    exact ⟨false, truth_ok S1 r1 q, by rw [if_neg Bool.false_ne_true]; exact ⟨ρ1, en, s1, d, s', E.step st1, S1, h, fun ρ2 H2 v2 st2 => kt ρ2 H2 v2 (st1.trans st2)⟩⟩
  · rename_i q
    cases h
    exact ⟨true, truth_ok S1 r1 q, by rw [if_pos rfl]; exact kt ρ1 H1 v st1 S1 r1⟩
  · cases h
theorem em_cmp (C : Good X g k) (o : CmpOp) (ha : EM X g a ca) (hb : EM X g b cb) (hm : behindInMarks o b = false) : EM X g (.Compare a [o] [b] pos) (.cmp o ca cb) :=
  (pe_cmpR (cmp_ok C.room.units o) ha hb hm).of fun σ H Q h => conv2 h
theorem isNon_v {K : PySem.W.Frag} {ρ : List Addr} {H : Hp} {d : D} {v : V} (r : RelD K ρ H d v) : decide (v = .non) = isNon d := by cases r <;> rfl
theorem em_isN {j p'} (ha : EM X g a ca) : EM X g (.Compare a [.Is] [.Constant .none j p'] pos) (.isN ca) := (pe_cmp (pc_isN ha)).of fun σ H Q ⟨ρ, en, s, d, s', E, S, h, kt⟩ => by
  obtain ⟨y, s1, h1, h⟩ := R.bind_ok h
  cases h
  exact ⟨ρ, en, s, y, _, E, S, h1, fun ρ1 H1 v st1 S1 r1 => by have q := kt ρ1 H1 _ st1 S1 (.bl _); rw [← isNon_v r1] at q; exact q⟩
theorem em_ntN {j p'} (ha : EM X g a ca) : EM X g (.Compare a [.IsNot] [.Constant .none j p'] pos) (.ntN ca) := (pe_cmp (pc_notN ha)).of fun σ H Q ⟨ρ, en, s, d, s', E, S, h, kt⟩ => by
  obtain ⟨y, s1, h1, h⟩ := R.bind_ok h
  cases h
  exact ⟨ρ, en, s, y, _, E, S, h1, fun ρ1 H1 v st1 S1 r1 => by have q := kt ρ1 H1 _ st1 S1 (.bl _); rw [← isNon_v r1] at q; exact q⟩
theorem conv_chn {o q : CmpOp} {σ : L2.St} {H : Hp} {Q : VK} (h : tM X.K (fun en s => evE g en (.chn o q ca cb cc) s) σ H Q) :
    tChain (rOp2 X.K fun a b s => R.of s ((cmpD o a b s).map .bl)) (rOp2 X.K fun a b s => R.of s ((cmpD q a b s).map .bl)) (tM X.K fun en s => evE g en ca s) (tM X.K fun en s => evE g en cb s) (tM X.K fun en s => evE g en cc s) σ H Q := by
  obtain ⟨ρ, en, s, d, s', E, S, h, kt⟩ := h
  obtain ⟨x, s1, h1, h⟩ := R.bind_ok h
  obtain ⟨y, s2, h2, h⟩ := R.bind_ok h
  refine ⟨ρ, en, s, x, s1, E, S, h1, fun ρ1 H1 v1 st1 S1 r1 => ⟨ρ1, en, s1, y, s2, E.step st1, S1, h2, fun ρ2 H2 v2 st2 S2 r2 => ?_⟩⟩
  have E2 := E.step (st1.trans st2)
  split at h
  · rename_i hc
    obtain ⟨z, s3, h3, h⟩ := R.bind_ok h
    refine ⟨ρ2, s2, x, y, .bl true, s2, S2, r1.step st2, r2, by show R.of s2 ((cmpD o x y s2).map _) = _; rw [hc]; rfl, fun ρ3 H3 v3 st3 S3 r3 => ?_⟩
    cases r3
    refine ⟨true, rfl, ?_⟩
    rw [if_pos rfl]
    refine ⟨ρ3, en, s2, z, s3, E2.step st3, S3, h3, fun ρ4 H4 v4 st4 S4 r4 => ⟨ρ4, s3, y, z, d, s', S4, (r2.step st3).step st4, r4, h, fun ρ5 H5 v5 st5 => kt ρ5 H5 v5 (st1.trans (st2.trans (st3.trans (st4.trans st5))))⟩⟩
  · rename_i hc
    cases h
    refine ⟨ρ2, _, x, y, .bl false, _, S2, r1.step st2, r2, by show R.of _ ((cmpD o x y _).map _) = _; rw [hc]; rfl, fun ρ3 H3 v3 st3 S3 r3 => ?_⟩
    cases r3
    refine ⟨false, rfl, ?_⟩
    rw [if_neg Bool.false_ne_true]
    exact kt ρ3 H3 _ (st1.trans (st2.trans st3)) S3 (.bl false)
  · cases h
theorem em_chn (C : Good X g k) (o q : CmpOp) (ha : EM X g a ca) (hb : EM X g b cb) (hc : EM X g c cc) (hm : lastMarks [o, q] [b, c] = false := by with_unfolding_all rfl) : EM X g (.Compare a [o, q] [b, c] pos) (.chn o q ca cb cc) :=
  (pe_chain (cmp_ok C.room.units o) (cmp_ok C.room.units q) ha hb hc hm).of fun σ H Q h => conv_chn h
theorem em_ite (C : Good X g k) (hc : TM X g c cc) (ha : EM X g a ca) (hb : EM X g b cb) : EM X g (.IfExp c a b pos) (.ite cc ca cb) := (pe_ifExp hc ha hb).of fun σ H Q ⟨ρ, en, s, d, s', E, S, h, kt⟩ => by
  obtain ⟨t, s1, h1, h⟩ := R.bind_ok h
  refine gcB_ok C.same ⟨ρ, en, s, t, s1, E, S, h1, fun ρ1 H1 st1 S1 => ?_⟩
  cases t with
  | true => rw [if_pos rfl] at h ⊢; exact ⟨ρ1, en, s1, d, s', E.step st1, S1, h, fun ρ2 H2 v2 st2 => kt ρ2 H2 v2 (st1.trans st2)⟩
  | false => rw [if_neg Bool.false_ne_true] at h ⊢; exact ⟨ρ1, en, s1, d, s', E.step st1, S1, h, fun ρ2 H2 v2 st2 => kt ρ2 H2 v2 (st1.trans st2)⟩

/-! ### tests -/
theorem tm_val (ha : EM X g a ca) (he : ∀ whole, isTrue a X.env whole = (do let v ← whole; standAt a.pos; holding [v] (truthy v)) := by intro _; rfl) : TM X g a ca := (pt_truth ha he).of fun σ H Q h => convTruth h
theorem tm_w (h : WM X g a ca) : TM X g a ca := h.pt
theorem wm_and1 (ha : TM X g a ca) : WM X g (.BoolOp .And [a] pos) ca := pw_and1 ha
theorem wm_or1 (ha : TM X g a ca) : WM X g (.BoolOp .Or [a] pos) ca := pw_or1 ha
theorem PW.of {X : Cx} {e : Expr} {t t' : TT} (h : PW X e t) (c : ∀ σ H Q, t' σ H Q → t σ H Q) : PW X e t' := ⟨fun w pins s σ H Q I q => h.run w pins s σ H Q I (c σ H Q q)⟩
theorem wm_and (ha : TM X g a ca) (hb : WM X g (.BoolOp .And (b :: rest) pos) cb) : WM X g (.BoolOp .And (a :: b :: rest) pos) (.and ca cb) := PW.of (pw_and ha hb) fun σ H Q ⟨ρ, en, s, d, s', E, S, h, kt⟩ => by
  obtain ⟨y, s1, h1, h⟩ := R.bind_ok h
  obtain ⟨z, s2, h2, h3⟩ := R.bind_ok h1
  split at h3
  · rename_i q
    exact ⟨ρ, en, s, true, s2, E, S, by show (evE g en ca s).bind _ = _; rw [h2]; show R.of s2 _ = _; rw [q]; rfl, fun ρ1 H1 st1 S1 => by
      refine iteT ?_
      exact ⟨ρ1, en, s2, d, s', E.step st1, S1, by show (evE g en cb s2).bind _ = _; rw [h3]; exact h, fun ρ2 H2 st2 => kt ρ2 H2 (st1.trans st2)⟩⟩
  · rename_i q
    cases h3
    obtain ⟨h4, h5⟩ := R.of_ok h
    rw [q] at h4
    cases h4
    subst h5
    exact ⟨ρ, en, s, false, _, E, S, by show (evE g en ca s).bind _ = _; rw [h2]; show R.of _ _ = _; rw [q]; rfl, fun ρ1 H1 st1 S1 => by
      refine iteF ?_
      exact kt ρ1 H1 st1 S1⟩
  · cases h3
theorem wm_or (ha : TM X g a ca) (hb : WM X g (.BoolOp .Or (b :: rest) pos) cb) : WM X g (.BoolOp .Or (a :: b :: rest) pos) (.or ca cb) := PW.of (pw_or ha hb) fun σ H Q ⟨ρ, en, s, d, s', E, S, h, kt⟩ => by
  obtain ⟨y, s1, h1, h⟩ := R.bind_ok h
  obtain ⟨z, s2, h2, h3⟩ := R.bind_ok h1
  split at h3
  · rename_i q
    exact ⟨ρ, en, s, false, s2, E, S, by show (evE g en ca s).bind _ = _; rw [h2]; show R.of s2 _ = _; rw [q]; rfl, fun ρ1 H1 st1 S1 => by
      refine iteF ?_
      exact ⟨ρ1, en, s2, d, s', E.step st1, S1, by show (evE g en cb s2).bind _ = _; rw [h3]; exact h, fun ρ2 H2 st2 => kt ρ2 H2 (st1.trans st2)⟩⟩
  · rename_i q
    cases h3
    obtain ⟨h4, h5⟩ := R.of_ok h
    rw [q] at h4
    cases h4
    subst h5
    exact ⟨ρ, en, s, true, _, E, S, by show (evE g en ca s).bind _ = _; rw [h2]; show R.of _ _ = _; rw [q]; rfl, fun ρ1 H1 st1 S1 => by
      refine iteT ?_
      exact kt ρ1 H1 st1 S1⟩
  · cases h3
theorem tm_not (ha : TM X g a ca) : TM X g (.UnaryOp .Not a pos) (.not ca) := (pt_not ha).of fun σ H Q ⟨ρ, en, s, d, s', E, S, h, kt⟩ => by
  obtain ⟨y, s1, h1, h⟩ := R.bind_ok h
  obtain ⟨z, s2, h2, h3⟩ := R.bind_ok h1
  cases h3
  obtain ⟨h4, h5⟩ := R.of_ok h
  cases h4
  subst h5
  exact ⟨ρ, en, s, z, _, E, S, h2, fun ρ1 H1 st1 S1 => kt ρ1 H1 st1 S1⟩
theorem conv_t {t : TE} {m : Mir.Env → MS → R D} {σ : L2.St} {H : Hp} {Q : Bool → Hp → Prop} (hb : ∀ en s d s', m en s = .ok d s' → ∃ b, d = .bl b) (c : ∀ Q', tM X.K m σ H Q' → t σ H Q') (h : tMT X.K (fun en s => tstR (m en s)) σ H Q) : tTest t σ H Q := by
  obtain ⟨ρ, en, s, d, s', E, S, h, kt⟩ := h
  obtain ⟨y, s1, h1, h⟩ := R.bind_ok h
  obtain ⟨h4, h5⟩ := R.of_ok h
  subst h5
  obtain ⟨b, rfl⟩ := hb _ _ _ _ h1
  cases h4
  refine c _ ⟨ρ, en, s, _, _, E, S, h1, fun ρ1 H1 v st1 S1 r1 => ?_⟩
  cases r1
  exact ⟨_, rfl, kt ρ1 H1 st1 S1⟩
theorem of_bl {s s' : MS} {o : Option Bool} {d : D} (h : R.of s (o.map D.bl) = .ok d s') : ∃ b, d = .bl b := by
  obtain ⟨h, _⟩ := R.of_ok h
  cases o with
  | none => cases h
  | some b => exact ⟨b, (Option.some.inj h).symm⟩
theorem tm_cmp (C : Good X g k) (o : CmpOp) (ha : EM X g a ca) (hb : EM X g b cb) (hm : behindInMarks o b = false) : TM X g (.Compare a [o] [b] pos) (.cmp o ca cb) :=
  (pt_cmpR (cmp_ok C.room.units o) ha hb hm).of fun σ H Q h => conv_t (m := fun en s => evE g en (.cmp o ca cb) s) (fun en s d s' h => by
    obtain ⟨x, s1, h1, h⟩ := R.bind_ok h
    obtain ⟨y, s2, h2, h⟩ := R.bind_ok h
    exact of_bl h) (fun Q' h => conv2 h) h
theorem tm_chn (C : Good X g k) (o q : CmpOp) (ha : EM X g a ca) (hb : EM X g b cb) (hc : EM X g c cc) (hm : lastMarks [o, q] [b, c] = false := by with_unfolding_all rfl) : TM X g (.Compare a [o, q] [b, c] pos) (.chn o q ca cb cc) :=
  (pt_chain (cmp_ok C.room.units o) (cmp_ok C.room.units q) ha hb hc hm).of fun σ H Q h => conv_t (m := fun en s => evE g en (.chn o q ca cb cc) s) (fun en s d s' h => by
    obtain ⟨x, s1, h1, h⟩ := R.bind_ok h
    obtain ⟨y, s2, h2, h⟩ := R.bind_ok h
    split at h
    · obtain ⟨z, s3, h3, h⟩ := R.bind_ok h
      exact of_bl h
    · cases h; exact ⟨_, rfl⟩
    · cases h) (fun Q' h => conv_chn h) h
theorem tm_isN {j p'} (ha : EM X g a ca) : TM X g (.Compare a [.Is] [.Constant .none j p'] pos) (.isN ca) := (pt_cmp (pc_isN ha)).of fun σ H Q ⟨ρ, en, s, d, s', E, S, h, kt⟩ => by
  obtain ⟨y, s1, h1, h⟩ := R.bind_ok h
  obtain ⟨z, s2, h2, h3⟩ := R.bind_ok h1
  cases h3; cases h
  exact ⟨ρ, en, s, z, _, E, S, h2, fun ρ1 H1 v st1 S1 r1 => ⟨_, by rw [isNon_v r1], kt ρ1 H1 st1 S1⟩⟩
theorem tm_ntN {j p'} (ha : EM X g a ca) : TM X g (.Compare a [.IsNot] [.Constant .none j p'] pos) (.ntN ca) := (pt_cmp (pc_notN ha)).of fun σ H Q ⟨ρ, en, s, d, s', E, S, h, kt⟩ => by
  obtain ⟨y, s1, h1, h⟩ := R.bind_ok h
  obtain ⟨z, s2, h2, h3⟩ := R.bind_ok h1
  cases h3; cases h
  exact ⟨ρ, en, s, z, _, E, S, h2, fun ρ1 H1 v st1 S1 r1 => ⟨_, by rw [isNon_v r1], kt ρ1 H1 st1 S1⟩⟩

/-! ### subscripts -/
theorem em_ix (ha : EM X g a ca) (hb : EM X g b cb) (hs : PlainIx b := by intro _ _; rfl) : EM X g (.Subscript a b pos) (.ix ca cb) := (pe_ix ix_ok ha hb hs).of fun σ H Q h => conv2 h
/-- a part of a slice -/
def OM (X : Cx) (g : G) (eo : Option Expr) (pl : Bool) (c : CE) : Prop := PO X eo (fun σ H Q => ∃ ρ en s d s' q, RelE X.K ρ H en σ ∧ RelS X.K ρ H s ∧ evE g en c s = .ok d s' ∧ partD pl d = some q ∧ ∀ ρ' H', Step X.K ρ H ρ' H' → RelS X.K ρ' H' s' → Q q H')
theorem om_none : OM X g none false (.cst .non) := ⟨fun pins s σ H Q I ⟨ρ, en, ms, d, s', q, E, S, h, hq, kt⟩ => po_none.run pins s σ H Q I (by cases h; cases hq; exact kt ρ H .refl S)⟩
theorem om_some (ha : EM X g a ca) : OM X g (some a) true ca := ⟨fun pins s σ H Q I ⟨ρ, en, ms, d, s', q, E, S, h, hq, kt⟩ => (po_some ha).run pins s σ H Q I ⟨ρ, en, ms, d, s', E, S, h, fun ρ1 H1 v st1 S1 r1 => by
  cases r1 <;> cases hq
  exact ⟨_, rfl, kt ρ1 H1 st1 S1⟩⟩⟩
theorem em_sl {lo hi : Option Expr} {pl ph : Bool} {cl chh : CE} {p2} (ha : EM X g a ca) (hl : OM X g lo pl cl) (hh : OM X g hi ph chh) : EM X g (.Subscript a (.Slice lo hi none p2) pos) (.sl pl ph ca cl chh) :=
  (pe_slice sl_ok ha hl hh).of fun σ H Q ⟨ρ, en, s, d, s', E, S, h, kt⟩ => by
    obtain ⟨x, s1, h1, h⟩ := R.bind_ok h
    obtain ⟨l, s2, h2, h⟩ := R.bind_ok h
    obtain ⟨u, s3, h3, h⟩ := R.bind_ok h
    obtain ⟨l', u', el, eu⟩ : ∃ l' u', partD pl l = some l' ∧ partD ph u = some u' := by
      have h' := h
      unfold getSl at h'
      split at h'
      · rename_i l' u' e1 e2
        exact ⟨l', u', e1, e2⟩
      · cases h'
    exact ⟨ρ, en, s, x, s1, E, S, h1, fun ρ1 H1 v1 st1 S1 r1 => ⟨ρ1, en, s1, l, s2, l', E.step st1, S1, h2, el, fun ρ2 H2 st2 S2 => ⟨ρ2, en, s2, u, s3, u', E.step (st1.trans st2), S2, h3, eu, fun ρ3 H3 st3 S3 =>
      ⟨ρ3, s3, x, pl, ph, l, u, d, s', S3, r1.step (st2.trans st3), el, eu, h, fun ρ' H' v st => kt ρ' H' v (st1.trans (st2.trans (st3.trans st)))⟩⟩⟩⟩

/-! ### methods of lists -/
theorem mth_ref {m : Mth} {x d : D} {ds : List D} {s s' : MS} (h : mthD m x ds s = .ok d s') : ∃ n, x = .ref n := by
  unfold mthD at h
  split at h
  · exact ⟨_, rfl⟩
  · cases h
theorem tyL {K : PySem.W.Frag} {ρ : List Addr} {H : Hp} {s : MS} {n : Nat} {v : V} (S : RelS K ρ H s) (r : RelD K ρ H (.ref n) v) : tyV K "list" v H := by
  cases r with
  | ref h =>
    have hl : n < s.length := by rw [← S.len]; exact (List.getElem?_eq_some_iff.mp h).1
    have q := S.obj n s[n] _ (by simp [hl]) h
    generalize s[n] = o at q
    cases o with
    | lst ds =>
      obtain ⟨xs, h1, _⟩ := q
      exact .inl ⟨rfl, xs, .inl (.inl h1)⟩
    | dic _ => exact q.elim
theorem conv_mth {m : Mth} {σ : L2.St} {H : Hp} {Q : VK} (h : tM X.K (fun en s => evE g en (.mth m ca cs) s) σ H Q) : tBM X.K "list" (rMth X.K (mthD m)) (tM X.K fun en s => evE g en ca s) (tMA X.K fun en s => evEs g en cs s) σ H Q := by
  obtain ⟨ρ, en, s, d, s', E, S, h, kt⟩ := h
  obtain ⟨x, s1, h1, h⟩ := R.bind_ok h
  obtain ⟨ds, s2, h2, h⟩ := R.bind_ok h
  obtain ⟨n, rfl⟩ := mth_ref h
  exact ⟨ρ, en, s, _, s1, E, S, h1, fun ρ1 H1 v1 st1 S1 r1 => ⟨tyL S1 r1, ρ1, en, s1, ds, s2, E.step st1, S1, h2, fun ρ2 H2 vs st2 S2 r2 => ⟨ρ2, s2, _, ds, d, s', S2, r1.step st2, r2, h, fun ρ3 H3 v3 st3 => kt ρ3 H3 v3 (st1.trans (st2.trans st3))⟩⟩⟩
variable {apos cpos : Pos}
theorem em_append (ha : EM X g a ca) (hb : AM X g [b] [cb]) (hbase : attributeBase a "append" X.env (eval a X.env) = eval a X.env := by rfl)
    (hfew : ((backTo cpos (starEach [b] X.env)).all (fun x => !x.1) && (backToKw cpos (keywordEach [] X.env)).all (fun x => x.1.isSome) && decide ([b].length + ([] : List Keyword).length + (if ([] : List Keyword).isEmpty then 0 else 1) < 30)) = true := by rfl)
    (hline : (apos.endLine == cpos.line) = true := by rfl) (hs : starEach [b] X.env = (false, eval b X.env) :: starEach [] X.env := by rfl) (hp : (backTo cpos (starEach [] X.env)).any (·.1) = false := by rfl) :
    EM X g (.Call (.Attribute a "append" apos) [b] [] cpos) (.mth .append ca [cb]) := (pe_bm PySem.F.plainAttrs_list PySem.F.slot_list_append PySem.F.type_list_append append_ok ha hb hbase hfew hline hs hp).of fun σ H Q h => conv_mth h
theorem em_extend (ha : EM X g a ca) (hb : AM X g [b] [cb]) (hbase : attributeBase a "extend" X.env (eval a X.env) = eval a X.env := by rfl)
    (hfew : ((backTo cpos (starEach [b] X.env)).all (fun x => !x.1) && (backToKw cpos (keywordEach [] X.env)).all (fun x => x.1.isSome) && decide ([b].length + ([] : List Keyword).length + (if ([] : List Keyword).isEmpty then 0 else 1) < 30)) = true := by rfl)
    (hline : (apos.endLine == cpos.line) = true := by rfl) (hs : starEach [b] X.env = (false, eval b X.env) :: starEach [] X.env := by rfl) (hp : (backTo cpos (starEach [] X.env)).any (·.1) = false := by rfl) :
    EM X g (.Call (.Attribute a "extend" apos) [b] [] cpos) (.mth .extend ca [cb]) := (pe_bm PySem.F.plainAttrs_list PySem.F.slot_list_extend PySem.F.type_list_extend extend_ok ha hb hbase hfew hline hs hp).of fun σ H Q h => conv_mth h
theorem em_popAt (ha : EM X g a ca) (hb : AM X g [b] [cb]) (hbase : attributeBase a "pop" X.env (eval a X.env) = eval a X.env := by rfl)
    (hfew : ((backTo cpos (starEach [b] X.env)).all (fun x => !x.1) && (backToKw cpos (keywordEach [] X.env)).all (fun x => x.1.isSome) && decide ([b].length + ([] : List Keyword).length + (if ([] : List Keyword).isEmpty then 0 else 1) < 30)) = true := by rfl)
    (hline : (apos.endLine == cpos.line) = true := by rfl) (hs : starEach [b] X.env = (false, eval b X.env) :: starEach [] X.env := by rfl) (hp : (backTo cpos (starEach [] X.env)).any (·.1) = false := by rfl) :
    EM X g (.Call (.Attribute a "pop" apos) [b] [] cpos) (.mth .pop ca [cb]) := (pe_bm PySem.F.plainAttrs_list PySem.F.slot_list_pop PySem.F.type_list_pop pop_ok ha hb hbase hfew hline hs hp).of fun σ H Q h => conv_mth h

/-! ### built-in functions -/
variable (C : Good X g k) (hs : starEach (e :: es) X.env = (false, eval e X.env) :: starEach es X.env) (hp : (backTo pos (starEach es X.env)).any (·.1) = false)
include C hs hp
theorem em_len (hg : Gl X "len") (ha : AM X g (e :: es) cs) : EM X g (.Call (.Name "len" p) (e :: es) [] pos) (.blt .len cs) := (pe_callB blt_len hg (C.no _ (by decide)) (by rfl) ha (he := hs) (hpl := hp)).of fun σ H Q h => convB h
theorem em_list (hg : Gl X "list") (ha : AM X g (e :: es) cs) : EM X g (.Call (.Name "list" p) (e :: es) [] pos) (.blt .list cs) := (pe_callTy blt_list hg (C.no _ (by decide)) (by rfl) ha (he := hs) (hpl := hp)).of fun σ H Q h => convB h
theorem em_tuple (hg : Gl X "tuple") (ha : AM X g (e :: es) cs) : EM X g (.Call (.Name "tuple" p) (e :: es) [] pos) (.blt .tuple cs) := (pe_callTy blt_tuple hg (C.no _ (by decide)) (by rfl) ha (he := hs) (hpl := hp)).of fun σ H Q h => convB h
theorem em_all (hg : Gl X "all") (ha : AM X g (e :: es) cs) : EM X g (.Call (.Name "all" p) (e :: es) [] pos) (.blt .all cs) := (pe_callB (blt_all C.calm) hg (C.no _ (by decide)) (by rfl) ha (he := hs) (hpl := hp)).of fun σ H Q h => convB h
theorem em_any (hg : Gl X "any") (ha : AM X g (e :: es) cs) : EM X g (.Call (.Name "any" p) (e :: es) [] pos) (.blt .any cs) := (pe_callB (blt_any C.calm) hg (C.no _ (by decide)) (by rfl) ha (he := hs) (hpl := hp)).of fun σ H Q h => convB h
theorem em_intc (hg : Gl X "int") (ha : AM X g (e :: es) cs) : EM X g (.Call (.Name "int" p) (e :: es) [] pos) (.blt .int cs) := (pe_callTy blt_int hg (C.no _ (by decide)) (by rfl) ha (he := hs) (hpl := hp)).of fun σ H Q h => convB h
theorem em_min (hg : Gl X "min") (ha : AM X g (e :: es) cs) : EM X g (.Call (.Name "min" p) (e :: es) [] pos) (.blt .min cs) := (pe_callB (blt_min C.calm) hg (C.no _ (by decide)) (by rfl) ha (he := hs) (hpl := hp)).of fun σ H Q h => convB h
theorem em_max (hg : Gl X "max") (ha : AM X g (e :: es) cs) : EM X g (.Call (.Name "max" p) (e :: es) [] pos) (.blt .max cs) := (pe_callB (blt_max C.calm) hg (C.no _ (by decide)) (by rfl) ha (he := hs) (hpl := hp)).of fun σ H Q h => convB h
theorem em_repr (hg : Gl X "repr") (ha : AM X g (e :: es) cs) : EM X g (.Call (.Name "repr" p) (e :: es) [] pos) (.blt .repr cs) := (pe_callB (blt_repr C.gd C.room.units) hg (C.no _ (by decide)) (by rfl) ha (he := hs) (hpl := hp)).of fun σ H Q h => convB h
end
end Mir

namespace Mir
open PySem PySem.Spec PyProof.Rows L2

/-! ### targets -/
mutual
def slotsT : Tgt → List Nat
  | .nm i => [i]
  | .tup ts => slotsTs ts
def slotsTs : List Tgt → List Nat
  | [] => []
  | t :: r => slotsT t ++ slotsTs r
end
def gT (K : PySem.W.Frag) (n : Nat) (t : Tgt) : TG := fun v σ H Q => ∃ ρ e s d e', RelE K ρ H e σ ∧ RelS K ρ H s ∧ RelD K ρ H d v ∧ asgT n t d e = some e' ∧ ∀ σ', RelE K ρ H e' σ' → σ'.length = σ.length → (∀ i, i ∉ slotsT t → σ'[i]? = σ[i]?) → Q σ' H
def gTs (K : PySem.W.Frag) (n : Nat) (ts : List Tgt) : TGs := fun vs σ H Q => ∃ ρ e s ds e', RelE K ρ H e σ ∧ RelS K ρ H s ∧ RelDs K ρ H ds vs ∧ asgT.asgTs n ts ds e = some e' ∧ ∀ σ', RelE K ρ H e' σ' → σ'.length = σ.length → (∀ i, i ∉ slotsTs ts → σ'[i]? = σ[i]?) → Q σ' H
def GM (X : Cx) (n : Nat) (e : Expr) (t : Tgt) : Prop := PG X e (gT X.K n t)
def GMs (X : Cx) (n : Nat) (es : List Expr) (ts : List Tgt) : Prop := PGs X es (gTs X.K n ts)
theorem RelE.set {K : PySem.W.Frag} {ρ : List Addr} {H : Hp} {e : Mir.Env} {σ : L2.St} {i : Nat} {d : D} {v : V} (E : RelE K ρ H e σ) (hi : i < e.length) (r : RelD K ρ H d v) : RelE K ρ H (e.set i (some d)) (σ.set i (some v)) := by
  refine ⟨by rw [List.length_set, List.length_set]; exact E.1, fun j d' hj => ?_⟩
  by_cases q : i = j
  · subst q
    rw [List.getElem?_set_self hi] at hj
    cases hj
    exact ⟨v, List.getElem?_set_self (E.1 ▸ hi), r⟩
  · rw [List.getElem?_set_ne q] at hj
    rw [List.getElem?_set_ne q]
    exact E.2 j d' hj
theorem asgTs_len : ∀ {n : Nat} {ts : List Tgt} {ds : List D} {e e' : Mir.Env}, asgT.asgTs n ts ds e = some e' → ts.length = ds.length
  | 0, _, _, _, _, h => by rw [asgT.asgTs] at h; cases h
  | _ + 1, [], [], _, _, _ => rfl
  | n + 1, t :: ts, d :: ds, e, e', h => by
    rw [asgT.asgTs, Option.bind_eq_some_iff] at h
    obtain ⟨e1, _, h⟩ := h
    rw [List.length_cons, List.length_cons, asgTs_len h]
  | _ + 1, [], _ :: _, _, _, h => by simp [asgT.asgTs] at h
  | _ + 1, _ :: _, [], _, _, h => by simp [asgT.asgTs] at h
section
variable {X : Cx} {n i : Nat} {x : Str} {pos : Pos} {e : Expr} {es : List Expr} {t : Tgt} {ts : List Tgt}
theorem _root_.L2.PG.of {t t' : TG} (h : PG X e t) (c : ∀ v σ H Q, t' v σ H Q → t v σ H Q) : PG X e t' := ⟨fun pins s σ H v u Q I r q => h.run pins s σ H v u Q I r (c v σ H Q q)⟩
theorem _root_.L2.PGs.of {t t' : TGs} (h : PGs X es t) (c : ∀ v σ H Q, t' v σ H Q → t v σ H Q) : PGs X es t' := ⟨fun pins s σ H v u Q I r q => h.run pins s σ H v u Q I r (c v σ H Q q)⟩
theorem gm_nm (hN : X.N.Nodup) (hi : X.N[i]? = some x) (hx : Loc X.env.scope x) (hf : X.fn x = true ∨ X.env.scope.names.lookup x = some .local) : GM X n (.Name x pos) (.nm i) :=
  (pg_name hN hi hx hf).of fun v σ H Q ⟨ρ, e, s, d, e', E, S, r, h, k⟩ => by
    cases n with
    | zero => rw [asgT] at h; cases h
    | succ n =>
      rw [asgT] at h
      split at h
      · rename_i hl
        cases h
        refine k _ (E.set hl r) (List.length_set) fun j hj => List.getElem?_set_ne (fun q => hj (by simp [slotsT, q]))
      · cases h
theorem gms_nil : GMs X (n + 1) [] [] := pgs_nil.of fun v σ H Q ⟨ρ, e, s, d, e', E, S, r, h, k⟩ => by
  cases d with
  | nil => cases r; rw [asgT.asgTs] at h; cases h; exact ⟨rfl, k _ E rfl fun _ _ => rfl⟩
  | cons a b => simp [asgT.asgTs] at h
theorem gms_cons (h1 : GM X n e t) (h2 : GMs X n es ts) (hs : (assignEach (e :: es) X.env).map (·.2) = assign e X.env :: (assignEach es X.env).map (·.2) := by rfl) : GMs X (n + 1) (e :: es) (t :: ts) :=
  (pgs_cons h1 h2 hs).of fun v σ H Q ⟨ρ, en, s, d, e', E, S, r, h, k⟩ => by
    cases d with
    | nil => simp [asgT.asgTs] at h
    | cons a b =>
      rw [asgT.asgTs, Option.bind_eq_some_iff] at h
      obtain ⟨e1, ha, hb⟩ := h
      cases r with
      | cons ra rb =>
        exact ⟨_, _, rfl, ρ, en, s, a, e1, E, S, ra, ha, fun σ1 E1 l1 k1 => ⟨ρ, e1, s, b, e', E1, S, rb, hb, fun σ2 E2 l2 k2 => k σ2 E2 (l2.trans l1) fun j hj => by
          rw [slotsTs, List.mem_append, not_or] at hj
          exact (k2 j hj.2).trans (k1 j hj.1)⟩⟩
theorem gm_tup {j : Nat} (hc : X.calm = true) (h : GMs X n es ts) (hn : (assignEach es X.env).length = ts.length := by rfl) (hst : (assignEach es X.env).findIdx? (·.1) = none := by rfl) : GM X (n + 1) (.Tuple es j pos) (.tup ts) :=
  (pg_tup hc h hn hst).of fun v σ H Q ⟨ρ, en, s, d, e', E, S, r, h, k⟩ => by
    cases d with
    | tup ds =>
      cases r with
      | tup hq rs =>
        rw [asgT] at h
        exact ⟨_, _, rfl, hq, by rw [← rs.length, asgTs_len h], ρ, en, s, ds, e', E, S, rs, h, k⟩
    | _ => simp [asgT] at h
end

/-! ### what is walked -/
def JOk (K : PySem.W.Frag) (ρ0 : List Addr) (H0 : Hp) (src : Src) (J : It) : Prop := ∀ ρ H s, Step K ρ0 H0 ρ H → RelS K ρ H s →
  (∀ i d, i < src.n → src.get i s = some d → J.go i H ∧ ∀ x H', J.yld i H x H' → Step K ρ H ρ H' ∧ RelS K ρ H' s ∧ RelD K ρ H' d x) ∧ (src.fin s = true → J.stop src.n H)
def tMI (K : PySem.W.Frag) (m : Mir.Env → MS → R Src) : TI := fun σ H R' => ∃ ρ e s src s', RelE K ρ H e σ ∧ RelS K ρ H s ∧ m e s = .ok src s' ∧ ∀ ρ' H' J, Step K ρ H ρ' H' → RelS K ρ' H' s' → JOk K ρ' H' src J → R' J H'
def IM (X : Cx) (g : G) (tg e : Expr) (c : CI) : Prop := PI X tg e (tMI X.K fun en s => evI g en c s)
section
variable {K : PySem.W.Frag} {ρ : List Addr} {H : Hp} {a b : Addr} {ds es : List D} {vs ws : List V} {n m : Nat}
theorem jok_tup (hq : SqT K H a vs) (rs : RelDs K ρ H ds vs) : JOk K ρ H ⟨ds.length, fun j _ => ds[j]?, fun _ => true⟩ (Itt K a) := fun ρ' H' s' st S' =>
  ⟨fun i d _ hd => by
    obtain ⟨v, hv, rv⟩ := (rs.step st).get hd
    refine ⟨⟨vs, v, st.2.1.tup _ _ hq, hv⟩, fun x H2 ⟨e, y⟩ => ?_⟩
    subst e
    have := y vs (st.2.1.tup _ _ hq)
    rw [hv] at this
    cases this
    exact ⟨.refl, S', rv⟩, fun _ => ⟨vs, st.2.1.tup _ _ hq, by rw [← rs.length]; exact Nat.le_refl _⟩⟩
theorem there {ρ' : List Addr} {H' : Hp} {s' : MS} (ha : ρ[n]? = some a) (st : Step K ρ H ρ' H') (S' : RelS K ρ' H' s') {ys : List D} (h : s'[n]? = some (.lst ys)) : ∃ xs, SqL K H' a xs ∧ RelDs K ρ' H' ys xs ∧ ys.length = xs.length := by
  obtain ⟨a', xs, h1, h2, h3⟩ := S'.lst h
  rw [pre_get st.1 ha] at h1
  cases h1
  exact ⟨xs, .inl (.inl h2), h3, h3.length⟩
theorem jok_lst (ha : ρ[n]? = some a) (xs : List D) : JOk K ρ H ⟨xs.length, fun j s => match s[n]? with
        | some (.lst ys) => if ys.length = xs.length then ys[j]? else none
        | _ => none, fun s => match s[n]? with
        | some (.lst ys) => decide (ys.length = xs.length)
        | _ => false⟩ (Itl K a) := fun ρ' H' s' st S' => by
  refine ⟨fun i d _ hd => ?_, fun hf => ?_⟩
  · have hd : (match s'[n]? with
        | some (.lst ys) => if ys.length = xs.length then ys[i]? else none
        | _ => none) = some d := hd
    split at hd
    · rename_i ys e
      split at hd
      · obtain ⟨zs, h1, h2, h3⟩ := there ha st S' e
        obtain ⟨v, hv, rv⟩ := h2.get hd
        refine ⟨⟨zs, v, h1, hv⟩, fun x H2 ⟨e, y⟩ => ?_⟩
        subst e
        have := y zs h1
        rw [hv] at this
        cases this
        exact ⟨.refl, S', rv⟩
      · cases hd
    · cases hd
  · have hf : (match s'[n]? with
        | some (.lst ys) => decide (ys.length = xs.length)
        | _ => false) = true := hf
    split at hf
    · rename_i ys e
      obtain ⟨zs, h1, h2, h3⟩ := there ha st S' e
      exact ⟨zs, h1, by rw [← h3, of_decide_eq_true hf]; exact Nat.le_refl _⟩
    · cases hf
theorem jok_rng (lo hi : Int) : JOk K ρ H (srcRng lo hi) (Itr lo (hi - lo).toNat) := fun ρ' H' s' st S' =>
  ⟨fun i d hi' hd => ⟨hi', fun x H2 ⟨e, y⟩ => by
    subst e y
    cases (show some (D.int (lo + i)) = some d from hd)
    exact ⟨.refl, S', .int _⟩⟩, fun _ => Nat.le_refl _⟩
theorem two {d e : D} {v w : V} {T : Addr} {ρ' : List Addr} {H' : Hp} {s' : MS} (S' : RelS K ρ' H' s') (hT : H' T = none) (r : RelD K ρ' H' d v) (r2 : RelD K ρ' H' e w) :
    Step K ρ' H' ρ' (upd H' T (.tup [v, w])) ∧ RelS K ρ' (upd H' T (.tup [v, w])) s' ∧ RelD K ρ' (upd H' T (.tup [v, w])) (.tup [d, e]) (.ref T) :=
  ⟨.fresh hT, S'.more hT, .tup (SqT.of upd_same) (.cons (r.step (.fresh hT)) (.cons (r2.step (.fresh hT)) .nil))⟩
theorem jok_enmT (hq : SqT K H a vs) (rs : RelDs K ρ H ds vs) : JOk K ρ H ⟨ds.length, fun j _ => (ds[j]?).map fun d => .tup [.int j, d], fun _ => true⟩ (IteT K a) := fun ρ' H' s' st S' =>
  ⟨fun i d _ hd => by
    have hd : (ds[i]?).map (fun d => D.tup [.int i, d]) = some d := hd
    rw [Option.map_eq_some_iff] at hd
    obtain ⟨d1, hd1, rfl⟩ := hd
    obtain ⟨v, hv, rv⟩ := (rs.step st).get hd1
    refine ⟨⟨vs, v, st.2.1.tup _ _ hq, hv⟩, fun x H2 ⟨T, y, e1, e2, e3, e4⟩ => ?_⟩
    subst e1 e3
    have := e4 vs (st.2.1.tup _ _ hq)
    rw [hv] at this
    cases this
    exact two S' e2 (.int _) rv, fun _ => ⟨vs, st.2.1.tup _ _ hq, rs.length.symm⟩⟩
theorem jok_enm (ha : ρ[n]? = some a) (xs : List D) : JOk K ρ H ⟨xs.length, fun j s => match s[n]? with
        | some (.lst ys) => if ys.length = xs.length then (ys[j]?).map fun d => .tup [.int j, d] else none
        | _ => none, fun s => match s[n]? with
        | some (.lst ys) => decide (ys.length = xs.length)
        | _ => false⟩ (Ite K a) := fun ρ' H' s' st S' => by
  refine ⟨fun i d _ hd => ?_, fun hf => ?_⟩
  · have hd : (match s'[n]? with
        | some (.lst ys) => if ys.length = xs.length then (ys[i]?).map fun d => D.tup [.int i, d] else none
        | _ => none) = some d := hd
    split at hd
    · rename_i ys e
      split at hd
      · obtain ⟨zs, h1, h2, h3⟩ := there ha st S' e
        rw [Option.map_eq_some_iff] at hd
        obtain ⟨d1, hd1, rfl⟩ := hd
        obtain ⟨v, hv, rv⟩ := h2.get hd1
        refine ⟨⟨zs, v, h1, hv⟩, fun x H2 ⟨T, y, e1, e2, e3, e4⟩ => ?_⟩
        subst e1 e3
        have := e4 zs h1
        rw [hv] at this
        cases this
        exact two S' e2 (.int _) rv
      · cases hd
    · cases hd
  · have hf : (match s'[n]? with
        | some (.lst ys) => decide (ys.length = xs.length)
        | _ => false) = true := hf
    split at hf
    · rename_i ys e
      obtain ⟨zs, h1, h2, h3⟩ := there ha st S' e
      exact ⟨zs, h1, by rw [← h3, of_decide_eq_true hf]; exact Nat.le_refl _⟩
    · cases hf
theorem jok_zip (hq : SqT K H a vs) (rs : RelDs K ρ H ds vs) (hq2 : SqT K H b ws) (rs2 : RelDs K ρ H es ws) : JOk K ρ H ⟨min ds.length es.length, fun j _ => match ds[j]?, es[j]? with
    | some x, some y => some (.tup [x, y])
    | _, _ => none, fun _ => true⟩ (RZ.ItzT K a b) := fun ρ' H' s' st S' => by
  refine ⟨fun i d _ hd => ?_, fun _ => ⟨vs, ws, st.2.1.tup _ _ hq, st.2.1.tup _ _ hq2, ?_⟩⟩
  · have hd : (match ds[i]?, es[i]? with
      | some x, some y => some (D.tup [x, y])
      | _, _ => none) = some d := hd
    split at hd
    · rename_i x y hx hy
      cases hd
      obtain ⟨v, hv, rv⟩ := (rs.step st).get hx
      obtain ⟨w, hw, rw'⟩ := (rs2.step st).get hy
      refine ⟨⟨vs, ws, v, w, st.2.1.tup _ _ hq, st.2.1.tup _ _ hq2, hv, hw⟩, fun x H2 ⟨T, y, z, e1, e2, e3, e4, e5⟩ => ?_⟩
      subst e1 e3
      have q1 := e4 vs (st.2.1.tup _ _ hq)
      have q2 := e5 ws (st.2.1.tup _ _ hq2)
      rw [hv] at q1
      rw [hw] at q2
      cases q1
      cases q2
      exact two S' e2 rv rw'
    · cases hd
  · show vs.length ≤ min ds.length es.length ∨ ws.length ≤ min ds.length es.length
    rw [rs.length, rs2.length]
    omega
end
section
variable {X : Cx} {g : G} {k : Nat} {tg a b e : Expr} {ca cb : CE} {pos p tpos : Pos} {es : List Expr} {cs : List CE} {elts : List Expr} {kk : Nat}
theorem src_of {s : MS} {d : D} {src : Src} (h : srcSeq s d = some src) : (∃ xs, d = .tup xs ∧ src = ⟨xs.length, fun j _ => xs[j]?, fun _ => true⟩) ∨ ∃ n xs, d = .ref n ∧ s[n]? = some (.lst xs) ∧ src = ⟨xs.length, fun j s => match s[n]? with
        | some (.lst ys) => if ys.length = xs.length then ys[j]? else none
        | _ => none, fun s => match s[n]? with
        | some (.lst ys) => decide (ys.length = xs.length)
        | _ => false⟩ := by
  unfold srcSeq at h
  split at h
  · exact .inl ⟨_, rfl, (Option.some.inj h).symm⟩
  · split at h
    · rename_i e
      exact .inr ⟨_, _, rfl, e, (Option.some.inj h).symm⟩
    · cases h
  · cases h
theorem enm_of {s : MS} {d : D} {src : Src} (h : srcEnm s d = some src) : (∃ xs, d = .tup xs ∧ src = ⟨xs.length, fun j _ => (xs[j]?).map fun d => .tup [.int j, d], fun _ => true⟩) ∨ ∃ n xs, d = .ref n ∧ s[n]? = some (.lst xs) ∧ src = ⟨xs.length, fun j s => match s[n]? with
        | some (.lst ys) => if ys.length = xs.length then (ys[j]?).map fun d => .tup [.int j, d] else none
        | _ => none, fun s => match s[n]? with
        | some (.lst ys) => decide (ys.length = xs.length)
        | _ => false⟩ := by
  unfold srcEnm at h
  split at h
  · exact .inl ⟨_, rfl, (Option.some.inj h).symm⟩
  · split at h
    · rename_i e
      exact .inr ⟨_, _, rfl, e, (Option.some.inj h).symm⟩
    · cases h
  · cases h
theorem im_seq (ha : EM X g a ca) : IM X g tg a (.seq ca) := ⟨fun pins s σ H R' I ⟨ρ, en, ms, src, s', E, S, h, kt⟩ => by
  obtain ⟨d, s1, h1, h⟩ := R.bind_ok h
  obtain ⟨h, e1⟩ := R.of_ok h
  subst e1
  rcases src_of h with ⟨xs, rfl, rfl⟩ | ⟨n, xs, rfl, hn, rfl⟩
  · refine (pi_tup ha).run pins s σ H R' I ⟨ρ, en, ms, _, _, E, S, h1, fun ρ1 H1 v st1 S1 r1 => ?_⟩
    cases r1 with
    | tup hq rs => exact ⟨_, rfl, ⟨_, hq⟩, kt ρ1 H1 _ st1 S1 (jok_tup hq rs)⟩
  · refine (pi_list ha).run pins s σ H R' I ⟨ρ, en, ms, _, _, E, S, h1, fun ρ1 H1 v st1 S1 r1 => ?_⟩
    cases r1 with
    | ref ha' =>
      obtain ⟨zs, q, _⟩ := there ha' .refl S1 hn
      exact ⟨_, rfl, ⟨_, q⟩, kt ρ1 H1 _ st1 S1 (jok_lst ha' xs)⟩⟩
theorem im_enm (C : Good X g k) (hg : Gl X "enumerate") (ha : AM X g [e] [ca]) (hs : starEach [e] X.env = [(false, eval e X.env)] := by rfl) : IM X g (.Tuple elts kk tpos) (.Call (.Name "enumerate" p) [e] [] pos) (.enm ca) :=
  ⟨fun pins s σ H R' I ⟨ρ, en, ms, src, s', E, S, h, kt⟩ => by
  obtain ⟨d, s1, h1, h⟩ := R.bind_ok h
  obtain ⟨h, e1⟩ := R.of_ok h
  subst e1
  have h1' : evEs g en [ca] ms = .ok [d] s' := by show (evE g en ca ms).bind _ = _; rw [h1]; rfl
  rcases enm_of h with ⟨xs, rfl, rfl⟩ | ⟨n, xs, rfl, hn, rfl⟩
  · refine (pi_enumT hg (C.no _ (by decide)) ha (hs := hs)).run pins s σ H R' I ⟨ρ, en, ms, _, _, E, S, h1', fun ρ1 H1 v st1 S1 r1 => ?_⟩
    cases r1 with
    | cons r1 rn =>
      cases rn
      cases r1 with
      | tup hq rs => exact ⟨_, _, rfl, hq, kt ρ1 H1 _ st1 S1 (jok_enmT hq rs)⟩
  · refine (pi_enum hg (C.no _ (by decide)) ha (hs := hs)).run pins s σ H R' I ⟨ρ, en, ms, _, _, E, S, h1', fun ρ1 H1 v st1 S1 r1 => ?_⟩
    cases r1 with
    | cons r1 rn =>
      cases rn
      cases r1 with
      | ref ha' =>
        obtain ⟨zs, q, _⟩ := there ha' .refl S1 hn
        exact ⟨_, _, rfl, q, kt ρ1 H1 _ st1 S1 (jok_enm ha' xs)⟩⟩
theorem inR_ok {i : Int} (h : inR i = true) : -(2 ^ 62) ≤ i ∧ i < 2 ^ 62 := by
  unfold inR at h
  rw [Bool.and_eq_true, decide_eq_true_eq, decide_eq_true_eq] at h
  exact h
theorem _root_.L2.PI.of {wi wi' : TI} (h : PI X tg e wi) (c : ∀ σ H R', wi' σ H R' → wi σ H R') : PI X tg e wi' := ⟨fun pins s σ H Q I q => h.run pins s σ H Q I (c σ H Q q)⟩
theorem im_rng1 (C : Good X g k) (hg : Gl X "range") (ha : AM X g [a] [ca]) (hs : starEach [a] X.env = [(false, eval a X.env)] := by rfl) : IM X g tg (.Call (.Name "range" p) [a] [] pos) (.rng [ca]) :=
  (pi_range1 hg (C.no _ (by decide)) ha hs).of fun σ H R' ⟨ρ, en, ms, src, s', E, S, h, kt⟩ => by
    obtain ⟨ds, s1, h1, h⟩ := R.bind_ok h
    refine ⟨ρ, en, ms, ds, s1, E, S, h1, fun ρ1 H1 vs st1 S1 r1 => ?_⟩
    split at h
    · split at h
      · rename_i hb
        cases h
        obtain ⟨q1, q2⟩ := inR_ok hb
        cases r1 with
        | cons r1 rn =>
          cases rn
          cases r1
          exact ⟨_, rfl, q1, q2, kt ρ1 H1 _ st1 S1 (by have := jok_rng (K := X.K) (ρ := ρ1) (H := H1) 0 (by assumption); simpa using this)⟩
      · cases h
    · have := evEs_len g en [ca] _ _ _ h1
      simp at this
    · cases h
theorem im_rng2 (C : Good X g k) (hg : Gl X "range") (ha : AM X g [a, b] [ca, cb]) (hs : starEach [a, b] X.env = [(false, eval a X.env), (false, eval b X.env)] := by rfl) (hs2 : starEach [b] X.env = [(false, eval b X.env)] := by rfl) : IM X g tg (.Call (.Name "range" p) [a, b] [] pos) (.rng [ca, cb]) :=
  (pi_range2 hg (C.no _ (by decide)) ha hs hs2).of fun σ H R' ⟨ρ, en, ms, src, s', E, S, h, kt⟩ => by
    obtain ⟨ds, s1, h1, h⟩ := R.bind_ok h
    refine ⟨ρ, en, ms, ds, s1, E, S, h1, fun ρ1 H1 vs st1 S1 r1 => ?_⟩
    split at h
    · have := evEs_len g en [ca, cb] _ _ _ h1
      simp at this
    · split at h
      · rename_i hb
        cases h
        rw [Bool.and_eq_true] at hb
        obtain ⟨q1, q2⟩ := inR_ok hb.1
        obtain ⟨q3, q4⟩ := inR_ok hb.2
        cases r1 with
        | cons r1 rn =>
          cases rn with
          | cons r2 rn =>
            cases rn
            cases r1
            cases r2
            exact ⟨_, _, rfl, ⟨q1, q2, q3, q4⟩, kt ρ1 H1 _ st1 S1 (jok_rng _ _)⟩
      · cases h
    · cases h
theorem im_zip (C : Good X g k) (hg : Gl X "zip") (ha : AM X g [a, b] [ca, cb]) (hs : starEach [a, b] X.env = (false, eval a X.env) :: starEach [b] X.env := by rfl) (hpl : (backTo pos (starEach [b] X.env)).any (·.1) = false := by rfl) : IM X g (.Tuple elts kk tpos) (.Call (.Name "zip" p) [a, b] [] pos) (.zip ca cb) :=
  (RZ.pi_zipA hg (C.no _ (by decide)) ha hs hpl).of fun σ H R' ⟨ρ, en, ms, src, s', E, S, h, kt⟩ => by
    obtain ⟨d1, s1, h1, h⟩ := R.bind_ok h
    obtain ⟨d2, s2, h2, h⟩ := R.bind_ok h
    obtain ⟨h, e1⟩ := R.of_ok h
    subst e1
    have h1' : evEs g en [ca, cb] ms = .ok [d1, d2] s' := by show (evE g en ca ms).bind _ = _; rw [h1]; show ((evEs g en [cb] s1).bind _) = _; show (((evE g en cb s1).bind _).bind _) = _; rw [h2]; rfl
    refine ⟨ρ, en, ms, _, _, E, S, h1', fun ρ1 H1 vs st1 S1 r1 => ?_⟩
    cases d1 <;> try (cases h; done)
    cases d2 <;> try (cases h; done)
    cases h
    cases r1 with
    | cons r1 rn =>
      cases rn with
      | cons r2 rn =>
        cases rn
        cases r1 with
        | tup hq rs =>
          cases r2 with
          | tup hq2 rs2 => exact ⟨_, _, _, _, rfl, .inr ⟨hq, hq2, kt ρ1 H1 _ st1 S1 (jok_zip hq rs hq2 rs2)⟩⟩
end
end Mir

namespace Mir
open PySem PySem.Spec PyProof.Rows L2

/-! ### list comprehensions -/
theorem wipe_get : ∀ (vs : List Nat) (σ : L2.St) (i : Nat), (wipe σ vs)[i]? = if i ∈ vs ∧ i < σ.length then some none else σ[i]?
  | [], σ, i => by simp [wipe]
  | v :: vs, σ, i => by
    unfold wipe
    by_cases e : v = i
    · subst e
      by_cases h : v < σ.length
      · rw [List.getElem?_set_self (by rw [wipe_length]; exact h), if_pos ⟨List.mem_cons_self, h⟩]
      · rw [if_neg (fun z => h z.2), List.getElem?_eq_none (by rw [List.length_set, wipe_length]; omega), List.getElem?_eq_none (by omega)]
    · rw [List.getElem?_set_ne e, wipe_get vs σ i]
      by_cases h : i ∈ vs ∧ i < σ.length
      · rw [if_pos h, if_pos ⟨List.mem_cons_of_mem _ h.1, h.2⟩]
      · rw [if_neg h, if_neg]
        rintro ⟨z, l⟩
        rcases List.mem_cons.mp z with z | z
        · exact e z.symm
        · exact h ⟨z, l⟩
theorem wipe_back {σ σ2 : L2.St} {vs sl : List Nat} (hl : σ2.length = (wipe σ vs).length) (h : ∀ i, i ∉ sl → σ2[i]? = (wipe σ vs)[i]?) (hs : ∀ i ∈ sl, i ∈ vs) : wipe σ2 vs = wipe σ vs := by
  have hl' : σ2.length = σ.length := by rw [hl, wipe_length]
  apply List.ext_getElem?
  intro i
  rw [wipe_get, hl']
  by_cases e : i ∈ vs ∧ i < σ.length
  · rw [if_pos e, wipe_get, if_pos e]
  · rw [if_neg e]
    by_cases q : i ∈ sl
    · have : ¬ i < σ.length := fun l => e ⟨hs i q, l⟩
      rw [List.getElem?_eq_none (by omega), List.getElem?_eq_none (by rw [wipe_length]; omega)]
    · exact h i q
theorem wipeE_get (e : Mir.Env) : ∀ (vs : List Nat) (i : Nat), (wipeE e vs)[i]? = if i ∈ vs ∧ i < e.length then some none else e[i]?
  | [], i => by simp [wipeE]
  | v :: vs, i => by
    have hl : ∀ vs : List Nat, (wipeE e vs).length = e.length := by
      intro vs
      induction vs with
      | nil => rfl
      | cons a r ih => unfold wipeE; rw [List.length_set]; exact ih
    unfold wipeE
    by_cases q : v = i
    · subst q
      by_cases h : v < e.length
      · rw [List.getElem?_set_self (by rw [hl]; exact h), if_pos ⟨List.mem_cons_self, h⟩]
      · rw [if_neg (fun z => h z.2), List.getElem?_eq_none (by rw [List.length_set, hl]; omega), List.getElem?_eq_none (by omega)]
    · rw [List.getElem?_set_ne q, wipeE_get e vs i]
      by_cases h : i ∈ vs ∧ i < e.length
      · rw [if_pos h, if_pos ⟨List.mem_cons_of_mem _ h.1, h.2⟩]
      · rw [if_neg h, if_neg]
        rintro ⟨z, l⟩
        rcases List.mem_cons.mp z with z | z
        · exact q z.symm
        · exact h ⟨z, l⟩
theorem wipeE_len (e : Mir.Env) : ∀ vs : List Nat, (wipeE e vs).length = e.length
  | [] => rfl
  | _ :: r => by unfold wipeE; rw [List.length_set]; exact wipeE_len e r
section
variable {K : PySem.W.Frag} {ρ ρ' : List Addr} {H H' : Hp}
theorem RelE.wipe {e : Mir.Env} {σ : L2.St} (E : RelE K ρ H e σ) (vs : List Nat) : RelE K ρ H (wipeE e vs) (L2.wipe σ vs) := by
  refine ⟨by rw [wipeE_len, wipe_length]; exact E.1, fun i d h => ?_⟩
  rw [wipeE_get] at h
  by_cases q : i ∈ vs ∧ i < e.length
  · rw [if_pos q] at h; cases h
  · rw [if_neg q] at h
    rw [wipe_get, ← E.1, if_neg q]
    exact E.2 i d h
/-- a list that the state does not know gets other items -/
theorem put_new {D : Addr} {xs ys : List V} {s : MS} (S : RelS K ρ H s) (hD : H D = some (.lst xs)) (hn : D ∉ ρ) : RelS K ρ (upd H D (.lst ys)) s := by
  refine ⟨S.len, S.nd, fun n o a h1 h2 => ?_⟩
  have q := S.obj n o a h1 h2
  have hne : a ≠ D := fun e => hn (e ▸ List.mem_of_getElem? h2)
  cases o with
  | lst ds =>
    obtain ⟨zs, g1, g2⟩ := q
    exact ⟨zs, by rw [upd_ne hne]; exact g1, g2.mono (List.prefix_refl _) (.set hD)⟩
  | dic _ => exact q.elim
theorem Step.put_new {D : Addr} {xs ys : List V} (st : Step K ρ H ρ' H') (h0 : H D = none) (hD : H' D = some (.lst xs)) : Step K ρ H ρ' (upd H' D (.lst ys)) :=
  ⟨st.1, st.2.1.trans (.set hD), fun a o h n => ⟨by rw [upd_ne (ne_of_none h h0)]; exact (st.2.2 a o h n).1, (st.2.2 a o h n).2⟩⟩
/-- the state gets to know a list -/
theorem adopt {D : Addr} {xs : List V} {ds : List Mir.D} {s : MS} (S : RelS K ρ H s) (hD : H D = some (.lst xs)) (hn : D ∉ ρ) (r : RelDs K ρ H ds xs) : RelS K (ρ ++ [D]) H (s ++ [.lst ds]) ∧ (ρ ++ [D])[s.length]? = some D := by
  have hp : ρ <+: ρ ++ [D] := List.prefix_append _ _
  refine ⟨⟨by rw [List.length_append, List.length_append, S.len]; rfl, ?_, fun n o a h1 h2 => ?_⟩, ?_⟩
  · rw [List.nodup_append]
    refine ⟨S.nd, by simp, fun a ha b hb => ?_⟩
    have e : b = D := by simpa using hb
    rintro rfl
    exact hn (e ▸ ha)
  · by_cases hl : n < s.length
    · rw [List.getElem?_append_left hl] at h1
      rw [List.getElem?_append_left (by rw [S.len]; exact hl)] at h2
      have q := S.obj n o a h1 h2
      cases o with
      | lst es =>
        obtain ⟨zs, g1, g2⟩ := q
        exact ⟨zs, g1, g2.mono hp .refl⟩
      | dic _ => exact q.elim
    · have e : n = s.length := by
        have := (List.getElem?_eq_some_iff.mp h1).1
        rw [List.length_append] at this
        simp at this
        omega
      subst e
      rw [List.getElem?_append_right (Nat.le_refl _)] at h1
      rw [← S.len, List.getElem?_append_right (Nat.le_refl _)] at h2
      simp at h1 h2
      subst h1; subst h2
      exact ⟨xs, hD, r.mono hp .refl⟩
  · rw [← S.len, List.getElem?_append_right (Nat.le_refl _)]
    simp
end
def TsM (X : Cx) (g : G) (es : List Expr) (cs : List CE) : Prop := PTs X es (tMT X.K fun en s => evTs g en cs s)
section
variable {X : Cx} {g : G} {k : Nat} {tg iter elt c : Expr} {ce cc : CE} {ci : CI} {t : Tgt} {ow : List Nat} {cis : List CE} {pos : Pos} {ifs : List Expr}
theorem _root_.L2.PTs.of {es : List Expr} {t t' : TT} (h : PTs X es t) (c : ∀ σ H Q, t' σ H Q → t σ H Q) : PTs X es t' := ⟨fun pins s σ H Q I q => h.run pins s σ H Q I (c σ H Q q)⟩
theorem ts_nil : TsM X g [] [] := pts_nil.of fun σ H Q ⟨ρ, en, s, b, s', E, S, h, kt⟩ => by cases h; exact kt ρ H .refl S
theorem ts_one (C : Good X g k) (h : TM X g c cc) : TsM X g [c] [cc] := (pts_one (h.of fun σ H Q q => gcB_ok C.same q)).of fun σ H Q ⟨ρ, en, s, b, s', E, S, h, kt⟩ => by
  obtain ⟨x, s1, h1, h⟩ := R.bind_ok h
  cases x with
  | true => cases h; exact ⟨ρ, en, s, _, _, E, S, h1, kt⟩
  | false => cases h; exact ⟨ρ, en, s, _, _, E, S, h1, kt⟩
theorem conv_lc (C : Good X g k) (hsl : ∀ i ∈ slotsT t, i ∈ ow) {σ : L2.St} {H : Hp} {Q : VK} (h : tM X.K (fun en s => evE g en (.lc ce ow t ci cis) s) σ H Q) :
    tLc (tMI X.K fun en s => evI g en ci s) (gT X.K 9 t) (tMT X.K fun en s => evTs g en cis s) (tM X.K fun en s => evE g en ce s) ow σ H Q := by
  obtain ⟨ρ, en, s, d, s', E, S, h, kt⟩ := h
  obtain ⟨src, s1, h1, h⟩ := R.bind_ok h
  obtain ⟨ys, s2, h2, h⟩ := R.bind_ok h
  cases h
  generalize hf : (fun (d : D) (s : MS) => match asgT 9 t d (wipeE en ow) with
      | none => (.bad : R (Option D))
      | some e2 => (evTs g e2 cis s).bind fun b s => if b then (evE g e2 ce s).bind fun y s => .ok (some y) s else .ok none s) = f at h2
  refine ⟨ρ, en, s, src, s1, E, S, h1, fun ρ1 H1 J st1 S1 jok D hD => ?_⟩
  have hD1 : D ∉ ρ1 := fun m => S1.tracked m hD
  refine ⟨fun i m H' => ∃ ρ' sm acc accv, i + m = src.n ∧ Step X.K ρ1 H1 ρ' H' ∧ RelS X.K ρ' H' sm ∧ H' D = some (.lst accv) ∧ D ∉ ρ' ∧ RelDs X.K ρ' H' acc accv ∧ lcGo src f m i acc sm = .ok ys s2, ⟨src.n, ρ1, s1, [], [], Nat.zero_add _, .fresh hD, S1.more hD, upd_same, hD1, .nil, h2⟩, ?_⟩
  rintro i m H' ⟨ρ', sm, acc, accv, him, st, S', hL, hN, hr, hgo⟩
  cases m with
  | zero =>
    rw [lcGo] at hgo
    split at hgo
    · rename_i hfin
      cases hgo
      have hi : i = src.n := him
      subst hi
      obtain ⟨S3, hix⟩ := adopt S' hL hN hr
      refine .inl ⟨(jok ρ' H' _ st S').2 hfin, kt _ _ _ (st1.trans ⟨st.1.trans (List.prefix_append _ _), st.2.1, fun a o ha hn => ⟨(st.2.2 a o ha hn).1, fun z => ?_⟩⟩) S3 (.ref hix)⟩
      rcases List.mem_append.mp z with z | z
      · exact (st.2.2 a o ha hn).2 z
      · exact ne_of_none ha hD (by simpa using z)
    · cases hgo
  | succ m =>
    rw [lcGo] at hgo
    split at hgo
    · cases hgo
    · rename_i d hd
      obtain ⟨jg, jy⟩ := (jok ρ' H' sm st S').1 i d (by omega) hd
      refine .inr ⟨jg, fun H'' => ∃ ρ' sm acc accv, i + 1 + m = src.n ∧ Step X.K ρ1 H1 ρ' H'' ∧ RelS X.K ρ' H'' sm ∧ H'' D = some (.lst accv) ∧ D ∉ ρ' ∧ RelDs X.K ρ' H'' acc accv ∧ lcGo src f m (i + 1) acc sm = .ok ys s2, fun H'' w => ⟨m, Nat.lt_succ_self _, w⟩, fun x H2 hy => ?_⟩
      obtain ⟨sty, S2, rx⟩ := jy x H2 hy
      obtain ⟨r, s3, h3, hgo⟩ := R.bind_ok hgo
      rw [← hf] at h3
      have h3 : (match asgT 9 t d (wipeE en ow) with
        | none => (.bad : R (Option Mir.D))
        | some e2 => (evTs g e2 cis sm).bind fun b s => if b then (evE g e2 ce s).bind fun y s => .ok (some y) s else .ok none s) = .ok r s3 := h3
      split at h3
      · cases h3
      · rename_i e2 he2
        obtain ⟨b, s4, h4, h5⟩ := R.bind_ok h3
        have hL2 := (sty.2.2 D _ hL hN)
        have E2 := ((E.step st1).step (st.trans sty)).wipe ow
        refine ⟨ρ', wipeE en ow, sm, d, e2, E2, S2, rx, he2, fun σ2 E3 hl hsame => ⟨wipe_back hl hsame hsl, ρ', e2, sm, b, s4, E3, S2, h4, fun ρ4 H4 st4 S4 => ?_⟩⟩
        have hL4 := st4.2.2 D _ hL2.1 hL2.2
        cases b with
        | false =>
          refine iteF ?_
          cases h5
          exact ⟨ρ4, _, acc, accv, by omega, st.trans (sty.trans st4), S4, hL4.1, hL4.2, (hr.step sty).step st4, hgo⟩
        | true =>
          refine iteT ?_
          obtain ⟨y, s5, h6, h7⟩ := R.bind_ok h5
          cases h7
          refine ⟨ρ4, e2, s4, y, _, E3.step st4, S4, h6, fun ρ5 H5 v st5 S5 r5 => ?_⟩
          have hL5 := st5.2.2 D _ hL4.1 hL4.2
          have hgo : (if acc.length < 1000000 then lcGo src f m (i + 1) (acc ++ [y]) s3 else .bad) = .ok ys s2 := hgo
          split at hgo
          · rename_i hlen
            have hr5 := ((hr.step sty).step st4).step st5
            refine ⟨accv, hL5.1, by rw [← hr.length]; exact sz_lt hlen, ρ5, _, acc ++ [y], accv ++ [v], by omega, (st.trans (sty.trans (st4.trans st5))).put_new hD hL5.1, put_new S5 hL5.1 hL5.2, upd_same, hL5.2, ?_, hgo⟩
            exact (hr5.append (.cons r5 .nil)).mono (List.prefix_refl _) (.set hL5.1)
          · cases hgo
theorem em_lc {own : List (Str × Nat)} {scope : Scope} (C : Good X g k) (hi : IM X g tg iter ci) (hb : blkC X.N X.env.scope scope own = true)
    (hg : ∀ (s : Shared) (H : Hp) (A : Addr) (cl : List (Str × Addr)) (fp : List Addr), Good (X.blk s H scope (compEnvC scope cl A X.env) fp) g k → GM (X.blk s H scope (compEnvC scope cl A X.env) fp) 9 tg t)
    (ht : ∀ (s : Shared) (H : Hp) (A : Addr) (cl : List (Str × Addr)) (fp : List Addr), Good (X.blk s H scope (compEnvC scope cl A X.env) fp) g k → TsM (X.blk s H scope (compEnvC scope cl A X.env) fp) g ifs cis)
    (he : ∀ (s : Shared) (H : Hp) (A : Addr) (cl : List (Str × Addr)) (fp : List Addr), Good (X.blk s H scope (compEnvC scope cl A X.env) fp) g k → EM (X.blk s H scope (compEnvC scope cl A X.env) fp) g elt ce)
    (hsl : ((slotsT t).all fun i => (own.map (·.2)).contains i) = true) (hs : ∀ x, foldedSetIterable iter X.env x = pure x) : EM X g (.ListComp elt [⟨tg, iter, ifs, 0⟩] scope pos) (.lc ce (own.map (·.2)) t ci cis) :=
  have G' : ∀ (s : Shared) (H : Hp) (A : Addr) (cl : List (Str × Addr)) (fp : List Addr), Good (X.blk s H scope (compEnvC scope cl A X.env) fp) g k := fun _ _ _ _ _ => ⟨C.calm, C.nd, C.room, C.gd, C.no, C.same⟩
  (pe_lc (g := gT X.K 9 t) (tt := tMT X.K fun en s => evTs g en cis s) (te := tM X.K fun en s => evE g en ce s) C.calm C.nd hi (blkOk_by hb) (fun s H A cl fp => hg s H A cl fp (G' ..)) (fun s H A cl fp => ht s H A cl fp (G' ..)) (fun s H A cl fp => he s H A cl fp (G' ..)) hs).of fun σ H Q h =>
    conv_lc C (fun i hi => by
      have := List.all_eq_true.mp hsl i hi
      simpa using this) h
end

/-! ### isinstance, sorted, sets -/
section
variable {X : Cx} {g : G} {k : Nat} {a b e : Expr} {ca cb : CE} {pos p p2 q : Pos} {es : List Expr} {cs : List CE} {x : Str}
theorem em_isa (T : Ty) (C : Good X g k) (hg : Gl X "isinstance") (hg2 : Gl X x) (hm : X.mg x = none) (hv : bootBuiltins x = some (.type T.name)) (ha : EM X g a ca) (hn : x ≠ "__name__") (hd : (x == ("__debug__" : Str)) = false)
    (hs : starEach [a, .Name x p2] X.env = (false, eval a X.env) :: starEach [.Name x p2] X.env := by rfl) (hs2 : starEach [.Name x p2] X.env = (false, eval (.Name x p2) X.env) :: starEach [] X.env := by rfl)
    (hp : (backTo pos (starEach [.Name x p2] X.env)).any (·.1) = false := by rfl) : EM X g (.Call (.Name "isinstance" p) [a, .Name x p2] [] pos) (.isa ca T) :=
  (pe_callB (isa_ok T) hg (C.no _ (by decide)) (by rfl) (pa_cons ha (pa_cons (pe_bltn (v := .ty T.name) hg2 hm hv rfl hn hd) pa_nil hs2) hs) (he := hs) (hpl := hp)).of fun σ H Q ⟨ρ, en, s, d, s', E, S, h, kt⟩ => by
    obtain ⟨y, s1, h1, h⟩ := R.bind_ok h
    obtain ⟨h, e1⟩ := R.of_ok h
    subst e1
    rw [Option.map_eq_some_iff] at h
    obtain ⟨b, hb, rfl⟩ := h
    exact ⟨ρ, en, s, y, _, E, S, h1, fun ρ1 H1 v st1 S1 r1 => ⟨ρ1, _, y, v, b, rfl, S1, r1, hb, kt ρ1 H1 _ st1 S1 (.bl b)⟩⟩
theorem bind_ints {s : MS} {d : D} {ns : List Int} {f : MS → D → Option (List D)} (h : (f s d).bind intsOf = some ns) : ∃ ds, f s d = some ds ∧ intsOf ds = some ns := by
  rw [Option.bind_eq_some_iff] at h
  exact h
theorem perm_isort : ∀ ns : List Int, (isort ns).Perm ns
  | [] => .nil
  | x :: r => by
    have hi : ∀ l : List Int, (insS x l).Perm (x :: l) := by
      intro l
      induction l with
      | nil => exact .refl _
      | cons y t ih =>
        unfold insS
        split
        · exact .refl _
        · exact (List.Perm.cons y ih).trans (.swap x y t)
    exact (hi _).trans ((perm_isort r).cons x)
theorem pw_isort : ∀ ns : List Int, (isort ns).Pairwise (· ≤ ·)
  | [] => .nil
  | x :: r => by
    have hi : ∀ l : List Int, l.Pairwise (· ≤ ·) → (insS x l).Pairwise (· ≤ ·) := by
      intro l
      induction l with
      | nil => intro _; exact List.pairwise_singleton _ _
      | cons y t ih =>
        intro h
        obtain ⟨h1, h2⟩ := List.pairwise_cons.mp h
        unfold insS
        split
        · rename_i hx
          exact List.pairwise_cons.mpr ⟨fun z hz => by
            rcases List.mem_cons.mp hz with rfl | hz
            · exact hx
            · exact Int.le_trans hx (h1 z hz), h⟩
        · rename_i hx
          refine List.pairwise_cons.mpr ⟨fun z hz => ?_, ih h2⟩
          have hm : z = x ∨ z ∈ t := by
            clear ih h h2
            induction t with
            | nil => simp [insS] at hz; exact .inl hz
            | cons w u ih =>
              unfold insS at hz
              split at hz
              · rcases List.mem_cons.mp hz with e | e
                · exact .inl e
                · exact .inr e
              · rcases List.mem_cons.mp hz with e | e
                · exact .inr (e ▸ List.mem_cons_self)
                · rcases ih (fun z hz => h1 z (List.mem_cons_of_mem _ hz)) e with e | e
                  · exact .inl e
                  · exact .inr (List.mem_cons_of_mem _ e)
          rcases hm with rfl | hm
          · omega
          · exact h1 z hm
    exact hi _ (pw_isort r)
theorem sorted_one : ∀ {l m : List Int}, l.Perm m → l.Pairwise (· ≤ ·) → m.Pairwise (· ≤ ·) → l = m
  | [], m, h, _, _ => (List.nil_perm.mp h).symm
  | x :: l, [], h, _, _ => absurd h (by simp)
  | x :: l, y :: m, h, h1, h2 => by
    obtain ⟨a1, a2⟩ := List.pairwise_cons.mp h1
    obtain ⟨b1, b2⟩ := List.pairwise_cons.mp h2
    have e : x = y := by
      rcases List.mem_cons.mp (h.mem_iff.mp List.mem_cons_self) with e | e
      · exact e
      · rcases List.mem_cons.mp (h.mem_iff.mpr List.mem_cons_self) with e2 | e2
        · exact e2.symm
        · have := b1 x e
          have := a1 y e2
          omega
    subst e
    rw [sorted_one h.cons_inv a2 b2]
theorem em_sset (C : Good X g k) (hg : Gl X "sorted") (hg2 : Gl X "set") (ha : EM X g a ca) (hs2 : starEach [a] X.env = (false, eval a X.env) :: starEach [] X.env := by rfl)
    (hp2 : (backTo q (starEach [] X.env)).any (·.1) = false := by rfl) (hs : starEach [.Call (.Name "set" p2) [a] [] q] X.env = (false, eval (.Call (.Name "set" p2) [a] [] q) X.env) :: starEach [] X.env := by rfl) (hp : (backTo pos (starEach [] X.env)).any (·.1) = false := by rfl) :
    EM X g (.Call (.Name "sorted" p) [.Call (.Name "set" p2) [a] [] q] [] pos) (.blt .sset [ca]) :=
  (pe_callB (cr_sortedSet C.calm) hg (C.no _ (by decide)) (by rfl) (pa_cons (pe_callTy (set_D C.calm) hg2 (C.no _ (by decide)) (by rfl) (pa_cons ha pa_nil hs2) (he := hs2) (hpl := hp2)) pa_nil hs) (he := hs) (hpl := hp)).of fun σ H Q ⟨ρ, en, s, d, s', E, S, h, kt⟩ => by
    obtain ⟨ds, s1, h1, h⟩ := R.bind_ok h
    obtain ⟨y, s2, h2, h3⟩ := R.bind_ok h1
    cases h3
    refine ⟨ρ, en, s, y, _, E, S, h2, fun ρ1 H1 v st1 S1 r1 => ?_⟩
    have h : (match (seqOf s1 y).bind intsOf with
      | some ns => if ns.length < 64 then new s1 (.lst ((srt ns).map .int)) else .bad
      | none => .bad) = .ok d s' := h
    split at h
    · rename_i ns hns
      split at h
      · rename_i hl
        cases h
        obtain ⟨es, h5, h6⟩ := bind_ints (f := seqOf) hns
        obtain ⟨P, xs, rfl, rs, hq⟩ := r1.seqLT S1 h5
        have := ints_vals rs h6
        subst this
        refine ⟨P, ns, rfl, hq, hl, fun P2 hP2 c hc => ?_⟩
        refine ⟨P2, fun j => decide (j ∈ ns), c, rfl, upd_same, by rw [hc]; exact Nat.lt_of_le_of_lt (srt_len_le ns) hl, fun ns' P3 pw mem len hP3 => ?_⟩
        have e : ns' = srt ns := asc_one pw (pw_srt ns) fun k => by rw [mem, mem_srt, decide_eq_true_iff]
        subst e
        have S2 := S1.more (o := SetO X.w P2 (fun j => decide (j ∈ ns)) c) hP2
        have st2 : Step X.K ρ1 H1 ρ1 _ := .fresh (o := SetO X.w P2 (fun j => decide (j ∈ ns)) c) hP2
        obtain ⟨S3, st3, e3⟩ := S2.new hP3 (rel_ints (srt ns))
        exact kt _ _ _ (st1.trans (st2.trans st3)) S3 (.ref e3)
      · cases h
    · cases h
theorem em_lset (C : Good X g k) (hg : Gl X "len") (hg2 : Gl X "set") (ha : EM X g a ca) (hs2 : starEach [a] X.env = (false, eval a X.env) :: starEach [] X.env := by rfl)
    (hp2 : (backTo q (starEach [] X.env)).any (·.1) = false := by rfl) (hs : starEach [.Call (.Name "set" p2) [a] [] q] X.env = (false, eval (.Call (.Name "set" p2) [a] [] q) X.env) :: starEach [] X.env := by rfl) (hp : (backTo pos (starEach [] X.env)).any (·.1) = false := by rfl) :
    EM X g (.Call (.Name "len" p) [.Call (.Name "set" p2) [a] [] q] [] pos) (.blt .lset [ca]) :=
  (pe_callB len_set hg (C.no _ (by decide)) (by rfl) (pa_cons (pe_callTy (set_D C.calm) hg2 (C.no _ (by decide)) (by rfl) (pa_cons ha pa_nil hs2) (he := hs2) (hpl := hp2)) pa_nil hs) (he := hs) (hpl := hp)).of fun σ H Q ⟨ρ, en, s, d, s', E, S, h, kt⟩ => by
    obtain ⟨ds, s1, h1, h⟩ := R.bind_ok h
    obtain ⟨y, s2, h2, h3⟩ := R.bind_ok h1
    cases h3
    refine ⟨ρ, en, s, y, _, E, S, h2, fun ρ1 H1 v st1 S1 r1 => ?_⟩
    have h : (match (seqOf s1 y).bind intsOf with
      | some ns => if ns.length < 64 then R.ok (D.int (srt ns).length) s1 else .bad
      | none => .bad) = .ok d s' := h
    split at h
    · rename_i ns hns
      split at h
      · rename_i hl
        cases h
        obtain ⟨es, h5, h6⟩ := bind_ints (f := seqOf) hns
        obtain ⟨P, xs, rfl, rs, hq⟩ := r1.seqLT S1 h5
        have := ints_vals rs h6
        subst this
        refine ⟨P, ns, rfl, hq, hl, fun P2 hP2 c hc => ⟨P2, _, c, rfl, upd_same, by rw [hc]; exact Nat.lt_of_le_of_lt (srt_len_le ns) hl, ?_⟩⟩
        rw [hc]
        exact kt _ _ _ (st1.trans (.fresh hP2)) (S1.more hP2) (.int _)
      · cases h
    · cases h
theorem em_sorted (C : Good X g k) (hg : Gl X "sorted") (ha : EM X g a ca) (hs : starEach [a] X.env = (false, eval a X.env) :: starEach [] X.env := by rfl) (hp : (backTo pos (starEach [] X.env)).any (·.1) = false := by rfl) :
    EM X g (.Call (.Name "sorted" p) [a] [] pos) (.blt .sortedE [ca]) :=
  (pe_callB cr_sortedI hg (C.no _ (by decide)) (by rfl) (pa_cons ha pa_nil hs) (he := hs) (hpl := hp)).of fun σ H Q ⟨ρ, en, s, d, s', E, S, h, kt⟩ => by
    obtain ⟨ds, s1, h1, h⟩ := R.bind_ok h
    obtain ⟨y, s2, h2, h3⟩ := R.bind_ok h1
    cases h3
    refine ⟨ρ, en, s, y, _, E, S, h2, fun ρ1 H1 v st1 S1 r1 => ?_⟩
    have h : (match (lstOf s1 y).bind intsOf with
      | some ns => if ns.length ≤ 1000 then new s1 (.lst ((isort ns).map .int)) else .bad
      | none => .bad) = .ok d s' := h
    split at h
    · rename_i ns hns
      split at h
      · rename_i hl
        cases h
        obtain ⟨es, h5, h6⟩ := bind_ints (f := lstOf) hns
        obtain ⟨n, rfl, hn⟩ := lstOf_ref h5
        cases r1 with
        | ref ha' =>
          obtain ⟨zs, hq, rs, _⟩ := there ha' .refl S1 hn
          have := ints_vals rs h6
          subst this
          refine ⟨_, ns, rfl, hq, fun ns' P3 perm pw hP3 => ?_⟩
          have e : ns' = isort ns := sorted_one (perm.trans (perm_isort ns).symm) pw (pw_isort ns)
          subst e
          obtain ⟨S3, st3, e3⟩ := S1.new hP3 (rel_ints (isort ns))
          exact kt _ _ _ (st1.trans st3) S3 (.ref e3)
      · cases h
    · cases h
end

/-! ### list(range(..)), tuple(range(..)) -/
section
variable {X : Cx} {g : G} {k : Nat} {a b e : Expr} {ca cb : CE} {pos p p2 q : Pos}
theorem rel_rg (K : PySem.W.Frag) (ρ : List Addr) (H : Hp) (i j : Int) : RelDs K ρ H (rgD i j) (rgV i j) := by
  unfold rgD rgV
  generalize List.range (j - i).toNat = l
  induction l with
  | nil => exact .nil
  | cons n t ih => exact .cons (.int _) ih
theorem rgok {i j : Int} (h1 : inR i = true) (h2 : inR j = true) (h3 : j - i ≤ 1000000) : RgOk i j := by
  obtain ⟨a1, a2⟩ := inR_ok h1
  obtain ⟨b1, b2⟩ := inR_ok h2
  exact ⟨a1, a2, b1, b2, by omega⟩
theorem em_rangeL1 (C : Good X g k) (hg : Gl X "list") (hg2 : Gl X "range") (he : EM X g a ca) (hs2 : starEach [a] X.env = (false, eval a X.env) :: starEach [] X.env := by rfl)
    (hs : starEach [.Call (.Name "range" p2) [a] [] q] X.env = (false, eval (.Call (.Name "range" p2) [a] [] q) X.env) :: starEach [] X.env := by rfl) : EM X g (.Call (.Name "list" p) [.Call (.Name "range" p2) [a] [] q] [] pos) (.blt .rangeL [ca]) :=
  (pe_listRg C.calm hg (C.no _ (by decide)) (prg_1 hg2 (C.no _ (by decide)) he hs2) hs).of fun σ H Q ⟨ρ, en, s, d, s', E, S, h, kt⟩ => by
    obtain ⟨ds, s1, h1, h⟩ := R.bind_ok h
    obtain ⟨y, s2, h2, h3⟩ := R.bind_ok h1
    cases h3
    refine ⟨ρ, en, s, y, _, E, S, h2, fun ρ1 H1 v st1 S1 r1 => ?_⟩
    cases y <;> try (cases h; done)
    rename_i j
    have h : (if inR j && decide (j ≤ 1000000) then new s1 (.lst (rgD 0 j)) else .bad) = .ok d s' := h
    split at h
    · rename_i hb
      rw [Bool.and_eq_true, decide_eq_true_eq] at hb
      cases h
      cases r1
      refine ⟨j, rfl, rgok (by decide) hb.1 (by omega), fun P hP => ?_⟩
      obtain ⟨S3, st3, e3⟩ := S1.new hP (rel_rg X.K ρ1 H1 0 j)
      exact kt _ _ _ (st1.trans st3) S3 (.ref e3)
    · cases h
theorem em_rangeL2 (C : Good X g k) (hg : Gl X "list") (hg2 : Gl X "range") (ha : EM X g a ca) (hb : EM X g b cb) (hs2 : starEach [a, b] X.env = (false, eval a X.env) :: starEach [b] X.env := by rfl) (hs3 : starEach [b] X.env = (false, eval b X.env) :: starEach [] X.env := by rfl) (hp : (backTo q (starEach [b] X.env)).any (·.1) = false := by rfl)
    (hs : starEach [.Call (.Name "range" p2) [a, b] [] q] X.env = (false, eval (.Call (.Name "range" p2) [a, b] [] q) X.env) :: starEach [] X.env := by rfl) : EM X g (.Call (.Name "list" p) [.Call (.Name "range" p2) [a, b] [] q] [] pos) (.blt .rangeL [ca, cb]) :=
  (pe_listRg C.calm hg (C.no _ (by decide)) (prg_2 hg2 (C.no _ (by decide)) ha hb hs2 hs3 hp) hs).of fun σ H Q ⟨ρ, en, s, d, s', E, S, h, kt⟩ => by
    obtain ⟨ds, s1, h1, h⟩ := R.bind_ok h
    obtain ⟨y, s2, h2, h3⟩ := R.bind_ok h1
    obtain ⟨t, s3, h4, h5⟩ := R.bind_ok h3
    obtain ⟨z, s4, h6, h7⟩ := R.bind_ok h4
    cases h7
    cases h5
    refine ⟨ρ, en, s, y, s2, E, S, h2, fun ρ1 H1 v st1 S1 r1 => ⟨ρ1, en, s2, z, _, E.step st1, S1, h6, fun ρ2 H2 w st2 S2 r2 => ?_⟩⟩
    cases y <;> try (cases h; done)
    cases z <;> try (cases h; done)
    rename_i i j
    have h : (if inR i && inR j && decide (j - i ≤ 1000000) then new s1 (.lst (rgD i j)) else .bad) = .ok d s' := h
    split at h
    · rename_i hb
      rw [Bool.and_eq_true, Bool.and_eq_true, decide_eq_true_eq] at hb
      cases h
      cases r1
      cases r2
      refine ⟨i, j, rfl, rfl, rgok hb.1.1 hb.1.2 hb.2, fun P hP => ?_⟩
      obtain ⟨S3, st3, e3⟩ := S2.new hP (rel_rg X.K ρ2 H2 i j)
      exact kt _ _ _ (st1.trans (st2.trans st3)) S3 (.ref e3)
    · cases h
end

/-! ### own functions -/
structure FnG (P : Program) (w : World) (K : PySem.W.Frag) (mg : Str → Option Value) (base : Heap) (k : Nat) (f : Addr) (fd : FuncData) (ps : List Str) (n : Nat) (m : List D → MS → R D) : Prop where
  run (A : Around) (outer : List PySem.Env) (s : Shared) (H : Hp) (us : List Value) (vs : List V) (Q : VK) :
    Room k A → A.guards = some [] → Env0 P w K mg base A outer s H → BindsTo s fd ⟨us, []⟩ (ps.zip us) → Vals vs us → spM K n m vs H Q E0 → codeAny (model P w) A (.call (.ref f) ⟨us, []⟩) (CR CX0 outer P w H s Q E0) s
/-- the name x stands for a def of n parameters that does what m tells -/
def FnT (P : Program) (w : World) (K : PySem.W.Frag) (mg : Str → Option Value) (base : Heap) (k : Nat) (x : Str) (n : Nat) (m : List D → MS → R D) : Prop :=
  ∃ f fd ps, mg x = some (.ref f) ∧ PySem.W.keepIn K (.ref f) = true ∧ ps.length = n ∧ Binds K fd ps [] ∧ FnG P w K mg base k f fd ps n m
section
variable {X : Cx} {g : G} {k n : Nat} {e : Expr} {pos p : Pos} {es : List Expr} {cs : List CE} {x : Str}
theorem call_fn {f : Addr} {fd : FuncData} {ps : List Str} {m : List D → MS → R D} {pins : List (Addr × Obj)} {σ : L2.St} {H : Hp} {s : Shared} {Q : VK} {us : List Value} {vs : List V} (C : Good X g k) (hl : ps.length = n) (hb : Binds X.K fd ps [])
    (F : FnG X.prog X.w X.K X.mg X.base k f fd ps n m) (I : Inv X pins σ H s) (r : Vals vs us) (h : spM X.K n m vs H Q E0) : wpAny (model X.prog X.w) X.A (call (.ref f) us) (EP X pins σ Q) X.xe s := by
  have hlen : us.length = ps.length := by
    obtain ⟨ρ, ds, s, d, s', rd, S, e, _⟩ := h
    rw [← r.length, ← rd.length, e, hl]
  have hb' := hb s us I.kIn (by rw [List.append_nil]; exact hlen)
  rw [List.append_nil] at hb'
  refine wpAny_call (codeAny_mono (F.run X.A X.stack s H us vs Q C.room C.gd I.env0 hb' r h) fun r s' hq => ?_)
  rcases r with er | fl
  · exact False.elim hq
  · cases fl <;> first | exact I.after hq | exact False.elim hq
theorem em_call (C : Good X g k) (F : FnT X.prog X.w X.K X.mg X.base k x n (g.fn x)) (hg : Gl X x) (ha : AM X g (e :: es) cs) (hn : cs.length = n) (hdb : (x == ("__debug__" : Str)) = false)
    (he : starEach (e :: es) X.env = (false, eval e X.env) :: starEach es X.env) (hpl : (backTo pos (starEach es X.env)).any (·.1) = false) : EM X g (.Call (.Name x p) (e :: es) [] pos) (.call x cs) := by
  obtain ⟨f, fd, ps, hm, hk, hl, hb, F⟩ := F
  refine ⟨fun pins s σ H Q I ⟨ρ, en, ms, d, s', E, S, h, kt⟩ => ?_⟩
  obtain ⟨ds, s1, h1, h⟩ := R.bind_ok h
  refine wpAny_Call_Name_kw (ld_glob I hg hm ?_ hdb)
  refine PySem.W.callWith_K (h₀ := X.base) I.ok.mod.kin hk ?_ he hpl
  refine thn (ha.run pos pins s σ H (fun vs H1 => spM X.K n (g.fn x) vs H1 Q E0) I ⟨ρ, en, ms, ds, s1, E, S, h1, fun ρ1 H1 vs st1 S1 r1 => ⟨ρ1, ds, s1, d, s', r1, S1, by rw [evEs_len g en cs _ _ _ h1]; exact hn, h, fun ρ2 H2 v st2 => kt ρ2 H2 v (st1.trans st2)⟩⟩) fun us s2 ⟨vs, H1, I1, r, q⟩ => ⟨I1.kIn, ?_⟩
  exact call_fn C hl hb F I1 r q
end
end Mir

namespace Mir
open PySem PySem.Spec PyProof.Rows L2

/-! ### statements -/
inductive Rs where
  | nx (e : Mir.Env) (s : MS)
  | rt (d : D) (s : MS)
  | bk (e : Mir.Env) (s : MS)
  | ct (e : Mir.Env) (s : MS)
  | bad
def Rs.seq (r : Rs) (f : Mir.Env → MS → Rs) : Rs := match r with
  | .nx e s => f e s
  | r => r
def R.st {α : Type} (r : R α) (f : α → MS → Rs) : Rs := match r with
  | .ok a s => f a s
  | _ => .bad
def asgR (t : Tgt) (d : D) (e : Mir.Env) (f : Mir.Env → Rs) : Rs := match asgT 9 t d e with
  | some e' => f e'
  | none => .bad
def forGo (src : Src) (f : D → Mir.Env → MS → Rs) : Nat → Nat → Mir.Env → MS → Rs
  | 0, _, e, s => if src.fin s then .nx e s else .bad
  | k + 1, j, e, s => match src.get j s with
    | none => .bad
    | some d => match f d e s with
      | .nx e s => forGo src f k (j + 1) e s
      | .ct e s => forGo src f k (j + 1) e s
      | .bk e s => .nx e s
      | .rt d s => .rt d s
      | .bad => .bad
def whGo (c : Mir.Env → MS → R Bool) (b : Mir.Env → MS → Rs) : Nat → Mir.Env → MS → Rs
  | 0, _, _ => .bad
  | k + 1, e, s => (c e s).st fun t s => if t then (match b e s with
      | .nx e s => whGo c b k e s
      | .ct e s => whGo c b k e s
      | .bk e s => .nx e s
      | .rt d s => .rt d s
      | .bad => .bad) else .nx e s
/-- name op= value, ints -/
def augD (o : Operator) : Option D → D → Option D
  | some (.int i), .int j => match o with
    | .Add => some (.int (i + j))
    | .Sub => some (.int (i - j))
    | _ => none
  | _, _ => none
mutual
def exS (g : G) : CS → Mir.Env → MS → Rs
  | .asg t c, e, s => (evE g e c s).st fun d s => asgR t d e fun e => .nx e s
  | .par i j a b, e, s => (evE g e a s).st fun x s => (evE g e b s).st fun y s => if i < e.length ∧ j < e.length then .nx ((e.set i (some x)).set j (some y)) s else .bad
  | .par3 i j l a b c, e, s => (evE g e a s).st fun x s => (evE g e b s).st fun y s => (evE g e c s).st fun z s => if i < e.length ∧ j < e.length ∧ l < e.length then .nx (((e.set i (some x)).set j (some y)).set l (some z)) s else .bad
  | .set o i v, e, s => (evE g e v s).st fun v s => (evE g e o s).st fun o s => (evE g e i s).st fun i s => (setIx o i v s).st fun _ s => .nx e s
  | .expr c, e, s => (evE g e c s).st fun _ s => .nx e s
  | .ret c, e, s => (evE g e c s).st fun d s => .rt d s
  | .if_ c a b, e, s => (gcB g s (tstR (evE g e c s))).st fun t s => if t then exSs g a e s else exSs g b e s
  | .for_ t it b, e, s => (evI g e it s).st fun src s => forGo src (fun d e s => asgR t d e fun e => exSs g b e s) src.n 0 e s
  | .while_ c b, e, s => whGo (fun e s => gcB g s (tstR (evE g e c s))) (fun e s => exSs g b e s) g.fuel e s
  | .aug i o c, e, s => (evE g e c s).st fun y s => match augD o (e[i]?.join) y with
    | some z => .nx (e.set i (some z)) s
    | none => .bad
  | .pass, e, s => .nx e s
  | .brk, e, s => .bk e s
  | .cnt, e, s => .ct e s
  termination_by structural x => x
def exSs (g : G) : List CS → Mir.Env → MS → Rs
  | [], e, s => .nx e s
  | c :: r, e, s => (exS g c e s).seq fun e s => exSs g r e s
  termination_by structural x => x
end
/-- a def's call -/
def fnD (g : G) (n : Nat) (body : List CS) (ds : List D) (s : MS) : R D := gcD g s (match exSs g body (ds.map some ++ List.replicate (n - ds.length) none) s with
  | .rt d s => .ok d s
  | .nx _ s => .ok .non s
  | _ => .bad)

def OkS (K : PySem.W.Frag) (ρ : List Addr) (H : Hp) (W : Ends) : Rs → Prop
  | .nx e s => ∀ ρ' H' σ', Step K ρ H ρ' H' → RelS K ρ' H' s → RelE K ρ' H' e σ' → W.nx σ' H'
  | .rt d s => ∀ ρ' H' v, Step K ρ H ρ' H' → RelS K ρ' H' s → RelD K ρ' H' d v → W.rt v H'
  | .bk e s => ∀ ρ' H' σ', Step K ρ H ρ' H' → RelS K ρ' H' s → RelE K ρ' H' e σ' → W.bk σ' H'
  | .ct e s => ∀ ρ' H' σ', Step K ρ H ρ' H' → RelS K ρ' H' s → RelE K ρ' H' e σ' → W.ct σ' H'
  | .bad => False
def tMS (K : PySem.W.Frag) (m : Mir.Env → MS → Rs) : TS := fun W σ H => ∃ ρ e s, RelE K ρ H e σ ∧ RelS K ρ H s ∧ OkS K ρ H W (m e s)
def SM (X : Cx) (g : G) (st : Stmt) (c : CS) : Prop := PS X st (tMS X.K fun e s => exS g c e s)
def SsM (X : Cx) (g : G) (st : List Stmt) (c : List CS) : Prop := PSs X st (tMS X.K fun e s => exSs g c e s)
theorem OkS.on {K : PySem.W.Frag} {ρ ρ1 : List Addr} {H H1 : Hp} {W : Ends} {r : Rs} (h : OkS K ρ H W r) (st : Step K ρ H ρ1 H1) : OkS K ρ1 H1 W r := by
  cases r with
  | nx e s => exact fun ρ' H' σ' st' => h ρ' H' σ' (st.trans st')
  | rt d s => exact fun ρ' H' v st' => h ρ' H' v (st.trans st')
  | bk e s => exact fun ρ' H' σ' st' => h ρ' H' σ' (st.trans st')
  | ct e s => exact fun ρ' H' σ' st' => h ρ' H' σ' (st.trans st')
  | bad => exact h
theorem st_ok {α : Type} {r : R α} {f : α → MS → Rs} {K : PySem.W.Frag} {ρ : List Addr} {H : Hp} {W : Ends} (h : OkS K ρ H W (r.st f)) : ∃ a s, r = .ok a s ∧ OkS K ρ H W (f a s) := by
  cases r with
  | ok a s => exact ⟨a, s, rfl, h⟩
  | exc c fs s => exact h.elim
  | bad => exact h.elim
theorem OkS.seq {r : Rs} {f : Mir.Env → MS → Rs} {K : PySem.W.Frag} {ρ : List Addr} {H : Hp} {W : Ends} (h : OkS K ρ H W (r.seq f)) : OkS K ρ H { W with nx := tMS K f W } r := by
  cases r with
  | nx e1 s1 => exact fun ρ' H' σ' st' S' E' => ⟨ρ', e1, s1, E', S', OkS.on (r := f e1 s1) h st'⟩
  | rt d s => exact h
  | bk e s => exact h
  | ct e s => exact h
  | bad => exact h
/-- the end of a loop's turn -/
theorem loop_ok {r : Rs} {f : Mir.Env → MS → Rs} {K : PySem.W.Frag} {ρ : List Addr} {H : Hp} {W : Ends} {N : L2.St → Hp → Prop} (h : OkS K ρ H W (match r with
      | .nx e s => f e s
      | .ct e s => f e s
      | .bk e s => .nx e s
      | .rt d s => .rt d s
      | .bad => .bad)) (hN : ∀ ρ' H' σ' e s, Step K ρ H ρ' H' → RelS K ρ' H' s → RelE K ρ' H' e σ' → OkS K ρ' H' W (f e s) → N σ' H') : OkS K ρ H { W with nx := N, ct := N, bk := W.nx } r := by
  cases r with
  | nx e1 s1 => exact fun ρ' H' σ' st' S' E' => hN ρ' H' σ' e1 s1 st' S' E' (OkS.on (r := f e1 s1) h st')
  | ct e1 s1 => exact fun ρ' H' σ' st' S' E' => hN ρ' H' σ' e1 s1 st' S' E' (OkS.on (r := f e1 s1) h st')
  | rt d s => exact h
  | bk e s => exact h
  | bad => exact h
theorem augD_of {o : Operator} {a : Option D} {y z : D} (h : augD o a y = some z) : ∃ i j k, a = some (.int i) ∧ y = .int j ∧ z = .int k ∧ augD o (some (.int i)) (.int j) = some (.int k) := by
  unfold augD at h
  split at h
  · split at h <;> cases h
    · exact ⟨_, _, _, rfl, rfl, rfl, rfl⟩
    · exact ⟨_, _, _, rfl, rfl, rfl, rfl⟩
  · cases h
theorem _root_.L2.PS.of {X : Cx} {st : Stmt} {t t' : TS} (h : PS X st t) (c : ∀ W σ H, t' W σ H → t W σ H) : PS X st t' := ⟨fun pins s σ H D I q => h.run pins s σ H D I (c D σ H q)⟩
theorem _root_.L2.PSs.of {X : Cx} {st : List Stmt} {t t' : TS} (h : PSs X st t) (c : ∀ W σ H, t' W σ H → t W σ H) : PSs X st t' := ⟨fun pins s σ H D I q => h.run pins s σ H D I (c D σ H q)⟩
section
variable {X : Cx} {g : G} {k : Nat} {st : Stmt} {rest sa sb : List Stmt} {cs : CS} {crest la lb : List CS} {e a b tg iter c o i : Expr} {ce ca cb cc co ci' : CE} {ci : CI} {t : Tgt} {pos : Pos}
theorem ss_nil : SsM X g [] [] := pss_nil.of fun W σ H ⟨ρ, en, s, E, S, h⟩ => h ρ H σ .refl S E
theorem ss_cons (h1 : SM X g st cs) (h2 : SsM X g rest crest) : SsM X g (st :: rest) (cs :: crest) := (pss_cons h1 h2).of fun W σ H ⟨ρ, en, s, E, S, h⟩ => by
  exact ⟨ρ, en, s, E, S, OkS.seq (r := exS g cs en s) h⟩
theorem s_ret (ha : EM X g a ca) : SM X g (.Return (some a) pos) (.ret ca) := (ps_ret ha).of fun W σ H ⟨ρ, en, s, E, S, h⟩ => by
  obtain ⟨d, s1, h1, h⟩ := st_ok h
  exact ⟨ρ, en, s, d, s1, E, S, h1, h⟩
theorem s_retN : SM X g (.Return none pos) (.ret (.cst .non)) := ps_retN.of fun W σ H ⟨ρ, en, s, E, S, h⟩ => h ρ H .non .refl S .non
theorem s_expr (ha : EM X g a ca) (hs : swapsWith a none pos.line X.env = pure false := by rfl) : SM X g (.Expr a pos) (.expr ca) := (ps_expr ha hs).of fun W σ H ⟨ρ, en, s, E, S, h⟩ => by
  obtain ⟨d, s1, h1, h⟩ := st_ok h
  exact ⟨ρ, en, s, d, s1, E, S, h1, fun ρ1 H1 v st1 S1 r1 => h ρ1 H1 σ st1 S1 (E.step st1)⟩
theorem s_doc {x j pos'} : SM X g (.Expr (.Constant (.str x) j pos) pos') .pass := ps_doc.of fun W σ H ⟨ρ, en, s, E, S, h⟩ => h ρ H σ .refl S E
theorem s_pass : SM X g (.Pass pos) .pass := ps_pass.of fun W σ H ⟨ρ, en, s, E, S, h⟩ => h ρ H σ .refl S E
theorem s_brk : SM X g (.Break pos) .brk := ps_break.of fun W σ H ⟨ρ, en, s, E, S, h⟩ => h ρ H σ .refl S E
theorem s_cnt : SM X g (.Continue pos) .cnt := ps_continue.of fun W σ H ⟨ρ, en, s, E, S, h⟩ => h ρ H σ .refl S E
/-- the reading of an assignment -/
theorem conv_asg {W : Ends} {σ : L2.St} {H : Hp} (h : tMS X.K (fun e s => exS g (.asg t ca) e s) W σ H) : tAsg (tM X.K fun en s => evE g en ca s) (gT X.K 9 t) W σ H := by
  obtain ⟨ρ, en, s, E, S, h⟩ := h
  obtain ⟨d, s1, h1, h⟩ := st_ok h
  refine ⟨ρ, en, s, d, s1, E, S, h1, fun ρ1 H1 v st1 S1 r1 => ?_⟩
  unfold asgR at h
  split at h
  · rename_i e' he
    exact ⟨ρ1, en, s1, d, e', E.step st1, S1, r1, he, fun σ2 E2 _ _ => h ρ1 H1 σ2 st1 S1 E2⟩
  · exact h.elim
theorem s_asg (ha : EM X g a ca) (hg : GM X 9 tg t) (hs : swapsWithSole [tg] a pos.line X.env = pure false := by rfl) (hw : swappedStores [tg] a X.env = pure none := by rfl) (h1 : (assignEach [tg] X.env).map (·.2) = [assign tg X.env] := by rfl) :
    SM X g (.Assign [tg] a pos) (.asg t ca) := (ps_asg ha hg hs hw h1).of fun W σ H h => conv_asg h
theorem s_ann {ann simple} (ha : EM X g a ca) (hg : GM X 9 tg t) (hs : swapsWith a (some tg) pos.line X.env = pure false := by rfl) : SM X g (.AnnAssign tg ann (some a) simple pos) (.asg t ca) := (ps_ann ha hg hs).of fun W σ H h => conv_asg h
theorem gT_name {n : Nat} {W : L2.St → Hp → Prop} {v : V} {σ : L2.St} {H : Hp} (h : gT X.K 9 (.nm n) v σ H W) : gName n v σ H W := by
  obtain ⟨ρ, e, s, d, e', E, S, r, h, k⟩ := h
  rw [asgT] at h
  split at h
  · rename_i hl
    cases h
    exact k _ (E.set hl r) (List.length_set) fun j hj => List.getElem?_set_ne (fun q => hj (by simp [slotsT, q]))
  · cases h
theorem s_par {i j : Nat} {x y : Str} {px py pt : Pos} {kt k2 pt2} (C : Good X g k) (hi : X.N[i]? = some x) (hj : X.N[j]? = some y) (hij : i ≠ j) (hx : X.env.scope.names.lookup x = some .local) (hy : X.env.scope.names.lookup y = some .local) (ha : AM X g [a, b] [ca, cb])
    (hw : swappedStores [.Tuple [.Name x px, .Name y py] kt pt] (.Tuple [a, b] k2 pt2) X.env = pure (some [x, y])) (hs : swapsWithSole [.Tuple [.Name x px, .Name y py] kt pt] (.Tuple [a, b] k2 pt2) pos.line X.env = pure false := by rfl) :
    SM X g (.Assign [.Tuple [.Name x px, .Name y py] kt pt] (.Tuple [a, b] k2 pt2) pos) (.par i j ca cb) := (ps_par C.calm C.nd hi hj hij hx hy ha hw hs).of fun W σ H ⟨ρ, en, s, E, S, h⟩ => by
  obtain ⟨d1, s1, h1, h⟩ := st_ok h
  obtain ⟨d2, s2, h2, h⟩ := st_ok h
  refine ⟨ρ, en, s, [d1, d2], s2, E, S, by show (evE g en ca s).bind _ = _; rw [h1]; show (((evE g en cb s1).bind _).bind _) = _; rw [h2]; rfl, fun ρ1 H1 vs st1 S1 r1 => ?_⟩
  cases r1 with
  | cons r1 rn =>
    cases rn with
    | cons r2 rn =>
      cases rn
      split at h
      · rename_i hl
        exact ⟨_, _, rfl, h ρ1 H1 _ st1 S1 (((E.step st1).set hl.1 r1).set (by rw [List.length_set]; exact hl.2) r2)⟩
      · exact h.elim
theorem s_par3 {i j l : Nat} {x y z : Str} {px py pz pt : Pos} {kt k2 pt2} (C : Good X g k) (hi : X.N[i]? = some x) (hj : X.N[j]? = some y) (hl : X.N[l]? = some z) (hij : i ≠ j) (hil : i ≠ l) (hjl : j ≠ l) (hx : X.env.scope.names.lookup x = some .local) (hy : X.env.scope.names.lookup y = some .local) (hz : X.env.scope.names.lookup z = some .local)
    (ha : AM X g [a, b, c] [ca, cb, cc]) (hw : swappedStores [.Tuple [.Name x px, .Name y py, .Name z pz] kt pt] (.Tuple [a, b, c] k2 pt2) X.env = pure (some [x, y, z])) (hs : swapsWithSole [.Tuple [.Name x px, .Name y py, .Name z pz] kt pt] (.Tuple [a, b, c] k2 pt2) pos.line X.env = pure false := by rfl) :
    SM X g (.Assign [.Tuple [.Name x px, .Name y py, .Name z pz] kt pt] (.Tuple [a, b, c] k2 pt2) pos) (.par3 i j l ca cb cc) := (ps_par3 C.calm C.nd hi hj hl hij hil hjl hx hy hz ha hw hs).of fun W σ H ⟨ρ, en, s, E, S, h⟩ => by
  obtain ⟨d1, s1, h1, h⟩ := st_ok h
  obtain ⟨d2, s2, h2, h⟩ := st_ok h
  obtain ⟨d3, s3, h3, h⟩ := st_ok h
  refine ⟨ρ, en, s, [d1, d2, d3], s3, E, S, by show (evE g en ca s).bind _ = _; rw [h1]; show (((evE g en cb s1).bind _).bind _) = _; rw [h2]; show ((((evE g en cc s2).bind _).bind _).bind _) = _; rw [h3]; rfl, fun ρ1 H1 vs st1 S1 r1 => ?_⟩
  cases r1 with
  | cons r1 rn =>
    cases rn with
    | cons r2 rn =>
      cases rn with
      | cons r3 rn =>
        cases rn
        split at h
        · rename_i hl
          exact ⟨_, _, _, rfl, h ρ1 H1 _ st1 S1 ((((E.step st1).set hl.1 r1).set (by rw [List.length_set]; exact hl.2.1) r2).set (by rw [List.length_set, List.length_set]; exact hl.2.2) r3)⟩
        · exact h.elim
theorem s_setL {n : Nat} {y : Str} {py : Pos} {elt tg iter : Expr} {ifs : List Expr} {scope : Scope} {own : List (Str × Nat)} {spos : Pos} {cis : List CE} (C : Good X g k) (hy : X.N[n]? = some y) (hyl : X.env.scope.names.lookup y = some .local)
    (hsw : swapsWith (.ListComp elt [⟨tg, iter, ifs, 0⟩] scope pos) (some (.Name y py)) spos.line X.env = pure true) (hi : IM X g tg iter ci) (hb : blkC X.N X.env.scope scope own = true)
    (hg : ∀ (s : Shared) (H : Hp) (A : Addr) (cl : List (Str × Addr)) (fp : List Addr), Good (X.blk s H scope (compEnvC scope cl A X.env) fp) g k → GM (X.blk s H scope (compEnvC scope cl A X.env) fp) 9 tg t)
    (ht : ∀ (s : Shared) (H : Hp) (A : Addr) (cl : List (Str × Addr)) (fp : List Addr), Good (X.blk s H scope (compEnvC scope cl A X.env) fp) g k → TsM (X.blk s H scope (compEnvC scope cl A X.env) fp) g ifs cis)
    (he : ∀ (s : Shared) (H : Hp) (A : Addr) (cl : List (Str × Addr)) (fp : List Addr), Good (X.blk s H scope (compEnvC scope cl A X.env) fp) g k → EM (X.blk s H scope (compEnvC scope cl A X.env) fp) g elt ce)
    (hsl : ((slotsT t).all fun i => (own.map (·.2)).contains i) = true) (hs : ∀ x, foldedSetIterable iter X.env x = pure x) : SM X g (.Assign [.Name y py] (.ListComp elt [⟨tg, iter, ifs, 0⟩] scope pos) spos) (.asg (.nm n) (.lc ce (own.map (·.2)) t ci cis)) :=
  have G' : ∀ (s : Shared) (H : Hp) (A : Addr) (cl : List (Str × Addr)) (fp : List Addr), Good (X.blk s H scope (compEnvC scope cl A X.env) fp) g k := fun _ _ _ _ _ => ⟨C.calm, C.nd, C.room, C.gd, C.no, C.same⟩
  (ps_setLc (g := gT X.K 9 t) (tt := tMT X.K fun en s => evTs g en cis s) (te := tM X.K fun en s => evE g en ce s) C.calm C.nd hy hyl hsw hi (blkOk_by hb) (fun s H A cl fp => hg s H A cl fp (G' ..)) (fun s H A cl fp => ht s H A cl fp (G' ..)) (fun s H A cl fp => he s H A cl fp (G' ..)) hs).of fun W σ H h => by
    have hsl' : ∀ i ∈ slotsT t, i ∈ own.map (·.2) := fun i hi => by
      have := List.all_eq_true.mp hsl i hi
      simpa using this
    obtain ⟨ρ, en, s, E, S, h⟩ := h
    obtain ⟨d, s1, h1, h⟩ := st_ok h
    refine conv_lc C hsl' ⟨ρ, en, s, d, s1, E, S, h1, fun ρ1 H1 v st1 S1 r1 => gT_name (X := X) ?_⟩
    unfold asgR at h
    split at h
    · rename_i e' he'
      exact ⟨ρ1, en, s1, d, e', E.step st1, S1, r1, he', fun σ2 E2 _ _ => h ρ1 H1 σ2 st1 S1 E2⟩
    · exact h.elim
theorem s_sub (ha : EM X g a ca) (ho : EM X g o co) (hi : EM X g i ci') {tp : Pos} (hp : ∀ v, assign (.Subscript o i tp) X.env v = (do
      let ov ← holding [v] (eval o X.env)
      let iv ← holding [v, ov] (eval i X.env)
      standAt tp
      holding [v, ov, iv] (setItem ov iv v)
      release [v, ov, iv] []) := by intro _; rfl)
    (hs : swapsWithSole [.Subscript o i tp] a pos.line X.env = pure false := by rfl) (hw : swappedStores [.Subscript o i tp] a X.env = pure none := by rfl) (h1 : (assignEach [.Subscript o i tp] X.env).map (·.2) = [assign (.Subscript o i tp) X.env] := by rfl) :
    SM X g (.Assign [.Subscript o i tp] a pos) (.set co ci' ca) := (ps_asg ha (pg_sub ho hi set_ok hp) hs hw h1).of fun W σ H ⟨ρ, en, s, E, S, h⟩ => by
  obtain ⟨d1, s1, h1, h⟩ := st_ok h
  obtain ⟨d2, s2, h2, h⟩ := st_ok h
  obtain ⟨d3, s3, h3, h⟩ := st_ok h
  obtain ⟨_, s4, h4, h⟩ := st_ok h
  refine ⟨ρ, en, s, d1, s1, E, S, h1, fun ρ1 H1 v st1 S1 r1 => ⟨ρ1, en, s1, d2, s2, E.step st1, S1, h2, fun ρ2 H2 v2 st2 S2 r2 => ⟨ρ2, en, s2, d3, s3, (E.step st1).step st2, S2, h3, fun ρ3 H3 v3 st3 S3 r3 => ?_⟩⟩⟩
  exact ⟨ρ3, s3, d2, d3, d1, s4, S3, r2.step st3, r3, (r1.step st2).step st3, h4, fun H4 st4 S4 => h ρ3 H4 σ (st1.trans (st2.trans (st3.trans st4))) S4 (((E.step st1).step st2).step (st3.trans st4))⟩
theorem aug_ok (o : Operator) : PIp X o (fun x y H Q => ∃ i j z, x = .int i ∧ y = .int j ∧ augD o (some (.int i)) (.int j) = some (.int z) ∧ Q (.int z) H) := by
  intro pins s σ H x y v u Q I r1 r2 h
  obtain ⟨i, j, z, rfl, rfl, e, q⟩ := h
  cases o <;> simp [augD] at e
  · subst e; exact ip_add pins s σ H _ _ v u Q I r1 r2 ⟨i, j, rfl, rfl, q⟩
  · subst e; exact ip_sub pins s σ H _ _ v u Q I r1 r2 ⟨i, j, rfl, rfl, q⟩
theorem s_aug {n : Nat} {x : Str} {op : Operator} {pos' : Pos} (hN : X.N.Nodup) (hi : X.N[n]? = some x) (hx : Loc X.env.scope x) (ha : EM X g a ca) (hf : X.fn x = true ∨ X.env.scope.names.lookup x = some .local) : SM X g (.AugAssign (.Name x pos') op a pos) (.aug n op ca) :=
  (ps_aug hN hi hx ha (aug_ok op) hf).of fun W σ H ⟨ρ, en, s, E, S, h⟩ => by
    obtain ⟨d, s1, h1, h⟩ := st_ok h
    split at h
    · rename_i z hz
      obtain ⟨i, j, l, e1, e2, e3, e4⟩ := augD_of hz
      subst e2 e3
      have e1' : en[n]? = some (some (.int i)) := by
        cases q : en[n]? with
        | none => rw [q] at e1; cases e1
        | some w => rw [q] at e1; exact congrArg some e1
      obtain ⟨v, hv, rv⟩ := E.2 n _ e1'
      cases rv
      have hl : n < en.length := (List.getElem?_eq_some_iff.mp e1').1
      refine ⟨_, hv, ρ, en, s, _, s1, E, S, h1, fun ρ1 H1 w st1 S1 r1 => ?_⟩
      cases r1
      exact ⟨i, j, l, rfl, rfl, e4, h ρ1 H1 _ st1 S1 ((E.step st1).set hl (.int _))⟩
    · exact h.elim
theorem s_if (C : Good X g k) (hc : TM X g c cc) (ha : SsM X g sa la) (hb : SsM X g sb lb) : SM X g (.If c sa sb pos) (.if_ cc la lb) := (ps_if hc ha hb).of fun W σ H ⟨ρ, en, s, E, S, h⟩ => by
  obtain ⟨t, s1, h1, h⟩ := st_ok h
  refine gcB_ok C.same ⟨ρ, en, s, t, s1, E, S, h1, fun ρ1 H1 st1 S1 => ?_⟩
  cases t with
  | true => exact iteT ⟨ρ1, en, s1, E.step st1, S1, OkS.on (r := exSs g la en s1) h st1⟩
  | false => exact iteF ⟨ρ1, en, s1, E.step st1, S1, OkS.on (r := exSs g lb en s1) h st1⟩
theorem s_while (C : Good X g k) (hp : PassesOwn (model X.prog X.w) X.A X.env X.xe) (hc : TM X g c cc) (ha : SsM X g sa la) : SM X g (.While c sa [] pos) (.while_ cc la) := (ps_while hp hc ha).of fun W σ H ⟨ρ, en, s, E, S, h⟩ => by
  have h : OkS X.K ρ H W (whGo (fun e s => gcB g s (tstR (evE g e cc s))) (fun e s => exSs g la e s) g.fuel en s) := h
  refine ⟨fun m σ H => ∃ ρ en s, RelE X.K ρ H en σ ∧ RelS X.K ρ H s ∧ OkS X.K ρ H W (whGo (fun e s => gcB g s (tstR (evE g e cc s))) (fun e s => exSs g la e s) m en s), ⟨g.fuel, ρ, en, s, E, S, h⟩, ?_⟩
  rintro m σ H ⟨ρ, en, s, E, S, h⟩
  cases m with
  | zero => exact h.elim
  | succ m =>
    rw [whGo] at h
    obtain ⟨t, s1, h1, h⟩ := st_ok h
    refine gcB_ok C.same ⟨ρ, en, s, t, s1, E, S, h1, fun ρ1 H1 st1 S1 => ?_⟩
    cases t with
    | false => exact iteF (h ρ1 H1 σ st1 S1 (E.step st1))
    | true =>
      refine iteT ⟨fun σ H => ∃ ρ en s, RelE X.K ρ H en σ ∧ RelS X.K ρ H s ∧ OkS X.K ρ H W (whGo (fun e s => gcB g s (tstR (evE g e cc s))) (fun e s => exSs g la e s) m en s), fun σ' H' w => ⟨m, Nat.lt_succ_self _, w⟩, ρ1, en, s1, E.step st1, S1, ?_⟩
      exact (loop_ok (r := exSs g la en s1) h fun ρ' H' σ' e2 s2 st' S' E' h' => ⟨ρ', e2, s2, E', S', h'⟩).on st1
theorem s_for (hcalm : X.calm = true) (hp : PassesOwn (model X.prog X.w) X.A X.env X.xe) (hi : IM X g tg iter ci) (hg : GM X 9 tg t) (ha : SsM X g sa la) (hs : ∀ x, foldedSetIterable iter X.env x = pure x := by intro _; rfl) : SM X g (.For tg iter sa [] pos) (.for_ t ci la) :=
  (ps_for hp hcalm hi hg ha hs).of fun W σ H ⟨ρ, en, s, E, S, h⟩ => by
    obtain ⟨src, s1, h1, h⟩ := st_ok h
    generalize hf : (fun (d : D) (e : Mir.Env) (s : MS) => asgR t d e fun e => exSs g la e s) = f at h
    refine ⟨ρ, en, s, src, s1, E, S, h1, fun ρ1 H1 J st1 S1 jok => ?_⟩
    refine ⟨fun i m σ H => ∃ ρ' en s, i + m = src.n ∧ Step X.K ρ1 H1 ρ' H ∧ RelE X.K ρ' H en σ ∧ RelS X.K ρ' H s ∧ OkS X.K ρ' H W (forGo src f m i en s), ⟨src.n, ρ1, en, s1, Nat.zero_add _, .refl, E.step st1, S1, h.on st1⟩, ?_⟩
    rintro i m σ H ⟨ρ', en, s, him, st, E, S, h⟩
    cases m with
    | zero =>
      rw [forGo] at h
      split at h
      · rename_i hfin
        have hi : i = src.n := him
        subst hi
        exact .inl ⟨(jok ρ' H _ st S).2 hfin, h ρ' H σ .refl S E⟩
      · exact h.elim
    | succ m =>
      rw [forGo] at h
      split at h
      · exact h.elim
      · rename_i d hd
        obtain ⟨jg, jy⟩ := (jok ρ' H s st S).1 i d (by omega) hd
        refine .inr ⟨jg, fun σ H => ∃ ρ' en s, i + 1 + m = src.n ∧ Step X.K ρ1 H1 ρ' H ∧ RelE X.K ρ' H en σ ∧ RelS X.K ρ' H s ∧ OkS X.K ρ' H W (forGo src f m (i + 1) en s), fun σ' H' w => ⟨m, Nat.lt_succ_self _, w⟩, fun x H2 hy => ?_⟩
        obtain ⟨sty, S2, rx⟩ := jy x H2 hy
        have h : OkS X.K ρ' H W (match f d en s with
          | .nx e s => forGo src f m (i + 1) e s
          | .ct e s => forGo src f m (i + 1) e s
          | .bk e s => .nx e s
          | .rt d s => .rt d s
          | .bad => .bad) := h
        cases q : asgT 9 t d en with
        | none =>
          have : f d en s = .bad := by rw [← hf]; show asgR t d en _ = _; unfold asgR; rw [q]
          rw [this] at h
          exact h.elim
        | some e2 =>
          have e3 : f d en s = exSs g la e2 s := by rw [← hf]; show asgR t d en _ = _; unfold asgR; rw [q]
          rw [e3] at h
          refine ⟨ρ', en, s, d, e2, E.step sty, S2, rx, q, fun σ2 E2 _ _ => ⟨ρ', e2, s, E2, S2, ?_⟩⟩
          exact (loop_ok (r := exSs g la e2 s) h fun ρ4 H4 σ4 e4 s4 st4 S4 E4 h' => ⟨ρ4, e4, s4, by omega, st.trans st4, E4, S4, h'⟩).on sty
end
end Mir

namespace Mir
open PySem PySem.Spec PyProof.Rows L2

section
variable {K : PySem.W.Frag} {ρ ρ' : List Addr} {H H' : Hp}
theorem gcD_ok {g : G} (hs : ∀ a b, g.same a b = true → a = b) {Q : VK} {s s0 s' : MS} {d0 d : D} (S : RelS K ρ H s) (h : gcD g s (.ok d0 s0) = .ok d s') (k : Kt K ρ H Q s' d) : Kt K ρ H Q s0 d0 := by
  intro ρ' H' v st S' r
  have h : R.ok d0 (if g.same s (s0.take s.length) && cleanD s.length d0 then s else s0) = .ok d s' := h
  cases h
  split at k
  · rename_i hc
    rw [Bool.and_eq_true] at hc
    exact k ρ H' v ⟨List.prefix_refl _, st.2.1, fun a o h n => ⟨(st.2.2 a o h n).1, n⟩⟩ (S.back st.1 S' (hs _ _ hc.1).symm) (r.clean st.1 S.len hc.2)
  · exact k ρ' H' v st S' r
theorem RelE.start {N : List Str} {ds : List D} {vs : List V} (r : RelDs K ρ H ds vs) : RelE K ρ H (ds.map some ++ List.replicate (N.length - ds.length) none) (start N vs) := by
  have hl := r.length
  refine ⟨by unfold L2.start; simp only [List.length_append, List.length_map, List.length_replicate, hl], fun i d h => ?_⟩
  by_cases hi : i < ds.length
  · rw [List.getElem?_append_left (by simpa using hi), List.getElem?_map, Option.map_eq_some_iff] at h
    obtain ⟨d', h, e⟩ := h
    cases e
    obtain ⟨v, hv, rv⟩ := r.get h
    refine ⟨v, ?_, rv⟩
    unfold L2.start
    rw [List.getElem?_append_left (by rw [List.length_map, ← hl]; exact hi), List.getElem?_map, hv]
    rfl
  · rw [List.getElem?_append_right (by simpa using hi), List.getElem?_replicate] at h
    split at h <;> cases h
end

/-- the context of a def's body -/
abbrev bodyX (P : Program) (w : World) (K : PySem.W.Frag) (mg : Str → Option Value) (base : Heap) (N : List Str) (x : Str) (st : Stmt) (f : Addr) (cdv : Value) (A : Around) (outer : List PySem.Env) (s : Shared) (H : Hp) : Cx :=
  (cxOf CX0 P w K mg base N x (defScope st) f cdv A outer s H E0).nox
section
variable {P : Program} {w : World} {K : PySem.W.Frag} {mg : Str → Option Value} {base : Heap} {g : G} {k : Nat} {x : Str} {st : Stmt} {N ps : List Str} {cs : List CS} {f : Addr} {fd : FuncData}
/-- a def keeps to its mirror -/
theorem fnG_of (F : Fun K x x st f fd) (S : FnScope N ps (defScope st)) (hno : ∀ x ∈ bltNames, mg x = none) (hsame : ∀ a b, g.same a b = true → a = b)
    (hbody : ∀ cdv A outer s H, Good (bodyX P w K mg base N x st f cdv A outer s H) g k → SsM (bodyX P w K mg base N x st f cdv A outer s H) g (defBody st) cs) : FnG P w K mg base (k + 1) f fd ps ps.length (fnD g N.length cs) := by
  obtain ⟨oc, od, kV, doc, pm, an, cdv, ct, osl, rfl, lk, hcd⟩ := F.ex
  constructor
  intro A outer s H us vs Q room gd e0 hb r ⟨ρ, ds, ms, d, ms', rd, RS, hlen, hm, kt⟩
  have lenV : vs.length = ps.length := by rw [← rd.length, hlen]
  have inK : K.In s.heap := e0.mod.kin.keeps fun b o e => (e0.bs b o e).1
  have nolim := e0.mod.nolimit.keeps fun b o e => (e0.bs b o e).1
  refine codeAny_call_function room.depth (inK _ _ lk) rfl S.co S.gen rfl (PySem.W.codeRec_of inK hcd) (hb _ _ _ _ ?_)
  refine wpAny_newFunctionEnv_cells S.kind (fun y hy => ?_) fun env he s1 hin => ?_
  · rcases S.par y.1 (List.of_mem_zip (a := y.1) (b := y.2) hy).1 with q | q
    · exact .inl q
    · exact .inr ⟨q, PySem.W.cellsFrom_some _ _ _ (.inl q)⟩
  subst he
  refine ⟨nolim.keeps hin.toInCall.keep, codeAny_func ?_⟩
  have I := inv_start (CX := CX0) (P := P) (w := w) (E := E0) S room.hd e0 lenV r hin
  have GX : Good (bodyX P w K mg base N x st f cdv A outer s H) g k := ⟨rfl, S.nd, room.deeper _, gd, hno, hsame⟩
  have T := PSs.nox (hbody cdv A outer s H GX)
  have go : tMS K (fun e s => exSs g cs e s) { nx := fun _ H' => Q .non H', rt := Q } (start N vs) H := by
    refine ⟨ρ, _, ms, RelE.start (N := N) rd, RS, ?_⟩
    have key : ∀ res : Rs, gcD g ms (match res with
      | .rt d s => .ok d s
      | .nx _ s => .ok .non s
      | _ => .bad) = .ok d ms' → OkS K ρ H { nx := fun _ H' => Q .non H', rt := Q } res := by
      intro res hm
      cases res with
      | rt d0 s0 => exact fun ρ' H' v st' S' r' => gcD_ok hsame RS hm kt ρ' H' v st' S' r'
      | nx e0 s0 => exact fun ρ' H' σ' st' S' _ => gcD_ok hsame RS hm kt ρ' H' .non st' S' .non
      | bk e s => cases hm
      | ct e s => cases hm
      | bad => cases hm
    exact key _ hm
  refine wpAny_mono (T.run [] s1 (start N vs) H _ I go) (fun fl s' hs => ?_) fun e s' hs => hs
  cases fl with
  | ret u => obtain ⟨v, σ', H', J, rv, q⟩ := hs; exact ⟨v, H', J.os, J.bare, J.base, J.hok, rv, q⟩
  | next => obtain ⟨σ', H', J, q⟩ := hs; exact ⟨V.non, H', J.os, J.bare, J.base, J.hok, (rfl : Value.none = Value.none), q⟩
  | brk => exact hs.choose_spec.choose_spec.2.elim
  | cont => exact hs.choose_spec.choose_spec.2.elim
/-- what is known of a def of the text -/
structure DefOk (K : PySem.W.Frag) (mg : Str → Option Value) (x : Str) (st : Stmt) (N ps : List Str) : Prop where
  at_ : ∃ f fd, Fun K x x st f fd ∧ mg x = some (.ref f) ∧ Binds K fd ps []
  sc : FnScope N ps (defScope st)
theorem fnT_of (D : DefOk K mg x st N ps) (hno : ∀ x ∈ bltNames, mg x = none) (hsame : ∀ a b, g.same a b = true → a = b)
    (hbody : ∀ f cdv A outer s H, Good (bodyX P w K mg base N x st f cdv A outer s H) g k → SsM (bodyX P w K mg base N x st f cdv A outer s H) g (defBody st) cs) : FnT P w K mg base (k + 1) x ps.length (fnD g N.length cs) := by
  obtain ⟨f, fd, F, hm, hb⟩ := D.at_
  exact ⟨f, fd, ps, hm, F.kp, rfl, hb, fnG_of F D.sc hno hsame (hbody f)⟩
/-- at level 0 a def promises nothing -/
theorem fnT_zero (D : DefOk K mg x st N ps) : FnT P w K mg base 0 x ps.length (fun _ _ => .bad) := by
  obtain ⟨f, fd, F, hm, hb⟩ := D.at_
  refine ⟨f, fd, ps, hm, F.kp, rfl, hb, ⟨fun A outer s H us vs Q _ _ _ _ _ h => ?_⟩⟩
  obtain ⟨ρ, ds, s, d, s', _, _, _, e, _⟩ := h
  cases e
end

/-! ### the levels -/
noncomputable def sameC (a b : MS) : Bool := @decide (a = b) (Classical.propDecidable _)
theorem sameC_ok (a b : MS) (h : sameC a b = true) : a = b := by
  unfold sameC at h
  exact @of_decide_eq_true _ (Classical.propDecidable _) h
theorem sameC_self (a : MS) : sameC a a = true := by
  unfold sameC
  exact @decide_eq_true _ (Classical.propDecidable _) rfl
abbrev Tbl := List (Str × Nat × List CS)
noncomputable def lev (tbl : Tbl) (fuel : Nat) : Nat → G
  | 0 => ⟨fun _ _ _ => .bad, fun _ => none, fuel, sameC⟩
  | k + 1 => ⟨fun x ds s => match tbl.lookup x with
    | some (n, body) => fnD (lev tbl fuel k) n body ds s
    | none => .bad, fun _ => none, fuel, sameC⟩
theorem lev_same (tbl : Tbl) (fuel : Nat) : ∀ k a b, (lev tbl fuel k).same a b = true → a = b
  | 0, a, b, h => sameC_ok a b h
  | _ + 1, a, b, h => sameC_ok a b h

/-! ### the law's own call -/
section
variable {P : Program} {w : World} {K : PySem.W.Frag} {mg mb : Str → Option Value} {k n : Nat} {fa a : Addr} {fd : FuncData} {x : Str} {s : Shared} {vs : List Value} {ns : List Int} {m : List D → MS → R D} {s' : MS}
/-- the script as it is tracked: the top's own list, or one that was laid -/
noncomputable def scrH (K : PySem.W.Frag) (a : Addr) (o : Obj) (xs : List V) : Hp := fun b => if b = a ∧ K.lookup a = none then some (.frz o (.lst xs)) else none
theorem call_law (inK : K.In s.heap) (G1 : s.heap.Ns mainGlobals mg) (G2 : s.heap.Ns builtinsNs mb) (G3 : ∀ y : Str, y ≠ "__name__" → mb y = bootBuiltins y) (G4 : s.heap.NoLimit) (hg : s.gens = #[])
    (ha : s.heap.get? a = some { cls := .type "list", data := .seq vs.toArray }) (hi : IntsAre vs ns) (hz : ns.length ≤ sizeLine) (room : Room k callerA)
    (F : ∀ base : Heap, K.In base → base.Ns mainGlobals mg → FnG P w K mg base k fa fd [x] 1 m) (hb : ∀ (s : Shared) (u : Value), BindsTo s fd ⟨[u], []⟩ [(x, u)]) (hm : m [.rol (ns.map D.int)] [] = .ok (.bl true) s') :
    codeAny (model P w) callerA (.call (.ref fa) ⟨[.ref a], []⟩) (fun r t => r = .ok (.ret (.bool true)) ∧ OldK s.heap t.heap ∧ t.os = s.os ∧ AllBare t.gens) s := by
  generalize hO : ({ cls := .type "list", data := .seq vs.toArray } : Obj) = O at ha
  have rv : Vals (ns.map V.int) vs := vals_ints hi
  generalize hH : scrH K a O (ns.map V.int) = H
  have hat : ∀ b u, H b = some u → b = a ∧ K.lookup a = none ∧ u = .frz O (.lst (ns.map V.int)) := fun b u e => by
    subst hH
    unfold scrH at e
    split at e
    · rename_i q; exact ⟨q.1, q.2, (Option.some.inj e).symm⟩
    · cases e
  have non : ∀ {b : Addr} {o : Obj}, s.heap.get? b = some o → (b = a → K.lookup a ≠ none) → (hidT s.heap H).get? b = some o := fun {b o} e q => hidT_get e (by
    cases z : H b with
    | none => rfl
    | some u => exact absurd (hat b u z).2.1 (q (hat b u z).1))
  have nsD : ∀ {b : Addr} {f : Str → Option Value}, s.heap.Ns b f → (hidT s.heap H).Ns b f := fun {b f} ⟨o, es, ep, e, d, q⟩ => ⟨o, es, ep, hidT_get e (by
    cases z : H b with
    | none => rfl
    | some u =>
      have e2 := (hat b u z).1
      subst e2
      rw [ha] at e
      cases e
      rw [← hO] at d
      cases d), d, q⟩
  have KB : K.In (hidT s.heap H) := fun b o e => non (inK b o e) fun q z => by subst q; rw [e] at z; cases z
  have M0 : Mod K mg (hidT s.heap H) := ⟨KB, nsD G1, ⟨mb, nsD G2, G3⟩, G4.imp fun mc q => ⟨nsD q.1, q.2⟩⟩
  have ok0 : HOk P w H s.heap := fun b u z => by
    obtain ⟨rfl, _, rfl⟩ := hat b u z
    exact ⟨ha, by rw [List.length_map]; exact hz, vs, _, rv, hO ▸ ha⟩
  have e0 : Env0 P w K mg (hidT s.heap H) callerA [] s H := ⟨rfl, M0, fun b o e => of_hidT e, Nat.le_of_eq (hidT_size _ _), trivial, fun b q => (List.not_mem_nil q).elim, ok0, .of_eq hg⟩
  have ro : RoL K H a (ns.map V.int) := by
    cases q : K.lookup a with
    | none => exact .inl ⟨O, by rw [← hH]; exact if_pos ⟨rfl, q⟩⟩
    | some o =>
      have e := inK a o q
      rw [ha] at e
      cases e
      subst hO
      exact .inr (.inr ⟨_, vs.toArray, _, q, rfl, rfl, rfl, by rw [List.size_toArray, hi.length]; exact hz, by simpa using rv⟩)
  have sp : spM K 1 m [.ref a] H (fun v _ => v = .bl true) E0 := ⟨[], [.rol (ns.map D.int)], [], .bl true, s', .cons (.rol ro (rel_ints ns)) .nil, ⟨rfl, .nil, fun n o a h => by simp at h⟩, rfl, hm, fun ρ' H' v _ _ r => by cases r; rfl⟩
  refine codeAny_mono ((F _ KB (nsD G1)).run callerA [] s H [.ref a] [.ref a] _ room rfl e0 (hb s _) (.cons rfl .nil) sp) fun r t h => ?_
  rcases r with er | fl
  · exact h.elim
  · cases fl <;> first
      | exact False.elim h
      | skip
    obtain ⟨v, H', os, bare, un, ok1, rr, q⟩ := h
    subst q
    cases rr
    refine ⟨rfl, OldK.of_keep fun b o e => ?_, os, bare⟩
    cases z : H b with
    | none => exact un.keep b o e z (fun q => (List.not_mem_nil q).elim) (List.not_mem_nil)
    | some u =>
      obtain ⟨rfl, _, rfl⟩ := hat b u z
      have g2 := (ok1 _ _ (un.frzs _ _ _ z)).1
      rw [e] at ha
      cases ha
      exact g2
end
/-- the goal behind the head -/
theorem walk_mir {l : PySem.W.OpenLaw} {n k : Nat} {q : Program} {loose : List Str} {XP : (Str → Option Value) → Heap → Prop} {YP : World → Heap → Prop} {d : DefRec} {K : Params → PySem.W.Frag} {x : Str} (m : List D → MS → R D)
    (hn : l.most = some n) (hn2 : n ≤ sizeLine) (hdf : d.params.defaults = []) (room : Room k callerA) (hY : ∀ (w : World) (h : Heap), YP w h → (K w.params).In h)
    (F : ∀ (w : World) (mg : Str → Option Value) (fa : Addr) (h : Heap), (K w.params).In h → h.Ns mainGlobals mg → mg d.name = some (.ref fa) → ∃ fd : FuncData, (∀ (s : Shared) (u : Value), BindsTo s fd ⟨[u], []⟩ [(x, u)]) ∧
      ∀ base : Heap, (K w.params).In base → base.Ns mainGlobals mg → FnG l.prog w (K w.params) mg base k fa fd [x] 1 m)
    (hlaw : ∀ ns : List Int, ns.length ≤ n → ∃ s', m [.rol (ns.map D.int)] [] = .ok (.bl true) s') : PySem.W.WalkO q loose XP YP l.row.toRowW d [] (fun f vs => PySem.call f vs) := by
  refine Att.attach_call hn hdf fun w s₀ s₁ mg mb fa o pm cd doc a vs ns Gr Y ho hd hcd hmg hobj hints hlen hg => ?_
  have inK := hY w _ Y
  obtain ⟨fd, hb, hF⟩ := F w mg fa _ inK Gr.T.g hmg
  obtain ⟨s', hm⟩ := hlaw ns hlen
  exact call_law inK Gr.T.g Gr.T.b Gr.T.builtins Gr.T.nolimit hg hobj hints (Nat.le_trans hlen hn2) room hF hb hm
end Mir
namespace Mir
open PySem PySem.Spec PyProof.Rows L2
theorem lev_fn {tbl : Tbl} {fuel k n : Nat} {x : Str} {b : List CS} (h : tbl.lookup x = some (n, b)) : (lev tbl fuel (k + 1)).fn x = fnD (lev tbl fuel k) n b := by
  funext ds s
  show (match tbl.lookup x with
    | some (n, body) => fnD (lev tbl fuel k) n body ds s
    | none => .bad) = _
  rw [h]
section
variable {X : Cx} {g : G} {k : Nat}
theorem mv (i : Nat) {x : Str} {pos : Pos} (hN : X.N[i]? = some x := by rfl) (hv : Vis X.env.scope x := by first | exact Or.inl rfl | exact Or.inr (Or.inl rfl) | exact Or.inr (Or.inr rfl)) (hd : (x == ("__debug__" : Str)) = false := by decide)
    (hcd : (x == ("__classdict__" : Str)) = false := by decide) : EM X g (.Name x pos) (.var i) := em_var hN hv hd hcd
theorem mg_nm (C : Good X g k) (i : Nat) {n : Nat} {x : Str} {pos : Pos} (hi : X.N[i]? = some x := by rfl) (hx : Loc X.env.scope x := by first | exact Or.inl rfl | exact Or.inr rfl)
    (hf : X.fn x = true ∨ X.env.scope.names.lookup x = some .local := by first | exact .inr rfl | exact .inl rfl) : GM X n (.Name x pos) (.nm i) := gm_nm C.nd hi hx hf
theorem ms_aug (C : Good X g k) (i : Nat) {x : Str} {op : Operator} {pos pos' : Pos} {a : Expr} {ca : CE} (ha : EM X g a ca) (hi : X.N[i]? = some x := by rfl) (hx : Loc X.env.scope x := by first | exact Or.inl rfl | exact Or.inr rfl)
    (hf : X.fn x = true ∨ X.env.scope.names.lookup x = some .local := by first | exact .inr rfl | exact .inl rfl) : SM X g (.AugAssign (.Name x pos') op a pos) (.aug i op ca) := s_aug C.nd hi hx ha hf
end
end Mir

/-! reasoning about the small interpreter -/
namespace Mir
open PySem
def okR {α : Type} (r : R α) (P : α → MS → Prop) : Prop := match r with
  | .ok a s => P a s
  | _ => False
structure Want where
  nx : Mir.Env → MS → Prop
  rt : D → MS → Prop
  bk : Mir.Env → MS → Prop := fun _ _ => False
  ct : Mir.Env → MS → Prop := fun _ _ => False
def okS (r : Rs) (W : Want) : Prop := match r with
  | .nx e s => W.nx e s
  | .rt d s => W.rt d s
  | .bk e s => W.bk e s
  | .ct e s => W.ct e s
  | .bad => False
section
variable {α β : Type} {P Q : α → MS → Prop} {r : R α} {s : MS} {a : α} {g : G} {W : Want}
theorem okR_ok : okR (.ok a s) P = P a s := rfl
theorem okR_bad : okR (.bad : R α) P = False := rfl
theorem okR_bind {f : α → MS → R β} {P : β → MS → Prop} : okR (r.bind f) P = okR r fun a s => okR (f a s) P := by cases r <;> rfl
theorem okR_some : okR (R.of s (some a)) P = P a s := rfl
theorem okR_none : okR (R.of s (none : Option α)) P = False := rfl
theorem okR_mono (h : okR r P) (k : ∀ a s, P a s → Q a s) : okR r Q := by
  cases r with
  | ok a s => exact k a s h
  | exc _ _ _ => exact h
  | bad => exact h
theorem okR_eq (h : okR r P) : ∃ a s, r = .ok a s ∧ P a s := by
  cases r with
  | ok a s => exact ⟨a, s, rfl, h⟩
  | exc _ _ _ => exact h.elim
  | bad => exact h.elim
theorem okR_of_eq (h : r = .ok a s) (q : P a s) : okR r P := by rw [h]; exact q
theorem okR_tst {r : R D} {P : Bool → MS → Prop} : okR (tstR r) P = okR r fun x s => okR (R.of s (truth s x)) P := okR_bind
theorem okR_gcB {r : R Bool} {P : Bool → MS → Prop} : okR (gcB g s r) P = okR r fun b s' => P b (if g.same s (s'.take s.length) then s else s') := okR_bind
theorem okR_gcD {r : R D} {P : D → MS → Prop} : okR (gcD g s r) P = okR r fun d s' => P d (if g.same s (s'.take s.length) && cleanD s.length d then s else s') := okR_bind
theorem okR_ite {c : Prop} [Decidable c] {r t : R α} : okR (if c then r else t) P = if c then okR r P else okR t P := by split <;> rfl
theorem okS_ite {c : Prop} [Decidable c] {r t : Rs} : okS (if c then r else t) W = if c then okS r W else okS t W := by split <;> rfl
theorem okS_st {f : α → MS → Rs} : okS (r.st f) W = okR r fun a s => okS (f a s) W := by cases r <;> rfl
theorem okS_seq {r : Rs} {f : Mir.Env → MS → Rs} : okS (r.seq f) W = okS r { W with nx := fun e s => okS (f e s) W } := by cases r <;> rfl
theorem okS_nx {e : Mir.Env} : okS (.nx e s) W = W.nx e s := rfl
theorem okS_rt {d : D} : okS (.rt d s) W = W.rt d s := rfl
theorem okS_bk {e : Mir.Env} : okS (.bk e s) W = W.bk e s := rfl
theorem okS_ct {e : Mir.Env} : okS (.ct e s) W = W.ct e s := rfl
theorem okS_mono {r : Rs} {V : Want} (h : okS r W) (k1 : ∀ e s, W.nx e s → V.nx e s) (k2 : ∀ e s, W.rt e s → V.rt e s) (k3 : ∀ e s, W.bk e s → V.bk e s) (k4 : ∀ e s, W.ct e s → V.ct e s) : okS r V := by
  cases r with
  | nx e s => exact k1 e s h
  | rt e s => exact k2 e s h
  | bk e s => exact k3 e s h
  | ct e s => exact k4 e s h
  | bad => exact h
/-- a def's call -/
theorem okR_fnD {n : Nat} {body : List CS} {ds : List D} {P : D → MS → Prop} (h : okS (exSs g body (ds.map some ++ List.replicate (n - ds.length) none) s) ⟨fun _ s' => okR (gcD g s (.ok .non s')) P, fun d s' => okR (gcD g s (.ok d s')) P, fun _ _ => False, fun _ _ => False⟩) : okR (fnD g n body ds s) P := by
  unfold fnD
  revert h
  generalize exSs g body (ds.map some ++ List.replicate (n - ds.length) none) s = r
  intro h
  cases r <;> first | exact h | exact h.elim
end
theorem same_take (s t : MS) : sameC s ((s ++ t).take s.length) = true := by rw [List.take_left]; exact sameC_self s
theorem same_take0 (s : MS) : sameC s (s.take s.length) = true := by rw [List.take_length]; exact sameC_self s
theorem lev_sameC (tbl : Tbl) (fuel : Nat) : ∀ k, (lev tbl fuel k).same = sameC
  | 0 => rfl
  | _ + 1 => rfl
theorem lev_fuel (tbl : Tbl) (fuel : Nat) : ∀ k, (lev tbl fuel k).fuel = fuel
  | 0 => rfl
  | _ + 1 => rfl
/-- the end of a def: what was made is let go, or not -/
theorem gc_end {g : G} {s s' : MS} {d : D} {P : D → MS → Prop} (h : P d s') (k : s'.take s.length = s → cleanD s.length d = true → P d s) (hs : ∀ a b, g.same a b = true → a = b) : okR (gcD g s (.ok d s')) P := by
  rw [okR_gcD, okR_ok]
  by_cases c : (g.same s (s'.take s.length) && cleanD s.length d) = true
  · rw [if_pos c]
    rw [Bool.and_eq_true] at c
    exact k (hs _ _ c.1).symm c.2
  · rw [if_neg c]; exact h
/-- nothing but new things were made, and the result is none of them -/
theorem gc_pure {tbl : Tbl} {fuel k : Nat} {s t : MS} {d : D} {P : D → MS → Prop} (hc : cleanD s.length d = true) (h : P d s) : okR (gcD (lev tbl fuel k) s (.ok d (s ++ t))) P := by
  rw [okR_gcD, okR_ok, lev_sameC, same_take, hc]
  exact h
theorem gc_pure0 {tbl : Tbl} {fuel k : Nat} {s : MS} {d : D} {P : D → MS → Prop} (h : P d s) : okR (gcD (lev tbl fuel k) s (.ok d s)) P := by
  rw [okR_gcD, okR_ok, ite_self]
  exact h

/-! ### loops -/
theorem okS_for {src : Src} {f : D → Mir.Env → MS → Rs} {W : Want} (I : Nat → Mir.Env → MS → Prop) :
    ∀ (k j : Nat) (e : Mir.Env) (s : MS), j + k = src.n → I j e s → (∀ i e s, i < src.n → I i e s → ∃ d, src.get i s = some d ∧ okS (f d e s) ⟨I (i + 1), W.rt, W.nx, I (i + 1)⟩) → (∀ e s, I src.n e s → src.fin s = true ∧ W.nx e s) → okS (forGo src f k j e s) W
  | 0, j, e, s, hj, h, _, he => by
    have e1 : j = src.n := hj
    subst e1
    obtain ⟨h1, h2⟩ := he e s h
    rw [forGo, if_pos h1]
    exact h2
  | k + 1, j, e, s, hj, h, hs, he => by
    obtain ⟨d, hd, q⟩ := hs j e s (by omega) h
    rw [forGo, hd]
    show okS (match f d e s with
      | .nx e s => forGo src f k (j + 1) e s
      | .ct e s => forGo src f k (j + 1) e s
      | .bk e s => .nx e s
      | .rt d s => .rt d s
      | .bad => .bad) W
    revert q
    generalize f d e s = r
    intro q
    cases r with
    | nx e2 s2 => exact okS_for I k (j + 1) e2 s2 (by omega) q hs he
    | ct e2 s2 => exact okS_for I k (j + 1) e2 s2 (by omega) q hs he
    | bk e2 s2 => exact q
    | rt d2 s2 => exact q
    | bad => exact q
/-- a loop by its invariant -/
theorem okS_for0 {src : Src} {f : D → Mir.Env → MS → Rs} {W : Want} {e : Mir.Env} {s : MS} (I : Nat → Mir.Env → MS → Prop) (h0 : I 0 e s) (hs : ∀ i e s, i < src.n → I i e s → ∃ d, src.get i s = some d ∧ okS (f d e s) ⟨I (i + 1), W.rt, W.nx, I (i + 1)⟩)
    (he : ∀ e s, I src.n e s → src.fin s = true ∧ W.nx e s) : okS (forGo src f src.n 0 e s) W := okS_for I src.n 0 e s (Nat.zero_add _) h0 hs he
theorem okR_lcI {src : Src} {f : D → MS → R (Option D)} {P : List D → MS → Prop} (I : Nat → List D → MS → Prop) :
    ∀ (k j : Nat) (acc : List D) (s : MS), j + k = src.n → I j acc s → (∀ i acc s, i < src.n → I i acc s → ∃ d, src.get i s = some d ∧ okR (f d s) fun r s => match r with
      | none => I (i + 1) acc s
      | some y => acc.length < 1000000 ∧ I (i + 1) (acc ++ [y]) s) → (∀ acc s, I src.n acc s → src.fin s = true ∧ P acc s) → okR (lcGo src f k j acc s) P
  | 0, j, acc, s, hj, h, _, he => by
    have e1 : j = src.n := hj
    subst e1
    obtain ⟨h1, h2⟩ := he acc s h
    rw [lcGo, if_pos h1]
    exact h2
  | k + 1, j, acc, s, hj, h, hs, he => by
    obtain ⟨d, hd, q⟩ := hs j acc s (by omega) h
    rw [lcGo, hd]
    show okR ((f d s).bind _) P
    rw [okR_bind]
    refine okR_mono q fun r s1 q => ?_
    cases r with
    | none => exact okR_lcI I k (j + 1) acc s1 (by omega) q hs he
    | some y =>
      show okR (if acc.length < 1000000 then lcGo src f k (j + 1) (acc ++ [y]) s1 else .bad) P
      rw [if_pos q.1]
      exact okR_lcI I k (j + 1) _ s1 (by omega) q.2 hs he
theorem okR_lc0 {src : Src} {f : D → MS → R (Option D)} {P : List D → MS → Prop} {s : MS} (I : Nat → List D → MS → Prop) (h0 : I 0 [] s) (hs : ∀ i acc s, i < src.n → I i acc s → ∃ d, src.get i s = some d ∧ okR (f d s) fun r s => match r with
      | none => I (i + 1) acc s
      | some y => acc.length < 1000000 ∧ I (i + 1) (acc ++ [y]) s) (he : ∀ acc s, I src.n acc s → src.fin s = true ∧ P acc s) : okR (lcGo src f src.n 0 [] s) P := okR_lcI I src.n 0 [] s (Nat.zero_add _) h0 hs he
/-- a comprehension that changes nothing -/
theorem lc_pure {src : Src} {f : D → MS → R (Option D)} {s : MS} {ds : List D} (F : D → Option D) (hn : src.n = ds.length) (hz : ds.length < 1000000) (hg : ∀ j d, ds[j]? = some d → src.get j s = some d) (hfin : src.fin s = true) (hf : ∀ d ∈ ds, f d s = .ok (F d) s) :
    lcGo src f src.n 0 [] s = .ok (ds.filterMap F) s := by
  have key : ∀ (k j : Nat) (acc : List D), j + k = ds.length → acc.length ≤ j → lcGo src f k j acc s = .ok (acc ++ (ds.drop j).filterMap F) s := by
    intro k
    induction k with
    | zero =>
      intro j acc hj _
      rw [lcGo, if_pos hfin, List.drop_of_length_le (by omega), List.filterMap_nil, List.append_nil]
    | succ k ih =>
      intro j acc hj ha
      have hlt : j < ds.length := by omega
      have hd : ds[j]? = some ds[j] := List.getElem?_eq_getElem hlt
      rw [lcGo, hg j _ hd]
      show ((f ds[j] s).bind _) = _
      rw [hf _ (List.getElem_mem hlt), List.drop_eq_getElem_cons hlt, List.filterMap_cons]
      show (match F ds[j] with
        | none => lcGo src f k (j + 1) acc s
        | some y => if acc.length < 1000000 then lcGo src f k (j + 1) (acc ++ [y]) s else .bad) = _
      cases F ds[j] with
      | none => exact ih (j + 1) acc (by omega) (by omega)
      | some y =>
        show (if acc.length < 1000000 then lcGo src f k (j + 1) (acc ++ [y]) s else .bad) = _
        rw [if_pos (by omega), ih (j + 1) _ (by omega) (by rw [List.length_append, List.length_singleton]; omega), List.append_assoc]
        rfl
  have := key src.n 0 [] (by omega) (Nat.le_refl _)
  rw [this]
  rfl
theorem srcSeq_tup {s : MS} {xs : List D} : srcSeq s (.tup xs) = some ⟨xs.length, fun j _ => xs[j]?, fun _ => true⟩ := rfl
theorem srcSeq_ref {s : MS} {k : Nat} {xs : List D} (h : s[k]? = some (.lst xs)) : srcSeq s (.ref k) = some ⟨xs.length, fun j s => match s[k]? with
        | some (.lst ys) => if ys.length = xs.length then ys[j]? else none
        | _ => none, fun s => match s[k]? with
        | some (.lst ys) => decide (ys.length = xs.length)
        | _ => false⟩ := by
  unfold srcSeq
  simp only [h] <;> rfl
theorem whGo_ok {c : Mir.Env → MS → R Bool} {b : Mir.Env → MS → Rs} {W : Want} (I : Nat → Mir.Env → MS → Prop) (hs : ∀ m e s, I m e s → okR (c e s) fun t s => if t then ∃ m', m' < m ∧ okS (b e s) ⟨I m', W.rt, W.nx, I m'⟩ else W.nx e s) :
    ∀ (k m : Nat) (e : Mir.Env) (s : MS), m < k → I m e s → okS (whGo c b k e s) W
  | 0, m, e, s, h, _ => absurd h (Nat.not_lt_zero _)
  | k + 1, m, e, s, h, hi => by
    rw [whGo, okS_st]
    refine okR_mono (hs m e s hi) fun t s1 q => ?_
    cases t with
    | false => exact q
    | true =>
      obtain ⟨m', hm, q⟩ := q
      show okS (match b e s1 with
        | .nx e s => whGo c b k e s
        | .ct e s => whGo c b k e s
        | .bk e s => .nx e s
        | .rt d s => .rt d s
        | .bad => .bad) W
      revert q
      generalize b e s1 = r
      intro q
      cases r with
      | nx e2 s2 => exact whGo_ok I hs k m' e2 s2 (by omega) q
      | ct e2 s2 => exact whGo_ok I hs k m' e2 s2 (by omega) q
      | bk e2 s2 => exact q
      | rt d2 s2 => exact q
      | bad => exact q
end Mir

/-! data: ints, tuples of ints and the like -/
namespace Mir
open PySem
section
variable {s : MS}
theorem py_int (i : Int) (s : MS) (n : Nat) : toPy s (n + 1) (.int i) = some (.int i) := by simp [toPy]
theorem py_bl (i : Bool) (s : MS) (n : Nat) : toPy s (n + 1) (.bl i) = some (.bool i) := by simp [toPy]
theorem py_str (i : Str) (s : MS) (n : Nat) : toPy s (n + 1) (.str i) = some (.str i) := by simp [toPy]
theorem mapM_ints (s : MS) (n : Nat) : ∀ ns : List Int, (ns.map D.int).mapM (toPy s (n + 1)) = some (ns.map PyData.int)
  | [] => rfl
  | i :: r => by
    rw [List.map_cons, List.mapM_cons, py_int, mapM_ints s n r]
    rfl
theorem py_tints (s : MS) (n : Nat) (ns : List Int) : toPy s (n + 2) (.tup (ns.map D.int)) = some (.tuple (ns.map PyData.int)) := by
  rw [toPy, mapM_ints]
  rfl
theorem py_lints {k : Nat} {ns : List Int} (h : s[k]? = some (.lst (ns.map D.int))) (n : Nat) : toPy s (n + 2) (.ref k) = some (.list (ns.map PyData.int)) := by
  rw [toPy]
  simp only [h]
  rw [mapM_ints]
  rfl
theorem plain_ints : ∀ ns : List Int, PyData.plainAll (ns.map PyData.int) = true
  | [] => rfl
  | i :: r => by simp [PyData.plainAll, PyData.plain, plain_ints r]
theorem depth_ints : ∀ ns : List Int, PyData.depthAll (ns.map PyData.int) = 0
  | [] => rfl
  | i :: r => by simp [PyData.depthAll, PyData.depth, depth_ints r]
theorem eqv_int (i j : Int) : PyData.eqv (.int i) (.int j) = decide (i = j) := by
  simp [PyData.eqv]
  try (by_cases h : i = j <;> simp [h])
theorem eqvAll_ints : ∀ ns ms : List Int, PyData.eqvAll (ns.map PyData.int) (ms.map PyData.int) = decide (ns = ms)
  | [], [] => by simp [PyData.eqvAll]
  | [], _ :: _ => by simp [PyData.eqvAll]
  | _ :: _, [] => by simp [PyData.eqvAll]
  | i :: r, j :: t => by
    simp only [List.map_cons]
    rw [PyData.eqvAll, eqv_int, eqvAll_ints r t]
    by_cases h : i = j <;> by_cases q : r = t <;> simp [h, q]
theorem eqD_of {a b : D} {x y : PyData} (h1 : py s a = some x) (h2 : py s b = some y) (q1 : isPlainD x = true) (q2 : isPlainD y = true) : eqD s a b = some (PyData.eqv x y) := by
  simp [eqD, h1, h2, q1, q2]
theorem plainI (ns : List Int) : isPlainD (.list (ns.map PyData.int)) = true := by simp [isPlainD, PyData.plain, PyData.depth, plain_ints, depth_ints]
theorem plainT (ns : List Int) : isPlainD (.tuple (ns.map PyData.int)) = true := by simp [isPlainD, PyData.plain, PyData.depth, plain_ints, depth_ints]
theorem eq_int (i j : Int) : eqD s (.int i) (.int j) = some (decide (i = j)) := by
  rw [eqD_of (py_int i s 39) (py_int j s 39) rfl rfl, eqv_int]
theorem eq_bl (i j : Bool) : eqD s (.bl i) (.bl j) = some (i == j) := by
  rw [eqD_of (py_bl i s 39) (py_bl j s 39) rfl rfl]
  cases i <;> cases j <;> simp [PyData.eqv]
theorem eq_str (i : Str) : eqD s (.str i) (.str i) = some true := by
  rw [eqD_of (py_str i s 39) (py_str i s 39) rfl rfl]
  simp [PyData.eqv]
theorem eq_lints {m n : Nat} {ns ms : List Int} (h1 : s[m]? = some (.lst (ns.map D.int))) (h2 : s[n]? = some (.lst (ms.map D.int))) : eqD s (.ref m) (.ref n) = some (decide (ns = ms)) := by
  rw [eqD_of (py_lints h1 38) (py_lints h2 38) (plainI _) (plainI _), PyData.eqv, eqvAll_ints]
theorem eq_tints (ns ms : List Int) : eqD s (.tup (ns.map D.int)) (.tup (ms.map D.int)) = some (decide (ns = ms)) := by
  rw [eqD_of (py_tints s 38 ns) (py_tints s 38 ms) (plainT _) (plainT _), PyData.eqv, eqvAll_ints]
theorem any_ints (i : Int) : ∀ ns : List Int, ((ns.map PyData.int).any fun y => PyData.eqv y (.int i)) = decide (i ∈ ns)
  | [] => by simp
  | j :: r => by
    rw [List.map_cons, List.any_cons, any_ints i r, eqv_int]
    by_cases h : j = i
    · simp [h]
    · have : i ≠ j := fun e => h e.symm
      simp [h, this]
theorem in_ints {b : D} {i : Int} {ns : List Int} (h : seqOf s b = some (ns.map D.int)) : inD s (.int i) b = some (decide (i ∈ ns)) := by
  unfold inD py deepN
  rw [py_int, h]
  show (do
    let ys ← (ns.map D.int).mapM (toPy s 40)
    if isPlainD (.int i) && ys.all isPlainD then some (ys.any fun y => PyData.eqv y (.int i)) else none) = _
  rw [mapM_ints s 39]
  show (if isPlainD (.int i) && (ns.map PyData.int).all isPlainD then some ((ns.map PyData.int).any fun y => PyData.eqv y (.int i)) else none) = _
  rw [any_ints, if_pos]
  rw [Bool.and_eq_true]
  refine ⟨rfl, ?_⟩
  rw [List.all_eq_true]
  intro y hy
  obtain ⟨j, _, rfl⟩ := List.mem_map.mp hy
  rfl
theorem ints_of (ns : List Int) : intsOf (ns.map D.int) = some ns := by
  induction ns with
  | nil => rfl
  | cons i r ih =>
    show (intsOf (r.map D.int)).map (i :: ·) = _
    rw [ih]
    rfl
theorem bools_of (bs : List Bool) : boolsOf (bs.map D.bl) = some bs := by
  induction bs with
  | nil => rfl
  | cons i r ih =>
    show (boolsOf (r.map D.bl)).map (i :: ·) = _
    rw [ih]
    rfl
theorem clean_ints (k : Nat) : ∀ ns : List Int, cleanD.cleanDs k (ns.map D.int) = true
  | [] => rfl
  | i :: r => by
    show (cleanD k (.int i) && cleanD.cleanDs k (r.map D.int)) = true
    rw [clean_ints k r]
    rfl
theorem get_app {t : MS} {k : Nat} {o : MO} (h : s[k]? = some o) : (s ++ t)[k]? = some o := by
  rw [List.getElem?_append_left (List.getElem?_eq_some_iff.mp h).1]
  exact h
theorem get_new {o : MO} {t : MS} : (s ++ o :: t)[s.length]? = some o := by
  rw [List.getElem?_append_right (Nat.le_refl _)]
  simp
theorem get_new2 {o p : MO} {t : MS} : (s ++ o :: p :: t)[s.length + 1]? = some p := by
  rw [List.getElem?_append_right (Nat.le_succ _)]
  simp
end
end Mir

/-! the interpreter's steps, one by one -/
namespace Mir
open PySem
def okO {α : Type} (o : Option α) (P : α → Prop) : Prop := match o with
  | some a => P a
  | none => False
theorem okO_some {α : Type} {a : α} {P : α → Prop} : okO (some a) P = P a := rfl
theorem okO_none {α : Type} {P : α → Prop} : okO (none : Option α) P = False := rfl
theorem okO_map {α β : Type} {o : Option α} {f : α → β} {P : β → Prop} : okO (o.map f) P = okO o fun a => P (f a) := by cases o <;> rfl
theorem okO_bind {α β : Type} {o : Option α} {f : α → Option β} {P : β → Prop} : okO (o.bind f) P = okO o fun a => okO (f a) P := by cases o <;> rfl
/-- the items of the list k -/
def getL (s : MS) (k : Nat) : Option (List D) := match s[k]? with
  | some (.lst xs) => some xs
  | _ => none
theorem getL_at {s : MS} {k : Nat} {xs : List D} (h : getL s k = some xs) : s[k]? = some (.lst xs) := by
  unfold getL at h
  split at h
  · rename_i e; cases h; exact e
  · cases h
theorem at_getL {s : MS} {k : Nat} {xs : List D} (h : s[k]? = some (.lst xs)) : getL s k = some xs := by
  unfold getL; rw [h]
theorem getL_lt {s : MS} {k : Nat} {xs : List D} (h : getL s k = some xs) : k < s.length := (List.getElem?_eq_some_iff.mp (getL_at h)).1
theorem getL_app {s t : MS} {k : Nat} {xs : List D} (h : getL s k = some xs) : getL (s ++ t) k = some xs := at_getL (get_app (getL_at h))
theorem getL_new {s t : MS} {xs : List D} : getL (s ++ .lst xs :: t) s.length = some xs := at_getL get_new
theorem getL_new2 {s t : MS} {o : MO} {xs : List D} : getL (s ++ o :: .lst xs :: t) (s.length + 1) = some xs := at_getL get_new2
theorem getL_set {s : MS} {k : Nat} {xs ys : List D} (h : getL s k = some xs) : getL (s.set k (.lst ys)) k = some ys := at_getL (List.getElem?_set_self (getL_lt h))
theorem getL_ne {s : MS} {k j : Nat} {o : MO} (h : j ≠ k) : getL (s.set j o) k = getL s k := by
  unfold getL; rw [List.getElem?_set_ne h]
theorem getL_eq {s t : MS} {k : Nat} (h : s[k]? = t[k]?) : getL s k = getL t k := by unfold getL; rw [h]
/-- what walks the list k, n long -/
def srcL (k n : Nat) : Src := ⟨n, fun j s => okGet s k n j, fun s => okFin s k n⟩
where
  okGet (s : MS) (k n j : Nat) : Option D := match getL s k with
    | some ys => if ys.length = n then ys[j]? else none
    | none => none
  okFin (s : MS) (k n : Nat) : Bool := match getL s k with
    | some ys => decide (ys.length = n)
    | none => false
def srcT (xs : List D) : Src := ⟨xs.length, fun j _ => xs[j]?, fun _ => true⟩
def srcLE (k n : Nat) : Src := ⟨n, fun j s => (srcL.okGet s k n j).map fun d => .tup [.int j, d], fun s => srcL.okFin s k n⟩
def srcTE (xs : List D) : Src := ⟨xs.length, fun j _ => (xs[j]?).map fun d => .tup [.int j, d], fun _ => true⟩
section
variable {P : D → MS → Prop} {s : MS} {k m n : Nat} {xs ys : List D} {i j l : Int} {d v : D}
theorem src_ref : srcSeq s (.ref k) = (getL s k).map fun xs => srcL k xs.length := by
  unfold srcSeq getL
  cases h : s[k]? with
  | none => simp only [h]; rfl
  | some o =>
    cases o with
    | dic _ => simp only [h]; rfl
    | lst xs =>
      simp only [h]
      show some _ = some _
      congr 1
      unfold srcL srcL.okGet srcL.okFin getL
      congr 1
      · funext j s
        cases s[k]? with
        | none => rfl
        | some o => cases o <;> rfl
      · funext s
        cases s[k]? with
        | none => rfl
        | some o => cases o <;> rfl
theorem enm_ref : srcEnm s (.ref k) = (getL s k).map fun xs => srcLE k xs.length := by
  unfold srcEnm getL
  cases h : s[k]? with
  | none => simp only [h]; rfl
  | some o =>
    cases o with
    | dic _ => simp only [h]; rfl
    | lst xs =>
      simp only [h]
      show some _ = some _
      congr 1
      unfold srcLE srcL.okGet srcL.okFin getL
      congr 1
      · funext j s
        cases s[k]? with
        | none => rfl
        | some o =>
          cases o with
          | dic _ => rfl
          | lst ys =>
            show (if _ then _ else none) = Option.map _ (if _ then _ else none)
            split <;> rfl
      · funext s
        cases s[k]? with
        | none => rfl
        | some o => cases o <;> rfl
theorem okO_R {α : Type} {s : MS} {o : Option α} {P : α → MS → Prop} : okR (R.of s o) P = okO o fun a => P a s := by cases o <;> rfl
theorem ok_srcT {P : Src → MS → Prop} : okR (R.of s (srcSeq s (.tup xs))) P = P (srcT xs) s := rfl
theorem ok_srcL {P : Src → MS → Prop} : okR (R.of s (srcSeq s (.ref k))) P = okO (getL s k) fun xs => P (srcL k xs.length) s := by rw [okO_R, src_ref, okO_map]
theorem ok_enmT {P : Src → MS → Prop} : okR (R.of s (srcEnm s (.tup xs))) P = P (srcTE xs) s := rfl
theorem ok_enmL {P : Src → MS → Prop} : okR (R.of s (srcEnm s (.ref k))) P = okO (getL s k) fun xs => P (srcLE k xs.length) s := by rw [okO_R, enm_ref, okO_map]
theorem seq_ref : seqOf s (.ref k) = getL s k := rfl
theorem lst_ref : lstOf s (.ref k) = getL s k := rfl
theorem b_lenT : okR (bltD .len [.tup xs] s) P = P (.int xs.length) s := rfl
theorem b_lenL : okR (bltD .len [.rol xs] s) P = P (.int xs.length) s := rfl
theorem b_lenR : okR (bltD .len [.ref k] s) P = okO (getL s k) fun xs => P (.int xs.length) s := by
  show okR (R.of s ((seqOf s (.ref k)).map _)) P = _
  rw [okO_R, okO_map]; rfl
theorem b_listT : okR (bltD .list [.tup xs] s) P = P (.ref s.length) (s ++ [.lst xs]) := rfl
theorem b_listL : okR (bltD .list [.rol xs] s) P = P (.ref s.length) (s ++ [.lst xs]) := rfl
theorem b_listR : okR (bltD .list [.ref k] s) P = okO (getL s k) fun xs => P (.ref s.length) (s ++ [.lst xs]) := by
  show okR (match seqOf s (.ref k) with
    | some xs => new s (.lst xs)
    | none => .bad) P = _
  rw [seq_ref]
  cases getL s k <;> rfl
theorem b_tupT : okR (bltD .tuple [.tup xs] s) P = P (.tup xs) s := rfl
theorem b_tupR : okR (bltD .tuple [.ref k] s) P = okO (getL s k) fun xs => P (.tup xs) s := by
  show okR (R.of s ((seqOf s (.ref k)).map _)) P = _
  rw [okO_R, okO_map]; rfl
theorem b_all : okR (bltD .all [.ref k] s) P = okO (getL s k) fun xs => okO (boolsOf xs) fun bs => P (.bl (bs.all id)) s := by
  show okR (R.of s (((lstOf s (.ref k)).bind boolsOf).map _)) P = _
  rw [okO_R, okO_map, okO_bind]; rfl
theorem b_any : okR (bltD .any [.ref k] s) P = okO (getL s k) fun xs => okO (boolsOf xs) fun bs => P (.bl (bs.any id)) s := by
  show okR (R.of s (((lstOf s (.ref k)).bind boolsOf).map _)) P = _
  rw [okO_R, okO_map, okO_bind]; rfl
theorem b_int : okR (bltD .int [.int i] s) P = P (.int i) s := rfl
theorem b_min : okR (bltD .min [.int i, .int j] s) P = P (.int (if j < i then j else i)) s := rfl
theorem b_max : okR (bltD .max [.int i, .int j] s) P = P (.int (if j > i then j else i)) s := rfl
theorem b_repr : okR (bltD .repr [d] s) P = okO (py s d) fun p => if isShow p then P (.str p.shown) s else False := by
  show okR (match py s d with
    | some p => if isShow p then .ok (.str p.shown) s else .bad
    | none => .bad) P = _
  cases py s d with
  | none => rfl
  | some p =>
    show okR (if isShow p then .ok (.str p.shown) s else .bad) P = if isShow p then P (.str p.shown) s else False
    split <;> rfl
theorem b_ssetR : okR (bltD .sset [.ref k] s) P = okO (getL s k) fun xs => okO (intsOf xs) fun ns => if ns.length < 64 then P (.ref s.length) (s ++ [.lst ((srt ns).map .int)]) else False := by
  show okR (match (seqOf s (.ref k)).bind intsOf with
    | some ns => if ns.length < 64 then new s (.lst ((srt ns).map .int)) else .bad
    | none => .bad) P = _
  rw [seq_ref]
  cases getL s k with
  | none => rfl
  | some xs =>
    show okR (match intsOf xs with
      | some ns => if ns.length < 64 then new s (.lst ((srt ns).map .int)) else .bad
      | none => .bad) P = okO (intsOf xs) _
    cases intsOf xs with
    | none => rfl
    | some ns =>
      show okR (if ns.length < 64 then new s (.lst ((srt ns).map .int)) else .bad) P = if ns.length < 64 then _ else False
      split <;> rfl
theorem b_lsetT : okR (bltD .lset [.tup xs] s) P = okO (intsOf xs) fun ns => if ns.length < 64 then P (.int (srt ns).length) s else False := by
  show okR (match intsOf xs with
      | some ns => if ns.length < 64 then R.ok (D.int (srt ns).length) s else .bad
      | none => .bad) P = okO (intsOf xs) _
  cases intsOf xs with
  | none => rfl
  | some ns =>
    show okR (if ns.length < 64 then R.ok (D.int (srt ns).length) s else .bad) P = if ns.length < 64 then _ else False
    split <;> rfl
theorem b_sortR : okR (bltD .sortedE [.ref k] s) P = okO (getL s k) fun xs => okO (intsOf xs) fun ns => if ns.length ≤ 1000 then P (.ref s.length) (s ++ [.lst ((isort ns).map .int)]) else False := by
  show okR (match (lstOf s (.ref k)).bind intsOf with
    | some ns => if ns.length ≤ 1000 then new s (.lst ((isort ns).map .int)) else .bad
    | none => .bad) P = _
  rw [lst_ref]
  cases getL s k with
  | none => rfl
  | some xs =>
    show okR (match intsOf xs with
      | some ns => if ns.length ≤ 1000 then new s (.lst ((isort ns).map .int)) else .bad
      | none => .bad) P = okO (intsOf xs) _
    cases intsOf xs with
    | none => rfl
    | some ns =>
      show okR (if ns.length ≤ 1000 then new s (.lst ((isort ns).map .int)) else .bad) P = if ns.length ≤ 1000 then _ else False
      split <;> rfl
theorem b_rangeL1 : okR (bltD .rangeL [.int i] s) P = if inR i && decide (i ≤ 1000000) then P (.ref s.length) (s ++ [.lst (rgD 0 i)]) else False := by
  show okR (if inR i && decide (i ≤ 1000000) then new s (.lst (rgD 0 i)) else .bad) P = _
  split <;> rfl
theorem x_ixT : okR (getIx (.tup xs) (.int i) s) P = okO (L2.atI xs i) fun d => P d s := by
  show okR (R.of s _) P = _
  rw [okO_R]; rfl
theorem x_ixR : okR (getIx (.ref k) (.int i) s) P = okO (getL s k) fun xs => okO (L2.atI xs i) fun d => P d s := by
  show okR (R.of s ((seqOf s (.ref k)).bind _)) P = _
  rw [okO_R, okO_bind]; rfl
theorem x_ixL : okR (getIx (.rol xs) (.int i) s) P = okO (L2.atI xs i) fun d => P d s := by
  show okR (R.of s _) P = _
  rw [okO_R]; rfl
theorem x_set {P : Unit → MS → Prop} : okR (setIx (.ref k) (.int i) v s) P = okO (getL s k) fun xs => okO (L2.ixN xs.length i) fun j => P () (s.set k (.lst (xs.set j v))) := by
  unfold setIx getL
  cases hk : s[k]? with
  | none => simp only [hk]; rfl
  | some o =>
    cases o with
    | dic _ => simp only [hk]; rfl
    | lst xs =>
      simp only [hk]
      show okR (match L2.ixN xs.length i with
        | some j => R.ok () (s.set k (.lst (xs.set j v)))
        | none => .bad) P = okO (L2.ixN xs.length i) _
      cases L2.ixN xs.length i <;> rfl
theorem m_append : okR (mthD .append (.ref k) [d] s) P = okO (getL s k) fun xs => if xs.length < 1000000 then P .non (s.set k (.lst (xs ++ [d]))) else False := by
  unfold mthD getL
  cases hk : s[k]? with
  | none => simp only [hk]; rfl
  | some o =>
    cases o with
    | dic _ => simp only [hk]; rfl
    | lst xs =>
      simp only [hk]
      show okR (if xs.length < 1000000 then R.ok .non (s.set k (.lst (xs ++ [d]))) else .bad) P = if xs.length < 1000000 then _ else False
      split <;> rfl
theorem m_extend : okR (mthD .extend (.ref k) [.ref m] s) P = okO (getL s k) fun xs => okO (getL s m) fun ys => if xs.length + ys.length ≤ 1000000 then P .non (s.set k (.lst (xs ++ ys))) else False := by
  unfold mthD
  rw [show getL s k = (match s[k]? with
    | some (.lst xs) => some xs
    | _ => none) from rfl]
  cases hk : s[k]? with
  | none => simp only [hk]; rfl
  | some o =>
    cases o with
    | dic _ => simp only [hk]; rfl
    | lst xs =>
      simp only [hk]
      show okR (match lstOf s (.ref m) with
        | some ys => if xs.length + ys.length ≤ 1000000 then R.ok .non (s.set k (.lst (xs ++ ys))) else .bad
        | none => .bad) P = okO (getL s m) _
      rw [lst_ref]
      cases getL s m with
      | none => rfl
      | some ys =>
        show okR (if xs.length + ys.length ≤ 1000000 then R.ok .non (s.set k (.lst (xs ++ ys))) else .bad) P = if xs.length + ys.length ≤ 1000000 then _ else False
        split <;> rfl
theorem m_popAt : okR (mthD .pop (.ref k) [.int i] s) P = okO (getL s k) fun xs => okO (L2.ixN xs.length i) fun j => okO xs[j]? fun d => P d (s.set k (.lst (xs.eraseIdx j))) := by
  unfold mthD getL
  cases hk : s[k]? with
  | none => simp only [hk]; rfl
  | some o =>
    cases o with
    | dic _ => simp only [hk]; rfl
    | lst xs =>
      simp only [hk]
      show okR (match L2.ixN xs.length i with
        | some j => match xs[j]? with
          | some d => R.ok d (s.set k (.lst (xs.eraseIdx j)))
          | none => .bad
        | none => .bad) P = okO (L2.ixN xs.length i) _
      cases L2.ixN xs.length i with
      | none => rfl
      | some j =>
        show okR (match xs[j]? with
          | some d => R.ok d (s.set k (.lst (xs.eraseIdx j)))
          | none => .bad) P = okO xs[j]? _
        cases xs[j]? <;> rfl
theorem c_eq : okR (R.of s ((cmpD .Eq d v s).map D.bl)) P = okO (eqD s d v) fun c => P (.bl c) s := by rw [okO_R, okO_map]; rfl
theorem c_ne : okR (R.of s ((cmpD .NotEq d v s).map D.bl)) P = okO (eqD s d v) fun c => P (.bl !c) s := by
  rw [okO_R, okO_map]
  show okO ((eqD s d v).map _) _ = _
  rw [okO_map]
theorem c_in : okR (R.of s ((cmpD .In d v s).map D.bl)) P = okO (inD s d v) fun c => P (.bl c) s := by rw [okO_R, okO_map]; rfl
theorem c_ni : okR (R.of s ((cmpD .NotIn d v s).map D.bl)) P = okO (inD s d v) fun c => P (.bl !c) s := by
  rw [okO_R, okO_map]
  show okO ((inD s d v).map _) _ = _
  rw [okO_map]
theorem c_lt : okR (R.of s ((cmpD .Lt (.int i) (.int j) s).map D.bl)) P = P (.bl (decide (i < j))) s := rfl
theorem c_le : okR (R.of s ((cmpD .LtE (.int i) (.int j) s).map D.bl)) P = P (.bl (decide (i ≤ j))) s := rfl
theorem c_gt : okR (R.of s ((cmpD .Gt (.int i) (.int j) s).map D.bl)) P = P (.bl (decide (j < i))) s := rfl
theorem c_ge : okR (R.of s ((cmpD .GtE (.int i) (.int j) s).map D.bl)) P = P (.bl (decide (j ≤ i))) s := rfl
theorem t_bl {P : Bool → MS → Prop} {b : Bool} : okR (R.of s (truth s (.bl b))) P = P b s := rfl
theorem t_ref {P : Bool → MS → Prop} : okR (R.of s (truth s (.ref k))) P = okO (getL s k) fun xs => P (!xs.isEmpty) s := by
  rw [okO_R]
  show okO (match s[k]? with
    | some (.lst xs) => some (!xs.isEmpty)
    | _ => none) _ = _
  unfold getL
  cases s[k]? with
  | none => rfl
  | some o => cases o <;> rfl
theorem o_add : okR (binD .Add (.int i) (.int j) s) P = P (.int (i + j)) s := rfl
theorem o_sub : okR (binD .Sub (.int i) (.int j) s) P = P (.int (i - j)) s := rfl
theorem o_mul : okR (binD .Mult (.int i) (.int j) s) P = if smallI i || smallI j then P (.int (i * j)) s else False := by
  show okR (if smallI i || smallI j then R.ok (.int (i * j)) s else .bad) P = _
  split <;> rfl
theorem o_mod : okR (binD .Mod (.int i) (.int j) s) P = if 0 < j then P (.int (i % j)) s else False := by
  show okR (if 0 < j then R.ok (.int (i % j)) s else .bad) P = _
  split <;> rfl
theorem o_div : okR (binD .FloorDiv (.int i) (.int j) s) P = if 0 < j ∧ j < 1073741824 then P (.int (i / j)) s else False := by
  show okR (if 0 < j ∧ j < 1073741824 then R.ok (.int (i / j)) s else .bad) P = _
  split <;> rfl
theorem o_pow : okR (binD .Pow (.int i) (.int j) s) P = if 0 ≤ j ∧ j ≤ 1000 ∧ i.natAbs < 2 ^ 64 then P (.int (i ^ j.toNat)) s else False := by
  show okR (if 0 ≤ j ∧ j ≤ 1000 ∧ i.natAbs < 2 ^ 64 then R.ok (.int (i ^ j.toNat)) s else .bad) P = _
  split <;> rfl
theorem o_cat : okR (binD .Add (.ref m) (.ref n) s) P = okO (getL s m) fun xs => okO (getL s n) fun ys => if xs.length + ys.length ≤ 1000000 then P (.ref s.length) (s ++ [.lst (xs ++ ys)]) else False := by
  show okR (match lstOf s (.ref m), lstOf s (.ref n) with
    | some xs, some ys => if xs.length + ys.length ≤ 1000000 then new s (.lst (xs ++ ys)) else .bad
    | _, _ => .bad) P = _
  rw [lst_ref, lst_ref]
  cases getL s m with
  | none => rfl
  | some xs =>
    cases getL s n with
    | none => rfl
    | some ys =>
      show okR (if xs.length + ys.length ≤ 1000000 then new s (.lst (xs ++ ys)) else .bad) P = if xs.length + ys.length ≤ 1000000 then _ else False
      split <;> rfl
theorem n_new {o : MO} : okR (new s o) P = P (.ref s.length) (s ++ [o]) := rfl
theorem i_tup {T : Ty} : okR (R.of s ((isaD s (.tup xs) T).map D.bl)) P = P (.bl (T == .tuple)) s := rfl
theorem i_int {T : Ty} : okR (R.of s ((isaD s (.int i) T).map D.bl)) P = P (.bl (T == .int)) s := rfl
theorem i_non {T : Ty} : okR (R.of s ((isaD s .non T).map D.bl)) P = P (.bl false) s := rfl
theorem s_lT0 {ph : Bool} {h : D} : okR (getSl false ph (.tup xs) v h s) P = okO (partD ph h) fun u => P (.tup (cutD xs none u)) s := by
  unfold getSl
  show okR (match (some none : Option (Option Int)), partD ph h with
    | some l, some h => _
    | _, _ => _) P = _
  cases partD ph h <;> rfl
theorem s_lL0 {ph : Bool} {h : D} : okR (getSl false ph (.rol xs) v h s) P = okO (partD ph h) fun u => P (.ref s.length) (s ++ [.lst (cutD xs none u)]) := by
  unfold getSl
  show okR (match (some none : Option (Option Int)), partD ph h with
    | some l, some h => _
    | _, _ => _) P = _
  cases partD ph h <;> rfl
theorem at_0 {a : D} {l : List D} : L2.atI (a :: l) 0 = some a := L2.atI_nat (j := 0) rfl
theorem at_1 {a b : D} {l : List D} : L2.atI (a :: b :: l) 1 = some b := L2.atI_nat (j := 1) rfl
theorem at_2 {a b c : D} {l : List D} : L2.atI (a :: b :: c :: l) 2 = some c := L2.atI_nat (j := 2) rfl
theorem okS_cons {g : G} {c : CS} {r : List CS} {e : Mir.Env} {W : Want} : okS (exSs g (c :: r) e s) W = okS (exS g c e s) { W with nx := fun e s => okS (exSs g r e s) W } := by
  rw [exSs, okS_seq]
theorem okS_nil {g : G} {e : Mir.Env} {W : Want} : okS (exSs g [] e s) W = W.nx e s := by rw [exSs]; rfl
theorem truth_bl {b : Bool} : truth s (.bl b) = some b := rfl
theorem okR_and {g : G} {e : Mir.Env} {a b : CE} : okR (evE g e (.and a b) s) P = okR (evE g e a s) fun x s => okO (truth s x) fun t => if t then okR (evE g e b s) P else P x s := by
  rw [evE, okR_bind]
  congr 1
  funext x s
  cases truth s x with
  | none => rfl
  | some t => cases t <;> rfl
theorem okR_or {g : G} {e : Mir.Env} {a b : CE} : okR (evE g e (.or a b) s) P = okR (evE g e a s) fun x s => okO (truth s x) fun t => if t then P x s else okR (evE g e b s) P := by
  rw [evE, okR_bind]
  congr 1
  funext x s
  cases truth s x with
  | none => rfl
  | some t => cases t <;> rfl
theorem okR_chn {g : G} {e : Mir.Env} {a b c : CE} {o q : CmpOp} : okR (evE g e (.chn o q a b c) s) P = okR (evE g e a s) fun x s => okR (evE g e b s) fun y s => okO (cmpD o x y s) fun t => if t then okR (evE g e c s) fun z s => okR (R.of s ((cmpD q y z s).map D.bl)) P else P (.bl false) s := by
  rw [evE, okR_bind]
  congr 1
  funext x s
  rw [okR_bind]
  congr 1
  funext y s
  cases cmpD o x y s with
  | none => rfl
  | some t =>
    cases t with
    | true =>
      rw [okO_some, if_pos rfl, ← okR_bind]
    | false => rfl
theorem cmp_le : cmpD .LtE (.int i) (.int j) s = some (decide (i ≤ j)) := rfl
theorem cmp_lt : cmpD .Lt (.int i) (.int j) s = some (decide (i < j)) := rfl
theorem gc_app {tbl : Tbl} {fuel k : Nat} {t : MS} : ((lev tbl fuel k).same s (List.take s.length (s ++ t)) = true) = True := by
  rw [lev_sameC, same_take]; exact eq_true rfl
theorem gc_self {tbl : Tbl} {fuel k : Nat} : ((lev tbl fuel k).same s (List.take s.length s) = true) = True := by
  rw [lev_sameC, same_take0]; exact eq_true rfl
theorem eq_LL {m n : Nat} {ns ms : List Int} (h1 : getL s m = some (ns.map D.int)) (h2 : getL s n = some (ms.map D.int)) : eqD s (.ref m) (.ref n) = some (decide (ns = ms)) := eq_lints (getL_at h1) (getL_at h2)
theorem in_R {i : Int} {m : Nat} {ns : List Int} (h : getL s m = some (ns.map D.int)) : inD s (.int i) (.ref m) = some (decide (i ∈ ns)) := in_ints h
theorem in_T {i : Int} {ns : List Int} : inD s (.int i) (.tup (ns.map D.int)) = some (decide (i ∈ ns)) := in_ints rfl
theorem eq_L0 {m n : Nat} {ns : List Int} (h1 : getL s m = some (ns.map D.int)) (h2 : getL s n = some []) : eqD s (.ref m) (.ref n) = some (decide (ns = [])) := eq_LL (ms := []) h1 h2
section
variable {g : G} {e : Mir.Env} {a b c : CE} {cs : List CE} {o : Operator} {q : CmpOp} {W : Want} {st : CS} {sa sb : List CS} {t : Tgt} {ci : CI} {ow : List Nat} {x : Str} {f : Blt} {T : Ty} {mt : Mth}
theorem e_var {n : Nat} : okR (evE g e (.var n) s) P = okO (e[n]?.join) fun d => P d s := by
  rw [evE]
  cases e[n]? with
  | none => rfl
  | some d => cases d <;> rfl
theorem e_cst : okR (evE g e (.cst d) s) P = P d s := rfl
theorem e_tup : okR (evE g e (.tup cs) s) P = okR (evEs g e cs s) fun ds s => P (.tup ds) s := by rw [evE, okR_bind]; rfl
theorem e_lst : okR (evE g e (.lst cs) s) P = okR (evEs g e cs s) fun ds s => P (.ref s.length) (s ++ [.lst ds]) := by rw [evE, okR_bind]; rfl
theorem e_bin : okR (evE g e (.bin o a b) s) P = okR (evE g e a s) fun x s => okR (evE g e b s) fun y s => okR (binD o x y s) P := by rw [evE, okR_bind]; congr 1; funext x s; rw [okR_bind]
theorem e_neg : okR (evE g e (.neg a) s) P = okR (evE g e a s) fun x s => okR (match x with
    | .int i => R.ok (.int (-i)) s
    | _ => .bad) P := by rw [evE, okR_bind] <;> rfl
theorem e_not : okR (evE g e (.not a) s) P = okR (evE g e a s) fun x s => okO (truth s x) fun b => P (.bl (!b)) s := by
  rw [evE, okR_bind, okR_tst]
  congr 1; funext x s
  rw [okO_R]; rfl
theorem e_cmp : okR (evE g e (.cmp q a b) s) P = okR (evE g e a s) fun x s => okR (evE g e b s) fun y s => okR (R.of s ((cmpD q x y s).map .bl)) P := by rw [evE, okR_bind]; congr 1; funext x s; rw [okR_bind]
theorem e_isN : okR (evE g e (.isN a) s) P = okR (evE g e a s) fun x s => P (.bl (isNon x)) s := by rw [evE, okR_bind]; rfl
theorem e_ntN : okR (evE g e (.ntN a) s) P = okR (evE g e a s) fun x s => P (.bl (!isNon x)) s := by rw [evE, okR_bind]; rfl
theorem e_ite : okR (evE g e (.ite c a b) s) P = okR (evE g e c s) fun x s1 => okO (truth s1 x) fun t => if t then okR (evE g e a (if g.same s (s1.take s.length) then s else s1)) P else okR (evE g e b (if g.same s (s1.take s.length) then s else s1)) P := by
  rw [evE, okR_bind, okR_gcB, okR_tst]
  congr 1; funext x s1
  rw [okO_R]
  congr 1; funext t
  cases t <;> rfl
theorem e_call : okR (evE g e (.call x cs) s) P = okR (evEs g e cs s) fun ds s => okR (g.fn x ds s) P := by rw [evE, okR_bind]
theorem e_blt : okR (evE g e (.blt f cs) s) P = okR (evEs g e cs s) fun ds s => okR (bltD f ds s) P := by rw [evE, okR_bind]
theorem e_isa : okR (evE g e (.isa a T) s) P = okR (evE g e a s) fun x s => okR (R.of s ((isaD s x T).map .bl)) P := by rw [evE, okR_bind]
theorem e_mth : okR (evE g e (.mth mt a cs) s) P = okR (evE g e a s) fun x s => okR (evEs g e cs s) fun ds s => okR (mthD mt x ds s) P := by rw [evE, okR_bind]; congr 1; funext x s; rw [okR_bind]
theorem e_ix : okR (evE g e (.ix a b) s) P = okR (evE g e a s) fun x s => okR (evE g e b s) fun y s => okR (getIx x y s) P := by rw [evE, okR_bind]; congr 1; funext x s; rw [okR_bind]
theorem e_sl {pl ph : Bool} : okR (evE g e (.sl pl ph a b c) s) P = okR (evE g e a s) fun x s => okR (evE g e b s) fun l s => okR (evE g e c s) fun h s => okR (getSl pl ph x l h s) P := by
  rw [evE, okR_bind]; congr 1; funext x s; rw [okR_bind]; congr 1; funext y s; rw [okR_bind]
/-- one turn of a comprehension -/
def lcF (g : G) (e : Mir.Env) (elt : CE) (ow : List Nat) (t : Tgt) (ifs : List CE) (d : D) (s : MS) : R (Option D) := match asgT 9 t d (wipeE e ow) with
      | none => .bad
      | some e2 => (evTs g e2 ifs s).bind fun b s => if b then (evE g e2 elt s).bind fun y s => .ok (some y) s else .ok none s
theorem e_lc : okR (evE g e (.lc a ow t ci cs) s) P = okR (evI g e ci s) fun src s => okR (lcGo src (lcF g e a ow t cs) src.n 0 [] s) fun ys s => P (.ref s.length) (s ++ [.lst ys]) := by
  rw [evE, okR_bind]; congr 1; funext x s; rw [okR_bind]; rfl
theorem es_nil {P : List D → MS → Prop} : okR (evEs g e [] s) P = P [] s := rfl
theorem es_cons {P : List D → MS → Prop} : okR (evEs g e (c :: cs) s) P = okR (evE g e c s) fun d s => okR (evEs g e cs s) fun ds s => P (d :: ds) s := by
  rw [evEs, okR_bind]; congr 1; funext x s; rw [okR_bind]; rfl
theorem ts_nil' {P : Bool → MS → Prop} : okR (evTs g e [] s) P = P true s := rfl
theorem ts_one' {P : Bool → MS → Prop} : okR (evTs g e [c] s) P = okR (evE g e c s) fun x s1 => okO (truth s1 x) fun t => P t (if g.same s (s1.take s.length) then s else s1) := by
  rw [evTs, okR_bind, okR_gcB, okR_tst]
  congr 1; funext x s1
  rw [okO_R]
  congr 1; funext t
  cases t <;> rfl
theorem lc_turn {P : Option D → MS → Prop} {ifs : List CE} : okR (lcF g e c ow t ifs d s) P = okO (asgT 9 t d (wipeE e ow)) fun e2 => okR (evTs g e2 ifs s) fun b s => if b then okR (evE g e2 c s) fun y s => P (some y) s else P none s := by
  unfold lcF
  cases asgT 9 t d (wipeE e ow) with
  | none => rfl
  | some e2 =>
    show okR ((evTs g e2 ifs s).bind _) P = okR (evTs g e2 ifs s) _
    rw [okR_bind]; congr 1; funext b s
    cases b with
    | true => show okR ((evE g e2 c s).bind _) P = _; rw [okR_bind, if_pos rfl]; rfl
    | false => rfl
variable {Q : Src → MS → Prop}
theorem it_seq : okR (evI g e (.seq a) s) Q = okR (evE g e a s) fun d s => okR (R.of s (srcSeq s d)) Q := by rw [evI, okR_bind]
theorem it_enm : okR (evI g e (.enm a) s) Q = okR (evE g e a s) fun d s => okR (R.of s (srcEnm s d)) Q := by rw [evI, okR_bind]
theorem it_zip : okR (evI g e (.zip a b) s) Q = okR (evE g e a s) fun x s => okR (evE g e b s) fun y s => okR (R.of s (srcZip x y)) Q := by rw [evI, okR_bind]; congr 1; funext x s; rw [okR_bind]
def rngS (ds : List D) (s : MS) : R Src := match ds with
    | [.int b] => if inR b then .ok (srcRng 0 b) s else .bad
    | [.int a, .int b] => if inR a && inR b then .ok (srcRng a b) s else .bad
    | _ => .bad
theorem it_rng : okR (evI g e (.rng cs) s) Q = okR (evEs g e cs s) fun ds s => okR (rngS ds s) Q := by rw [evI, okR_bind]; rfl
theorem rng_1 : okR (rngS [.int i] s) Q = if inR i then Q (srcRng 0 i) s else False := by
  show okR (if inR i then R.ok (srcRng 0 i) s else .bad) Q = _
  split <;> rfl
theorem rng_2 : okR (rngS [.int i, .int j] s) Q = if inR i && inR j then Q (srcRng i j) s else False := by
  show okR (if inR i && inR j then R.ok (srcRng i j) s else .bad) Q = _
  split <;> rfl
/-! statements -/
def okT (o : Option Mir.Env) (s : MS) (W : Want) : Prop := match o with
  | some e => W.nx e s
  | none => False
theorem okT_some : okT (some e) s W = W.nx e s := rfl
theorem x_asg : okS (exS g (.asg t c) e s) W = okR (evE g e c s) fun d s => okT (asgT 9 t d e) s W := by
  rw [exS, okS_st]; congr 1; funext d s
  show okS (asgR t d e fun e => .nx e s) W = _
  unfold asgR okT
  cases asgT 9 t d e <;> rfl
theorem x_par {m n : Nat} : okS (exS g (.par m n a b) e s) W = okR (evE g e a s) fun x s => okR (evE g e b s) fun y s => if m < e.length ∧ n < e.length then W.nx ((e.set m (some x)).set n (some y)) s else False := by
  rw [exS, okS_st]; congr 1; funext x s; rw [okS_st]; congr 1; funext y s
  show okS (if _ then _ else _) W = _
  split <;> rfl
theorem x_sub : okS (exS g (.set a b c) e s) W = okR (evE g e c s) fun v s => okR (evE g e a s) fun o s => okR (evE g e b s) fun i s => okR (setIx o i v s) fun _ s => W.nx e s := by
  rw [exS, okS_st]; congr 1; funext x s; rw [okS_st]; congr 1; funext y s; rw [okS_st]; congr 1; funext z s; rw [okS_st]; rfl
theorem x_expr : okS (exS g (.expr c) e s) W = okR (evE g e c s) fun _ s => W.nx e s := by rw [exS, okS_st]; rfl
theorem x_ret : okS (exS g (.ret c) e s) W = okR (evE g e c s) W.rt := by rw [exS, okS_st]; rfl
theorem x_if : okS (exS g (.if_ c sa sb) e s) W = okR (evE g e c s) fun x s1 => okO (truth s1 x) fun t => if t then okS (exSs g sa e (if g.same s (s1.take s.length) then s else s1)) W else okS (exSs g sb e (if g.same s (s1.take s.length) then s else s1)) W := by
  rw [exS, okS_st, okR_gcB, okR_tst]
  congr 1; funext x s1
  rw [okO_R]
  congr 1; funext t
  cases t <;> rfl
/-- one turn of a loop -/
def forF (g : G) (t : Tgt) (b : List CS) (d : D) (e : Mir.Env) (s : MS) : Rs := asgR t d e fun e => exSs g b e s
theorem x_for : okS (exS g (.for_ t ci sa) e s) W = okR (evI g e ci s) fun src s => okS (forGo src (forF g t sa) src.n 0 e s) W := by rw [exS, okS_st]; rfl
def okT2 (o : Option Mir.Env) (P : Mir.Env → Prop) : Prop := okO o P
theorem for_turn : okS (forF g t sa d e s) W = okO (asgT 9 t d e) fun e => okS (exSs g sa e s) W := by
  unfold forF asgR
  cases asgT 9 t d e <;> rfl
theorem x_while : okS (exS g (.while_ c sa) e s) W = okS (whGo (fun e s => gcB g s (tstR (evE g e c s))) (fun e s => exSs g sa e s) g.fuel e s) W := rfl
theorem wh_test {P : Bool → MS → Prop} : okR (gcB g s (tstR (evE g e c s))) P = okR (evE g e c s) fun x s1 => okO (truth s1 x) fun t => P t (if g.same s (s1.take s.length) then s else s1) := by
  rw [okR_gcB, okR_tst]
  congr 1; funext x s1
  rw [okO_R]
theorem x_pass : okS (exS g .pass e s) W = W.nx e s := rfl
theorem x_brk : okS (exS g .brk e s) W = W.bk e s := rfl
theorem x_cnt : okS (exS g .cnt e s) W = W.ct e s := rfl
theorem asg_nm {n k : Nat} : asgT (n + 1) (.nm k) d e = if k < e.length then some (e.set k (some d)) else none := by rw [asgT]
theorem asg_tup {n : Nat} {ts : List Tgt} {ds : List D} : asgT (n + 1) (.tup ts) (.tup ds) e = asgT.asgTs n ts ds e := by rw [asgT]
theorem asg_cons {n : Nat} {ts : List Tgt} {ds : List D} : asgT.asgTs (n + 1) (t :: ts) (d :: ds) e = (asgT n t d e).bind (asgT.asgTs n ts ds) := by rw [asgT.asgTs]
theorem asg_nil {n : Nat} : asgT.asgTs (n + 1) [] [] e = some e := by rw [asgT.asgTs]
end
end
theorem small_of {i : Int} (h0 : -(2 ^ 64) < i) (h1 : i < 2 ^ 64) : smallI i = true := by
  unfold smallI
  rw [Bool.and_eq_true, decide_eq_true_eq, decide_eq_true_eq]
  exact ⟨h0, h1⟩
theorem small_61 {st : Int} (h0 : 0 ≤ st) (h1 : st < 2305843009213693951) : smallI st = true :=
  small_of (Int.lt_of_lt_of_le (by decide) h0) (Int.lt_trans h1 (by decide))
theorem small_n {n : Int} (h0 : 0 ≤ n) (h1 : n ≤ 1000000) : smallI n = true := small_of (Int.lt_of_lt_of_le (by decide) h0) (Int.lt_of_le_of_lt h1 (by decide))
theorem small_l {i j : Int} (h : smallI i = true) : (smallI i || smallI j) = true := by rw [h]; rfl
theorem small_r {i j : Int} (h : smallI j = true) : (smallI i || smallI j) = true := by rw [h, Bool.or_true]
/-! values of plain int expressions -/
section
variable {g : G} {e : Mir.Env} {s : MS} {a b : CE} {x y : Int}
theorem v_var {i : Nat} {d : D} (h : e[i]? = some (some d)) : evE g e (.var i) s = .ok d s := by rw [evE]; simp only [h]
theorem v_cst {d : D} : evE g e (.cst d) s = .ok d s := rfl
theorem v_add (h1 : evE g e a s = .ok (.int x) s) (h2 : evE g e b s = .ok (.int y) s) : evE g e (.bin .Add a b) s = .ok (.int (x + y)) s := by rw [evE, h1]; show (evE g e b s).bind _ = _; rw [h2]; rfl
theorem v_sub (h1 : evE g e a s = .ok (.int x) s) (h2 : evE g e b s = .ok (.int y) s) : evE g e (.bin .Sub a b) s = .ok (.int (x - y)) s := by rw [evE, h1]; show (evE g e b s).bind _ = _; rw [h2]; rfl
theorem v_mul (h1 : evE g e a s = .ok (.int x) s) (h2 : evE g e b s = .ok (.int y) s) (h : (smallI x || smallI y) = true) : evE g e (.bin .Mult a b) s = .ok (.int (x * y)) s := by
  rw [evE, h1]; show (evE g e b s).bind _ = _; rw [h2]
  show (if smallI x || smallI y then R.ok (D.int (x * y)) s else .bad) = _
  rw [if_pos h]
theorem v_mod (h1 : evE g e a s = .ok (.int x) s) (h2 : evE g e b s = .ok (.int y) s) (h : 0 < y) : evE g e (.bin .Mod a b) s = .ok (.int (x % y)) s := by
  rw [evE, h1]; show (evE g e b s).bind _ = _; rw [h2]
  show (if 0 < y then R.ok (D.int (x % y)) s else .bad) = _
  rw [if_pos h]
theorem v_int (h1 : evE g e a s = .ok (.int x) s) : evE g e (.blt .int [a]) s = .ok (.int x) s := by
  rw [evE, evEs, h1]; rfl
end
end Mir

namespace K03
open PySem PySem.Spec PyProof.Rows L2 Mir
def topS (i : Nat) : Stmt := PySem.Challenge.pw_viewstrike_k03_closures_and_chains.main.body.getD i (.Pass ⟨0, 0, 0, 0⟩)
abbrev s__law_pen : Stmt := topS 8
abbrev N__law_pen : List Str := ["script"]
abbrev P__law_pen : List Str := ["script"]
theorem sc__law_pen : FnScope N__law_pen P__law_pen (defScope s__law_pen) := ⟨rfl, rfl, rfl, by decide +kernel, rfl, by decide +kernel, by decide +kernel⟩
def c__law_pen : List CS := [.ret (.lst [.blt .list [.sl false true (.var 0) (.cst .non) (.cst (.int 63))], .cst (.int 0), .cst (.int 0)])]
abbrev s__law_variables : Stmt := topS 13
abbrev N__law_variables : List Str := ["query", "found", "atom"]
abbrev P__law_variables : List Str := ["query"]
theorem sc__law_variables : FnScope N__law_variables P__law_variables (defScope s__law_variables) := ⟨rfl, rfl, rfl, by decide +kernel, rfl, by decide +kernel, by decide +kernel⟩
def c__law_variables : List CS := [.asg (.nm 1) (.lst []), .for_ (.nm 2) (.seq (.ix (.var 0) (.cst (.int 1)))) [.expr (.mth .extend (.var 1) [.blt .list [.var 2]])], .ret (.blt .sset [.var 1])]
abbrev s__law_fresh : Stmt := topS 9
abbrev N__law_fresh : List Str := ["pen", "seat", "given", "cell", "prime", "state", "found", "lap"]
abbrev P__law_fresh : List Str := ["pen"]
theorem sc__law_fresh : FnScope N__law_fresh P__law_fresh (defScope s__law_fresh) := ⟨rfl, rfl, rfl, by decide +kernel, rfl, by decide +kernel, by decide +kernel⟩
def c__law_fresh : List CS := [.par 1 2 (.ix (.var 0) (.cst (.int 1))) (.ix (.var 0) (.cst (.int 0))), .set (.var 0) (.cst (.int 1)) (.bin .Add (.var 1) (.cst (.int 1))), .asg (.nm 3) (.ite (.cmp .NotEq (.var 2) (.lst [])) (.ix (.var 2) (.bin .Mod (.blt .int [.var 1]) (.blt .len [.var 2]))) (.cst (.int 0))), .if_ (.and (.cmp .Lt (.var 1) (.blt .len [.var 2])) (.cmp .GtE (.var 3) (.bin .Pow (.cst (.int 10)) (.cst (.int 18))))) [.ret (.bin .Sub (.var 3) (.bin .Pow (.cst (.int 10)) (.cst (.int 18))))] [], .asg (.nm 4) (.cst (.int 2305843009213693951)), .asg (.nm 5) (.bin .Mod (.blt .int [.bin .Add (.bin .Add (.bin .Mult (.var 3) (.cst (.int 48271))) (.bin .Mult (.cst (.int 60013)) (.var 1))) (.cst (.int 31))]) (.var 4)), .asg (.nm 6) (.var 5), .for_ (.nm 7) (.rng [.cst (.int 6)]) [.asg (.nm 5) (.bin .Mod (.blt .int [.bin .Add (.bin .Add (.bin .Mult (.var 5) (.var 5)) (.bin .Mult (.bin .Mult (.cst (.int 70139)) (.bin .Add (.var 7) (.cst (.int 5)))) (.bin .Add (.var 1) (.cst (.int 1))))) (.var 3)]) (.var 4)), .asg (.nm 6) (.bin .Add (.bin .Mult (.var 6) (.var 4)) (.var 5))], .ret (.var 6)]
abbrev s__law_draw : Stmt := topS 10
abbrev N__law_draw : List Str := ["pen", "bound", "digit"]
abbrev P__law_draw : List Str := ["pen", "bound"]
theorem sc__law_draw : FnScope N__law_draw P__law_draw (defScope s__law_draw) := ⟨rfl, rfl, rfl, by decide +kernel, rfl, by decide +kernel, by decide +kernel⟩
def c__law_draw : List CS := [.if_ (.cmp .Lt (.ix (.var 0) (.cst (.int 2))) (.var 1)) [.set (.var 0) (.cst (.int 2)) (.call "_law_fresh" [.var 0])] [], .asg (.nm 2) (.bin .Mod (.blt .int [.ix (.var 0) (.cst (.int 2))]) (.var 1)), .set (.var 0) (.cst (.int 2)) (.bin .FloorDiv (.blt .int [.ix (.var 0) (.cst (.int 2))]) (.var 1)), .ret (.var 2)]
abbrev s__law_atom : Stmt := topS 15
abbrev N__law_atom : List Str := ["pen", "names", "width", "left", "found", "lap"]
abbrev P__law_atom : List Str := ["pen", "names", "width"]
theorem sc__law_atom : FnScope N__law_atom P__law_atom (defScope s__law_atom) := ⟨rfl, rfl, rfl, by decide +kernel, rfl, by decide +kernel, by decide +kernel⟩
def c__law_atom : List CS := [.par 3 4 (.blt .list [.var 1]) (.lst []), .for_ (.nm 5) (.rng [.blt .min [.blt .len [.var 3], .bin .Add (.cst (.int 1)) (.call "_law_draw" [.var 0, .var 2])]]) [.expr (.mth .append (.var 4) [.mth .pop (.var 3) [.call "_law_draw" [.var 0, .blt .len [.var 3]]]])], .ret (.blt .tuple [.var 4])]
abbrev s__law_some_of : Stmt := topS 14
abbrev N__law_some_of : List Str := ["pen", "things", "most", "left", "found", "lap"]
abbrev P__law_some_of : List Str := ["pen", "things", "most"]
theorem sc__law_some_of : FnScope N__law_some_of P__law_some_of (defScope s__law_some_of) := ⟨rfl, rfl, rfl, by decide +kernel, rfl, by decide +kernel, by decide +kernel⟩
def c__law_some_of : List CS := [.par 3 4 (.blt .list [.var 1]) (.lst []), .for_ (.nm 5) (.rng [.blt .min [.blt .len [.var 3], .call "_law_draw" [.var 0, .bin .Add (.var 2) (.cst (.int 1))]]]) [.expr (.mth .append (.var 4) [.mth .pop (.var 3) [.call "_law_draw" [.var 0, .blt .len [.var 3]]]])], .ret (.var 4)]
abbrev s__law_query : Stmt := topS 16
abbrev N__law_query : List Str := ["pen", "many", "names", "width", "some", "atoms", "known", "lap"]
abbrev P__law_query : List Str := ["pen", "many", "names", "width"]
theorem sc__law_query : FnScope N__law_query P__law_query (defScope s__law_query) := ⟨rfl, rfl, rfl, by decide +kernel, rfl, by decide +kernel, by decide +kernel⟩
def c__law_query : List CS := [.asg (.nm 4) (.blt .rangeL [.bin .Add (.cst (.int 1)) (.call "_law_draw" [.var 0, .var 2])]), .asg (.nm 5) (.blt .tuple [.lc (.call "_law_atom" [.var 0, .var 4, .var 3]) [7] (.nm 7) (.rng [.bin .Add (.cst (.int 1)) (.call "_law_draw" [.var 0, .var 1])]) []]), .asg (.nm 6) (.call "_law_variables" [.tup [.tup [], .var 5]]), .ret (.tup [.blt .tuple [.blt .sortedE [.call "_law_some_of" [.var 0, .var 6, .blt .len [.var 6]]]], .var 5])]
abbrev s__law_rule : Stmt := topS 17
abbrev N__law_rule : List Str := ["pen", "query", "t", "atom", "y"]
abbrev P__law_rule : List Str := ["pen", "query"]
theorem sc__law_rule : FnScope N__law_rule P__law_rule (defScope s__law_rule) := ⟨rfl, rfl, rfl, by decide +kernel, rfl, by decide +kernel, by decide +kernel⟩
def c__law_rule : List CS := [.asg (.nm 2) (.call "_law_draw" [.var 0, .blt .len [.ix (.var 1) (.cst (.int 1))]]), .asg (.nm 3) (.blt .list [.ix (.ix (.var 1) (.cst (.int 1))) (.var 2)]), .asg (.nm 4) (.mth .pop (.var 3) [.call "_law_draw" [.var 0, .blt .len [.var 3]]]), .ret (.tup [.var 2, .blt .tuple [.blt .sortedE [.call "_law_some_of" [.var 0, .var 3, .cst (.int 3)]]], .var 4])]
abbrev s__law_one_of : Stmt := topS 11
abbrev N__law_one_of : List Str := ["pen", "some"]
abbrev P__law_one_of : List Str := ["pen", "some"]
theorem sc__law_one_of : FnScope N__law_one_of P__law_one_of (defScope s__law_one_of) := ⟨rfl, rfl, rfl, by decide +kernel, rfl, by decide +kernel, by decide +kernel⟩
def c__law_one_of : List CS := [.ret (.ix (.var 1) (.call "_law_draw" [.var 0, .blt .len [.var 1]]))]
abbrev s__law_rules : Stmt := topS 18
abbrev N__law_rules : List Str := ["pen", "query", "lap"]
abbrev P__law_rules : List Str := ["pen", "query"]
theorem sc__law_rules : FnScope N__law_rules P__law_rules (defScope s__law_rules) := ⟨rfl, rfl, rfl, by decide +kernel, rfl, by decide +kernel, by decide +kernel⟩
def c__law_rules : List CS := [.ret (.blt .tuple [.lc (.call "_law_rule" [.var 0, .var 1]) [2] (.nm 2) (.rng [.call "_law_one_of" [.var 0, .lst [.cst (.int 0), .cst (.int 0), .cst (.int 1), .cst (.int 2), .call "_law_draw" [.var 0, .cst (.int 7)]]]]) []])]
abbrev s__law_closure : Stmt := topS 19
abbrev N__law_closure : List Str := ["rules", "some", "found", "lap", "t", "xs", "y", "x"]
abbrev P__law_closure : List Str := ["rules", "some"]
theorem sc__law_closure : FnScope N__law_closure P__law_closure (defScope s__law_closure) := ⟨rfl, rfl, rfl, by decide +kernel, rfl, by decide +kernel, by decide +kernel⟩
def c__law_closure : List CS := [.asg (.nm 2) (.blt .list [.var 1]), .for_ (.nm 3) (.rng [.cst (.int 7)]) [.for_ (.tup [.nm 4, .nm 5, .nm 6]) (.seq (.var 0)) [.if_ (.and (.cmp .NotIn (.var 6) (.var 2)) (.cmp .Eq (.lc (.var 7) [7] (.nm 7) (.seq (.var 5)) [.cmp .NotIn (.var 7) (.var 2)]) (.lst []))) [.expr (.mth .append (.var 2) [.var 6])] []]], .ret (.blt .sset [.var 2])]
abbrev s_fits : Stmt := topS 1
abbrev N_fits : List Str := ["rule", "known", "x"]
abbrev P_fits : List Str := ["rule", "known"]
theorem sc_fits : FnScope N_fits P_fits (defScope s_fits) := ⟨rfl, rfl, rfl, by decide +kernel, rfl, by decide +kernel, by decide +kernel⟩
def c_fits : List CS := [.ret (.blt .all [.lc (.cmp .In (.var 2) (.var 1)) [2] (.nm 2) (.seq (.ix (.var 0) (.cst (.int 1)))) []])]
abbrev s_next_rule : Stmt := topS 2
abbrev N_next_rule : List Str := ["rules", "known", "number", "rule"]
abbrev P_next_rule : List Str := ["rules", "known"]
theorem sc_next_rule : FnScope N_next_rule P_next_rule (defScope s_next_rule) := ⟨rfl, rfl, rfl, by decide +kernel, rfl, by decide +kernel, by decide +kernel⟩
def c_next_rule : List CS := [.for_ (.tup [.nm 2, .nm 3]) (.enm (.var 0)) [.if_ (.and (.call "fits" [.var 3, .var 1]) (.cmp .NotIn (.ix (.var 3) (.cst (.int 2))) (.var 1))) [.ret (.var 2)] []], .ret (.cst .non)]
abbrev s_longest_chain : Stmt := topS 3
abbrev N_longest_chain : List Str := ["rules", "some", "known", "chain", "number"]
abbrev P_longest_chain : List Str := ["rules", "some"]
theorem sc_longest_chain : FnScope N_longest_chain P_longest_chain (defScope s_longest_chain) := ⟨rfl, rfl, rfl, by decide +kernel, rfl, by decide +kernel, by decide +kernel⟩
def c_longest_chain : List CS := [.par 2 3 (.blt .list [.var 1]) (.lst []), .asg (.nm 4) (.call "next_rule" [.var 0, .var 2]), .while_ (.ntN (.var 4)) [.expr (.mth .append (.var 2) [.ix (.ix (.var 0) (.var 4)) (.cst (.int 2))]), .expr (.mth .append (.var 3) [.var 4]), .asg (.nm 4) (.call "next_rule" [.var 0, .var 2])], .ret (.var 3)]
abbrev s_reached_by : Stmt := topS 4
abbrev N_reached_by : List Str := ["rules", "some", "chain", "number"]
abbrev P_reached_by : List Str := ["rules", "some", "chain"]
theorem sc_reached_by : FnScope N_reached_by P_reached_by (defScope s_reached_by) := ⟨rfl, rfl, rfl, by decide +kernel, rfl, by decide +kernel, by decide +kernel⟩
def c_reached_by : List CS := [.ret (.blt .tuple [.blt .sset [.bin .Add (.blt .list [.var 1]) (.lc (.ix (.ix (.var 0) (.var 3)) (.cst (.int 2))) [3] (.nm 3) (.seq (.var 2)) [])]])]
abbrev s_chain_for : Stmt := topS 6
abbrev N_chain_for : List Str := ["query", "rules", "some", "wanted", "chain", "reached", "x"]
abbrev P_chain_for : List Str := ["query", "rules", "some", "wanted"]
theorem sc_chain_for : FnScope N_chain_for P_chain_for (defScope s_chain_for) := ⟨rfl, rfl, rfl, by decide +kernel, rfl, by decide +kernel, by decide +kernel⟩
def c_chain_for : List CS := [.asg (.nm 4) (.call "longest_chain" [.var 1, .var 2]), .asg (.nm 5) (.call "reached_by" [.var 1, .var 2, .var 4]), .ret (.ite (.blt .all [.lc (.cmp .In (.var 6) (.var 5)) [6] (.nm 6) (.seq (.var 3)) []]) (.blt .tuple [.var 4]) (.cst .non))]
abbrev s_closure_of : Stmt := topS 5
abbrev N_closure_of : List Str := ["query", "rules", "some"]
abbrev P_closure_of : List Str := ["query", "rules", "some"]
theorem sc_closure_of : FnScope N_closure_of P_closure_of (defScope s_closure_of) := ⟨rfl, rfl, rfl, by decide +kernel, rfl, by decide +kernel, by decide +kernel⟩
def c_closure_of : List CS := [.ret (.call "reached_by" [.var 1, .var 2, .call "longest_chain" [.var 1, .var 2]])]
abbrev s__law_chain_break : Stmt := topS 20
abbrev N__law_chain_break : List Str := ["rules", "some", "chain", "found", "at", "number", "x"]
abbrev P__law_chain_break : List Str := ["rules", "some", "chain"]
theorem sc__law_chain_break : FnScope N__law_chain_break P__law_chain_break (defScope s__law_chain_break) := ⟨rfl, rfl, rfl, by decide +kernel, rfl, by decide +kernel, by decide +kernel⟩
def c__law_chain_break : List CS := [.asg (.nm 3) (.blt .list [.var 1]), .for_ (.tup [.nm 4, .nm 5]) (.enm (.var 2)) [.if_ (.cmp .NotEq (.lc (.var 6) [6] (.nm 6) (.seq (.ix (.ix (.var 0) (.var 5)) (.cst (.int 1)))) [.cmp .NotIn (.var 6) (.var 3)]) (.lst [])) [.ret (.lst [.var 4])] [], .expr (.mth .append (.var 3) [.ix (.ix (.var 0) (.var 5)) (.cst (.int 2))])], .ret (.lst [])]
abbrev s__law_reached : Stmt := topS 21
abbrev N__law_reached : List Str := ["rules", "some", "chain", "number"]
abbrev P__law_reached : List Str := ["rules", "some", "chain"]
theorem sc__law_reached : FnScope N__law_reached P__law_reached (defScope s__law_reached) := ⟨rfl, rfl, rfl, by decide +kernel, rfl, by decide +kernel, by decide +kernel⟩
def c__law_reached : List CS := [.ret (.bin .Add (.blt .list [.var 1]) (.lc (.ix (.ix (.var 0) (.var 3)) (.cst (.int 2))) [3] (.nm 3) (.seq (.var 2)) []))]
abbrev s__law_whole : Stmt := topS 12
abbrev N__law_whole : List Str := ["value", "low", "high"]
abbrev P__law_whole : List Str := ["value", "low", "high"]
theorem sc__law_whole : FnScope N__law_whole P__law_whole (defScope s__law_whole) := ⟨rfl, rfl, rfl, by decide +kernel, rfl, by decide +kernel, by decide +kernel⟩
def c__law_whole : List CS := [.ret (.and (.isa (.var 0) .int) (.and (.not (.isa (.var 0) .bool)) (.chn .LtE .LtE (.var 1) (.var 0) (.var 2))))]
abbrev s__law_is_right : Stmt := topS 22
abbrev N__law_is_right : List Str := ["rules", "some", "wanted", "chain", "number", "x"]
abbrev P__law_is_right : List Str := ["rules", "some", "wanted", "chain"]
theorem sc__law_is_right : FnScope N__law_is_right P__law_is_right (defScope s__law_is_right) := ⟨rfl, rfl, rfl, by decide +kernel, rfl, by decide +kernel, by decide +kernel⟩
def c__law_is_right : List CS := [.if_ (.or (.not (.isa (.var 3) .tuple)) (.cmp .NotEq (.lc (.cst (.int 1)) [4] (.nm 4) (.seq (.var 3)) [.not (.call "_law_whole" [.var 4, .cst (.int 0), .bin .Sub (.blt .len [.var 0]) (.cst (.int 1))])]) (.lst []))) [.ret (.cst (.bl false))] [], .if_ (.or (.cmp .NotEq (.blt .lset [.var 3]) (.blt .len [.var 3])) (.cmp .NotEq (.call "_law_chain_break" [.var 0, .var 1, .var 3]) (.lst []))) [.ret (.cst (.bl false))] [], .ret (.cmp .Eq (.lc (.var 5) [5] (.nm 5) (.seq (.var 2)) [.cmp .NotIn (.var 5) (.call "_law_reached" [.var 0, .var 1, .var 3])]) (.lst []))]
abbrev s_law : Stmt := topS 23
abbrev N_law : List Str := ["script", "pen", "turn", "query", "rules", "known", "before", "lap", "some", "wanted", "closed", "chain", "x"]
abbrev P_law : List Str := ["script"]
theorem sc_law : FnScope N_law P_law (defScope s_law) := ⟨rfl, rfl, rfl, by decide +kernel, rfl, by decide +kernel, by decide +kernel⟩
def c_law : List CS := [.asg (.nm 1) (.call "_law_pen" [.var 0]), .for_ (.nm 2) (.rng [.blt .max [.cst (.int 3), .blt .min [.cst (.int 8), .blt .len [.var 0]]]]) [.asg (.nm 3) (.call "_law_query" [.var 1, .cst (.int 5), .cst (.int 7), .cst (.int 4)]), .par 4 5 (.call "_law_rules" [.var 1, .var 3]) (.call "_law_variables" [.var 3]), .asg (.nm 6) (.blt .repr [.tup [.var 3, .var 4]]), .for_ (.nm 7) (.rng [.cst (.int 3)]) [.asg (.nm 8) (.blt .tuple [.call "_law_some_of" [.var 1, .var 5, .call "_law_one_of" [.var 1, .lst [.cst (.int 3), .cst (.int 7)]]]]), .asg (.nm 9) (.blt .tuple [.call "_law_some_of" [.var 1, .var 5, .call "_law_one_of" [.var 1, .lst [.cst (.int 3), .cst (.int 7)]]]]), .asg (.nm 10) (.call "_law_closure" [.var 4, .var 8]), .if_ (.cmp .NotEq (.blt .repr [.call "closure_of" [.var 3, .var 4, .var 8]]) (.blt .repr [.blt .tuple [.var 10]])) [.ret (.cst (.bl false))] [], .asg (.nm 11) (.call "chain_for" [.var 3, .var 4, .var 8, .var 9]), .if_ (.cmp .NotEq (.ntN (.var 11)) (.cmp .Eq (.lc (.var 12) [12] (.nm 12) (.seq (.var 9)) [.cmp .NotIn (.var 12) (.var 10)]) (.lst []))) [.ret (.cst (.bl false))] [], .if_ (.ntN (.var 11)) [.if_ (.not (.call "_law_is_right" [.var 4, .var 8, .var 9, .var 11])) [.ret (.cst (.bl false))] []] []], .if_ (.cmp .NotEq (.blt .repr [.tup [.var 3, .var 4]]) (.var 6)) [.ret (.cst (.bl false))] []], .ret (.cst (.bl true))]
section
variable {P : Program} {w : World} {K : PySem.W.Frag} {mg : Str → Option Value} {base : Heap} {g : G} {k : Nat}
theorem b__law_pen  : ∀ f cdv A outer s H, Good (bodyX P w K mg base N__law_pen "_law_pen" s__law_pen f cdv A outer s H) g k → SsM (bodyX P w K mg base N__law_pen "_law_pen" s__law_pen f cdv A outer s H) g (defBody s__law_pen) c__law_pen := fun f cdv A outer s H C =>
  ss_cons (s_ret (em_lst (am_cons (em_list C rfl rfl rfl (am_cons (em_sl (mv 0) (om_none) (om_some (em_int))) (am_nil))) (am_cons (em_int) (am_cons (em_int) (am_nil)))))) (ss_nil)
theorem b__law_variables  : ∀ f cdv A outer s H, Good (bodyX P w K mg base N__law_variables "_law_variables" s__law_variables f cdv A outer s H) g k → SsM (bodyX P w K mg base N__law_variables "_law_variables" s__law_variables f cdv A outer s H) g (defBody s__law_variables) c__law_variables := fun f cdv A outer s H C =>
  ss_cons (s_asg (em_lst (am_nil)) (mg_nm C 1)) (ss_cons (s_for C.calm PassesOwn.never (im_seq (em_ix (mv 0) (em_int))) (mg_nm C 2) (ss_cons (s_expr (em_extend (mv 1) (am_cons (em_list C rfl rfl rfl (am_cons (mv 2) (am_nil))) (am_nil)))) (ss_nil))) (ss_cons (s_ret (em_sset C rfl rfl (mv 1))) (ss_nil)))
theorem b__law_fresh  : ∀ f cdv A outer s H, Good (bodyX P w K mg base N__law_fresh "_law_fresh" s__law_fresh f cdv A outer s H) g k → SsM (bodyX P w K mg base N__law_fresh "_law_fresh" s__law_fresh f cdv A outer s H) g (defBody s__law_fresh) c__law_fresh := fun f cdv A outer s H C =>
  ss_cons (s_par C (i := 1) (j := 2) rfl rfl (by decide) rfl rfl (am_cons (em_ix (mv 0) (em_int)) (am_cons (em_ix (mv 0) (em_int)) am_nil)) (by rfl)) (ss_cons (s_sub (em_bin _ (mv 1) (em_int)) (mv 0) (em_int)) (ss_cons (s_asg (em_ite C (tm_cmp C _ (mv 2) (em_lst (am_nil)) (by with_unfolding_all rfl)) (em_ix (mv 2) (em_bin _ (em_intc C rfl rfl rfl (am_cons (mv 1) (am_nil))) (em_len C rfl rfl rfl (am_cons (mv 2) (am_nil))))) (em_int)) (mg_nm C 3)) (ss_cons (s_if C (tm_w (wm_and (tm_cmp C _ (mv 1) (em_len C rfl rfl rfl (am_cons (mv 2) (am_nil))) (by with_unfolding_all rfl)) (wm_and1 (tm_cmp C _ (mv 3) (em_bin _ (em_int) (em_int)) (by with_unfolding_all rfl))))) (ss_cons (s_ret (em_bin _ (mv 3) (em_bin _ (em_int) (em_int)))) (ss_nil)) (ss_nil)) (ss_cons (s_asg (em_int) (mg_nm C 4)) (ss_cons (s_asg (em_bin _ (em_intc C rfl rfl rfl (am_cons (em_bin _ (em_bin _ (em_bin _ (mv 3) (em_int)) (em_bin _ (em_int) (mv 1))) (em_int)) (am_nil))) (mv 4)) (mg_nm C 5)) (ss_cons (s_asg (mv 5) (mg_nm C 6)) (ss_cons (s_for C.calm PassesOwn.never (im_rng1 C rfl (am_cons (em_int) (am_nil))) (mg_nm C 7) (ss_cons (s_asg (em_bin _ (em_intc C rfl rfl rfl (am_cons (em_bin _ (em_bin _ (em_bin _ (mv 5) (mv 5)) (em_bin _ (em_bin _ (em_int) (em_bin _ (mv 7) (em_int))) (em_bin _ (mv 1) (em_int)))) (mv 3)) (am_nil))) (mv 4)) (mg_nm C 5)) (ss_cons (s_asg (em_bin _ (em_bin _ (mv 6) (mv 4)) (mv 5)) (mg_nm C 6)) (ss_nil)))) (ss_cons (s_ret (mv 6)) (ss_nil)))))))))
theorem b__law_draw (h__law_fresh : FnT P w K mg base k "_law_fresh" 1 (g.fn "_law_fresh")) : ∀ f cdv A outer s H, Good (bodyX P w K mg base N__law_draw "_law_draw" s__law_draw f cdv A outer s H) g k → SsM (bodyX P w K mg base N__law_draw "_law_draw" s__law_draw f cdv A outer s H) g (defBody s__law_draw) c__law_draw := fun f cdv A outer s H C =>
  ss_cons (s_if C (tm_cmp C _ (em_ix (mv 0) (em_int)) (mv 1) (by with_unfolding_all rfl)) (ss_cons (s_sub (em_call C h__law_fresh rfl (am_cons (mv 0) (am_nil)) rfl (by decide) rfl rfl) (mv 0) (em_int)) (ss_nil)) (ss_nil)) (ss_cons (s_asg (em_bin _ (em_intc C rfl rfl rfl (am_cons (em_ix (mv 0) (em_int)) (am_nil))) (mv 1)) (mg_nm C 2)) (ss_cons (s_sub (em_bin _ (em_intc C rfl rfl rfl (am_cons (em_ix (mv 0) (em_int)) (am_nil))) (mv 1)) (mv 0) (em_int)) (ss_cons (s_ret (mv 2)) (ss_nil))))
theorem b__law_atom (h__law_draw : FnT P w K mg base k "_law_draw" 2 (g.fn "_law_draw")) : ∀ f cdv A outer s H, Good (bodyX P w K mg base N__law_atom "_law_atom" s__law_atom f cdv A outer s H) g k → SsM (bodyX P w K mg base N__law_atom "_law_atom" s__law_atom f cdv A outer s H) g (defBody s__law_atom) c__law_atom := fun f cdv A outer s H C =>
  ss_cons (s_par C (i := 3) (j := 4) rfl rfl (by decide) rfl rfl (am_cons (em_list C rfl rfl rfl (am_cons (mv 1) (am_nil))) (am_cons (em_lst (am_nil)) am_nil)) (by rfl)) (ss_cons (s_for C.calm PassesOwn.never (im_rng1 C rfl (am_cons (em_min C rfl rfl rfl (am_cons (em_len C rfl rfl rfl (am_cons (mv 3) (am_nil))) (am_cons (em_bin _ (em_int) (em_call C h__law_draw rfl (am_cons (mv 0) (am_cons (mv 2) (am_nil))) rfl (by decide) rfl rfl)) (am_nil)))) (am_nil))) (mg_nm C 5) (ss_cons (s_expr (em_append (mv 4) (am_cons (em_popAt (mv 3) (am_cons (em_call C h__law_draw rfl (am_cons (mv 0) (am_cons (em_len C rfl rfl rfl (am_cons (mv 3) (am_nil))) (am_nil))) rfl (by decide) rfl rfl) (am_nil))) (am_nil)))) (ss_nil))) (ss_cons (s_ret (em_tuple C rfl rfl rfl (am_cons (mv 4) (am_nil)))) (ss_nil)))
theorem b__law_some_of (h__law_draw : FnT P w K mg base k "_law_draw" 2 (g.fn "_law_draw")) : ∀ f cdv A outer s H, Good (bodyX P w K mg base N__law_some_of "_law_some_of" s__law_some_of f cdv A outer s H) g k → SsM (bodyX P w K mg base N__law_some_of "_law_some_of" s__law_some_of f cdv A outer s H) g (defBody s__law_some_of) c__law_some_of := fun f cdv A outer s H C =>
  ss_cons (s_par C (i := 3) (j := 4) rfl rfl (by decide) rfl rfl (am_cons (em_list C rfl rfl rfl (am_cons (mv 1) (am_nil))) (am_cons (em_lst (am_nil)) am_nil)) (by rfl)) (ss_cons (s_for C.calm PassesOwn.never (im_rng1 C rfl (am_cons (em_min C rfl rfl rfl (am_cons (em_len C rfl rfl rfl (am_cons (mv 3) (am_nil))) (am_cons (em_call C h__law_draw rfl (am_cons (mv 0) (am_cons (em_bin _ (mv 2) (em_int)) (am_nil))) rfl (by decide) rfl rfl) (am_nil)))) (am_nil))) (mg_nm C 5) (ss_cons (s_expr (em_append (mv 4) (am_cons (em_popAt (mv 3) (am_cons (em_call C h__law_draw rfl (am_cons (mv 0) (am_cons (em_len C rfl rfl rfl (am_cons (mv 3) (am_nil))) (am_nil))) rfl (by decide) rfl rfl) (am_nil))) (am_nil)))) (ss_nil))) (ss_cons (s_ret (mv 4)) (ss_nil)))
theorem b__law_query (h__law_draw : FnT P w K mg base k "_law_draw" 2 (g.fn "_law_draw")) (h__law_atom : FnT P w K mg base k "_law_atom" 3 (g.fn "_law_atom")) (h__law_variables : FnT P w K mg base k "_law_variables" 1 (g.fn "_law_variables")) (h__law_some_of : FnT P w K mg base k "_law_some_of" 3 (g.fn "_law_some_of")) : ∀ f cdv A outer s H, Good (bodyX P w K mg base N__law_query "_law_query" s__law_query f cdv A outer s H) g k → SsM (bodyX P w K mg base N__law_query "_law_query" s__law_query f cdv A outer s H) g (defBody s__law_query) c__law_query := fun f cdv A outer s H C =>
  ss_cons (s_asg (em_rangeL1 C rfl rfl (em_bin _ (em_int) (em_call C h__law_draw rfl (am_cons (mv 0) (am_cons (mv 2) (am_nil))) rfl (by decide) rfl rfl))) (mg_nm C 4)) (ss_cons (s_asg (em_tuple C rfl rfl rfl (am_cons (em_lc (own := [("lap", 7)]) C (im_rng1 C rfl (am_cons (em_bin _ (em_int) (em_call C h__law_draw rfl (am_cons (mv 0) (am_cons (mv 1) (am_nil))) rfl (by decide) rfl rfl)) (am_nil))) (by kernel_rfl) (fun _ _ _ _ _ C' => mg_nm C' 7) (fun _ _ _ _ _ C' => ts_nil) (fun _ _ _ _ _ C' => em_call C' h__law_atom rfl (am_cons (mv 0) (am_cons (mv 4) (am_cons (mv 3) (am_nil)))) rfl (by decide) rfl rfl) (by decide) (fun _ => rfl)) (am_nil))) (mg_nm C 5)) (ss_cons (s_asg (em_call C h__law_variables rfl (am_cons (em_tup (am_cons (em_tup (am_nil)) (am_cons (mv 5) (am_nil)))) (am_nil)) rfl (by decide) rfl rfl) (mg_nm C 6)) (ss_cons (s_ret (em_tup (am_cons (em_tuple C rfl rfl rfl (am_cons (em_sorted C rfl (em_call C h__law_some_of rfl (am_cons (mv 0) (am_cons (mv 6) (am_cons (em_len C rfl rfl rfl (am_cons (mv 6) (am_nil))) (am_nil)))) rfl (by decide) rfl rfl)) (am_nil))) (am_cons (mv 5) (am_nil))))) (ss_nil))))
theorem b__law_rule (h__law_draw : FnT P w K mg base k "_law_draw" 2 (g.fn "_law_draw")) (h__law_some_of : FnT P w K mg base k "_law_some_of" 3 (g.fn "_law_some_of")) : ∀ f cdv A outer s H, Good (bodyX P w K mg base N__law_rule "_law_rule" s__law_rule f cdv A outer s H) g k → SsM (bodyX P w K mg base N__law_rule "_law_rule" s__law_rule f cdv A outer s H) g (defBody s__law_rule) c__law_rule := fun f cdv A outer s H C =>
  ss_cons (s_asg (em_call C h__law_draw rfl (am_cons (mv 0) (am_cons (em_len C rfl rfl rfl (am_cons (em_ix (mv 1) (em_int)) (am_nil))) (am_nil))) rfl (by decide) rfl rfl) (mg_nm C 2)) (ss_cons (s_asg (em_list C rfl rfl rfl (am_cons (em_ix (em_ix (mv 1) (em_int)) (mv 2)) (am_nil))) (mg_nm C 3)) (ss_cons (s_asg (em_popAt (mv 3) (am_cons (em_call C h__law_draw rfl (am_cons (mv 0) (am_cons (em_len C rfl rfl rfl (am_cons (mv 3) (am_nil))) (am_nil))) rfl (by decide) rfl rfl) (am_nil))) (mg_nm C 4)) (ss_cons (s_ret (em_tup (am_cons (mv 2) (am_cons (em_tuple C rfl rfl rfl (am_cons (em_sorted C rfl (em_call C h__law_some_of rfl (am_cons (mv 0) (am_cons (mv 3) (am_cons (em_int) (am_nil)))) rfl (by decide) rfl rfl)) (am_nil))) (am_cons (mv 4) (am_nil)))))) (ss_nil))))
theorem b__law_one_of (h__law_draw : FnT P w K mg base k "_law_draw" 2 (g.fn "_law_draw")) : ∀ f cdv A outer s H, Good (bodyX P w K mg base N__law_one_of "_law_one_of" s__law_one_of f cdv A outer s H) g k → SsM (bodyX P w K mg base N__law_one_of "_law_one_of" s__law_one_of f cdv A outer s H) g (defBody s__law_one_of) c__law_one_of := fun f cdv A outer s H C =>
  ss_cons (s_ret (em_ix (mv 1) (em_call C h__law_draw rfl (am_cons (mv 0) (am_cons (em_len C rfl rfl rfl (am_cons (mv 1) (am_nil))) (am_nil))) rfl (by decide) rfl rfl))) (ss_nil)
theorem b__law_rules (h__law_draw : FnT P w K mg base k "_law_draw" 2 (g.fn "_law_draw")) (h__law_one_of : FnT P w K mg base k "_law_one_of" 2 (g.fn "_law_one_of")) (h__law_rule : FnT P w K mg base k "_law_rule" 2 (g.fn "_law_rule")) : ∀ f cdv A outer s H, Good (bodyX P w K mg base N__law_rules "_law_rules" s__law_rules f cdv A outer s H) g k → SsM (bodyX P w K mg base N__law_rules "_law_rules" s__law_rules f cdv A outer s H) g (defBody s__law_rules) c__law_rules := fun f cdv A outer s H C =>
  ss_cons (s_ret (em_tuple C rfl rfl rfl (am_cons (em_lc (own := [("lap", 2)]) C (im_rng1 C rfl (am_cons (em_call C h__law_one_of rfl (am_cons (mv 0) (am_cons (em_lst (am_cons (em_int) (am_cons (em_int) (am_cons (em_int) (am_cons (em_int) (am_cons (em_call C h__law_draw rfl (am_cons (mv 0) (am_cons (em_int) (am_nil))) rfl (by decide) rfl rfl) (am_nil))))))) (am_nil))) rfl (by decide) rfl rfl) (am_nil))) (by kernel_rfl) (fun _ _ _ _ _ C' => mg_nm C' 2) (fun _ _ _ _ _ C' => ts_nil) (fun _ _ _ _ _ C' => em_call C' h__law_rule rfl (am_cons (mv 0) (am_cons (mv 1) (am_nil))) rfl (by decide) rfl rfl) (by decide) (fun _ => rfl)) (am_nil)))) (ss_nil)
theorem b__law_closure  : ∀ f cdv A outer s H, Good (bodyX P w K mg base N__law_closure "_law_closure" s__law_closure f cdv A outer s H) g k → SsM (bodyX P w K mg base N__law_closure "_law_closure" s__law_closure f cdv A outer s H) g (defBody s__law_closure) c__law_closure := fun f cdv A outer s H C =>
  ss_cons (s_asg (em_list C rfl rfl rfl (am_cons (mv 1) (am_nil))) (mg_nm C 2)) (ss_cons (s_for C.calm PassesOwn.never (im_rng1 C rfl (am_cons (em_int) (am_nil))) (mg_nm C 3) (ss_cons (s_for C.calm PassesOwn.never (im_seq (mv 0)) (gm_tup C.calm (gms_cons (mg_nm C 4) (gms_cons (mg_nm C 5) (gms_cons (mg_nm C 6) (gms_nil))))) (ss_cons (s_if C (tm_w (wm_and (tm_cmp C _ (mv 6) (mv 2) (by with_unfolding_all rfl)) (wm_and1 (tm_cmp C _ (em_lc (own := [("x", 7)]) C (im_seq (mv 5)) (by kernel_rfl) (fun _ _ _ _ _ C' => mg_nm C' 7) (fun _ _ _ _ _ C' => ts_one C' (tm_cmp C' _ (mv 7) (mv 2) (by with_unfolding_all rfl))) (fun _ _ _ _ _ C' => mv 7) (by decide) (fun _ => rfl)) (em_lst (am_nil)) (by with_unfolding_all rfl))))) (ss_cons (s_expr (em_append (mv 2) (am_cons (mv 6) (am_nil)))) (ss_nil)) (ss_nil)) (ss_nil))) (ss_nil))) (ss_cons (s_ret (em_sset C rfl rfl (mv 2))) (ss_nil)))
theorem b_fits  : ∀ f cdv A outer s H, Good (bodyX P w K mg base N_fits "fits" s_fits f cdv A outer s H) g k → SsM (bodyX P w K mg base N_fits "fits" s_fits f cdv A outer s H) g (defBody s_fits) c_fits := fun f cdv A outer s H C =>
  ss_cons (s_ret (em_all C rfl rfl rfl (am_cons (em_lc (own := [("x", 2)]) C (im_seq (em_ix (mv 0) (em_int))) (by kernel_rfl) (fun _ _ _ _ _ C' => mg_nm C' 2) (fun _ _ _ _ _ C' => ts_nil) (fun _ _ _ _ _ C' => em_cmp C' _ (mv 2) (mv 1) (by with_unfolding_all rfl)) (by decide) (fun _ => rfl)) (am_nil)))) (ss_nil)
theorem b_next_rule (h_fits : FnT P w K mg base k "fits" 2 (g.fn "fits")) : ∀ f cdv A outer s H, Good (bodyX P w K mg base N_next_rule "next_rule" s_next_rule f cdv A outer s H) g k → SsM (bodyX P w K mg base N_next_rule "next_rule" s_next_rule f cdv A outer s H) g (defBody s_next_rule) c_next_rule := fun f cdv A outer s H C =>
  ss_cons (s_for C.calm PassesOwn.never (im_enm C rfl (am_cons (mv 0) (am_nil))) (gm_tup C.calm (gms_cons (mg_nm C 2) (gms_cons (mg_nm C 3) (gms_nil)))) (ss_cons (s_if C (tm_w (wm_and (tm_val (em_call C h_fits rfl (am_cons (mv 3) (am_cons (mv 1) (am_nil))) rfl (by decide) rfl rfl)) (wm_and1 (tm_cmp C _ (em_ix (mv 3) (em_int)) (mv 1) (by with_unfolding_all rfl))))) (ss_cons (s_ret (mv 2)) (ss_nil)) (ss_nil)) (ss_nil))) (ss_cons (s_ret (em_non)) (ss_nil))
theorem b_longest_chain (h_next_rule : FnT P w K mg base k "next_rule" 2 (g.fn "next_rule")) : ∀ f cdv A outer s H, Good (bodyX P w K mg base N_longest_chain "longest_chain" s_longest_chain f cdv A outer s H) g k → SsM (bodyX P w K mg base N_longest_chain "longest_chain" s_longest_chain f cdv A outer s H) g (defBody s_longest_chain) c_longest_chain := fun f cdv A outer s H C =>
  ss_cons (s_par C (i := 2) (j := 3) rfl rfl (by decide) rfl rfl (am_cons (em_list C rfl rfl rfl (am_cons (mv 1) (am_nil))) (am_cons (em_lst (am_nil)) am_nil)) (by rfl)) (ss_cons (s_asg (em_call C h_next_rule rfl (am_cons (mv 0) (am_cons (mv 2) (am_nil))) rfl (by decide) rfl rfl) (mg_nm C 4)) (ss_cons (s_while C PassesOwn.never (tm_ntN (mv 4)) (ss_cons (s_expr (em_append (mv 2) (am_cons (em_ix (em_ix (mv 0) (mv 4)) (em_int)) (am_nil)))) (ss_cons (s_expr (em_append (mv 3) (am_cons (mv 4) (am_nil)))) (ss_cons (s_asg (em_call C h_next_rule rfl (am_cons (mv 0) (am_cons (mv 2) (am_nil))) rfl (by decide) rfl rfl) (mg_nm C 4)) (ss_nil))))) (ss_cons (s_ret (mv 3)) (ss_nil))))
theorem b_reached_by  : ∀ f cdv A outer s H, Good (bodyX P w K mg base N_reached_by "reached_by" s_reached_by f cdv A outer s H) g k → SsM (bodyX P w K mg base N_reached_by "reached_by" s_reached_by f cdv A outer s H) g (defBody s_reached_by) c_reached_by := fun f cdv A outer s H C =>
  ss_cons (s_ret (em_tuple C rfl rfl rfl (am_cons (em_sset C rfl rfl (em_bin _ (em_list C rfl rfl rfl (am_cons (mv 1) (am_nil))) (em_lc (own := [("number", 3)]) C (im_seq (mv 2)) (by kernel_rfl) (fun _ _ _ _ _ C' => mg_nm C' 3) (fun _ _ _ _ _ C' => ts_nil) (fun _ _ _ _ _ C' => em_ix (em_ix (mv 0) (mv 3)) (em_int)) (by decide) (fun _ => rfl)))) (am_nil)))) (ss_nil)
theorem b_chain_for (h_longest_chain : FnT P w K mg base k "longest_chain" 2 (g.fn "longest_chain")) (h_reached_by : FnT P w K mg base k "reached_by" 3 (g.fn "reached_by")) : ∀ f cdv A outer s H, Good (bodyX P w K mg base N_chain_for "chain_for" s_chain_for f cdv A outer s H) g k → SsM (bodyX P w K mg base N_chain_for "chain_for" s_chain_for f cdv A outer s H) g (defBody s_chain_for) c_chain_for := fun f cdv A outer s H C =>
  ss_cons (s_asg (em_call C h_longest_chain rfl (am_cons (mv 1) (am_cons (mv 2) (am_nil))) rfl (by decide) rfl rfl) (mg_nm C 4)) (ss_cons (s_asg (em_call C h_reached_by rfl (am_cons (mv 1) (am_cons (mv 2) (am_cons (mv 4) (am_nil)))) rfl (by decide) rfl rfl) (mg_nm C 5)) (ss_cons (s_ret (em_ite C (tm_val (em_all C rfl rfl rfl (am_cons (em_lc (own := [("x", 6)]) C (im_seq (mv 3)) (by kernel_rfl) (fun _ _ _ _ _ C' => mg_nm C' 6) (fun _ _ _ _ _ C' => ts_nil) (fun _ _ _ _ _ C' => em_cmp C' _ (mv 6) (mv 5) (by with_unfolding_all rfl)) (by decide) (fun _ => rfl)) (am_nil)))) (em_tuple C rfl rfl rfl (am_cons (mv 4) (am_nil))) (em_non))) (ss_nil)))
theorem b_closure_of (h_longest_chain : FnT P w K mg base k "longest_chain" 2 (g.fn "longest_chain")) (h_reached_by : FnT P w K mg base k "reached_by" 3 (g.fn "reached_by")) : ∀ f cdv A outer s H, Good (bodyX P w K mg base N_closure_of "closure_of" s_closure_of f cdv A outer s H) g k → SsM (bodyX P w K mg base N_closure_of "closure_of" s_closure_of f cdv A outer s H) g (defBody s_closure_of) c_closure_of := fun f cdv A outer s H C =>
  ss_cons (s_ret (em_call C h_reached_by rfl (am_cons (mv 1) (am_cons (mv 2) (am_cons (em_call C h_longest_chain rfl (am_cons (mv 1) (am_cons (mv 2) (am_nil))) rfl (by decide) rfl rfl) (am_nil)))) rfl (by decide) rfl rfl)) (ss_nil)
theorem b__law_chain_break  : ∀ f cdv A outer s H, Good (bodyX P w K mg base N__law_chain_break "_law_chain_break" s__law_chain_break f cdv A outer s H) g k → SsM (bodyX P w K mg base N__law_chain_break "_law_chain_break" s__law_chain_break f cdv A outer s H) g (defBody s__law_chain_break) c__law_chain_break := fun f cdv A outer s H C =>
  ss_cons (s_asg (em_list C rfl rfl rfl (am_cons (mv 1) (am_nil))) (mg_nm C 3)) (ss_cons (s_for C.calm PassesOwn.never (im_enm C rfl (am_cons (mv 2) (am_nil))) (gm_tup C.calm (gms_cons (mg_nm C 4) (gms_cons (mg_nm C 5) (gms_nil)))) (ss_cons (s_if C (tm_cmp C _ (em_lc (own := [("x", 6)]) C (im_seq (em_ix (em_ix (mv 0) (mv 5)) (em_int))) (by kernel_rfl) (fun _ _ _ _ _ C' => mg_nm C' 6) (fun _ _ _ _ _ C' => ts_one C' (tm_cmp C' _ (mv 6) (mv 3) (by with_unfolding_all rfl))) (fun _ _ _ _ _ C' => mv 6) (by decide) (fun _ => rfl)) (em_lst (am_nil)) (by with_unfolding_all rfl)) (ss_cons (s_ret (em_lst (am_cons (mv 4) (am_nil)))) (ss_nil)) (ss_nil)) (ss_cons (s_expr (em_append (mv 3) (am_cons (em_ix (em_ix (mv 0) (mv 5)) (em_int)) (am_nil)))) (ss_nil)))) (ss_cons (s_ret (em_lst (am_nil))) (ss_nil)))
theorem b__law_reached  : ∀ f cdv A outer s H, Good (bodyX P w K mg base N__law_reached "_law_reached" s__law_reached f cdv A outer s H) g k → SsM (bodyX P w K mg base N__law_reached "_law_reached" s__law_reached f cdv A outer s H) g (defBody s__law_reached) c__law_reached := fun f cdv A outer s H C =>
  ss_cons (s_ret (em_bin _ (em_list C rfl rfl rfl (am_cons (mv 1) (am_nil))) (em_lc (own := [("number", 3)]) C (im_seq (mv 2)) (by kernel_rfl) (fun _ _ _ _ _ C' => mg_nm C' 3) (fun _ _ _ _ _ C' => ts_nil) (fun _ _ _ _ _ C' => em_ix (em_ix (mv 0) (mv 3)) (em_int)) (by decide) (fun _ => rfl)))) (ss_nil)
theorem b__law_whole  : ∀ f cdv A outer s H, Good (bodyX P w K mg base N__law_whole "_law_whole" s__law_whole f cdv A outer s H) g k → SsM (bodyX P w K mg base N__law_whole "_law_whole" s__law_whole f cdv A outer s H) g (defBody s__law_whole) c__law_whole := fun f cdv A outer s H C =>
  ss_cons (s_ret (em_and (em_isa .int C rfl rfl (C.no _ (by decide)) (by rfl) (mv 0) (by decide) (by decide)) (em_and (em_not (em_isa .bool C rfl rfl (C.no _ (by decide)) (by rfl) (mv 0) (by decide) (by decide))) (em_one (em_chn C _ _ (mv 1) (mv 0) (mv 2)))))) (ss_nil)
theorem b__law_is_right (h__law_whole : FnT P w K mg base k "_law_whole" 3 (g.fn "_law_whole")) (h__law_chain_break : FnT P w K mg base k "_law_chain_break" 3 (g.fn "_law_chain_break")) (h__law_reached : FnT P w K mg base k "_law_reached" 3 (g.fn "_law_reached")) : ∀ f cdv A outer s H, Good (bodyX P w K mg base N__law_is_right "_law_is_right" s__law_is_right f cdv A outer s H) g k → SsM (bodyX P w K mg base N__law_is_right "_law_is_right" s__law_is_right f cdv A outer s H) g (defBody s__law_is_right) c__law_is_right := fun f cdv A outer s H C =>
  ss_cons (s_if C (tm_w (wm_or (tm_not (tm_val (em_isa .tuple C rfl rfl (C.no _ (by decide)) (by rfl) (mv 3) (by decide) (by decide)))) (wm_or1 (tm_cmp C _ (em_lc (own := [("number", 4)]) C (im_seq (mv 3)) (by kernel_rfl) (fun _ _ _ _ _ C' => mg_nm C' 4) (fun _ _ _ _ _ C' => ts_one C' (tm_not (tm_val (em_call C' h__law_whole rfl (am_cons (mv 4) (am_cons (em_int) (am_cons (em_bin _ (em_len C' rfl rfl rfl (am_cons (mv 0) (am_nil))) (em_int)) (am_nil)))) rfl (by decide) rfl rfl)))) (fun _ _ _ _ _ C' => em_int) (by decide) (fun _ => rfl)) (em_lst (am_nil)) (by with_unfolding_all rfl))))) (ss_cons (s_ret (em_bl)) (ss_nil)) (ss_nil)) (ss_cons (s_if C (tm_w (wm_or (tm_cmp C _ (em_lset C rfl rfl (mv 3)) (em_len C rfl rfl rfl (am_cons (mv 3) (am_nil))) (by with_unfolding_all rfl)) (wm_or1 (tm_cmp C _ (em_call C h__law_chain_break rfl (am_cons (mv 0) (am_cons (mv 1) (am_cons (mv 3) (am_nil)))) rfl (by decide) rfl rfl) (em_lst (am_nil)) (by with_unfolding_all rfl))))) (ss_cons (s_ret (em_bl)) (ss_nil)) (ss_nil)) (ss_cons (s_ret (em_cmp C _ (em_lc (own := [("x", 5)]) C (im_seq (mv 2)) (by kernel_rfl) (fun _ _ _ _ _ C' => mg_nm C' 5) (fun _ _ _ _ _ C' => ts_one C' (tm_cmp C' _ (mv 5) (em_call C' h__law_reached rfl (am_cons (mv 0) (am_cons (mv 1) (am_cons (mv 3) (am_nil)))) rfl (by decide) rfl rfl) (by with_unfolding_all rfl))) (fun _ _ _ _ _ C' => mv 5) (by decide) (fun _ => rfl)) (em_lst (am_nil)) (by with_unfolding_all rfl))) (ss_nil)))
theorem b_law (h__law_pen : FnT P w K mg base k "_law_pen" 1 (g.fn "_law_pen")) (h__law_query : FnT P w K mg base k "_law_query" 4 (g.fn "_law_query")) (h__law_rules : FnT P w K mg base k "_law_rules" 2 (g.fn "_law_rules")) (h__law_variables : FnT P w K mg base k "_law_variables" 1 (g.fn "_law_variables")) (h__law_one_of : FnT P w K mg base k "_law_one_of" 2 (g.fn "_law_one_of")) (h__law_some_of : FnT P w K mg base k "_law_some_of" 3 (g.fn "_law_some_of")) (h__law_closure : FnT P w K mg base k "_law_closure" 2 (g.fn "_law_closure")) (h_closure_of : FnT P w K mg base k "closure_of" 3 (g.fn "closure_of")) (h_chain_for : FnT P w K mg base k "chain_for" 4 (g.fn "chain_for")) (h__law_is_right : FnT P w K mg base k "_law_is_right" 4 (g.fn "_law_is_right")) : ∀ f cdv A outer s H, Good (bodyX P w K mg base N_law "law" s_law f cdv A outer s H) g k → SsM (bodyX P w K mg base N_law "law" s_law f cdv A outer s H) g (defBody s_law) c_law := fun f cdv A outer s H C =>
  ss_cons (s_asg (em_call C h__law_pen rfl (am_cons (mv 0) (am_nil)) rfl (by decide) rfl rfl) (mg_nm C 1)) (ss_cons (s_for C.calm PassesOwn.never (im_rng1 C rfl (am_cons (em_max C rfl rfl rfl (am_cons (em_int) (am_cons (em_min C rfl rfl rfl (am_cons (em_int) (am_cons (em_len C rfl rfl rfl (am_cons (mv 0) (am_nil))) (am_nil)))) (am_nil)))) (am_nil))) (mg_nm C 2) (ss_cons (s_asg (em_call C h__law_query rfl (am_cons (mv 1) (am_cons (em_int) (am_cons (em_int) (am_cons (em_int) (am_nil))))) rfl (by decide) rfl rfl) (mg_nm C 3)) (ss_cons (s_par C (i := 4) (j := 5) rfl rfl (by decide) rfl rfl (am_cons (em_call C h__law_rules rfl (am_cons (mv 1) (am_cons (mv 3) (am_nil))) rfl (by decide) rfl rfl) (am_cons (em_call C h__law_variables rfl (am_cons (mv 3) (am_nil)) rfl (by decide) rfl rfl) am_nil)) (by rfl)) (ss_cons (s_asg (em_repr C rfl rfl rfl (am_cons (em_tup (am_cons (mv 3) (am_cons (mv 4) (am_nil)))) (am_nil))) (mg_nm C 6)) (ss_cons (s_for C.calm PassesOwn.never (im_rng1 C rfl (am_cons (em_int) (am_nil))) (mg_nm C 7) (ss_cons (s_asg (em_tuple C rfl rfl rfl (am_cons (em_call C h__law_some_of rfl (am_cons (mv 1) (am_cons (mv 5) (am_cons (em_call C h__law_one_of rfl (am_cons (mv 1) (am_cons (em_lst (am_cons (em_int) (am_cons (em_int) (am_nil)))) (am_nil))) rfl (by decide) rfl rfl) (am_nil)))) rfl (by decide) rfl rfl) (am_nil))) (mg_nm C 8)) (ss_cons (s_asg (em_tuple C rfl rfl rfl (am_cons (em_call C h__law_some_of rfl (am_cons (mv 1) (am_cons (mv 5) (am_cons (em_call C h__law_one_of rfl (am_cons (mv 1) (am_cons (em_lst (am_cons (em_int) (am_cons (em_int) (am_nil)))) (am_nil))) rfl (by decide) rfl rfl) (am_nil)))) rfl (by decide) rfl rfl) (am_nil))) (mg_nm C 9)) (ss_cons (s_asg (em_call C h__law_closure rfl (am_cons (mv 4) (am_cons (mv 8) (am_nil))) rfl (by decide) rfl rfl) (mg_nm C 10)) (ss_cons (s_if C (tm_cmp C _ (em_repr C rfl rfl rfl (am_cons (em_call C h_closure_of rfl (am_cons (mv 3) (am_cons (mv 4) (am_cons (mv 8) (am_nil)))) rfl (by decide) rfl rfl) (am_nil))) (em_repr C rfl rfl rfl (am_cons (em_tuple C rfl rfl rfl (am_cons (mv 10) (am_nil))) (am_nil))) (by with_unfolding_all rfl)) (ss_cons (s_ret (em_bl)) (ss_nil)) (ss_nil)) (ss_cons (s_asg (em_call C h_chain_for rfl (am_cons (mv 3) (am_cons (mv 4) (am_cons (mv 8) (am_cons (mv 9) (am_nil))))) rfl (by decide) rfl rfl) (mg_nm C 11)) (ss_cons (s_if C (tm_cmp C _ (em_ntN (mv 11)) (em_cmp C _ (em_lc (own := [("x", 12)]) C (im_seq (mv 9)) (by kernel_rfl) (fun _ _ _ _ _ C' => mg_nm C' 12) (fun _ _ _ _ _ C' => ts_one C' (tm_cmp C' _ (mv 12) (mv 10) (by with_unfolding_all rfl))) (fun _ _ _ _ _ C' => mv 12) (by decide) (fun _ => rfl)) (em_lst (am_nil)) (by with_unfolding_all rfl)) (by with_unfolding_all rfl)) (ss_cons (s_ret (em_bl)) (ss_nil)) (ss_nil)) (ss_cons (s_if C (tm_ntN (mv 11)) (ss_cons (s_if C (tm_not (tm_val (em_call C h__law_is_right rfl (am_cons (mv 4) (am_cons (mv 8) (am_cons (mv 9) (am_cons (mv 11) (am_nil))))) rfl (by decide) rfl rfl))) (ss_cons (s_ret (em_bl)) (ss_nil)) (ss_nil)) (ss_nil)) (ss_nil)) (ss_nil))))))))) (ss_cons (s_if C (tm_cmp C _ (em_repr C rfl rfl rfl (am_cons (em_tup (am_cons (mv 3) (am_cons (mv 4) (am_nil)))) (am_nil))) (mv 6) (by with_unfolding_all rfl)) (ss_cons (s_ret (em_bl)) (ss_nil)) (ss_nil)) (ss_nil))))))) (ss_cons (s_ret (em_bl)) (ss_nil)))
end
noncomputable def tbl : Tbl := [("_law_pen", 1, c__law_pen), ("_law_variables", 3, c__law_variables), ("_law_fresh", 8, c__law_fresh), ("_law_draw", 3, c__law_draw), ("_law_atom", 6, c__law_atom), ("_law_some_of", 6, c__law_some_of), ("_law_query", 8, c__law_query), ("_law_rule", 5, c__law_rule), ("_law_one_of", 2, c__law_one_of), ("_law_rules", 3, c__law_rules), ("_law_closure", 8, c__law_closure), ("fits", 3, c_fits), ("next_rule", 4, c_next_rule), ("longest_chain", 5, c_longest_chain), ("reached_by", 4, c_reached_by), ("chain_for", 7, c_chain_for), ("closure_of", 3, c_closure_of), ("_law_chain_break", 7, c__law_chain_break), ("_law_reached", 4, c__law_reached), ("_law_whole", 3, c__law_whole), ("_law_is_right", 6, c__law_is_right), ("law", 13, c_law)]
noncomputable abbrev L (fuel k : Nat) : G := lev tbl fuel k
theorem fn__law_pen (fuel k : Nat) : (L fuel (k + 1)).fn "_law_pen" = fnD (L fuel k) 1 c__law_pen := lev_fn rfl
theorem fn__law_variables (fuel k : Nat) : (L fuel (k + 1)).fn "_law_variables" = fnD (L fuel k) 3 c__law_variables := lev_fn rfl
theorem fn__law_fresh (fuel k : Nat) : (L fuel (k + 1)).fn "_law_fresh" = fnD (L fuel k) 8 c__law_fresh := lev_fn rfl
theorem fn__law_draw (fuel k : Nat) : (L fuel (k + 1)).fn "_law_draw" = fnD (L fuel k) 3 c__law_draw := lev_fn rfl
theorem fn__law_atom (fuel k : Nat) : (L fuel (k + 1)).fn "_law_atom" = fnD (L fuel k) 6 c__law_atom := lev_fn rfl
theorem fn__law_some_of (fuel k : Nat) : (L fuel (k + 1)).fn "_law_some_of" = fnD (L fuel k) 6 c__law_some_of := lev_fn rfl
theorem fn__law_query (fuel k : Nat) : (L fuel (k + 1)).fn "_law_query" = fnD (L fuel k) 8 c__law_query := lev_fn rfl
theorem fn__law_rule (fuel k : Nat) : (L fuel (k + 1)).fn "_law_rule" = fnD (L fuel k) 5 c__law_rule := lev_fn rfl
theorem fn__law_one_of (fuel k : Nat) : (L fuel (k + 1)).fn "_law_one_of" = fnD (L fuel k) 2 c__law_one_of := lev_fn rfl
theorem fn__law_rules (fuel k : Nat) : (L fuel (k + 1)).fn "_law_rules" = fnD (L fuel k) 3 c__law_rules := lev_fn rfl
theorem fn__law_closure (fuel k : Nat) : (L fuel (k + 1)).fn "_law_closure" = fnD (L fuel k) 8 c__law_closure := lev_fn rfl
theorem fn_fits (fuel k : Nat) : (L fuel (k + 1)).fn "fits" = fnD (L fuel k) 3 c_fits := lev_fn rfl
theorem fn_next_rule (fuel k : Nat) : (L fuel (k + 1)).fn "next_rule" = fnD (L fuel k) 4 c_next_rule := lev_fn rfl
theorem fn_longest_chain (fuel k : Nat) : (L fuel (k + 1)).fn "longest_chain" = fnD (L fuel k) 5 c_longest_chain := lev_fn rfl
theorem fn_reached_by (fuel k : Nat) : (L fuel (k + 1)).fn "reached_by" = fnD (L fuel k) 4 c_reached_by := lev_fn rfl
theorem fn_chain_for (fuel k : Nat) : (L fuel (k + 1)).fn "chain_for" = fnD (L fuel k) 7 c_chain_for := lev_fn rfl
theorem fn_closure_of (fuel k : Nat) : (L fuel (k + 1)).fn "closure_of" = fnD (L fuel k) 3 c_closure_of := lev_fn rfl
theorem fn__law_chain_break (fuel k : Nat) : (L fuel (k + 1)).fn "_law_chain_break" = fnD (L fuel k) 7 c__law_chain_break := lev_fn rfl
theorem fn__law_reached (fuel k : Nat) : (L fuel (k + 1)).fn "_law_reached" = fnD (L fuel k) 4 c__law_reached := lev_fn rfl
theorem fn__law_whole (fuel k : Nat) : (L fuel (k + 1)).fn "_law_whole" = fnD (L fuel k) 3 c__law_whole := lev_fn rfl
theorem fn__law_is_right (fuel k : Nat) : (L fuel (k + 1)).fn "_law_is_right" = fnD (L fuel k) 6 c__law_is_right := lev_fn rfl
theorem fn_law (fuel k : Nat) : (L fuel (k + 1)).fn "law" = fnD (L fuel k) 13 c_law := lev_fn rfl
section
variable (P : Program) (w : World) (K : PySem.W.Frag) (mg : Str → Option Value) (base : Heap) (fuel k : Nat)
structure All : Prop where
  _law_pen : FnT P w K mg base k "_law_pen" 1 ((L fuel k).fn "_law_pen")
  _law_variables : FnT P w K mg base k "_law_variables" 1 ((L fuel k).fn "_law_variables")
  _law_fresh : FnT P w K mg base k "_law_fresh" 1 ((L fuel k).fn "_law_fresh")
  _law_draw : FnT P w K mg base k "_law_draw" 2 ((L fuel k).fn "_law_draw")
  _law_atom : FnT P w K mg base k "_law_atom" 3 ((L fuel k).fn "_law_atom")
  _law_some_of : FnT P w K mg base k "_law_some_of" 3 ((L fuel k).fn "_law_some_of")
  _law_query : FnT P w K mg base k "_law_query" 4 ((L fuel k).fn "_law_query")
  _law_rule : FnT P w K mg base k "_law_rule" 2 ((L fuel k).fn "_law_rule")
  _law_one_of : FnT P w K mg base k "_law_one_of" 2 ((L fuel k).fn "_law_one_of")
  _law_rules : FnT P w K mg base k "_law_rules" 2 ((L fuel k).fn "_law_rules")
  _law_closure : FnT P w K mg base k "_law_closure" 2 ((L fuel k).fn "_law_closure")
  fits : FnT P w K mg base k "fits" 2 ((L fuel k).fn "fits")
  next_rule : FnT P w K mg base k "next_rule" 2 ((L fuel k).fn "next_rule")
  longest_chain : FnT P w K mg base k "longest_chain" 2 ((L fuel k).fn "longest_chain")
  reached_by : FnT P w K mg base k "reached_by" 3 ((L fuel k).fn "reached_by")
  chain_for : FnT P w K mg base k "chain_for" 4 ((L fuel k).fn "chain_for")
  closure_of : FnT P w K mg base k "closure_of" 3 ((L fuel k).fn "closure_of")
  _law_chain_break : FnT P w K mg base k "_law_chain_break" 3 ((L fuel k).fn "_law_chain_break")
  _law_reached : FnT P w K mg base k "_law_reached" 3 ((L fuel k).fn "_law_reached")
  _law_whole : FnT P w K mg base k "_law_whole" 3 ((L fuel k).fn "_law_whole")
  _law_is_right : FnT P w K mg base k "_law_is_right" 4 ((L fuel k).fn "_law_is_right")
  law : FnT P w K mg base k "law" 1 ((L fuel k).fn "law")
structure Defs : Prop where
  no : ∀ x ∈ bltNames, mg x = none
  _law_pen : DefOk K mg "_law_pen" s__law_pen N__law_pen P__law_pen
  _law_variables : DefOk K mg "_law_variables" s__law_variables N__law_variables P__law_variables
  _law_fresh : DefOk K mg "_law_fresh" s__law_fresh N__law_fresh P__law_fresh
  _law_draw : DefOk K mg "_law_draw" s__law_draw N__law_draw P__law_draw
  _law_atom : DefOk K mg "_law_atom" s__law_atom N__law_atom P__law_atom
  _law_some_of : DefOk K mg "_law_some_of" s__law_some_of N__law_some_of P__law_some_of
  _law_query : DefOk K mg "_law_query" s__law_query N__law_query P__law_query
  _law_rule : DefOk K mg "_law_rule" s__law_rule N__law_rule P__law_rule
  _law_one_of : DefOk K mg "_law_one_of" s__law_one_of N__law_one_of P__law_one_of
  _law_rules : DefOk K mg "_law_rules" s__law_rules N__law_rules P__law_rules
  _law_closure : DefOk K mg "_law_closure" s__law_closure N__law_closure P__law_closure
  fits : DefOk K mg "fits" s_fits N_fits P_fits
  next_rule : DefOk K mg "next_rule" s_next_rule N_next_rule P_next_rule
  longest_chain : DefOk K mg "longest_chain" s_longest_chain N_longest_chain P_longest_chain
  reached_by : DefOk K mg "reached_by" s_reached_by N_reached_by P_reached_by
  chain_for : DefOk K mg "chain_for" s_chain_for N_chain_for P_chain_for
  closure_of : DefOk K mg "closure_of" s_closure_of N_closure_of P_closure_of
  _law_chain_break : DefOk K mg "_law_chain_break" s__law_chain_break N__law_chain_break P__law_chain_break
  _law_reached : DefOk K mg "_law_reached" s__law_reached N__law_reached P__law_reached
  _law_whole : DefOk K mg "_law_whole" s__law_whole N__law_whole P__law_whole
  _law_is_right : DefOk K mg "_law_is_right" s__law_is_right N__law_is_right P__law_is_right
  law : DefOk K mg "law" s_law N_law P_law
end
theorem all {P : Program} {w : World} {K : PySem.W.Frag} {mg : Str → Option Value} {base : Heap} (D : Defs K mg) (fuel : Nat) : ∀ k, All P w K mg base fuel k
  | 0 => ⟨fnT_zero D._law_pen, fnT_zero D._law_variables, fnT_zero D._law_fresh, fnT_zero D._law_draw, fnT_zero D._law_atom, fnT_zero D._law_some_of, fnT_zero D._law_query, fnT_zero D._law_rule, fnT_zero D._law_one_of, fnT_zero D._law_rules, fnT_zero D._law_closure, fnT_zero D.fits, fnT_zero D.next_rule, fnT_zero D.longest_chain, fnT_zero D.reached_by, fnT_zero D.chain_for, fnT_zero D.closure_of, fnT_zero D._law_chain_break, fnT_zero D._law_reached, fnT_zero D._law_whole, fnT_zero D._law_is_right, fnT_zero D.law⟩
  | k + 1 =>
    have h := all (P := P) (w := w) (base := base) D fuel k
    ⟨by rw [fn__law_pen]; exact fnT_of D._law_pen D.no (lev_same _ _ _) (b__law_pen ),
     by rw [fn__law_variables]; exact fnT_of D._law_variables D.no (lev_same _ _ _) (b__law_variables ),
     by rw [fn__law_fresh]; exact fnT_of D._law_fresh D.no (lev_same _ _ _) (b__law_fresh ),
     by rw [fn__law_draw]; exact fnT_of D._law_draw D.no (lev_same _ _ _) (b__law_draw h._law_fresh),
     by rw [fn__law_atom]; exact fnT_of D._law_atom D.no (lev_same _ _ _) (b__law_atom h._law_draw),
     by rw [fn__law_some_of]; exact fnT_of D._law_some_of D.no (lev_same _ _ _) (b__law_some_of h._law_draw),
     by rw [fn__law_query]; exact fnT_of D._law_query D.no (lev_same _ _ _) (b__law_query h._law_draw h._law_atom h._law_variables h._law_some_of),
     by rw [fn__law_rule]; exact fnT_of D._law_rule D.no (lev_same _ _ _) (b__law_rule h._law_draw h._law_some_of),
     by rw [fn__law_one_of]; exact fnT_of D._law_one_of D.no (lev_same _ _ _) (b__law_one_of h._law_draw),
     by rw [fn__law_rules]; exact fnT_of D._law_rules D.no (lev_same _ _ _) (b__law_rules h._law_draw h._law_one_of h._law_rule),
     by rw [fn__law_closure]; exact fnT_of D._law_closure D.no (lev_same _ _ _) (b__law_closure ),
     by rw [fn_fits]; exact fnT_of D.fits D.no (lev_same _ _ _) (b_fits ),
     by rw [fn_next_rule]; exact fnT_of D.next_rule D.no (lev_same _ _ _) (b_next_rule h.fits),
     by rw [fn_longest_chain]; exact fnT_of D.longest_chain D.no (lev_same _ _ _) (b_longest_chain h.next_rule),
     by rw [fn_reached_by]; exact fnT_of D.reached_by D.no (lev_same _ _ _) (b_reached_by ),
     by rw [fn_chain_for]; exact fnT_of D.chain_for D.no (lev_same _ _ _) (b_chain_for h.longest_chain h.reached_by),
     by rw [fn_closure_of]; exact fnT_of D.closure_of D.no (lev_same _ _ _) (b_closure_of h.longest_chain h.reached_by),
     by rw [fn__law_chain_break]; exact fnT_of D._law_chain_break D.no (lev_same _ _ _) (b__law_chain_break ),
     by rw [fn__law_reached]; exact fnT_of D._law_reached D.no (lev_same _ _ _) (b__law_reached ),
     by rw [fn__law_whole]; exact fnT_of D._law_whole D.no (lev_same _ _ _) (b__law_whole ),
     by rw [fn__law_is_right]; exact fnT_of D._law_is_right D.no (lev_same _ _ _) (b__law_is_right h._law_whole h._law_chain_break h._law_reached),
     by rw [fn_law]; exact fnT_of D.law D.no (lev_same _ _ _) (b_law h._law_pen h._law_query h._law_rules h._law_variables h._law_one_of h._law_some_of h._law_closure h.closure_of h.chain_for h._law_is_right)⟩
theorem law_head {P : Program} {w : World} {K : PySem.W.Frag} {mg : Str → Option Value} (D : Defs K mg) (fuel k : Nat) {fa : Addr} (h : mg "law" = some (.ref fa)) : ∃ fd : FuncData, (∀ (s : Shared) (u : Value), BindsTo s fd ⟨[u], []⟩ [("script", u)]) ∧
    ∀ base : Heap, K.In base → base.Ns mainGlobals mg → FnG P w K mg base (k + 1) fa fd P_law 1 ((L fuel (k + 1)).fn "law") := by
  obtain ⟨f, fd, F, hm, hb⟩ := D.law.at_
  cases Option.some.inj (hm.symm.trans h)
  refine ⟨fd, ?_, fun base _ _ => ?_⟩
  · obtain ⟨oc, od, kV, doc, pm, an, cdv, ct, osl, rfl, lk, hcd⟩ := F.ex
    exact fun s u => .of_eq rfl
  · have h := all (P := P) (w := w) (base := base) D fuel k
    rw [fn_law]
    exact fnG_of F D.law.sc D.no (lev_same _ _ _) (b_law h._law_pen h._law_query h._law_rules h._law_variables h._law_one_of h._law_some_of h._law_closure h.closure_of h.chain_for h._law_is_right _)
section
theorem of_walk {K : PySem.W.Frag} {h : Heap} {mg : Str → Option Value} (X : K.In h) (G : h.Ns mainGlobals mg)
    {f0 : Addr} {od0 an0 : Option Addr} {sl0 : Array (Option Value)} {oc0 kV0 dc0 pm0 cd0 ct0 : Value}
    (a0 : PySem.W.nsIn K mainGlobals "_law_pen" = some (some (.ref f0))) (l0 : K.lookup f0 = some ⟨oc0, od0, .func (PySem.W.fnOf "_law_pen" "_law_pen" (defArgs s__law_pen) (defBody s__law_pen) (defScope s__law_pen) .none kV0 dc0 pm0 an0 cd0 ct0), sl0⟩) (c0 : PySem.W.codeIn K cd0 "_law_pen" = true) (k0 : PySem.W.keepIn K (.ref f0) = true)
    {f1 : Addr} {od1 an1 : Option Addr} {sl1 : Array (Option Value)} {oc1 kV1 dc1 pm1 cd1 ct1 : Value}
    (a1 : PySem.W.nsIn K mainGlobals "_law_variables" = some (some (.ref f1))) (l1 : K.lookup f1 = some ⟨oc1, od1, .func (PySem.W.fnOf "_law_variables" "_law_variables" (defArgs s__law_variables) (defBody s__law_variables) (defScope s__law_variables) .none kV1 dc1 pm1 an1 cd1 ct1), sl1⟩) (c1 : PySem.W.codeIn K cd1 "_law_variables" = true) (k1 : PySem.W.keepIn K (.ref f1) = true)
    {f2 : Addr} {od2 an2 : Option Addr} {sl2 : Array (Option Value)} {oc2 kV2 dc2 pm2 cd2 ct2 : Value}
    (a2 : PySem.W.nsIn K mainGlobals "_law_fresh" = some (some (.ref f2))) (l2 : K.lookup f2 = some ⟨oc2, od2, .func (PySem.W.fnOf "_law_fresh" "_law_fresh" (defArgs s__law_fresh) (defBody s__law_fresh) (defScope s__law_fresh) .none kV2 dc2 pm2 an2 cd2 ct2), sl2⟩) (c2 : PySem.W.codeIn K cd2 "_law_fresh" = true) (k2 : PySem.W.keepIn K (.ref f2) = true)
    {f3 : Addr} {od3 an3 : Option Addr} {sl3 : Array (Option Value)} {oc3 kV3 dc3 pm3 cd3 ct3 : Value}
    (a3 : PySem.W.nsIn K mainGlobals "_law_draw" = some (some (.ref f3))) (l3 : K.lookup f3 = some ⟨oc3, od3, .func (PySem.W.fnOf "_law_draw" "_law_draw" (defArgs s__law_draw) (defBody s__law_draw) (defScope s__law_draw) .none kV3 dc3 pm3 an3 cd3 ct3), sl3⟩) (c3 : PySem.W.codeIn K cd3 "_law_draw" = true) (k3 : PySem.W.keepIn K (.ref f3) = true)
    {f4 : Addr} {od4 an4 : Option Addr} {sl4 : Array (Option Value)} {oc4 kV4 dc4 pm4 cd4 ct4 : Value}
    (a4 : PySem.W.nsIn K mainGlobals "_law_atom" = some (some (.ref f4))) (l4 : K.lookup f4 = some ⟨oc4, od4, .func (PySem.W.fnOf "_law_atom" "_law_atom" (defArgs s__law_atom) (defBody s__law_atom) (defScope s__law_atom) .none kV4 dc4 pm4 an4 cd4 ct4), sl4⟩) (c4 : PySem.W.codeIn K cd4 "_law_atom" = true) (k4 : PySem.W.keepIn K (.ref f4) = true)
    {f5 : Addr} {od5 an5 : Option Addr} {sl5 : Array (Option Value)} {oc5 kV5 dc5 pm5 cd5 ct5 : Value}
    (a5 : PySem.W.nsIn K mainGlobals "_law_some_of" = some (some (.ref f5))) (l5 : K.lookup f5 = some ⟨oc5, od5, .func (PySem.W.fnOf "_law_some_of" "_law_some_of" (defArgs s__law_some_of) (defBody s__law_some_of) (defScope s__law_some_of) .none kV5 dc5 pm5 an5 cd5 ct5), sl5⟩) (c5 : PySem.W.codeIn K cd5 "_law_some_of" = true) (k5 : PySem.W.keepIn K (.ref f5) = true)
    {f6 : Addr} {od6 an6 : Option Addr} {sl6 : Array (Option Value)} {oc6 kV6 dc6 pm6 cd6 ct6 : Value}
    (a6 : PySem.W.nsIn K mainGlobals "_law_query" = some (some (.ref f6))) (l6 : K.lookup f6 = some ⟨oc6, od6, .func (PySem.W.fnOf "_law_query" "_law_query" (defArgs s__law_query) (defBody s__law_query) (defScope s__law_query) .none kV6 dc6 pm6 an6 cd6 ct6), sl6⟩) (c6 : PySem.W.codeIn K cd6 "_law_query" = true) (k6 : PySem.W.keepIn K (.ref f6) = true)
    {f7 : Addr} {od7 an7 : Option Addr} {sl7 : Array (Option Value)} {oc7 kV7 dc7 pm7 cd7 ct7 : Value}
    (a7 : PySem.W.nsIn K mainGlobals "_law_rule" = some (some (.ref f7))) (l7 : K.lookup f7 = some ⟨oc7, od7, .func (PySem.W.fnOf "_law_rule" "_law_rule" (defArgs s__law_rule) (defBody s__law_rule) (defScope s__law_rule) .none kV7 dc7 pm7 an7 cd7 ct7), sl7⟩) (c7 : PySem.W.codeIn K cd7 "_law_rule" = true) (k7 : PySem.W.keepIn K (.ref f7) = true)
    {f8 : Addr} {od8 an8 : Option Addr} {sl8 : Array (Option Value)} {oc8 kV8 dc8 pm8 cd8 ct8 : Value}
    (a8 : PySem.W.nsIn K mainGlobals "_law_one_of" = some (some (.ref f8))) (l8 : K.lookup f8 = some ⟨oc8, od8, .func (PySem.W.fnOf "_law_one_of" "_law_one_of" (defArgs s__law_one_of) (defBody s__law_one_of) (defScope s__law_one_of) .none kV8 dc8 pm8 an8 cd8 ct8), sl8⟩) (c8 : PySem.W.codeIn K cd8 "_law_one_of" = true) (k8 : PySem.W.keepIn K (.ref f8) = true)
    {f9 : Addr} {od9 an9 : Option Addr} {sl9 : Array (Option Value)} {oc9 kV9 dc9 pm9 cd9 ct9 : Value}
    (a9 : PySem.W.nsIn K mainGlobals "_law_rules" = some (some (.ref f9))) (l9 : K.lookup f9 = some ⟨oc9, od9, .func (PySem.W.fnOf "_law_rules" "_law_rules" (defArgs s__law_rules) (defBody s__law_rules) (defScope s__law_rules) .none kV9 dc9 pm9 an9 cd9 ct9), sl9⟩) (c9 : PySem.W.codeIn K cd9 "_law_rules" = true) (k9 : PySem.W.keepIn K (.ref f9) = true)
    {f10 : Addr} {od10 an10 : Option Addr} {sl10 : Array (Option Value)} {oc10 kV10 dc10 pm10 cd10 ct10 : Value}
    (a10 : PySem.W.nsIn K mainGlobals "_law_closure" = some (some (.ref f10))) (l10 : K.lookup f10 = some ⟨oc10, od10, .func (PySem.W.fnOf "_law_closure" "_law_closure" (defArgs s__law_closure) (defBody s__law_closure) (defScope s__law_closure) .none kV10 dc10 pm10 an10 cd10 ct10), sl10⟩) (c10 : PySem.W.codeIn K cd10 "_law_closure" = true) (k10 : PySem.W.keepIn K (.ref f10) = true)
    {f11 : Addr} {od11 an11 : Option Addr} {sl11 : Array (Option Value)} {oc11 kV11 dc11 pm11 cd11 ct11 : Value}
    (a11 : PySem.W.nsIn K mainGlobals "fits" = some (some (.ref f11))) (l11 : K.lookup f11 = some ⟨oc11, od11, .func (PySem.W.fnOf "fits" "fits" (defArgs s_fits) (defBody s_fits) (defScope s_fits) .none kV11 dc11 pm11 an11 cd11 ct11), sl11⟩) (c11 : PySem.W.codeIn K cd11 "fits" = true) (k11 : PySem.W.keepIn K (.ref f11) = true)
    {f12 : Addr} {od12 an12 : Option Addr} {sl12 : Array (Option Value)} {oc12 kV12 dc12 pm12 cd12 ct12 : Value}
    (a12 : PySem.W.nsIn K mainGlobals "next_rule" = some (some (.ref f12))) (l12 : K.lookup f12 = some ⟨oc12, od12, .func (PySem.W.fnOf "next_rule" "next_rule" (defArgs s_next_rule) (defBody s_next_rule) (defScope s_next_rule) .none kV12 dc12 pm12 an12 cd12 ct12), sl12⟩) (c12 : PySem.W.codeIn K cd12 "next_rule" = true) (k12 : PySem.W.keepIn K (.ref f12) = true)
    {f13 : Addr} {od13 an13 : Option Addr} {sl13 : Array (Option Value)} {oc13 kV13 dc13 pm13 cd13 ct13 : Value}
    (a13 : PySem.W.nsIn K mainGlobals "longest_chain" = some (some (.ref f13))) (l13 : K.lookup f13 = some ⟨oc13, od13, .func (PySem.W.fnOf "longest_chain" "longest_chain" (defArgs s_longest_chain) (defBody s_longest_chain) (defScope s_longest_chain) .none kV13 dc13 pm13 an13 cd13 ct13), sl13⟩) (c13 : PySem.W.codeIn K cd13 "longest_chain" = true) (k13 : PySem.W.keepIn K (.ref f13) = true)
    {f14 : Addr} {od14 an14 : Option Addr} {sl14 : Array (Option Value)} {oc14 kV14 dc14 pm14 cd14 ct14 : Value}
    (a14 : PySem.W.nsIn K mainGlobals "reached_by" = some (some (.ref f14))) (l14 : K.lookup f14 = some ⟨oc14, od14, .func (PySem.W.fnOf "reached_by" "reached_by" (defArgs s_reached_by) (defBody s_reached_by) (defScope s_reached_by) .none kV14 dc14 pm14 an14 cd14 ct14), sl14⟩) (c14 : PySem.W.codeIn K cd14 "reached_by" = true) (k14 : PySem.W.keepIn K (.ref f14) = true)
    {f15 : Addr} {od15 an15 : Option Addr} {sl15 : Array (Option Value)} {oc15 kV15 dc15 pm15 cd15 ct15 : Value}
    (a15 : PySem.W.nsIn K mainGlobals "chain_for" = some (some (.ref f15))) (l15 : K.lookup f15 = some ⟨oc15, od15, .func (PySem.W.fnOf "chain_for" "chain_for" (defArgs s_chain_for) (defBody s_chain_for) (defScope s_chain_for) .none kV15 dc15 pm15 an15 cd15 ct15), sl15⟩) (c15 : PySem.W.codeIn K cd15 "chain_for" = true) (k15 : PySem.W.keepIn K (.ref f15) = true)
    {f16 : Addr} {od16 an16 : Option Addr} {sl16 : Array (Option Value)} {oc16 kV16 dc16 pm16 cd16 ct16 : Value}
    (a16 : PySem.W.nsIn K mainGlobals "closure_of" = some (some (.ref f16))) (l16 : K.lookup f16 = some ⟨oc16, od16, .func (PySem.W.fnOf "closure_of" "closure_of" (defArgs s_closure_of) (defBody s_closure_of) (defScope s_closure_of) .none kV16 dc16 pm16 an16 cd16 ct16), sl16⟩) (c16 : PySem.W.codeIn K cd16 "closure_of" = true) (k16 : PySem.W.keepIn K (.ref f16) = true)
    {f17 : Addr} {od17 an17 : Option Addr} {sl17 : Array (Option Value)} {oc17 kV17 dc17 pm17 cd17 ct17 : Value}
    (a17 : PySem.W.nsIn K mainGlobals "_law_chain_break" = some (some (.ref f17))) (l17 : K.lookup f17 = some ⟨oc17, od17, .func (PySem.W.fnOf "_law_chain_break" "_law_chain_break" (defArgs s__law_chain_break) (defBody s__law_chain_break) (defScope s__law_chain_break) .none kV17 dc17 pm17 an17 cd17 ct17), sl17⟩) (c17 : PySem.W.codeIn K cd17 "_law_chain_break" = true) (k17 : PySem.W.keepIn K (.ref f17) = true)
    {f18 : Addr} {od18 an18 : Option Addr} {sl18 : Array (Option Value)} {oc18 kV18 dc18 pm18 cd18 ct18 : Value}
    (a18 : PySem.W.nsIn K mainGlobals "_law_reached" = some (some (.ref f18))) (l18 : K.lookup f18 = some ⟨oc18, od18, .func (PySem.W.fnOf "_law_reached" "_law_reached" (defArgs s__law_reached) (defBody s__law_reached) (defScope s__law_reached) .none kV18 dc18 pm18 an18 cd18 ct18), sl18⟩) (c18 : PySem.W.codeIn K cd18 "_law_reached" = true) (k18 : PySem.W.keepIn K (.ref f18) = true)
    {f19 : Addr} {od19 an19 : Option Addr} {sl19 : Array (Option Value)} {oc19 kV19 dc19 pm19 cd19 ct19 : Value}
    (a19 : PySem.W.nsIn K mainGlobals "_law_whole" = some (some (.ref f19))) (l19 : K.lookup f19 = some ⟨oc19, od19, .func (PySem.W.fnOf "_law_whole" "_law_whole" (defArgs s__law_whole) (defBody s__law_whole) (defScope s__law_whole) .none kV19 dc19 pm19 an19 cd19 ct19), sl19⟩) (c19 : PySem.W.codeIn K cd19 "_law_whole" = true) (k19 : PySem.W.keepIn K (.ref f19) = true)
    {f20 : Addr} {od20 an20 : Option Addr} {sl20 : Array (Option Value)} {oc20 kV20 dc20 pm20 cd20 ct20 : Value}
    (a20 : PySem.W.nsIn K mainGlobals "_law_is_right" = some (some (.ref f20))) (l20 : K.lookup f20 = some ⟨oc20, od20, .func (PySem.W.fnOf "_law_is_right" "_law_is_right" (defArgs s__law_is_right) (defBody s__law_is_right) (defScope s__law_is_right) .none kV20 dc20 pm20 an20 cd20 ct20), sl20⟩) (c20 : PySem.W.codeIn K cd20 "_law_is_right" = true) (k20 : PySem.W.keepIn K (.ref f20) = true)
    {f21 : Addr} {od21 an21 : Option Addr} {sl21 : Array (Option Value)} {oc21 kV21 dc21 pm21 cd21 ct21 : Value}
    (a21 : PySem.W.nsIn K mainGlobals "law" = some (some (.ref f21))) (l21 : K.lookup f21 = some ⟨oc21, od21, .func (PySem.W.fnOf "law" "law" (defArgs s_law) (defBody s_law) (defScope s_law) .none kV21 dc21 pm21 an21 cd21 ct21), sl21⟩) (c21 : PySem.W.codeIn K cd21 "law" = true) (k21 : PySem.W.keepIn K (.ref f21) = true)
    (z0 : PySem.W.nsIn K mainGlobals "len" = some none)
    (z1 : PySem.W.nsIn K mainGlobals "list" = some none)
    (z2 : PySem.W.nsIn K mainGlobals "tuple" = some none)
    (z3 : PySem.W.nsIn K mainGlobals "all" = some none)
    (z4 : PySem.W.nsIn K mainGlobals "any" = some none)
    (z5 : PySem.W.nsIn K mainGlobals "int" = some none)
    (z6 : PySem.W.nsIn K mainGlobals "repr" = some none)
    (z7 : PySem.W.nsIn K mainGlobals "min" = some none)
    (z8 : PySem.W.nsIn K mainGlobals "max" = some none)
    (z9 : PySem.W.nsIn K mainGlobals "sorted" = some none)
    (z10 : PySem.W.nsIn K mainGlobals "set" = some none)
    (z11 : PySem.W.nsIn K mainGlobals "range" = some none)
    (z12 : PySem.W.nsIn K mainGlobals "enumerate" = some none)
    (z13 : PySem.W.nsIn K mainGlobals "zip" = some none)
    (z14 : PySem.W.nsIn K mainGlobals "isinstance" = some none)
    (z15 : PySem.W.nsIn K mainGlobals "bool" = some none)
    (z16 : PySem.W.nsIn K mainGlobals "str" = some none)
    (z17 : PySem.W.nsIn K mainGlobals "dict" = some none)
    (z18 : PySem.W.nsIn K mainGlobals "sum" = some none)
    : Defs K mg ∧ mg "law" = some (.ref f21) := by
  have F0 := fun_mk (st := s__law_pen) l0 c0 k0
  have F1 := fun_mk (st := s__law_variables) l1 c1 k1
  have F2 := fun_mk (st := s__law_fresh) l2 c2 k2
  have F3 := fun_mk (st := s__law_draw) l3 c3 k3
  have F4 := fun_mk (st := s__law_atom) l4 c4 k4
  have F5 := fun_mk (st := s__law_some_of) l5 c5 k5
  have F6 := fun_mk (st := s__law_query) l6 c6 k6
  have F7 := fun_mk (st := s__law_rule) l7 c7 k7
  have F8 := fun_mk (st := s__law_one_of) l8 c8 k8
  have F9 := fun_mk (st := s__law_rules) l9 c9 k9
  have F10 := fun_mk (st := s__law_closure) l10 c10 k10
  have F11 := fun_mk (st := s_fits) l11 c11 k11
  have F12 := fun_mk (st := s_next_rule) l12 c12 k12
  have F13 := fun_mk (st := s_longest_chain) l13 c13 k13
  have F14 := fun_mk (st := s_reached_by) l14 c14 k14
  have F15 := fun_mk (st := s_chain_for) l15 c15 k15
  have F16 := fun_mk (st := s_closure_of) l16 c16 k16
  have F17 := fun_mk (st := s__law_chain_break) l17 c17 k17
  have F18 := fun_mk (st := s__law_reached) l18 c18 k18
  have F19 := fun_mk (st := s__law_whole) l19 c19 k19
  have F20 := fun_mk (st := s__law_is_right) l20 c20 k20
  have F21 := fun_mk (st := s_law) l21 c21 k21
  refine ⟨⟨?_, ⟨⟨_, _, F0, PySem.W.mg_of X G a0, F0.binds (ps := P__law_pen) fun _ _ _ _ _ _ us hl => match us, hl with | [_], _ => rfl⟩, sc__law_pen⟩, ⟨⟨_, _, F1, PySem.W.mg_of X G a1, F1.binds (ps := P__law_variables) fun _ _ _ _ _ _ us hl => match us, hl with | [_], _ => rfl⟩, sc__law_variables⟩, ⟨⟨_, _, F2, PySem.W.mg_of X G a2, F2.binds (ps := P__law_fresh) fun _ _ _ _ _ _ us hl => match us, hl with | [_], _ => rfl⟩, sc__law_fresh⟩, ⟨⟨_, _, F3, PySem.W.mg_of X G a3, F3.binds (ps := P__law_draw) fun _ _ _ _ _ _ us hl => match us, hl with | [_, _], _ => rfl⟩, sc__law_draw⟩, ⟨⟨_, _, F4, PySem.W.mg_of X G a4, F4.binds (ps := P__law_atom) fun _ _ _ _ _ _ us hl => match us, hl with | [_, _, _], _ => rfl⟩, sc__law_atom⟩, ⟨⟨_, _, F5, PySem.W.mg_of X G a5, F5.binds (ps := P__law_some_of) fun _ _ _ _ _ _ us hl => match us, hl with | [_, _, _], _ => rfl⟩, sc__law_some_of⟩, ⟨⟨_, _, F6, PySem.W.mg_of X G a6, F6.binds (ps := P__law_query) fun _ _ _ _ _ _ us hl => match us, hl with | [_, _, _, _], _ => rfl⟩, sc__law_query⟩, ⟨⟨_, _, F7, PySem.W.mg_of X G a7, F7.binds (ps := P__law_rule) fun _ _ _ _ _ _ us hl => match us, hl with | [_, _], _ => rfl⟩, sc__law_rule⟩, ⟨⟨_, _, F8, PySem.W.mg_of X G a8, F8.binds (ps := P__law_one_of) fun _ _ _ _ _ _ us hl => match us, hl with | [_, _], _ => rfl⟩, sc__law_one_of⟩, ⟨⟨_, _, F9, PySem.W.mg_of X G a9, F9.binds (ps := P__law_rules) fun _ _ _ _ _ _ us hl => match us, hl with | [_, _], _ => rfl⟩, sc__law_rules⟩, ⟨⟨_, _, F10, PySem.W.mg_of X G a10, F10.binds (ps := P__law_closure) fun _ _ _ _ _ _ us hl => match us, hl with | [_, _], _ => rfl⟩, sc__law_closure⟩, ⟨⟨_, _, F11, PySem.W.mg_of X G a11, F11.binds (ps := P_fits) fun _ _ _ _ _ _ us hl => match us, hl with | [_, _], _ => rfl⟩, sc_fits⟩, ⟨⟨_, _, F12, PySem.W.mg_of X G a12, F12.binds (ps := P_next_rule) fun _ _ _ _ _ _ us hl => match us, hl with | [_, _], _ => rfl⟩, sc_next_rule⟩, ⟨⟨_, _, F13, PySem.W.mg_of X G a13, F13.binds (ps := P_longest_chain) fun _ _ _ _ _ _ us hl => match us, hl with | [_, _], _ => rfl⟩, sc_longest_chain⟩, ⟨⟨_, _, F14, PySem.W.mg_of X G a14, F14.binds (ps := P_reached_by) fun _ _ _ _ _ _ us hl => match us, hl with | [_, _, _], _ => rfl⟩, sc_reached_by⟩, ⟨⟨_, _, F15, PySem.W.mg_of X G a15, F15.binds (ps := P_chain_for) fun _ _ _ _ _ _ us hl => match us, hl with | [_, _, _, _], _ => rfl⟩, sc_chain_for⟩, ⟨⟨_, _, F16, PySem.W.mg_of X G a16, F16.binds (ps := P_closure_of) fun _ _ _ _ _ _ us hl => match us, hl with | [_, _, _], _ => rfl⟩, sc_closure_of⟩, ⟨⟨_, _, F17, PySem.W.mg_of X G a17, F17.binds (ps := P__law_chain_break) fun _ _ _ _ _ _ us hl => match us, hl with | [_, _, _], _ => rfl⟩, sc__law_chain_break⟩, ⟨⟨_, _, F18, PySem.W.mg_of X G a18, F18.binds (ps := P__law_reached) fun _ _ _ _ _ _ us hl => match us, hl with | [_, _, _], _ => rfl⟩, sc__law_reached⟩, ⟨⟨_, _, F19, PySem.W.mg_of X G a19, F19.binds (ps := P__law_whole) fun _ _ _ _ _ _ us hl => match us, hl with | [_, _, _], _ => rfl⟩, sc__law_whole⟩, ⟨⟨_, _, F20, PySem.W.mg_of X G a20, F20.binds (ps := P__law_is_right) fun _ _ _ _ _ _ us hl => match us, hl with | [_, _, _, _], _ => rfl⟩, sc__law_is_right⟩, ⟨⟨_, _, F21, PySem.W.mg_of X G a21, F21.binds (ps := P_law) fun _ _ _ _ _ _ us hl => match us, hl with | [_], _ => rfl⟩, sc_law⟩⟩, PySem.W.mg_of X G a21⟩
  intro x hx
  simp only [bltNames, List.mem_cons, List.not_mem_nil, or_false] at hx
  rcases hx with rfl | rfl | rfl | rfl | rfl | rfl | rfl | rfl | rfl | rfl | rfl | rfl | rfl | rfl | rfl | rfl | rfl | rfl | rfl
  · exact PySem.W.mg_none_of X G z0
  · exact PySem.W.mg_none_of X G z1
  · exact PySem.W.mg_none_of X G z2
  · exact PySem.W.mg_none_of X G z3
  · exact PySem.W.mg_none_of X G z4
  · exact PySem.W.mg_none_of X G z5
  · exact PySem.W.mg_none_of X G z6
  · exact PySem.W.mg_none_of X G z7
  · exact PySem.W.mg_none_of X G z8
  · exact PySem.W.mg_none_of X G z9
  · exact PySem.W.mg_none_of X G z10
  · exact PySem.W.mg_none_of X G z11
  · exact PySem.W.mg_none_of X G z12
  · exact PySem.W.mg_none_of X G z13
  · exact PySem.W.mg_none_of X G z14
  · exact PySem.W.mg_none_of X G z15
  · exact PySem.W.mg_none_of X G z16
  · exact PySem.W.mg_none_of X G z17
  · exact PySem.W.mg_none_of X G z18
end
end K03

namespace K03
open PySem Mir
def PenAt (s : MS) : Prop := ∃ (cells : List Int) (seat left : Int), getL s 1 = some (cells.map D.int) ∧ getL s 2 = some [.ref 1, .int seat, .int left] ∧ cells.length ≤ 63
def Ext (s s' : MS) : Prop := s.length ≤ s'.length ∧ ∀ i, i < s.length → i ≠ 2 → s'[i]? = s[i]?
theorem Ext.refl (s : MS) : Ext s s := ⟨Nat.le_refl _, fun _ _ _ => rfl⟩
theorem Ext.trans {a b c : MS} (h : Ext a b) (k : Ext b c) : Ext a c := ⟨Nat.le_trans h.1 k.1, fun i hi h2 => (k.2 i (Nat.lt_of_lt_of_le hi h.1) h2).trans (h.2 i hi h2)⟩
theorem Ext.app (s t : MS) : Ext s (s ++ t) := ⟨by rw [List.length_append]; omega, fun i hi _ => List.getElem?_append_left hi⟩
theorem Ext.pen (s : MS) (o : MO) : Ext s (s.set 2 o) := ⟨by rw [List.length_set]; omega, fun i _ h => List.getElem?_set_ne (Ne.symm h)⟩
theorem Ext.getL {s s' : MS} (h : Ext s s') {i : Nat} {xs : List D} (q : Mir.getL s i = some xs) (hi : i ≠ 2) : Mir.getL s' i = some xs := (getL_eq (h.2 i (getL_lt q) hi)).trans q
theorem PenAt.app {s t : MS} (h : PenAt s) : PenAt (s ++ t) := let ⟨c, a, b, h1, h2, h3⟩ := h; ⟨c, a, b, getL_app h1, getL_app h2, h3⟩
theorem ix31 : L2.ixN 3 1 = some 1 := by decide
theorem ix32 : L2.ixN 3 2 = some 2 := by decide
theorem atI_ints {ns : List Int} {i : Int} (h0 : 0 ≤ i) (h1 : i < ns.length) : ∃ c, L2.atI (ns.map D.int) i = some (.int c) ∧ c ∈ ns := by
  obtain ⟨j, rfl⟩ := Int.eq_ofNat_of_zero_le h0
  have hj : j < ns.length := by omega
  refine ⟨ns[j], L2.atI_nat ?_, List.getElem_mem hj⟩
  rw [List.getElem?_map, List.getElem?_eq_getElem hj]
  rfl
theorem fresh_ok (fuel k : Nat) (s : MS) (h : PenAt s) : okR ((L fuel (k + 1)).fn "_law_fresh" [.ref 2] s) (fun d s' => (∃ i, d = .int i) ∧ PenAt s' ∧ Ext s s') := by
  obtain ⟨cells, seat, left, h1, h2, hc⟩ := h
  rw [fn__law_fresh]
  refine okR_fnD ?_
  unfold c__law_fresh
  rw [okS_cons]
  simp only [okR_some, okR_none, okS_nx, okS_rt, okS_bk, okS_ct, okR_ok, okR_ite, okS_ite, okS_nil, okR_and, okR_or, okR_chn, truth_bl, gc_app, gc_self, cmp_le, cmp_lt, e_var, e_cst, e_tup, e_lst, e_bin, e_neg, e_not, e_cmp, e_isN, e_ntN, e_ite, e_call, e_blt, e_isa, e_mth, e_ix, e_sl, e_lc, es_nil, es_cons, ts_nil', ts_one', lc_turn, it_seq, it_enm, it_zip, it_rng, rng_1, rng_2, okT_some, x_asg, x_par, x_sub, x_expr, x_ret, x_if, x_for, for_turn, x_while, wh_test, x_pass, x_brk, x_cnt, asg_nm, asg_tup, asg_cons, asg_nil, List.getElem?_cons_zero, List.getElem?_cons_succ, List.set_cons_zero, List.set_cons_succ, List.length_cons, List.length_nil, List.map_cons, List.map_nil, List.replicate, List.cons_append, List.nil_append, Option.bind_some, Option.map_some, Option.map_none, Nat.reduceAdd, Nat.reduceSub, Nat.reduceLT, ↓reduceIte, wipeE, ite_self, Option.join_some, Bool.not_true, Bool.not_false, Bool.false_eq_true, and_self, and_true, true_and, isNon, partD, okO_some, okO_none, ok_srcT, ok_srcL, ok_enmT, ok_enmL, seq_ref, lst_ref, b_lenT, b_lenL, b_lenR, b_listT, b_listL, b_listR, b_tupT, b_tupR, b_all, b_any, b_int, b_min, b_max, b_repr, b_ssetR, b_lsetT, b_sortR, b_rangeL1, x_ixT, x_ixR, x_ixL, x_set, m_append, m_extend, m_popAt, c_eq, c_ne, c_in, c_ni, c_lt, c_le, c_gt, c_ge, t_bl, t_ref, o_add, o_sub, o_mul, o_mod, o_div, o_pow, o_cat, n_new, i_tup, i_int, i_non, s_lT0, s_lL0, at_0, at_1, at_2, h1, h2]
  rw [okS_cons]
  simp only [okR_some, okR_none, okS_nx, okS_rt, okS_bk, okS_ct, okR_ok, okR_ite, okS_ite, okS_nil, okR_and, okR_or, okR_chn, truth_bl, gc_app, gc_self, cmp_le, cmp_lt, e_var, e_cst, e_tup, e_lst, e_bin, e_neg, e_not, e_cmp, e_isN, e_ntN, e_ite, e_call, e_blt, e_isa, e_mth, e_ix, e_sl, e_lc, es_nil, es_cons, ts_nil', ts_one', lc_turn, it_seq, it_enm, it_zip, it_rng, rng_1, rng_2, okT_some, x_asg, x_par, x_sub, x_expr, x_ret, x_if, x_for, for_turn, x_while, wh_test, x_pass, x_brk, x_cnt, asg_nm, asg_tup, asg_cons, asg_nil, List.getElem?_cons_zero, List.getElem?_cons_succ, List.set_cons_zero, List.set_cons_succ, List.length_cons, List.length_nil, List.map_cons, List.map_nil, List.replicate, List.cons_append, List.nil_append, Option.bind_some, Option.map_some, Option.map_none, Nat.reduceAdd, Nat.reduceSub, Nat.reduceLT, ↓reduceIte, wipeE, ite_self, Option.join_some, Bool.not_true, Bool.not_false, Bool.false_eq_true, and_self, and_true, true_and, isNon, partD, okO_some, okO_none, ok_srcT, ok_srcL, ok_enmT, ok_enmL, seq_ref, lst_ref, b_lenT, b_lenL, b_lenR, b_listT, b_listL, b_listR, b_tupT, b_tupR, b_all, b_any, b_int, b_min, b_max, b_repr, b_ssetR, b_lsetT, b_sortR, b_rangeL1, x_ixT, x_ixR, x_ixL, x_set, m_append, m_extend, m_popAt, c_eq, c_ne, c_in, c_ni, c_lt, c_le, c_gt, c_ge, t_bl, t_ref, o_add, o_sub, o_mul, o_mod, o_div, o_pow, o_cat, n_new, i_tup, i_int, i_non, s_lT0, s_lL0, at_0, at_1, at_2, h1, h2, ix31]
  generalize hS : List.set s 2 _ = S
  have e1 : getL S 1 = some (cells.map D.int) := by rw [← hS, getL_ne (by decide), h1]
  have e2 : getL S 2 = some [.ref 1, .int (seat + 1), .int left] := by rw [← hS]; exact getL_set h2
  have eX : Ext s S := by rw [← hS]; exact Ext.pen _ _
  have eP : PenAt S := ⟨cells, _, _, e1, e2, hc⟩
  -- the result
  have fin : ∀ i, okR (gcD (L fuel k) s (.ok (.int i) S)) (fun d s' => (∃ i, d = .int i) ∧ PenAt s' ∧ Ext s s') := fun i =>
    gc_end ⟨⟨i, rfl⟩, eP, eX⟩ (fun _ _ => ⟨⟨i, rfl⟩, ⟨cells, seat, left, h1, h2, hc⟩, Ext.refl s⟩) (lev_same _ _ _)
  rw [okS_cons]
  simp only [okR_some, okR_none, okS_nx, okS_rt, okS_bk, okS_ct, okR_ok, okR_ite, okS_ite, okS_nil, okR_and, okR_or, okR_chn, truth_bl, gc_app, gc_self, cmp_le, cmp_lt, e_var, e_cst, e_tup, e_lst, e_bin, e_neg, e_not, e_cmp, e_isN, e_ntN, e_ite, e_call, e_blt, e_isa, e_mth, e_ix, e_sl, e_lc, es_nil, es_cons, ts_nil', ts_one', lc_turn, it_seq, it_enm, it_zip, it_rng, rng_1, rng_2, okT_some, x_asg, x_par, x_sub, x_expr, x_ret, x_if, x_for, for_turn, x_while, wh_test, x_pass, x_brk, x_cnt, asg_nm, asg_tup, asg_cons, asg_nil, List.getElem?_cons_zero, List.getElem?_cons_succ, List.set_cons_zero, List.set_cons_succ, List.length_cons, List.length_nil, List.map_cons, List.map_nil, List.replicate, List.cons_append, List.nil_append, Option.bind_some, Option.map_some, Option.map_none, Nat.reduceAdd, Nat.reduceSub, Nat.reduceLT, ↓reduceIte, wipeE, ite_self, Option.join_some, Bool.not_true, Bool.not_false, Bool.false_eq_true, and_self, and_true, true_and, isNon, partD, okO_some, okO_none, ok_srcT, ok_srcL, ok_enmT, ok_enmL, seq_ref, lst_ref, b_lenT, b_lenL, b_lenR, b_listT, b_listL, b_listR, b_tupT, b_tupR, b_all, b_any, b_int, b_min, b_max, b_repr, b_ssetR, b_lsetT, b_sortR, b_rangeL1, x_ixT, x_ixR, x_ixL, x_set, m_append, m_extend, m_popAt, c_eq, c_ne, c_in, c_ni, c_lt, c_le, c_gt, c_ge, t_bl, t_ref, o_add, o_sub, o_mul, o_mod, o_div, o_pow, o_cat, n_new, i_tup, i_int, i_non, s_lT0, s_lL0, at_0, at_1, at_2, e1, e2]
  rw [eq_L0 (ns := cells) (getL_app e1) getL_new]
  simp only [okR_some, okR_none, okS_nx, okS_rt, okS_bk, okS_ct, okR_ok, okR_ite, okS_ite, okS_nil, okR_and, okR_or, okR_chn, truth_bl, gc_app, gc_self, cmp_le, cmp_lt, e_var, e_cst, e_tup, e_lst, e_bin, e_neg, e_not, e_cmp, e_isN, e_ntN, e_ite, e_call, e_blt, e_isa, e_mth, e_ix, e_sl, e_lc, es_nil, es_cons, ts_nil', ts_one', lc_turn, it_seq, it_enm, it_zip, it_rng, rng_1, rng_2, okT_some, x_asg, x_par, x_sub, x_expr, x_ret, x_if, x_for, for_turn, x_while, wh_test, x_pass, x_brk, x_cnt, asg_nm, asg_tup, asg_cons, asg_nil, List.getElem?_cons_zero, List.getElem?_cons_succ, List.set_cons_zero, List.set_cons_succ, List.length_cons, List.length_nil, List.map_cons, List.map_nil, List.replicate, List.cons_append, List.nil_append, Option.bind_some, Option.map_some, Option.map_none, Nat.reduceAdd, Nat.reduceSub, Nat.reduceLT, ↓reduceIte, wipeE, ite_self, Option.join_some, Bool.not_true, Bool.not_false, Bool.false_eq_true, and_self, and_true, true_and, isNon, partD, okO_some, okO_none, ok_srcT, ok_srcL, ok_enmT, ok_enmL, seq_ref, lst_ref, b_lenT, b_lenL, b_lenR, b_listT, b_listL, b_listR, b_tupT, b_tupR, b_all, b_any, b_int, b_min, b_max, b_repr, b_ssetR, b_lsetT, b_sortR, b_rangeL1, x_ixT, x_ixR, x_ixL, x_set, m_append, m_extend, m_popAt, c_eq, c_ne, c_in, c_ni, c_lt, c_le, c_gt, c_ge, t_bl, t_ref, o_add, o_sub, o_mul, o_mod, o_div, o_pow, o_cat, n_new, i_tup, i_int, i_non, s_lT0, s_lL0, at_0, at_1, at_2]
  suffices rest : ∀ cell : Int, okS (exSs (L fuel k) (c__law_fresh.drop 3) [some (.ref 2), some (.int seat), some (.ref 1), some (.int cell), none, none, none, none] S) ⟨fun x s' => okR (gcD (L fuel k) s (R.ok D.non s')) fun d s' => (∃ i, d = D.int i) ∧ PenAt s' ∧ Ext s s', fun d s' => okR (gcD (L fuel k) s (R.ok d s')) fun d s' => (∃ i, d = D.int i) ∧ PenAt s' ∧ Ext s s', fun _ _ => False, fun _ _ => False⟩ by
    by_cases hz : cells = []
    · rw [if_neg (by simp [hz])]
      exact rest 0
    · rw [if_pos (by simp [hz])]
      have hl : 0 < ((cells.map D.int).length : Int) := by
        rw [List.length_map]
        have : 0 < cells.length := List.length_pos_iff.mpr hz
        omega
      rw [if_pos hl]
      obtain ⟨c, hc1, _⟩ := atI_ints (ns := cells) (i := seat % ((cells.map D.int).length : Int)) (Int.emod_nonneg _ (by omega)) (by
        have := Int.emod_lt_of_pos seat hl
        rw [List.length_map] at this ⊢
        exact this)
      rw [hc1]
      exact rest c
  intro cell
  simp only [c__law_fresh, List.drop_succ_cons, List.drop_zero]
  have tail : okS (exSs (L fuel k) (c__law_fresh.drop 4) [some (.ref 2), some (.int seat), some (.ref 1), some (.int cell), none, none, none, none] S) ⟨fun x s' => okR (gcD (L fuel k) s (R.ok D.non s')) fun d s' => (∃ i, d = D.int i) ∧ PenAt s' ∧ Ext s s', fun d s' => okR (gcD (L fuel k) s (R.ok d s')) fun d s' => (∃ i, d = D.int i) ∧ PenAt s' ∧ Ext s s', fun _ _ => False, fun _ _ => False⟩ := by
    simp only [c__law_fresh, List.drop_succ_cons, List.drop_zero]
    rw [okS_cons]
    simp only [okR_some, okR_none, okS_nx, okS_rt, okS_bk, okS_ct, okR_ok, okR_ite, okS_ite, okS_nil, okR_and, okR_or, okR_chn, truth_bl, gc_app, gc_self, cmp_le, cmp_lt, e_var, e_cst, e_tup, e_lst, e_bin, e_neg, e_not, e_cmp, e_isN, e_ntN, e_ite, e_call, e_blt, e_isa, e_mth, e_ix, e_sl, e_lc, es_nil, es_cons, ts_nil', ts_one', lc_turn, it_seq, it_enm, it_zip, it_rng, rng_1, rng_2, okT_some, x_asg, x_par, x_sub, x_expr, x_ret, x_if, x_for, for_turn, x_while, wh_test, x_pass, x_brk, x_cnt, asg_nm, asg_tup, asg_cons, asg_nil, List.getElem?_cons_zero, List.getElem?_cons_succ, List.set_cons_zero, List.set_cons_succ, List.length_cons, List.length_nil, List.map_cons, List.map_nil, List.replicate, List.cons_append, List.nil_append, Option.bind_some, Option.map_some, Option.map_none, Nat.reduceAdd, Nat.reduceSub, Nat.reduceLT, ↓reduceIte, wipeE, ite_self, Option.join_some, Bool.not_true, Bool.not_false, Bool.false_eq_true, and_self, and_true, true_and, isNon, partD, okO_some, okO_none, ok_srcT, ok_srcL, ok_enmT, ok_enmL, seq_ref, lst_ref, b_lenT, b_lenL, b_lenR, b_listT, b_listL, b_listR, b_tupT, b_tupR, b_all, b_any, b_int, b_min, b_max, b_repr, b_ssetR, b_lsetT, b_sortR, b_rangeL1, x_ixT, x_ixR, x_ixL, x_set, m_append, m_extend, m_popAt, c_eq, c_ne, c_in, c_ni, c_lt, c_le, c_gt, c_ge, t_bl, t_ref, o_add, o_sub, o_mul, o_mod, o_div, o_pow, o_cat, n_new, i_tup, i_int, i_non, s_lT0, s_lL0, at_0, at_1, at_2]
    rw [okS_cons]
    simp only [okR_some, okR_none, okS_nx, okS_rt, okS_bk, okS_ct, okR_ok, okR_ite, okS_ite, okS_nil, okR_and, okR_or, okR_chn, truth_bl, gc_app, gc_self, cmp_le, cmp_lt, e_var, e_cst, e_tup, e_lst, e_bin, e_neg, e_not, e_cmp, e_isN, e_ntN, e_ite, e_call, e_blt, e_isa, e_mth, e_ix, e_sl, e_lc, es_nil, es_cons, ts_nil', ts_one', lc_turn, it_seq, it_enm, it_zip, it_rng, rng_1, rng_2, okT_some, x_asg, x_par, x_sub, x_expr, x_ret, x_if, x_for, for_turn, x_while, wh_test, x_pass, x_brk, x_cnt, asg_nm, asg_tup, asg_cons, asg_nil, List.getElem?_cons_zero, List.getElem?_cons_succ, List.set_cons_zero, List.set_cons_succ, List.length_cons, List.length_nil, List.map_cons, List.map_nil, List.replicate, List.cons_append, List.nil_append, Option.bind_some, Option.map_some, Option.map_none, Nat.reduceAdd, Nat.reduceSub, Nat.reduceLT, ↓reduceIte, wipeE, ite_self, Option.join_some, Bool.not_true, Bool.not_false, Bool.false_eq_true, and_self, and_true, true_and, isNon, partD, okO_some, okO_none, ok_srcT, ok_srcL, ok_enmT, ok_enmL, seq_ref, lst_ref, b_lenT, b_lenL, b_lenR, b_listT, b_listL, b_listR, b_tupT, b_tupR, b_all, b_any, b_int, b_min, b_max, b_repr, b_ssetR, b_lsetT, b_sortR, b_rangeL1, x_ixT, x_ixR, x_ixL, x_set, m_append, m_extend, m_popAt, c_eq, c_ne, c_in, c_ni, c_lt, c_le, c_gt, c_ge, t_bl, t_ref, o_add, o_sub, o_mul, o_mod, o_div, o_pow, o_cat, n_new, i_tup, i_int, i_non, s_lT0, s_lL0, at_0, at_1, at_2]
    rw [if_pos (small_r (by decide)), if_pos (small_l (by decide)), if_pos (by decide), okS_cons]
    simp only [okR_some, okR_none, okS_nx, okS_rt, okS_bk, okS_ct, okR_ok, okR_ite, okS_ite, okS_nil, okR_and, okR_or, okR_chn, truth_bl, gc_app, gc_self, cmp_le, cmp_lt, e_var, e_cst, e_tup, e_lst, e_bin, e_neg, e_not, e_cmp, e_isN, e_ntN, e_ite, e_call, e_blt, e_isa, e_mth, e_ix, e_sl, e_lc, es_nil, es_cons, ts_nil', ts_one', lc_turn, it_seq, it_enm, it_zip, it_rng, rng_1, rng_2, okT_some, x_asg, x_par, x_sub, x_expr, x_ret, x_if, x_for, for_turn, x_while, wh_test, x_pass, x_brk, x_cnt, asg_nm, asg_tup, asg_cons, asg_nil, List.getElem?_cons_zero, List.getElem?_cons_succ, List.set_cons_zero, List.set_cons_succ, List.length_cons, List.length_nil, List.map_cons, List.map_nil, List.replicate, List.cons_append, List.nil_append, Option.bind_some, Option.map_some, Option.map_none, Nat.reduceAdd, Nat.reduceSub, Nat.reduceLT, ↓reduceIte, wipeE, ite_self, Option.join_some, Bool.not_true, Bool.not_false, Bool.false_eq_true, and_self, and_true, true_and, isNon, partD, okO_some, okO_none, ok_srcT, ok_srcL, ok_enmT, ok_enmL, seq_ref, lst_ref, b_lenT, b_lenL, b_lenR, b_listT, b_listL, b_listR, b_tupT, b_tupR, b_all, b_any, b_int, b_min, b_max, b_repr, b_ssetR, b_lsetT, b_sortR, b_rangeL1, x_ixT, x_ixR, x_ixL, x_set, m_append, m_extend, m_popAt, c_eq, c_ne, c_in, c_ni, c_lt, c_le, c_gt, c_ge, t_bl, t_ref, o_add, o_sub, o_mul, o_mod, o_div, o_pow, o_cat, n_new, i_tup, i_int, i_non, s_lT0, s_lL0, at_0, at_1, at_2]
    rw [okS_cons]
    simp only [okR_some, okR_none, okS_nx, okS_rt, okS_bk, okS_ct, okR_ok, okR_ite, okS_ite, okS_nil, okR_and, okR_or, okR_chn, truth_bl, gc_app, gc_self, cmp_le, cmp_lt, e_var, e_cst, e_tup, e_lst, e_bin, e_neg, e_not, e_cmp, e_isN, e_ntN, e_ite, e_call, e_blt, e_isa, e_mth, e_ix, e_sl, e_lc, es_nil, es_cons, ts_nil', ts_one', lc_turn, it_seq, it_enm, it_zip, it_rng, rng_1, rng_2, okT_some, x_asg, x_par, x_sub, x_expr, x_ret, x_if, x_for, for_turn, x_while, wh_test, x_pass, x_brk, x_cnt, asg_nm, asg_tup, asg_cons, asg_nil, List.getElem?_cons_zero, List.getElem?_cons_succ, List.set_cons_zero, List.set_cons_succ, List.length_cons, List.length_nil, List.map_cons, List.map_nil, List.replicate, List.cons_append, List.nil_append, Option.bind_some, Option.map_some, Option.map_none, Nat.reduceAdd, Nat.reduceSub, Nat.reduceLT, ↓reduceIte, wipeE, ite_self, Option.join_some, Bool.not_true, Bool.not_false, Bool.false_eq_true, and_self, and_true, true_and, isNon, partD, okO_some, okO_none, ok_srcT, ok_srcL, ok_enmT, ok_enmL, seq_ref, lst_ref, b_lenT, b_lenL, b_lenR, b_listT, b_listL, b_listR, b_tupT, b_tupR, b_all, b_any, b_int, b_min, b_max, b_repr, b_ssetR, b_lsetT, b_sortR, b_rangeL1, x_ixT, x_ixR, x_ixL, x_set, m_append, m_extend, m_popAt, c_eq, c_ne, c_in, c_ni, c_lt, c_le, c_gt, c_ge, t_bl, t_ref, o_add, o_sub, o_mul, o_mod, o_div, o_pow, o_cat, n_new, i_tup, i_int, i_non, s_lT0, s_lL0, at_0, at_1, at_2]
    rw [if_pos (by decide)]
    refine okS_for0 (fun j e t => t = S ∧ ∃ st fd : Int, ∃ lp, e = [some (.ref 2), some (.int seat), some (.ref 1), some (.int cell), some (.int 2305843009213693951), some (.int st), some (.int fd), lp] ∧ 0 ≤ st ∧ st < 2305843009213693951) ⟨rfl, _, _, _, rfl, Int.emod_nonneg _ (by omega), Int.emod_lt_of_pos _ (by omega)⟩ ?_ ?_
    · rintro j e t hj ⟨rfl, st, fd, lp, rfl, h0, h1⟩
      refine ⟨.int (0 + j), rfl, ?_⟩
      rw [for_turn]
      simp only [okR_some, okR_none, okS_nx, okS_rt, okS_bk, okS_ct, okR_ok, okR_ite, okS_ite, okS_nil, okR_and, okR_or, okR_chn, truth_bl, gc_app, gc_self, cmp_le, cmp_lt, e_var, e_cst, e_tup, e_lst, e_bin, e_neg, e_not, e_cmp, e_isN, e_ntN, e_ite, e_call, e_blt, e_isa, e_mth, e_ix, e_sl, e_lc, es_nil, es_cons, ts_nil', ts_one', lc_turn, it_seq, it_enm, it_zip, it_rng, rng_1, rng_2, okT_some, x_asg, x_par, x_sub, x_expr, x_ret, x_if, x_for, for_turn, x_while, wh_test, x_pass, x_brk, x_cnt, asg_nm, asg_tup, asg_cons, asg_nil, List.getElem?_cons_zero, List.getElem?_cons_succ, List.set_cons_zero, List.set_cons_succ, List.length_cons, List.length_nil, List.map_cons, List.map_nil, List.replicate, List.cons_append, List.nil_append, Option.bind_some, Option.map_some, Option.map_none, Nat.reduceAdd, Nat.reduceSub, Nat.reduceLT, ↓reduceIte, wipeE, ite_self, Option.join_some, Bool.not_true, Bool.not_false, Bool.false_eq_true, and_self, and_true, true_and, isNon, partD, okO_some, okO_none, ok_srcT, ok_srcL, ok_enmT, ok_enmL, seq_ref, lst_ref, b_lenT, b_lenL, b_lenR, b_listT, b_listL, b_listR, b_tupT, b_tupR, b_all, b_any, b_int, b_min, b_max, b_repr, b_ssetR, b_lsetT, b_sortR, b_rangeL1, x_ixT, x_ixR, x_ixL, x_set, m_append, m_extend, m_popAt, c_eq, c_ne, c_in, c_ni, c_lt, c_le, c_gt, c_ge, t_bl, t_ref, o_add, o_sub, o_mul, o_mod, o_div, o_pow, o_cat, n_new, i_tup, i_int, i_non, s_lT0, s_lL0, at_0, at_1, at_2]
      have hj6 : j < 6 := hj
      rw [okS_cons, x_asg, v_mod (v_int (v_add (v_add (v_mul (v_var rfl) (v_var rfl) (small_l (small_61 h0 h1))) (v_mul (v_mul v_cst (v_add (v_var rfl) v_cst) (small_l (by decide))) (v_add (v_var rfl) v_cst) (small_l (small_n (by omega) (by omega))))) (v_var rfl))) (v_var rfl) (by decide)]
      simp only [okR_some, okR_none, okS_nx, okS_rt, okS_bk, okS_ct, okR_ok, okR_ite, okS_ite, okS_nil, okR_and, okR_or, okR_chn, truth_bl, gc_app, gc_self, cmp_le, cmp_lt, e_var, e_cst, e_tup, e_lst, e_bin, e_neg, e_not, e_cmp, e_isN, e_ntN, e_ite, e_call, e_blt, e_isa, e_mth, e_ix, e_sl, e_lc, es_nil, es_cons, ts_nil', ts_one', lc_turn, it_seq, it_enm, it_zip, it_rng, rng_1, rng_2, okT_some, x_asg, x_par, x_sub, x_expr, x_ret, x_if, x_for, for_turn, x_while, wh_test, x_pass, x_brk, x_cnt, asg_nm, asg_tup, asg_cons, asg_nil, List.getElem?_cons_zero, List.getElem?_cons_succ, List.set_cons_zero, List.set_cons_succ, List.length_cons, List.length_nil, List.map_cons, List.map_nil, List.replicate, List.cons_append, List.nil_append, Option.bind_some, Option.map_some, Option.map_none, Nat.reduceAdd, Nat.reduceSub, Nat.reduceLT, ↓reduceIte, wipeE, ite_self, Option.join_some, Bool.not_true, Bool.not_false, Bool.false_eq_true, and_self, and_true, true_and, isNon, partD, okO_some, okO_none, ok_srcT, ok_srcL, ok_enmT, ok_enmL, seq_ref, lst_ref, b_lenT, b_lenL, b_lenR, b_listT, b_listL, b_listR, b_tupT, b_tupR, b_all, b_any, b_int, b_min, b_max, b_repr, b_ssetR, b_lsetT, b_sortR, b_rangeL1, x_ixT, x_ixR, x_ixL, x_set, m_append, m_extend, m_popAt, c_eq, c_ne, c_in, c_ni, c_lt, c_le, c_gt, c_ge, t_bl, t_ref, o_add, o_sub, o_mul, o_mod, o_div, o_pow, o_cat, n_new, i_tup, i_int, i_non, s_lT0, s_lL0, at_0, at_1, at_2]
      rw [okS_cons, x_asg, v_add (v_mul (v_var rfl) (v_var rfl) (small_r (by decide))) (v_var rfl)]
      simp only [okR_some, okR_none, okS_nx, okS_rt, okS_bk, okS_ct, okR_ok, okR_ite, okS_ite, okS_nil, okR_and, okR_or, okR_chn, truth_bl, gc_app, gc_self, cmp_le, cmp_lt, e_var, e_cst, e_tup, e_lst, e_bin, e_neg, e_not, e_cmp, e_isN, e_ntN, e_ite, e_call, e_blt, e_isa, e_mth, e_ix, e_sl, e_lc, es_nil, es_cons, ts_nil', ts_one', lc_turn, it_seq, it_enm, it_zip, it_rng, rng_1, rng_2, okT_some, x_asg, x_par, x_sub, x_expr, x_ret, x_if, x_for, for_turn, x_while, wh_test, x_pass, x_brk, x_cnt, asg_nm, asg_tup, asg_cons, asg_nil, List.getElem?_cons_zero, List.getElem?_cons_succ, List.set_cons_zero, List.set_cons_succ, List.length_cons, List.length_nil, List.map_cons, List.map_nil, List.replicate, List.cons_append, List.nil_append, Option.bind_some, Option.map_some, Option.map_none, Nat.reduceAdd, Nat.reduceSub, Nat.reduceLT, ↓reduceIte, wipeE, ite_self, Option.join_some, Bool.not_true, Bool.not_false, Bool.false_eq_true, and_self, and_true, true_and, isNon, partD, okO_some, okO_none, ok_srcT, ok_srcL, ok_enmT, ok_enmL, seq_ref, lst_ref, b_lenT, b_lenL, b_lenR, b_listT, b_listL, b_listR, b_tupT, b_tupR, b_all, b_any, b_int, b_min, b_max, b_repr, b_ssetR, b_lsetT, b_sortR, b_rangeL1, x_ixT, x_ixR, x_ixL, x_set, m_append, m_extend, m_popAt, c_eq, c_ne, c_in, c_ni, c_lt, c_le, c_gt, c_ge, t_bl, t_ref, o_add, o_sub, o_mul, o_mod, o_div, o_pow, o_cat, n_new, i_tup, i_int, i_non, s_lT0, s_lL0, at_0, at_1, at_2]
      exact ⟨_, _, _, rfl, Int.emod_nonneg _ (by omega), Int.emod_lt_of_pos _ (by omega)⟩
    · rintro e t ⟨rfl, st, fd, lp, rfl, h0, h1⟩
      refine ⟨rfl, ?_⟩
      dsimp only
      rw [okS_cons]
      simp only [okR_some, okR_none, okS_nx, okS_rt, okS_bk, okS_ct, okR_ok, okR_ite, okS_ite, okS_nil, okR_and, okR_or, okR_chn, truth_bl, gc_app, gc_self, cmp_le, cmp_lt, e_var, e_cst, e_tup, e_lst, e_bin, e_neg, e_not, e_cmp, e_isN, e_ntN, e_ite, e_call, e_blt, e_isa, e_mth, e_ix, e_sl, e_lc, es_nil, es_cons, ts_nil', ts_one', lc_turn, it_seq, it_enm, it_zip, it_rng, rng_1, rng_2, okT_some, x_asg, x_par, x_sub, x_expr, x_ret, x_if, x_for, for_turn, x_while, wh_test, x_pass, x_brk, x_cnt, asg_nm, asg_tup, asg_cons, asg_nil, List.getElem?_cons_zero, List.getElem?_cons_succ, List.set_cons_zero, List.set_cons_succ, List.length_cons, List.length_nil, List.map_cons, List.map_nil, List.replicate, List.cons_append, List.nil_append, Option.bind_some, Option.map_some, Option.map_none, Nat.reduceAdd, Nat.reduceSub, Nat.reduceLT, ↓reduceIte, wipeE, ite_self, Option.join_some, Bool.not_true, Bool.not_false, Bool.false_eq_true, and_self, and_true, true_and, isNon, partD, okO_some, okO_none, ok_srcT, ok_srcL, ok_enmT, ok_enmL, seq_ref, lst_ref, b_lenT, b_lenL, b_lenR, b_listT, b_listL, b_listR, b_tupT, b_tupR, b_all, b_any, b_int, b_min, b_max, b_repr, b_ssetR, b_lsetT, b_sortR, b_rangeL1, x_ixT, x_ixR, x_ixL, x_set, m_append, m_extend, m_popAt, c_eq, c_ne, c_in, c_ni, c_lt, c_le, c_gt, c_ge, t_bl, t_ref, o_add, o_sub, o_mul, o_mod, o_div, o_pow, o_cat, n_new, i_tup, i_int, i_non, s_lT0, s_lL0, at_0, at_1, at_2]
      exact fin _
  rw [okS_cons]
  simp only [okR_some, okR_none, okS_nx, okS_rt, okS_bk, okS_ct, okR_ok, okR_ite, okS_ite, okS_nil, okR_and, okR_or, okR_chn, truth_bl, gc_app, gc_self, cmp_le, cmp_lt, e_var, e_cst, e_tup, e_lst, e_bin, e_neg, e_not, e_cmp, e_isN, e_ntN, e_ite, e_call, e_blt, e_isa, e_mth, e_ix, e_sl, e_lc, es_nil, es_cons, ts_nil', ts_one', lc_turn, it_seq, it_enm, it_zip, it_rng, rng_1, rng_2, okT_some, x_asg, x_par, x_sub, x_expr, x_ret, x_if, x_for, for_turn, x_while, wh_test, x_pass, x_brk, x_cnt, asg_nm, asg_tup, asg_cons, asg_nil, List.getElem?_cons_zero, List.getElem?_cons_succ, List.set_cons_zero, List.set_cons_succ, List.length_cons, List.length_nil, List.map_cons, List.map_nil, List.replicate, List.cons_append, List.nil_append, Option.bind_some, Option.map_some, Option.map_none, Nat.reduceAdd, Nat.reduceSub, Nat.reduceLT, ↓reduceIte, wipeE, ite_self, Option.join_some, Bool.not_true, Bool.not_false, Bool.false_eq_true, and_self, and_true, true_and, isNon, partD, okO_some, okO_none, ok_srcT, ok_srcL, ok_enmT, ok_enmL, seq_ref, lst_ref, b_lenT, b_lenL, b_lenR, b_listT, b_listL, b_listR, b_tupT, b_tupR, b_all, b_any, b_int, b_min, b_max, b_repr, b_ssetR, b_lsetT, b_sortR, b_rangeL1, x_ixT, x_ixR, x_ixL, x_set, m_append, m_extend, m_popAt, c_eq, c_ne, c_in, c_ni, c_lt, c_le, c_gt, c_ge, t_bl, t_ref, o_add, o_sub, o_mul, o_mod, o_div, o_pow, o_cat, n_new, i_tup, i_int, i_non, s_lT0, s_lL0, at_0, at_1, at_2, e1, e2]
  split
  · rw [if_pos (by decide)]
    split
    · rw [okS_cons]
      simp only [okR_some, okR_none, okS_nx, okS_rt, okS_bk, okS_ct, okR_ok, okR_ite, okS_ite, okS_nil, okR_and, okR_or, okR_chn, truth_bl, gc_app, gc_self, cmp_le, cmp_lt, e_var, e_cst, e_tup, e_lst, e_bin, e_neg, e_not, e_cmp, e_isN, e_ntN, e_ite, e_call, e_blt, e_isa, e_mth, e_ix, e_sl, e_lc, es_nil, es_cons, ts_nil', ts_one', lc_turn, it_seq, it_enm, it_zip, it_rng, rng_1, rng_2, okT_some, x_asg, x_par, x_sub, x_expr, x_ret, x_if, x_for, for_turn, x_while, wh_test, x_pass, x_brk, x_cnt, asg_nm, asg_tup, asg_cons, asg_nil, List.getElem?_cons_zero, List.getElem?_cons_succ, List.set_cons_zero, List.set_cons_succ, List.length_cons, List.length_nil, List.map_cons, List.map_nil, List.replicate, List.cons_append, List.nil_append, Option.bind_some, Option.map_some, Option.map_none, Nat.reduceAdd, Nat.reduceSub, Nat.reduceLT, ↓reduceIte, wipeE, ite_self, Option.join_some, Bool.not_true, Bool.not_false, Bool.false_eq_true, and_self, and_true, true_and, isNon, partD, okO_some, okO_none, ok_srcT, ok_srcL, ok_enmT, ok_enmL, seq_ref, lst_ref, b_lenT, b_lenL, b_lenR, b_listT, b_listL, b_listR, b_tupT, b_tupR, b_all, b_any, b_int, b_min, b_max, b_repr, b_ssetR, b_lsetT, b_sortR, b_rangeL1, x_ixT, x_ixR, x_ixL, x_set, m_append, m_extend, m_popAt, c_eq, c_ne, c_in, c_ni, c_lt, c_le, c_gt, c_ge, t_bl, t_ref, o_add, o_sub, o_mul, o_mod, o_div, o_pow, o_cat, n_new, i_tup, i_int, i_non, s_lT0, s_lL0, at_0, at_1, at_2]
      rw [if_pos (by decide)]
      exact fin _
    · exact tail
  · exact tail

abbrev Drawn (s : MS) (b : Int) : D → MS → Prop := fun d s' => (∃ i, d = .int i ∧ 0 ≤ i ∧ i < b) ∧ PenAt s' ∧ Ext s s'
theorem draw_ok (fuel k : Nat) (s : MS) (h : PenAt s) {b : Int} (hb : 1 ≤ b) (hb2 : b ≤ 1000) : okR ((L fuel (k + 2)).fn "_law_draw" [.ref 2, .int b] s) (Drawn s b) := by
  rw [fn__law_draw]
  refine okR_fnD ?_
  have tail : ∀ S, PenAt S → Ext s S → okS (exSs (L fuel (k + 1)) (c__law_draw.drop 1) [some (.ref 2), some (.int b), none] S) ⟨fun _ s' => okR (gcD (L fuel (k + 1)) s (.ok .non s')) (Drawn s b), fun d s' => okR (gcD (L fuel (k + 1)) s (.ok d s')) (Drawn s b), fun _ _ => False, fun _ _ => False⟩ := by
    intro S hS eS
    obtain ⟨cells, seat, left, h1, h2, hc⟩ := hS
    simp only [c__law_draw, List.drop_succ_cons, List.drop_zero]
    rw [okS_cons]
    simp only [okR_some, okR_none, okS_nx, okS_rt, okS_bk, okS_ct, okR_ok, okR_ite, okS_ite, okS_nil, okR_and, okR_or, okR_chn, truth_bl, gc_app, gc_self, cmp_le, cmp_lt, e_var, e_cst, e_tup, e_lst, e_bin, e_neg, e_not, e_cmp, e_isN, e_ntN, e_ite, e_call, e_blt, e_isa, e_mth, e_ix, e_sl, e_lc, es_nil, es_cons, ts_nil', ts_one', lc_turn, it_seq, it_enm, it_zip, it_rng, rng_1, rng_2, okT_some, x_asg, x_par, x_sub, x_expr, x_ret, x_if, x_for, for_turn, x_while, wh_test, x_pass, x_brk, x_cnt, asg_nm, asg_tup, asg_cons, asg_nil, List.getElem?_cons_zero, List.getElem?_cons_succ, List.set_cons_zero, List.set_cons_succ, List.length_cons, List.length_nil, List.map_cons, List.map_nil, List.replicate, List.cons_append, List.nil_append, Option.bind_some, Option.map_some, Option.map_none, Nat.reduceAdd, Nat.reduceSub, Nat.reduceLT, ↓reduceIte, wipeE, ite_self, Option.join_some, Bool.not_true, Bool.not_false, Bool.false_eq_true, and_self, and_true, true_and, isNon, partD, okO_some, okO_none, ok_srcT, ok_srcL, ok_enmT, ok_enmL, seq_ref, lst_ref, b_lenT, b_lenL, b_lenR, b_listT, b_listL, b_listR, b_tupT, b_tupR, b_all, b_any, b_int, b_min, b_max, b_repr, b_ssetR, b_lsetT, b_sortR, b_rangeL1, x_ixT, x_ixR, x_ixL, x_set, m_append, m_extend, m_popAt, c_eq, c_ne, c_in, c_ni, c_lt, c_le, c_gt, c_ge, t_bl, t_ref, o_add, o_sub, o_mul, o_mod, o_div, o_pow, o_cat, n_new, i_tup, i_int, i_non, s_lT0, s_lL0, at_0, at_1, at_2, h2]
    rw [if_pos (by omega), okS_cons]
    simp only [okR_some, okR_none, okS_nx, okS_rt, okS_bk, okS_ct, okR_ok, okR_ite, okS_ite, okS_nil, okR_and, okR_or, okR_chn, truth_bl, gc_app, gc_self, cmp_le, cmp_lt, e_var, e_cst, e_tup, e_lst, e_bin, e_neg, e_not, e_cmp, e_isN, e_ntN, e_ite, e_call, e_blt, e_isa, e_mth, e_ix, e_sl, e_lc, es_nil, es_cons, ts_nil', ts_one', lc_turn, it_seq, it_enm, it_zip, it_rng, rng_1, rng_2, okT_some, x_asg, x_par, x_sub, x_expr, x_ret, x_if, x_for, for_turn, x_while, wh_test, x_pass, x_brk, x_cnt, asg_nm, asg_tup, asg_cons, asg_nil, List.getElem?_cons_zero, List.getElem?_cons_succ, List.set_cons_zero, List.set_cons_succ, List.length_cons, List.length_nil, List.map_cons, List.map_nil, List.replicate, List.cons_append, List.nil_append, Option.bind_some, Option.map_some, Option.map_none, Nat.reduceAdd, Nat.reduceSub, Nat.reduceLT, ↓reduceIte, wipeE, ite_self, Option.join_some, Bool.not_true, Bool.not_false, Bool.false_eq_true, and_self, and_true, true_and, isNon, partD, okO_some, okO_none, ok_srcT, ok_srcL, ok_enmT, ok_enmL, seq_ref, lst_ref, b_lenT, b_lenL, b_lenR, b_listT, b_listL, b_listR, b_tupT, b_tupR, b_all, b_any, b_int, b_min, b_max, b_repr, b_ssetR, b_lsetT, b_sortR, b_rangeL1, x_ixT, x_ixR, x_ixL, x_set, m_append, m_extend, m_popAt, c_eq, c_ne, c_in, c_ni, c_lt, c_le, c_gt, c_ge, t_bl, t_ref, o_add, o_sub, o_mul, o_mod, o_div, o_pow, o_cat, n_new, i_tup, i_int, i_non, s_lT0, s_lL0, at_0, at_1, at_2, h2, ix32]
    rw [if_pos (by omega), okS_cons]
    simp only [okR_some, okR_none, okS_nx, okS_rt, okS_bk, okS_ct, okR_ok, okR_ite, okS_ite, okS_nil, okR_and, okR_or, okR_chn, truth_bl, gc_app, gc_self, cmp_le, cmp_lt, e_var, e_cst, e_tup, e_lst, e_bin, e_neg, e_not, e_cmp, e_isN, e_ntN, e_ite, e_call, e_blt, e_isa, e_mth, e_ix, e_sl, e_lc, es_nil, es_cons, ts_nil', ts_one', lc_turn, it_seq, it_enm, it_zip, it_rng, rng_1, rng_2, okT_some, x_asg, x_par, x_sub, x_expr, x_ret, x_if, x_for, for_turn, x_while, wh_test, x_pass, x_brk, x_cnt, asg_nm, asg_tup, asg_cons, asg_nil, List.getElem?_cons_zero, List.getElem?_cons_succ, List.set_cons_zero, List.set_cons_succ, List.length_cons, List.length_nil, List.map_cons, List.map_nil, List.replicate, List.cons_append, List.nil_append, Option.bind_some, Option.map_some, Option.map_none, Nat.reduceAdd, Nat.reduceSub, Nat.reduceLT, ↓reduceIte, wipeE, ite_self, Option.join_some, Bool.not_true, Bool.not_false, Bool.false_eq_true, and_self, and_true, true_and, isNon, partD, okO_some, okO_none, ok_srcT, ok_srcL, ok_enmT, ok_enmL, seq_ref, lst_ref, b_lenT, b_lenL, b_lenR, b_listT, b_listL, b_listR, b_tupT, b_tupR, b_all, b_any, b_int, b_min, b_max, b_repr, b_ssetR, b_lsetT, b_sortR, b_rangeL1, x_ixT, x_ixR, x_ixL, x_set, m_append, m_extend, m_popAt, c_eq, c_ne, c_in, c_ni, c_lt, c_le, c_gt, c_ge, t_bl, t_ref, o_add, o_sub, o_mul, o_mod, o_div, o_pow, o_cat, n_new, i_tup, i_int, i_non, s_lT0, s_lL0, at_0, at_1, at_2]
    have r : ∃ i, D.int (left % b) = .int i ∧ 0 ≤ i ∧ i < b := ⟨_, rfl, Int.emod_nonneg _ (by omega), Int.emod_lt_of_pos _ (by omega)⟩
    exact gc_end ⟨r, ⟨cells, seat, _, by rw [getL_ne (by decide), h1], getL_set h2, hc⟩, eS.trans (Ext.pen _ _)⟩ (fun _ _ => ⟨r, h, Ext.refl s⟩) (lev_same _ _ _)
  obtain ⟨cells, seat, left, h1, h2, hc⟩ := id h
  unfold c__law_draw
  rw [okS_cons]
  simp only [okR_some, okR_none, okS_nx, okS_rt, okS_bk, okS_ct, okR_ok, okR_ite, okS_ite, okS_nil, okR_and, okR_or, okR_chn, truth_bl, gc_app, gc_self, cmp_le, cmp_lt, e_var, e_cst, e_tup, e_lst, e_bin, e_neg, e_not, e_cmp, e_isN, e_ntN, e_ite, e_call, e_blt, e_isa, e_mth, e_ix, e_sl, e_lc, es_nil, es_cons, ts_nil', ts_one', lc_turn, it_seq, it_enm, it_zip, it_rng, rng_1, rng_2, okT_some, x_asg, x_par, x_sub, x_expr, x_ret, x_if, x_for, for_turn, x_while, wh_test, x_pass, x_brk, x_cnt, asg_nm, asg_tup, asg_cons, asg_nil, List.getElem?_cons_zero, List.getElem?_cons_succ, List.set_cons_zero, List.set_cons_succ, List.length_cons, List.length_nil, List.map_cons, List.map_nil, List.replicate, List.cons_append, List.nil_append, Option.bind_some, Option.map_some, Option.map_none, Nat.reduceAdd, Nat.reduceSub, Nat.reduceLT, ↓reduceIte, wipeE, ite_self, Option.join_some, Bool.not_true, Bool.not_false, Bool.false_eq_true, and_self, and_true, true_and, isNon, partD, okO_some, okO_none, ok_srcT, ok_srcL, ok_enmT, ok_enmL, seq_ref, lst_ref, b_lenT, b_lenL, b_lenR, b_listT, b_listL, b_listR, b_tupT, b_tupR, b_all, b_any, b_int, b_min, b_max, b_repr, b_ssetR, b_lsetT, b_sortR, b_rangeL1, x_ixT, x_ixR, x_ixL, x_set, m_append, m_extend, m_popAt, c_eq, c_ne, c_in, c_ni, c_lt, c_le, c_gt, c_ge, t_bl, t_ref, o_add, o_sub, o_mul, o_mod, o_div, o_pow, o_cat, n_new, i_tup, i_int, i_non, s_lT0, s_lL0, at_0, at_1, at_2, h2]
  split
  · rw [okS_cons]
    simp only [okR_some, okR_none, okS_nx, okS_rt, okS_bk, okS_ct, okR_ok, okR_ite, okS_ite, okS_nil, okR_and, okR_or, okR_chn, truth_bl, gc_app, gc_self, cmp_le, cmp_lt, e_var, e_cst, e_tup, e_lst, e_bin, e_neg, e_not, e_cmp, e_isN, e_ntN, e_ite, e_call, e_blt, e_isa, e_mth, e_ix, e_sl, e_lc, es_nil, es_cons, ts_nil', ts_one', lc_turn, it_seq, it_enm, it_zip, it_rng, rng_1, rng_2, okT_some, x_asg, x_par, x_sub, x_expr, x_ret, x_if, x_for, for_turn, x_while, wh_test, x_pass, x_brk, x_cnt, asg_nm, asg_tup, asg_cons, asg_nil, List.getElem?_cons_zero, List.getElem?_cons_succ, List.set_cons_zero, List.set_cons_succ, List.length_cons, List.length_nil, List.map_cons, List.map_nil, List.replicate, List.cons_append, List.nil_append, Option.bind_some, Option.map_some, Option.map_none, Nat.reduceAdd, Nat.reduceSub, Nat.reduceLT, ↓reduceIte, wipeE, ite_self, Option.join_some, Bool.not_true, Bool.not_false, Bool.false_eq_true, and_self, and_true, true_and, isNon, partD, okO_some, okO_none, ok_srcT, ok_srcL, ok_enmT, ok_enmL, seq_ref, lst_ref, b_lenT, b_lenL, b_lenR, b_listT, b_listL, b_listR, b_tupT, b_tupR, b_all, b_any, b_int, b_min, b_max, b_repr, b_ssetR, b_lsetT, b_sortR, b_rangeL1, x_ixT, x_ixR, x_ixL, x_set, m_append, m_extend, m_popAt, c_eq, c_ne, c_in, c_ni, c_lt, c_le, c_gt, c_ge, t_bl, t_ref, o_add, o_sub, o_mul, o_mod, o_div, o_pow, o_cat, n_new, i_tup, i_int, i_non, s_lT0, s_lL0, at_0, at_1, at_2]
    refine okR_mono (fresh_ok fuel k s h) ?_
    rintro d S ⟨⟨i, rfl⟩, pS, eS⟩
    obtain ⟨c2, seat2, left2, g1, g2, hc2⟩ := id pS
    simp only [okR_some, okR_none, okS_nx, okS_rt, okS_bk, okS_ct, okR_ok, okR_ite, okS_ite, okS_nil, okR_and, okR_or, okR_chn, truth_bl, gc_app, gc_self, cmp_le, cmp_lt, e_var, e_cst, e_tup, e_lst, e_bin, e_neg, e_not, e_cmp, e_isN, e_ntN, e_ite, e_call, e_blt, e_isa, e_mth, e_ix, e_sl, e_lc, es_nil, es_cons, ts_nil', ts_one', lc_turn, it_seq, it_enm, it_zip, it_rng, rng_1, rng_2, okT_some, x_asg, x_par, x_sub, x_expr, x_ret, x_if, x_for, for_turn, x_while, wh_test, x_pass, x_brk, x_cnt, asg_nm, asg_tup, asg_cons, asg_nil, List.getElem?_cons_zero, List.getElem?_cons_succ, List.set_cons_zero, List.set_cons_succ, List.length_cons, List.length_nil, List.map_cons, List.map_nil, List.replicate, List.cons_append, List.nil_append, Option.bind_some, Option.map_some, Option.map_none, Nat.reduceAdd, Nat.reduceSub, Nat.reduceLT, ↓reduceIte, wipeE, ite_self, Option.join_some, Bool.not_true, Bool.not_false, Bool.false_eq_true, and_self, and_true, true_and, isNon, partD, okO_some, okO_none, ok_srcT, ok_srcL, ok_enmT, ok_enmL, seq_ref, lst_ref, b_lenT, b_lenL, b_lenR, b_listT, b_listL, b_listR, b_tupT, b_tupR, b_all, b_any, b_int, b_min, b_max, b_repr, b_ssetR, b_lsetT, b_sortR, b_rangeL1, x_ixT, x_ixR, x_ixL, x_set, m_append, m_extend, m_popAt, c_eq, c_ne, c_in, c_ni, c_lt, c_le, c_gt, c_ge, t_bl, t_ref, o_add, o_sub, o_mul, o_mod, o_div, o_pow, o_cat, n_new, i_tup, i_int, i_non, s_lT0, s_lL0, at_0, at_1, at_2, g2, ix32]
    exact tail _ ⟨c2, seat2, _, by rw [getL_ne (by decide), g1], getL_set g2, hc2⟩ (eS.trans (Ext.pen _ _))
  · exact tail s h (Ext.refl s)
end K03

namespace K03
open PySem Mir
theorem Ext.high {s t : MS} (h : Ext s t) {i : Nat} (hi : s.length ≤ i) (o : MO) : Ext s (t.set i o) := ⟨by rw [List.length_set]; exact h.1, fun j hj h2 => by rw [List.getElem?_set_ne (by omega)]; exact h.2 j hj h2⟩
theorem PenAt.set {t : MS} (h : PenAt t) {i : Nat} (h1 : i ≠ 1) (h2 : i ≠ 2) (o : MO) : PenAt (t.set i o) := let ⟨c, a, b, q1, q2, q3⟩ := h; ⟨c, a, b, by rw [getL_ne h1]; exact q1, by rw [getL_ne h2]; exact q2, q3⟩
theorem PenAt.len {s : MS} (h : PenAt s) : 2 < s.length := let ⟨_, _, _, _, q2, _⟩ := h; getL_lt q2
theorem ixN_of {n : Nat} {i : Int} (h0 : 0 ≤ i) (h1 : i < n) : ∃ j, L2.ixN n i = some j ∧ j < n := by
  obtain ⟨j, rfl⟩ := Int.eq_ofNat_of_zero_le h0
  refine ⟨j, ?_, by omega⟩
  unfold L2.ixN
  rw [if_pos (by omega), if_pos (by omega)]
  simp
theorem mem_erase {xs : List Int} {j : Nat} : ∀ x ∈ xs.eraseIdx j, x ∈ xs := fun x hx => List.mem_of_mem_eraseIdx hx
theorem map_eraseIdx {α β : Type} (f : α → β) : ∀ (l : List α) (j : Nat), (l.map f).eraseIdx j = (l.eraseIdx j).map f
  | [], _ => rfl
  | _ :: _, 0 => rfl
  | a :: l, j + 1 => by simp [map_eraseIdx f l j]
def pickB : List CS := [.expr (.mth .append (.var 4) [.mth .pop (.var 3) [.call "_law_draw" [.var 0, .blt .len [.var 3]]]])]
theorem pick_loop (fuel k : Nat) {s S0 : MS} {A : Nat} {ns : List Int} {th X lp0 : Option D} {n : Int} {W : Want} (hs : s.length ≤ A) (h2 : 2 < A) (hP : PenAt S0) (hE : Ext s S0) (hA : getL S0 A = some (ns.map D.int)) (hB : getL S0 (A + 1) = some []) (hn : n ≤ ns.length) (hz : ns.length ≤ 900)
    (fin : ∀ (lp : Option D) (t : MS) (xs : List Int), PenAt t → Ext s t → getL t (A + 1) = some (xs.map D.int) → (∀ x ∈ xs, x ∈ ns) → xs.length = n.toNat → W.nx [some (.ref 2), th, X, some (.ref A), some (.ref (A + 1)), lp] t) :
    okS (forGo (srcRng 0 n) (forF (L fuel (k + 2)) (.nm 5) pickB) (srcRng 0 n).n 0 [some (.ref 2), th, X, some (.ref A), some (.ref (A + 1)), lp0] S0) W := by
  have hnn : (srcRng 0 n).n = n.toNat := by show (n - 0).toNat = _; rw [Int.sub_zero]
  refine okS_for0 (fun j e t => PenAt t ∧ Ext s t ∧ ∃ (lp : Option D) (ls xs : List Int), e = [some (.ref 2), th, X, some (.ref A), some (.ref (A + 1)), lp] ∧ getL t A = some (ls.map D.int) ∧ getL t (A + 1) = some (xs.map D.int) ∧ (∀ x ∈ ls, x ∈ ns) ∧ (∀ x ∈ xs, x ∈ ns) ∧ ls.length + j = ns.length ∧ xs.length = j) ⟨hP, hE, _, ns, [], rfl, hA, hB, fun _ h => h, fun x h => (List.not_mem_nil h).elim, rfl, rfl⟩ ?_ ?_
  · rintro j e t hj ⟨pt, et, lp, ls, xs, rfl, g1, g2, m1, m2, l1, l2⟩
    rw [hnn] at hj
    refine ⟨.int (0 + j), rfl, ?_⟩
    rw [for_turn]
    simp only [okR_some, okR_none, okS_nx, okS_rt, okS_bk, okS_ct, okR_ok, okR_ite, okS_ite, okS_nil, okR_and, okR_or, okR_chn, truth_bl, gc_app, gc_self, cmp_le, cmp_lt, e_var, e_cst, e_tup, e_lst, e_bin, e_neg, e_not, e_cmp, e_isN, e_ntN, e_ite, e_call, e_blt, e_isa, e_mth, e_ix, e_sl, e_lc, es_nil, es_cons, ts_nil', ts_one', lc_turn, it_seq, it_enm, it_zip, it_rng, rng_1, rng_2, okT_some, x_asg, x_par, x_sub, x_expr, x_ret, x_if, x_for, for_turn, x_while, wh_test, x_pass, x_brk, x_cnt, asg_nm, asg_tup, asg_cons, asg_nil, List.getElem?_cons_zero, List.getElem?_cons_succ, List.set_cons_zero, List.set_cons_succ, List.length_cons, List.length_nil, List.map_cons, List.map_nil, List.replicate, List.cons_append, List.nil_append, Option.bind_some, Option.map_some, Option.map_none, Nat.reduceAdd, Nat.reduceSub, Nat.reduceLT, ↓reduceIte, wipeE, ite_self, Option.join_some, Bool.not_true, Bool.not_false, Bool.false_eq_true, and_self, and_true, true_and, isNon, partD, okO_some, okO_none, ok_srcT, ok_srcL, ok_enmT, ok_enmL, seq_ref, lst_ref, b_lenT, b_lenL, b_lenR, b_listT, b_listL, b_listR, b_tupT, b_tupR, b_all, b_any, b_int, b_min, b_max, b_repr, b_ssetR, b_lsetT, b_sortR, b_rangeL1, x_ixT, x_ixR, x_ixL, x_set, m_append, m_extend, m_popAt, c_eq, c_ne, c_in, c_ni, c_lt, c_le, c_gt, c_ge, t_bl, t_ref, o_add, o_sub, o_mul, o_mod, o_div, o_pow, o_cat, n_new, i_tup, i_int, i_non, s_lT0, s_lL0, at_0, at_1, at_2]
    unfold pickB
    rw [okS_cons]
    simp only [okR_some, okR_none, okS_nx, okS_rt, okS_bk, okS_ct, okR_ok, okR_ite, okS_ite, okS_nil, okR_and, okR_or, okR_chn, truth_bl, gc_app, gc_self, cmp_le, cmp_lt, e_var, e_cst, e_tup, e_lst, e_bin, e_neg, e_not, e_cmp, e_isN, e_ntN, e_ite, e_call, e_blt, e_isa, e_mth, e_ix, e_sl, e_lc, es_nil, es_cons, ts_nil', ts_one', lc_turn, it_seq, it_enm, it_zip, it_rng, rng_1, rng_2, okT_some, x_asg, x_par, x_sub, x_expr, x_ret, x_if, x_for, for_turn, x_while, wh_test, x_pass, x_brk, x_cnt, asg_nm, asg_tup, asg_cons, asg_nil, List.getElem?_cons_zero, List.getElem?_cons_succ, List.set_cons_zero, List.set_cons_succ, List.length_cons, List.length_nil, List.map_cons, List.map_nil, List.replicate, List.cons_append, List.nil_append, Option.bind_some, Option.map_some, Option.map_none, Nat.reduceAdd, Nat.reduceSub, Nat.reduceLT, ↓reduceIte, wipeE, ite_self, Option.join_some, Bool.not_true, Bool.not_false, Bool.false_eq_true, and_self, and_true, true_and, isNon, partD, okO_some, okO_none, ok_srcT, ok_srcL, ok_enmT, ok_enmL, seq_ref, lst_ref, b_lenT, b_lenL, b_lenR, b_listT, b_listL, b_listR, b_tupT, b_tupR, b_all, b_any, b_int, b_min, b_max, b_repr, b_ssetR, b_lsetT, b_sortR, b_rangeL1, x_ixT, x_ixR, x_ixL, x_set, m_append, m_extend, m_popAt, c_eq, c_ne, c_in, c_ni, c_lt, c_le, c_gt, c_ge, t_bl, t_ref, o_add, o_sub, o_mul, o_mod, o_div, o_pow, o_cat, n_new, i_tup, i_int, i_non, s_lT0, s_lL0, at_0, at_1, at_2, g1]
    have hl : (1 : Int) ≤ ((ls.map D.int).length : Nat) := by rw [List.length_map]; omega
    refine okR_mono (draw_ok fuel k t pt hl (by rw [List.length_map]; omega)) ?_
    rintro d t1 ⟨⟨i, rfl, i0, i1⟩, p1, e1⟩
    have g1' := e1.getL g1 (by omega)
    have g2' := e1.getL g2 (by omega)
    obtain ⟨q, hq, hql⟩ := ixN_of i0 i1
    rw [List.length_map] at hql
    simp only [okR_some, okR_none, okS_nx, okS_rt, okS_bk, okS_ct, okR_ok, okR_ite, okS_ite, okS_nil, okR_and, okR_or, okR_chn, truth_bl, gc_app, gc_self, cmp_le, cmp_lt, e_var, e_cst, e_tup, e_lst, e_bin, e_neg, e_not, e_cmp, e_isN, e_ntN, e_ite, e_call, e_blt, e_isa, e_mth, e_ix, e_sl, e_lc, es_nil, es_cons, ts_nil', ts_one', lc_turn, it_seq, it_enm, it_zip, it_rng, rng_1, rng_2, okT_some, x_asg, x_par, x_sub, x_expr, x_ret, x_if, x_for, for_turn, x_while, wh_test, x_pass, x_brk, x_cnt, asg_nm, asg_tup, asg_cons, asg_nil, List.getElem?_cons_zero, List.getElem?_cons_succ, List.set_cons_zero, List.set_cons_succ, List.length_cons, List.length_nil, List.map_cons, List.map_nil, List.replicate, List.cons_append, List.nil_append, Option.bind_some, Option.map_some, Option.map_none, Nat.reduceAdd, Nat.reduceSub, Nat.reduceLT, ↓reduceIte, wipeE, ite_self, Option.join_some, Bool.not_true, Bool.not_false, Bool.false_eq_true, and_self, and_true, true_and, isNon, partD, okO_some, okO_none, ok_srcT, ok_srcL, ok_enmT, ok_enmL, seq_ref, lst_ref, b_lenT, b_lenL, b_lenR, b_listT, b_listL, b_listR, b_tupT, b_tupR, b_all, b_any, b_int, b_min, b_max, b_repr, b_ssetR, b_lsetT, b_sortR, b_rangeL1, x_ixT, x_ixR, x_ixL, x_set, m_append, m_extend, m_popAt, c_eq, c_ne, c_in, c_ni, c_lt, c_le, c_gt, c_ge, t_bl, t_ref, o_add, o_sub, o_mul, o_mod, o_div, o_pow, o_cat, n_new, i_tup, i_int, i_non, s_lT0, s_lL0, at_0, at_1, at_2, g1', hq]
    rw [List.getElem?_map, List.getElem?_eq_getElem hql]
    simp only [okR_some, okR_none, okS_nx, okS_rt, okS_bk, okS_ct, okR_ok, okR_ite, okS_ite, okS_nil, okR_and, okR_or, okR_chn, truth_bl, gc_app, gc_self, cmp_le, cmp_lt, e_var, e_cst, e_tup, e_lst, e_bin, e_neg, e_not, e_cmp, e_isN, e_ntN, e_ite, e_call, e_blt, e_isa, e_mth, e_ix, e_sl, e_lc, es_nil, es_cons, ts_nil', ts_one', lc_turn, it_seq, it_enm, it_zip, it_rng, rng_1, rng_2, okT_some, x_asg, x_par, x_sub, x_expr, x_ret, x_if, x_for, for_turn, x_while, wh_test, x_pass, x_brk, x_cnt, asg_nm, asg_tup, asg_cons, asg_nil, List.getElem?_cons_zero, List.getElem?_cons_succ, List.set_cons_zero, List.set_cons_succ, List.length_cons, List.length_nil, List.map_cons, List.map_nil, List.replicate, List.cons_append, List.nil_append, Option.bind_some, Option.map_some, Option.map_none, Nat.reduceAdd, Nat.reduceSub, Nat.reduceLT, ↓reduceIte, wipeE, ite_self, Option.join_some, Bool.not_true, Bool.not_false, Bool.false_eq_true, and_self, and_true, true_and, isNon, partD, okO_some, okO_none, ok_srcT, ok_srcL, ok_enmT, ok_enmL, seq_ref, lst_ref, b_lenT, b_lenL, b_lenR, b_listT, b_listL, b_listR, b_tupT, b_tupR, b_all, b_any, b_int, b_min, b_max, b_repr, b_ssetR, b_lsetT, b_sortR, b_rangeL1, x_ixT, x_ixR, x_ixL, x_set, m_append, m_extend, m_popAt, c_eq, c_ne, c_in, c_ni, c_lt, c_le, c_gt, c_ge, t_bl, t_ref, o_add, o_sub, o_mul, o_mod, o_div, o_pow, o_cat, n_new, i_tup, i_int, i_non, s_lT0, s_lL0, at_0, at_1, at_2]
    rw [getL_ne (by omega), g2']
    simp only [okR_some, okR_none, okS_nx, okS_rt, okS_bk, okS_ct, okR_ok, okR_ite, okS_ite, okS_nil, okR_and, okR_or, okR_chn, truth_bl, gc_app, gc_self, cmp_le, cmp_lt, e_var, e_cst, e_tup, e_lst, e_bin, e_neg, e_not, e_cmp, e_isN, e_ntN, e_ite, e_call, e_blt, e_isa, e_mth, e_ix, e_sl, e_lc, es_nil, es_cons, ts_nil', ts_one', lc_turn, it_seq, it_enm, it_zip, it_rng, rng_1, rng_2, okT_some, x_asg, x_par, x_sub, x_expr, x_ret, x_if, x_for, for_turn, x_while, wh_test, x_pass, x_brk, x_cnt, asg_nm, asg_tup, asg_cons, asg_nil, List.getElem?_cons_zero, List.getElem?_cons_succ, List.set_cons_zero, List.set_cons_succ, List.length_cons, List.length_nil, List.map_cons, List.map_nil, List.replicate, List.cons_append, List.nil_append, Option.bind_some, Option.map_some, Option.map_none, Nat.reduceAdd, Nat.reduceSub, Nat.reduceLT, ↓reduceIte, wipeE, ite_self, Option.join_some, Bool.not_true, Bool.not_false, Bool.false_eq_true, and_self, and_true, true_and, isNon, partD, okO_some, okO_none, ok_srcT, ok_srcL, ok_enmT, ok_enmL, seq_ref, lst_ref, b_lenT, b_lenL, b_lenR, b_listT, b_listL, b_listR, b_tupT, b_tupR, b_all, b_any, b_int, b_min, b_max, b_repr, b_ssetR, b_lsetT, b_sortR, b_rangeL1, x_ixT, x_ixR, x_ixL, x_set, m_append, m_extend, m_popAt, c_eq, c_ne, c_in, c_ni, c_lt, c_le, c_gt, c_ge, t_bl, t_ref, o_add, o_sub, o_mul, o_mod, o_div, o_pow, o_cat, n_new, i_tup, i_int, i_non, s_lT0, s_lL0, at_0, at_1, at_2]
    rw [if_pos (by rw [List.length_map]; omega)]
    refine ⟨(p1.set (by omega) (by omega) _).set (by omega) (by omega) _, ((et.trans e1).high (by omega) _).high (by omega) _, _, ls.eraseIdx q, xs ++ [ls[q]], rfl, ?_, ?_, fun x hx => m1 x (mem_erase x hx), fun x hx => ?_, ?_, ?_⟩
    · rw [getL_ne (by omega), ← map_eraseIdx]; exact getL_set g1'
    · rw [List.map_append]; exact getL_set (by rw [getL_ne (by omega)]; exact g2')
    · rcases List.mem_append.mp hx with hx | hx
      · exact m2 x hx
      · have : x = ls[q] := by simpa using hx
        exact m1 x (this ▸ List.getElem_mem hql)
    · rw [List.length_eraseIdx]; split <;> omega
    · rw [List.length_append, List.length_singleton]; omega
  · rintro e t ⟨pt, et, lp, ls, xs, rfl, g1, g2, m1, m2, l1, l2⟩
    exact ⟨rfl, fin _ t xs pt et g2 m2 (by rw [l2, hnn])⟩
abbrev Picked (s : MS) (ns : List Int) : D → MS → Prop := fun d s' => ∃ (n : Nat) (xs : List Int), d = .ref n ∧ s.length ≤ n ∧ getL s' n = some (xs.map D.int) ∧ (∀ x ∈ xs, x ∈ ns) ∧ xs.length ≤ ns.length ∧ PenAt s' ∧ Ext s s'
theorem some_ok (fuel k : Nat) (s : MS) (h : PenAt s) {a : Nat} {ns : List Int} {most : Int} (ha : getL s a = some (ns.map D.int)) (ha2 : a ≠ 2) (h0 : 0 ≤ most) (h1 : most ≤ 900) (hz : ns.length ≤ 900) : okR ((L fuel (k + 3)).fn "_law_some_of" [.ref 2, .ref a, .int most] s) (Picked s ns) := by
  rw [fn__law_some_of]
  refine okR_fnD ?_
  unfold c__law_some_of
  rw [okS_cons]
  simp only [okR_some, okR_none, okS_nx, okS_rt, okS_bk, okS_ct, okR_ok, okR_ite, okS_ite, okS_nil, okR_and, okR_or, okR_chn, truth_bl, gc_app, gc_self, cmp_le, cmp_lt, e_var, e_cst, e_tup, e_lst, e_bin, e_neg, e_not, e_cmp, e_isN, e_ntN, e_ite, e_call, e_blt, e_isa, e_mth, e_ix, e_sl, e_lc, es_nil, es_cons, ts_nil', ts_one', lc_turn, it_seq, it_enm, it_zip, it_rng, rng_1, rng_2, okT_some, x_asg, x_par, x_sub, x_expr, x_ret, x_if, x_for, for_turn, x_while, wh_test, x_pass, x_brk, x_cnt, asg_nm, asg_tup, asg_cons, asg_nil, List.getElem?_cons_zero, List.getElem?_cons_succ, List.set_cons_zero, List.set_cons_succ, List.length_cons, List.length_nil, List.map_cons, List.map_nil, List.replicate, List.cons_append, List.nil_append, Option.bind_some, Option.map_some, Option.map_none, Nat.reduceAdd, Nat.reduceSub, Nat.reduceLT, ↓reduceIte, wipeE, ite_self, Option.join_some, Bool.not_true, Bool.not_false, Bool.false_eq_true, and_self, and_true, true_and, isNon, partD, okO_some, okO_none, ok_srcT, ok_srcL, ok_enmT, ok_enmL, seq_ref, lst_ref, b_lenT, b_lenL, b_lenR, b_listT, b_listL, b_listR, b_tupT, b_tupR, b_all, b_any, b_int, b_min, b_max, b_repr, b_ssetR, b_lsetT, b_sortR, b_rangeL1, x_ixT, x_ixR, x_ixL, x_set, m_append, m_extend, m_popAt, c_eq, c_ne, c_in, c_ni, c_lt, c_le, c_gt, c_ge, t_bl, t_ref, o_add, o_sub, o_mul, o_mod, o_div, o_pow, o_cat, n_new, i_tup, i_int, i_non, s_lT0, s_lL0, at_0, at_1, at_2, ha]
  have hs := h.len
  generalize hS : (s ++ [MO.lst (ns.map D.int)] ++ [MO.lst []] : MS) = S
  have eS : Ext s S := by rw [← hS, List.append_assoc]; exact Ext.app _ _
  have pS : PenAt S := by rw [← hS, List.append_assoc]; exact h.app
  have gA : getL S s.length = some (ns.map D.int) := by rw [← hS, List.append_assoc]; exact getL_new
  have gB : getL S (s.length + 1) = some [] := by rw [← hS, List.append_assoc]; exact getL_new2
  have hl2 : (s ++ [MO.lst (ns.map D.int)]).length = s.length + 1 := by simp
  rw [hl2, okS_cons]
  simp only [okR_some, okR_none, okS_nx, okS_rt, okS_bk, okS_ct, okR_ok, okR_ite, okS_ite, okS_nil, okR_and, okR_or, okR_chn, truth_bl, gc_app, gc_self, cmp_le, cmp_lt, e_var, e_cst, e_tup, e_lst, e_bin, e_neg, e_not, e_cmp, e_isN, e_ntN, e_ite, e_call, e_blt, e_isa, e_mth, e_ix, e_sl, e_lc, es_nil, es_cons, ts_nil', ts_one', lc_turn, it_seq, it_enm, it_zip, it_rng, rng_1, rng_2, okT_some, x_asg, x_par, x_sub, x_expr, x_ret, x_if, x_for, for_turn, x_while, wh_test, x_pass, x_brk, x_cnt, asg_nm, asg_tup, asg_cons, asg_nil, List.getElem?_cons_zero, List.getElem?_cons_succ, List.set_cons_zero, List.set_cons_succ, List.length_cons, List.length_nil, List.map_cons, List.map_nil, List.replicate, List.cons_append, List.nil_append, Option.bind_some, Option.map_some, Option.map_none, Nat.reduceAdd, Nat.reduceSub, Nat.reduceLT, ↓reduceIte, wipeE, ite_self, Option.join_some, Bool.not_true, Bool.not_false, Bool.false_eq_true, and_self, and_true, true_and, isNon, partD, okO_some, okO_none, ok_srcT, ok_srcL, ok_enmT, ok_enmL, seq_ref, lst_ref, b_lenT, b_lenL, b_lenR, b_listT, b_listL, b_listR, b_tupT, b_tupR, b_all, b_any, b_int, b_min, b_max, b_repr, b_ssetR, b_lsetT, b_sortR, b_rangeL1, x_ixT, x_ixR, x_ixL, x_set, m_append, m_extend, m_popAt, c_eq, c_ne, c_in, c_ni, c_lt, c_le, c_gt, c_ge, t_bl, t_ref, o_add, o_sub, o_mul, o_mod, o_div, o_pow, o_cat, n_new, i_tup, i_int, i_non, s_lT0, s_lL0, at_0, at_1, at_2, gA]
  refine okR_mono (draw_ok fuel k S pS (b := most + 1) (by omega) (by omega)) ?_
  rintro d S1 ⟨⟨i, rfl, i0, i1⟩, p1, e1⟩
  simp only [okR_some, okR_none, okS_nx, okS_rt, okS_bk, okS_ct, okR_ok, okR_ite, okS_ite, okS_nil, okR_and, okR_or, okR_chn, truth_bl, gc_app, gc_self, cmp_le, cmp_lt, e_var, e_cst, e_tup, e_lst, e_bin, e_neg, e_not, e_cmp, e_isN, e_ntN, e_ite, e_call, e_blt, e_isa, e_mth, e_ix, e_sl, e_lc, es_nil, es_cons, ts_nil', ts_one', lc_turn, it_seq, it_enm, it_zip, it_rng, rng_1, rng_2, okT_some, x_asg, x_par, x_sub, x_expr, x_ret, x_if, x_for, for_turn, x_while, wh_test, x_pass, x_brk, x_cnt, asg_nm, asg_tup, asg_cons, asg_nil, List.getElem?_cons_zero, List.getElem?_cons_succ, List.set_cons_zero, List.set_cons_succ, List.length_cons, List.length_nil, List.map_cons, List.map_nil, List.replicate, List.cons_append, List.nil_append, Option.bind_some, Option.map_some, Option.map_none, Nat.reduceAdd, Nat.reduceSub, Nat.reduceLT, ↓reduceIte, wipeE, ite_self, Option.join_some, Bool.not_true, Bool.not_false, Bool.false_eq_true, and_self, and_true, true_and, isNon, partD, okO_some, okO_none, ok_srcT, ok_srcL, ok_enmT, ok_enmL, seq_ref, lst_ref, b_lenT, b_lenL, b_lenR, b_listT, b_listL, b_listR, b_tupT, b_tupR, b_all, b_any, b_int, b_min, b_max, b_repr, b_ssetR, b_lsetT, b_sortR, b_rangeL1, x_ixT, x_ixR, x_ixL, x_set, m_append, m_extend, m_popAt, c_eq, c_ne, c_in, c_ni, c_lt, c_le, c_gt, c_ge, t_bl, t_ref, o_add, o_sub, o_mul, o_mod, o_div, o_pow, o_cat, n_new, i_tup, i_int, i_non, s_lT0, s_lL0, at_0, at_1, at_2]
  rw [List.length_map, if_pos (by unfold inR; rw [Bool.and_eq_true, decide_eq_true_eq, decide_eq_true_eq]; split <;> constructor <;> omega)]
  refine pick_loop fuel k (Nat.le_refl _) hs p1 (eS.trans e1) (e1.getL gA (by omega)) (e1.getL gB (by omega)) (by split <;> omega) hz ?_
  intro lp t xs pt et gt mt lt
  dsimp only
  rw [okS_cons]
  simp only [okR_some, okR_none, okS_nx, okS_rt, okS_bk, okS_ct, okR_ok, okR_ite, okS_ite, okS_nil, okR_and, okR_or, okR_chn, truth_bl, gc_app, gc_self, cmp_le, cmp_lt, e_var, e_cst, e_tup, e_lst, e_bin, e_neg, e_not, e_cmp, e_isN, e_ntN, e_ite, e_call, e_blt, e_isa, e_mth, e_ix, e_sl, e_lc, es_nil, es_cons, ts_nil', ts_one', lc_turn, it_seq, it_enm, it_zip, it_rng, rng_1, rng_2, okT_some, x_asg, x_par, x_sub, x_expr, x_ret, x_if, x_for, for_turn, x_while, wh_test, x_pass, x_brk, x_cnt, asg_nm, asg_tup, asg_cons, asg_nil, List.getElem?_cons_zero, List.getElem?_cons_succ, List.set_cons_zero, List.set_cons_succ, List.length_cons, List.length_nil, List.map_cons, List.map_nil, List.replicate, List.cons_append, List.nil_append, Option.bind_some, Option.map_some, Option.map_none, Nat.reduceAdd, Nat.reduceSub, Nat.reduceLT, ↓reduceIte, wipeE, ite_self, Option.join_some, Bool.not_true, Bool.not_false, Bool.false_eq_true, and_self, and_true, true_and, isNon, partD, okO_some, okO_none, ok_srcT, ok_srcL, ok_enmT, ok_enmL, seq_ref, lst_ref, b_lenT, b_lenL, b_lenR, b_listT, b_listL, b_listR, b_tupT, b_tupR, b_all, b_any, b_int, b_min, b_max, b_repr, b_ssetR, b_lsetT, b_sortR, b_rangeL1, x_ixT, x_ixR, x_ixL, x_set, m_append, m_extend, m_popAt, c_eq, c_ne, c_in, c_ni, c_lt, c_le, c_gt, c_ge, t_bl, t_ref, o_add, o_sub, o_mul, o_mod, o_div, o_pow, o_cat, n_new, i_tup, i_int, i_non, s_lT0, s_lL0, at_0, at_1, at_2]
  exact gc_end ⟨_, xs, rfl, by omega, gt, mt, by rw [lt]; split <;> omega, pt, et⟩ (fun _ hc => absurd hc (by simp [cleanD])) (lev_same _ _ _)
theorem atom_ok (fuel k : Nat) (s : MS) (h : PenAt s) {a : Nat} {ns : List Int} {width : Int} (ha : getL s a = some (ns.map D.int)) (ha2 : a ≠ 2) (h0 : 1 ≤ width) (h1 : width ≤ 30) (hz : ns.length ≤ 900) (hne : 1 ≤ ns.length) : okR ((L fuel (k + 3)).fn "_law_atom" [.ref 2, .ref a, .int width] s)
    (fun d s' => ∃ xs : List Int, d = .tup (xs.map D.int) ∧ (∀ x ∈ xs, x ∈ ns) ∧ 1 ≤ xs.length ∧ (xs.length : Int) ≤ width ∧ PenAt s' ∧ Ext s s') := by
  rw [fn__law_atom]
  refine okR_fnD ?_
  unfold c__law_atom
  rw [okS_cons]
  simp only [okR_some, okR_none, okS_nx, okS_rt, okS_bk, okS_ct, okR_ok, okR_ite, okS_ite, okS_nil, okR_and, okR_or, okR_chn, truth_bl, gc_app, gc_self, cmp_le, cmp_lt, e_var, e_cst, e_tup, e_lst, e_bin, e_neg, e_not, e_cmp, e_isN, e_ntN, e_ite, e_call, e_blt, e_isa, e_mth, e_ix, e_sl, e_lc, es_nil, es_cons, ts_nil', ts_one', lc_turn, it_seq, it_enm, it_zip, it_rng, rng_1, rng_2, okT_some, x_asg, x_par, x_sub, x_expr, x_ret, x_if, x_for, for_turn, x_while, wh_test, x_pass, x_brk, x_cnt, asg_nm, asg_tup, asg_cons, asg_nil, List.getElem?_cons_zero, List.getElem?_cons_succ, List.set_cons_zero, List.set_cons_succ, List.length_cons, List.length_nil, List.map_cons, List.map_nil, List.replicate, List.cons_append, List.nil_append, Option.bind_some, Option.map_some, Option.map_none, Nat.reduceAdd, Nat.reduceSub, Nat.reduceLT, ↓reduceIte, wipeE, ite_self, Option.join_some, Bool.not_true, Bool.not_false, Bool.false_eq_true, and_self, and_true, true_and, isNon, partD, okO_some, okO_none, ok_srcT, ok_srcL, ok_enmT, ok_enmL, seq_ref, lst_ref, b_lenT, b_lenL, b_lenR, b_listT, b_listL, b_listR, b_tupT, b_tupR, b_all, b_any, b_int, b_min, b_max, b_repr, b_ssetR, b_lsetT, b_sortR, b_rangeL1, x_ixT, x_ixR, x_ixL, x_set, m_append, m_extend, m_popAt, c_eq, c_ne, c_in, c_ni, c_lt, c_le, c_gt, c_ge, t_bl, t_ref, o_add, o_sub, o_mul, o_mod, o_div, o_pow, o_cat, n_new, i_tup, i_int, i_non, s_lT0, s_lL0, at_0, at_1, at_2, ha]
  have hs := h.len
  generalize hS : (s ++ [MO.lst (ns.map D.int)] ++ [MO.lst []] : MS) = S
  have eS : Ext s S := by rw [← hS, List.append_assoc]; exact Ext.app _ _
  have pS : PenAt S := by rw [← hS, List.append_assoc]; exact h.app
  have gA : getL S s.length = some (ns.map D.int) := by rw [← hS, List.append_assoc]; exact getL_new
  have gB : getL S (s.length + 1) = some [] := by rw [← hS, List.append_assoc]; exact getL_new2
  have hl2 : (s ++ [MO.lst (ns.map D.int)]).length = s.length + 1 := by simp
  rw [hl2, okS_cons]
  simp only [okR_some, okR_none, okS_nx, okS_rt, okS_bk, okS_ct, okR_ok, okR_ite, okS_ite, okS_nil, okR_and, okR_or, okR_chn, truth_bl, gc_app, gc_self, cmp_le, cmp_lt, e_var, e_cst, e_tup, e_lst, e_bin, e_neg, e_not, e_cmp, e_isN, e_ntN, e_ite, e_call, e_blt, e_isa, e_mth, e_ix, e_sl, e_lc, es_nil, es_cons, ts_nil', ts_one', lc_turn, it_seq, it_enm, it_zip, it_rng, rng_1, rng_2, okT_some, x_asg, x_par, x_sub, x_expr, x_ret, x_if, x_for, for_turn, x_while, wh_test, x_pass, x_brk, x_cnt, asg_nm, asg_tup, asg_cons, asg_nil, List.getElem?_cons_zero, List.getElem?_cons_succ, List.set_cons_zero, List.set_cons_succ, List.length_cons, List.length_nil, List.map_cons, List.map_nil, List.replicate, List.cons_append, List.nil_append, Option.bind_some, Option.map_some, Option.map_none, Nat.reduceAdd, Nat.reduceSub, Nat.reduceLT, ↓reduceIte, wipeE, ite_self, Option.join_some, Bool.not_true, Bool.not_false, Bool.false_eq_true, and_self, and_true, true_and, isNon, partD, okO_some, okO_none, ok_srcT, ok_srcL, ok_enmT, ok_enmL, seq_ref, lst_ref, b_lenT, b_lenL, b_lenR, b_listT, b_listL, b_listR, b_tupT, b_tupR, b_all, b_any, b_int, b_min, b_max, b_repr, b_ssetR, b_lsetT, b_sortR, b_rangeL1, x_ixT, x_ixR, x_ixL, x_set, m_append, m_extend, m_popAt, c_eq, c_ne, c_in, c_ni, c_lt, c_le, c_gt, c_ge, t_bl, t_ref, o_add, o_sub, o_mul, o_mod, o_div, o_pow, o_cat, n_new, i_tup, i_int, i_non, s_lT0, s_lL0, at_0, at_1, at_2, gA]
  refine okR_mono (draw_ok fuel k S pS (b := width) h0 (by omega)) ?_
  rintro d S1 ⟨⟨i, rfl, i0, i1⟩, p1, e1⟩
  simp only [okR_some, okR_none, okS_nx, okS_rt, okS_bk, okS_ct, okR_ok, okR_ite, okS_ite, okS_nil, okR_and, okR_or, okR_chn, truth_bl, gc_app, gc_self, cmp_le, cmp_lt, e_var, e_cst, e_tup, e_lst, e_bin, e_neg, e_not, e_cmp, e_isN, e_ntN, e_ite, e_call, e_blt, e_isa, e_mth, e_ix, e_sl, e_lc, es_nil, es_cons, ts_nil', ts_one', lc_turn, it_seq, it_enm, it_zip, it_rng, rng_1, rng_2, okT_some, x_asg, x_par, x_sub, x_expr, x_ret, x_if, x_for, for_turn, x_while, wh_test, x_pass, x_brk, x_cnt, asg_nm, asg_tup, asg_cons, asg_nil, List.getElem?_cons_zero, List.getElem?_cons_succ, List.set_cons_zero, List.set_cons_succ, List.length_cons, List.length_nil, List.map_cons, List.map_nil, List.replicate, List.cons_append, List.nil_append, Option.bind_some, Option.map_some, Option.map_none, Nat.reduceAdd, Nat.reduceSub, Nat.reduceLT, ↓reduceIte, wipeE, ite_self, Option.join_some, Bool.not_true, Bool.not_false, Bool.false_eq_true, and_self, and_true, true_and, isNon, partD, okO_some, okO_none, ok_srcT, ok_srcL, ok_enmT, ok_enmL, seq_ref, lst_ref, b_lenT, b_lenL, b_lenR, b_listT, b_listL, b_listR, b_tupT, b_tupR, b_all, b_any, b_int, b_min, b_max, b_repr, b_ssetR, b_lsetT, b_sortR, b_rangeL1, x_ixT, x_ixR, x_ixL, x_set, m_append, m_extend, m_popAt, c_eq, c_ne, c_in, c_ni, c_lt, c_le, c_gt, c_ge, t_bl, t_ref, o_add, o_sub, o_mul, o_mod, o_div, o_pow, o_cat, n_new, i_tup, i_int, i_non, s_lT0, s_lL0, at_0, at_1, at_2]
  rw [List.length_map, if_pos (by unfold inR; rw [Bool.and_eq_true, decide_eq_true_eq, decide_eq_true_eq]; split <;> constructor <;> omega)]
  refine pick_loop fuel k (Nat.le_refl _) hs p1 (eS.trans e1) (e1.getL gA (by omega)) (e1.getL gB (by omega)) (by split <;> omega) hz ?_
  intro lp t xs pt et gt mt lt
  dsimp only
  rw [okS_cons]
  simp only [okR_some, okR_none, okS_nx, okS_rt, okS_bk, okS_ct, okR_ok, okR_ite, okS_ite, okS_nil, okR_and, okR_or, okR_chn, truth_bl, gc_app, gc_self, cmp_le, cmp_lt, e_var, e_cst, e_tup, e_lst, e_bin, e_neg, e_not, e_cmp, e_isN, e_ntN, e_ite, e_call, e_blt, e_isa, e_mth, e_ix, e_sl, e_lc, es_nil, es_cons, ts_nil', ts_one', lc_turn, it_seq, it_enm, it_zip, it_rng, rng_1, rng_2, okT_some, x_asg, x_par, x_sub, x_expr, x_ret, x_if, x_for, for_turn, x_while, wh_test, x_pass, x_brk, x_cnt, asg_nm, asg_tup, asg_cons, asg_nil, List.getElem?_cons_zero, List.getElem?_cons_succ, List.set_cons_zero, List.set_cons_succ, List.length_cons, List.length_nil, List.map_cons, List.map_nil, List.replicate, List.cons_append, List.nil_append, Option.bind_some, Option.map_some, Option.map_none, Nat.reduceAdd, Nat.reduceSub, Nat.reduceLT, ↓reduceIte, wipeE, ite_self, Option.join_some, Bool.not_true, Bool.not_false, Bool.false_eq_true, and_self, and_true, true_and, isNon, partD, okO_some, okO_none, ok_srcT, ok_srcL, ok_enmT, ok_enmL, seq_ref, lst_ref, b_lenT, b_lenL, b_lenR, b_listT, b_listL, b_listR, b_tupT, b_tupR, b_all, b_any, b_int, b_min, b_max, b_repr, b_ssetR, b_lsetT, b_sortR, b_rangeL1, x_ixT, x_ixR, x_ixL, x_set, m_append, m_extend, m_popAt, c_eq, c_ne, c_in, c_ni, c_lt, c_le, c_gt, c_ge, t_bl, t_ref, o_add, o_sub, o_mul, o_mod, o_div, o_pow, o_cat, n_new, i_tup, i_int, i_non, s_lT0, s_lL0, at_0, at_1, at_2, gt]
  have lx : 1 ≤ xs.length ∧ (xs.length : Int) ≤ width := by rw [lt]; split <;> omega
  exact gc_end ⟨xs, rfl, mt, lx.1, lx.2, pt, et⟩ (fun _ _ => ⟨xs, rfl, mt, lx.1, lx.2, h, Ext.refl s⟩) (lev_same _ _ _)
end K03

namespace K03
open PySem Mir
theorem one_ok (fuel k : Nat) (s : MS) (h : PenAt s) {a : Nat} {ns : List Int} (ha : getL s a = some (ns.map D.int)) (ha2 : a ≠ 2) (hz : ns.length ≤ 900) (hne : 1 ≤ ns.length) : okR ((L fuel (k + 3)).fn "_law_one_of" [.ref 2, .ref a] s)
    (fun d s' => (∃ i, d = .int i ∧ i ∈ ns) ∧ PenAt s' ∧ Ext s s') := by
  rw [fn__law_one_of]
  refine okR_fnD ?_
  unfold c__law_one_of
  rw [okS_cons]
  simp only [okR_some, okR_none, okS_nx, okS_rt, okS_bk, okS_ct, okR_ok, okR_ite, okS_ite, okS_nil, okR_and, okR_or, okR_chn, truth_bl, gc_app, gc_self, cmp_le, cmp_lt, e_var, e_cst, e_tup, e_lst, e_bin, e_neg, e_not, e_cmp, e_isN, e_ntN, e_ite, e_call, e_blt, e_isa, e_mth, e_ix, e_sl, e_lc, es_nil, es_cons, ts_nil', ts_one', lc_turn, it_seq, it_enm, it_zip, it_rng, rng_1, rng_2, okT_some, x_asg, x_par, x_sub, x_expr, x_ret, x_if, x_for, for_turn, x_while, wh_test, x_pass, x_brk, x_cnt, asg_nm, asg_tup, asg_cons, asg_nil, List.getElem?_cons_zero, List.getElem?_cons_succ, List.set_cons_zero, List.set_cons_succ, List.length_cons, List.length_nil, List.map_cons, List.map_nil, List.replicate, List.cons_append, List.nil_append, Option.bind_some, Option.map_some, Option.map_none, Nat.reduceAdd, Nat.reduceSub, Nat.reduceLT, ↓reduceIte, wipeE, ite_self, Option.join_some, Bool.not_true, Bool.not_false, Bool.false_eq_true, and_self, and_true, true_and, isNon, partD, okO_some, okO_none, ok_srcT, ok_srcL, ok_enmT, ok_enmL, seq_ref, lst_ref, b_lenT, b_lenL, b_lenR, b_listT, b_listL, b_listR, b_tupT, b_tupR, b_all, b_any, b_int, b_min, b_max, b_repr, b_ssetR, b_lsetT, b_sortR, b_rangeL1, x_ixT, x_ixR, x_ixL, x_set, m_append, m_extend, m_popAt, c_eq, c_ne, c_in, c_ni, c_lt, c_le, c_gt, c_ge, t_bl, t_ref, o_add, o_sub, o_mul, o_mod, o_div, o_pow, o_cat, n_new, i_tup, i_int, i_non, s_lT0, s_lL0, at_0, at_1, at_2, ha]
  refine okR_mono (draw_ok fuel k s h (b := ((ns.map D.int).length : Nat)) (by rw [List.length_map]; omega) (by rw [List.length_map]; omega)) ?_
  rintro d S1 ⟨⟨i, rfl, i0, i1⟩, p1, e1⟩
  have g1 := e1.getL ha ha2
  rw [List.length_map] at i1
  obtain ⟨c, hc, hm⟩ := atI_ints (ns := ns) i0 i1
  simp only [okR_some, okR_none, okS_nx, okS_rt, okS_bk, okS_ct, okR_ok, okR_ite, okS_ite, okS_nil, okR_and, okR_or, okR_chn, truth_bl, gc_app, gc_self, cmp_le, cmp_lt, e_var, e_cst, e_tup, e_lst, e_bin, e_neg, e_not, e_cmp, e_isN, e_ntN, e_ite, e_call, e_blt, e_isa, e_mth, e_ix, e_sl, e_lc, es_nil, es_cons, ts_nil', ts_one', lc_turn, it_seq, it_enm, it_zip, it_rng, rng_1, rng_2, okT_some, x_asg, x_par, x_sub, x_expr, x_ret, x_if, x_for, for_turn, x_while, wh_test, x_pass, x_brk, x_cnt, asg_nm, asg_tup, asg_cons, asg_nil, List.getElem?_cons_zero, List.getElem?_cons_succ, List.set_cons_zero, List.set_cons_succ, List.length_cons, List.length_nil, List.map_cons, List.map_nil, List.replicate, List.cons_append, List.nil_append, Option.bind_some, Option.map_some, Option.map_none, Nat.reduceAdd, Nat.reduceSub, Nat.reduceLT, ↓reduceIte, wipeE, ite_self, Option.join_some, Bool.not_true, Bool.not_false, Bool.false_eq_true, and_self, and_true, true_and, isNon, partD, okO_some, okO_none, ok_srcT, ok_srcL, ok_enmT, ok_enmL, seq_ref, lst_ref, b_lenT, b_lenL, b_lenR, b_listT, b_listL, b_listR, b_tupT, b_tupR, b_all, b_any, b_int, b_min, b_max, b_repr, b_ssetR, b_lsetT, b_sortR, b_rangeL1, x_ixT, x_ixR, x_ixL, x_set, m_append, m_extend, m_popAt, c_eq, c_ne, c_in, c_ni, c_lt, c_le, c_gt, c_ge, t_bl, t_ref, o_add, o_sub, o_mul, o_mod, o_div, o_pow, o_cat, n_new, i_tup, i_int, i_non, s_lT0, s_lL0, at_0, at_1, at_2, g1, hc]
  exact gc_end ⟨⟨c, rfl, hm⟩, p1, e1⟩ (fun _ _ => ⟨⟨c, rfl, hm⟩, h, Ext.refl s⟩) (lev_same _ _ _)
abbrev tI (xs : List Int) : D := .tup (xs.map D.int)
theorem set_new {s t : MS} {o o' : MO} : (s ++ o :: t).set s.length o' = s ++ o' :: t := by
  rw [List.set_append_right _ _ (Nat.le_refl _), Nat.sub_self, List.set_cons_zero]
theorem vars_ok (fuel k : Nat) (s : MS) {hd : D} {as : List (List Int)} (hz : as.flatten.length < 64) : okR ((L fuel (k + 1)).fn "_law_variables" [.tup [hd, .tup (as.map tI)]] s)
    (fun d s' => ∃ (n : Nat) (t : MS), d = .ref n ∧ s.length ≤ n ∧ s' = s ++ t ∧ getL s' n = some ((srt as.flatten).map D.int)) := by
  rw [fn__law_variables]
  refine okR_fnD ?_
  unfold c__law_variables
  rw [okS_cons]
  simp only [okR_some, okR_none, okS_nx, okS_rt, okS_bk, okS_ct, okR_ok, okR_ite, okS_ite, okS_nil, okR_and, okR_or, okR_chn, truth_bl, gc_app, gc_self, cmp_le, cmp_lt, e_var, e_cst, e_tup, e_lst, e_bin, e_neg, e_not, e_cmp, e_isN, e_ntN, e_ite, e_call, e_blt, e_isa, e_mth, e_ix, e_sl, e_lc, es_nil, es_cons, ts_nil', ts_one', lc_turn, it_seq, it_enm, it_zip, it_rng, rng_1, rng_2, okT_some, x_asg, x_par, x_sub, x_expr, x_ret, x_if, x_for, for_turn, x_while, wh_test, x_pass, x_brk, x_cnt, asg_nm, asg_tup, asg_cons, asg_nil, List.getElem?_cons_zero, List.getElem?_cons_succ, List.set_cons_zero, List.set_cons_succ, List.length_cons, List.length_nil, List.map_cons, List.map_nil, List.replicate, List.cons_append, List.nil_append, Option.bind_some, Option.map_some, Option.map_none, Nat.reduceAdd, Nat.reduceSub, Nat.reduceLT, ↓reduceIte, wipeE, ite_self, Option.join_some, Bool.not_true, Bool.not_false, Bool.false_eq_true, and_self, and_true, true_and, isNon, partD, okO_some, okO_none, ok_srcT, ok_srcL, ok_enmT, ok_enmL, seq_ref, lst_ref, b_lenT, b_lenL, b_lenR, b_listT, b_listL, b_listR, b_tupT, b_tupR, b_all, b_any, b_int, b_min, b_max, b_repr, b_ssetR, b_lsetT, b_sortR, b_rangeL1, x_ixT, x_ixR, x_ixL, x_set, m_append, m_extend, m_popAt, c_eq, c_ne, c_in, c_ni, c_lt, c_le, c_gt, c_ge, t_bl, t_ref, o_add, o_sub, o_mul, o_mod, o_div, o_pow, o_cat, n_new, i_tup, i_int, i_non, s_lT0, s_lL0, at_0, at_1, at_2]
  rw [okS_cons]
  simp only [okR_some, okR_none, okS_nx, okS_rt, okS_bk, okS_ct, okR_ok, okR_ite, okS_ite, okS_nil, okR_and, okR_or, okR_chn, truth_bl, gc_app, gc_self, cmp_le, cmp_lt, e_var, e_cst, e_tup, e_lst, e_bin, e_neg, e_not, e_cmp, e_isN, e_ntN, e_ite, e_call, e_blt, e_isa, e_mth, e_ix, e_sl, e_lc, es_nil, es_cons, ts_nil', ts_one', lc_turn, it_seq, it_enm, it_zip, it_rng, rng_1, rng_2, okT_some, x_asg, x_par, x_sub, x_expr, x_ret, x_if, x_for, for_turn, x_while, wh_test, x_pass, x_brk, x_cnt, asg_nm, asg_tup, asg_cons, asg_nil, List.getElem?_cons_zero, List.getElem?_cons_succ, List.set_cons_zero, List.set_cons_succ, List.length_cons, List.length_nil, List.map_cons, List.map_nil, List.replicate, List.cons_append, List.nil_append, Option.bind_some, Option.map_some, Option.map_none, Nat.reduceAdd, Nat.reduceSub, Nat.reduceLT, ↓reduceIte, wipeE, ite_self, Option.join_some, Bool.not_true, Bool.not_false, Bool.false_eq_true, and_self, and_true, true_and, isNon, partD, okO_some, okO_none, ok_srcT, ok_srcL, ok_enmT, ok_enmL, seq_ref, lst_ref, b_lenT, b_lenL, b_lenR, b_listT, b_listL, b_listR, b_tupT, b_tupR, b_all, b_any, b_int, b_min, b_max, b_repr, b_ssetR, b_lsetT, b_sortR, b_rangeL1, x_ixT, x_ixR, x_ixL, x_set, m_append, m_extend, m_popAt, c_eq, c_ne, c_in, c_ni, c_lt, c_le, c_gt, c_ge, t_bl, t_ref, o_add, o_sub, o_mul, o_mod, o_div, o_pow, o_cat, n_new, i_tup, i_int, i_non, s_lT0, s_lL0, at_0, at_1, at_2]
  refine okS_for0 (fun j e t => ∃ (junk : MS) (lp : Option D), e = [some (.tup [hd, .tup (as.map tI)]), some (.ref s.length), lp] ∧ t = s ++ (.lst ((as.take j).flatten.map D.int) :: junk)) ⟨[], none, rfl, rfl⟩ ?_ ?_
  · rintro j e t hj ⟨junk, lp, rfl, rfl⟩
    have hj' : j < as.length := by
      have : j < (as.map tI).length := hj
      rwa [List.length_map] at this
    refine ⟨tI as[j], by show (as.map tI)[j]? = _; rw [List.getElem?_map, List.getElem?_eq_getElem hj']; rfl, ?_⟩
    rw [for_turn]
    simp only [okR_some, okR_none, okS_nx, okS_rt, okS_bk, okS_ct, okR_ok, okR_ite, okS_ite, okS_nil, okR_and, okR_or, okR_chn, truth_bl, gc_app, gc_self, cmp_le, cmp_lt, e_var, e_cst, e_tup, e_lst, e_bin, e_neg, e_not, e_cmp, e_isN, e_ntN, e_ite, e_call, e_blt, e_isa, e_mth, e_ix, e_sl, e_lc, es_nil, es_cons, ts_nil', ts_one', lc_turn, it_seq, it_enm, it_zip, it_rng, rng_1, rng_2, okT_some, x_asg, x_par, x_sub, x_expr, x_ret, x_if, x_for, for_turn, x_while, wh_test, x_pass, x_brk, x_cnt, asg_nm, asg_tup, asg_cons, asg_nil, List.getElem?_cons_zero, List.getElem?_cons_succ, List.set_cons_zero, List.set_cons_succ, List.length_cons, List.length_nil, List.map_cons, List.map_nil, List.replicate, List.cons_append, List.nil_append, Option.bind_some, Option.map_some, Option.map_none, Nat.reduceAdd, Nat.reduceSub, Nat.reduceLT, ↓reduceIte, wipeE, ite_self, Option.join_some, Bool.not_true, Bool.not_false, Bool.false_eq_true, and_self, and_true, true_and, isNon, partD, okO_some, okO_none, ok_srcT, ok_srcL, ok_enmT, ok_enmL, seq_ref, lst_ref, b_lenT, b_lenL, b_lenR, b_listT, b_listL, b_listR, b_tupT, b_tupR, b_all, b_any, b_int, b_min, b_max, b_repr, b_ssetR, b_lsetT, b_sortR, b_rangeL1, x_ixT, x_ixR, x_ixL, x_set, m_append, m_extend, m_popAt, c_eq, c_ne, c_in, c_ni, c_lt, c_le, c_gt, c_ge, t_bl, t_ref, o_add, o_sub, o_mul, o_mod, o_div, o_pow, o_cat, n_new, i_tup, i_int, i_non, s_lT0, s_lL0, at_0, at_1, at_2]
    rw [okS_cons]
    simp only [okR_some, okR_none, okS_nx, okS_rt, okS_bk, okS_ct, okR_ok, okR_ite, okS_ite, okS_nil, okR_and, okR_or, okR_chn, truth_bl, gc_app, gc_self, cmp_le, cmp_lt, e_var, e_cst, e_tup, e_lst, e_bin, e_neg, e_not, e_cmp, e_isN, e_ntN, e_ite, e_call, e_blt, e_isa, e_mth, e_ix, e_sl, e_lc, es_nil, es_cons, ts_nil', ts_one', lc_turn, it_seq, it_enm, it_zip, it_rng, rng_1, rng_2, okT_some, x_asg, x_par, x_sub, x_expr, x_ret, x_if, x_for, for_turn, x_while, wh_test, x_pass, x_brk, x_cnt, asg_nm, asg_tup, asg_cons, asg_nil, List.getElem?_cons_zero, List.getElem?_cons_succ, List.set_cons_zero, List.set_cons_succ, List.length_cons, List.length_nil, List.map_cons, List.map_nil, List.replicate, List.cons_append, List.nil_append, Option.bind_some, Option.map_some, Option.map_none, Nat.reduceAdd, Nat.reduceSub, Nat.reduceLT, ↓reduceIte, wipeE, ite_self, Option.join_some, Bool.not_true, Bool.not_false, Bool.false_eq_true, and_self, and_true, true_and, isNon, partD, okO_some, okO_none, ok_srcT, ok_srcL, ok_enmT, ok_enmL, seq_ref, lst_ref, b_lenT, b_lenL, b_lenR, b_listT, b_listL, b_listR, b_tupT, b_tupR, b_all, b_any, b_int, b_min, b_max, b_repr, b_ssetR, b_lsetT, b_sortR, b_rangeL1, x_ixT, x_ixR, x_ixL, x_set, m_append, m_extend, m_popAt, c_eq, c_ne, c_in, c_ni, c_lt, c_le, c_gt, c_ge, t_bl, t_ref, o_add, o_sub, o_mul, o_mod, o_div, o_pow, o_cat, n_new, i_tup, i_int, i_non, s_lT0, s_lL0, at_0, at_1, at_2]
    rw [getL_app getL_new]
    simp only [okR_some, okR_none, okS_nx, okS_rt, okS_bk, okS_ct, okR_ok, okR_ite, okS_ite, okS_nil, okR_and, okR_or, okR_chn, truth_bl, gc_app, gc_self, cmp_le, cmp_lt, e_var, e_cst, e_tup, e_lst, e_bin, e_neg, e_not, e_cmp, e_isN, e_ntN, e_ite, e_call, e_blt, e_isa, e_mth, e_ix, e_sl, e_lc, es_nil, es_cons, ts_nil', ts_one', lc_turn, it_seq, it_enm, it_zip, it_rng, rng_1, rng_2, okT_some, x_asg, x_par, x_sub, x_expr, x_ret, x_if, x_for, for_turn, x_while, wh_test, x_pass, x_brk, x_cnt, asg_nm, asg_tup, asg_cons, asg_nil, List.getElem?_cons_zero, List.getElem?_cons_succ, List.set_cons_zero, List.set_cons_succ, List.length_cons, List.length_nil, List.map_cons, List.map_nil, List.replicate, List.cons_append, List.nil_append, Option.bind_some, Option.map_some, Option.map_none, Nat.reduceAdd, Nat.reduceSub, Nat.reduceLT, ↓reduceIte, wipeE, ite_self, Option.join_some, Bool.not_true, Bool.not_false, Bool.false_eq_true, and_self, and_true, true_and, isNon, partD, okO_some, okO_none, ok_srcT, ok_srcL, ok_enmT, ok_enmL, seq_ref, lst_ref, b_lenT, b_lenL, b_lenR, b_listT, b_listL, b_listR, b_tupT, b_tupR, b_all, b_any, b_int, b_min, b_max, b_repr, b_ssetR, b_lsetT, b_sortR, b_rangeL1, x_ixT, x_ixR, x_ixL, x_set, m_append, m_extend, m_popAt, c_eq, c_ne, c_in, c_ni, c_lt, c_le, c_gt, c_ge, t_bl, t_ref, o_add, o_sub, o_mul, o_mod, o_div, o_pow, o_cat, n_new, i_tup, i_int, i_non, s_lT0, s_lL0, at_0, at_1, at_2]
    rw [getL_new]
    simp only [okR_some, okR_none, okS_nx, okS_rt, okS_bk, okS_ct, okR_ok, okR_ite, okS_ite, okS_nil, okR_and, okR_or, okR_chn, truth_bl, gc_app, gc_self, cmp_le, cmp_lt, e_var, e_cst, e_tup, e_lst, e_bin, e_neg, e_not, e_cmp, e_isN, e_ntN, e_ite, e_call, e_blt, e_isa, e_mth, e_ix, e_sl, e_lc, es_nil, es_cons, ts_nil', ts_one', lc_turn, it_seq, it_enm, it_zip, it_rng, rng_1, rng_2, okT_some, x_asg, x_par, x_sub, x_expr, x_ret, x_if, x_for, for_turn, x_while, wh_test, x_pass, x_brk, x_cnt, asg_nm, asg_tup, asg_cons, asg_nil, List.getElem?_cons_zero, List.getElem?_cons_succ, List.set_cons_zero, List.set_cons_succ, List.length_cons, List.length_nil, List.map_cons, List.map_nil, List.replicate, List.cons_append, List.nil_append, Option.bind_some, Option.map_some, Option.map_none, Nat.reduceAdd, Nat.reduceSub, Nat.reduceLT, ↓reduceIte, wipeE, ite_self, Option.join_some, Bool.not_true, Bool.not_false, Bool.false_eq_true, and_self, and_true, true_and, isNon, partD, okO_some, okO_none, ok_srcT, ok_srcL, ok_enmT, ok_enmL, seq_ref, lst_ref, b_lenT, b_lenL, b_lenR, b_listT, b_listL, b_listR, b_tupT, b_tupR, b_all, b_any, b_int, b_min, b_max, b_repr, b_ssetR, b_lsetT, b_sortR, b_rangeL1, x_ixT, x_ixR, x_ixL, x_set, m_append, m_extend, m_popAt, c_eq, c_ne, c_in, c_ni, c_lt, c_le, c_gt, c_ge, t_bl, t_ref, o_add, o_sub, o_mul, o_mod, o_div, o_pow, o_cat, n_new, i_tup, i_int, i_non, s_lT0, s_lL0, at_0, at_1, at_2]
    have hle : (as.take j).flatten.length + as[j].length ≤ 64 := by
      have e1 : as.flatten.length = ((as.take j).flatten ++ (as.drop j).flatten).length := by rw [← List.flatten_append, List.take_append_drop]
      have e2 : (as.drop j).flatten.length = as[j].length + (as.drop (j + 1)).flatten.length := by rw [List.drop_eq_getElem_cons hj', List.flatten_cons, List.length_append]
      rw [List.length_append] at e1
      omega
    rw [if_pos (by rw [List.length_map, List.length_map]; omega)]
    refine ⟨junk ++ [.lst (as[j].map D.int)], _, rfl, ?_⟩
    rw [List.append_assoc, List.cons_append, set_new, List.take_add_one, List.getElem?_eq_getElem hj', List.flatten_append, List.map_append]
    simp
  · rintro e t ⟨junk, lp, rfl, rfl⟩
    refine ⟨rfl, ?_⟩
    dsimp only
    rw [okS_cons]
    simp only [okR_some, okR_none, okS_nx, okS_rt, okS_bk, okS_ct, okR_ok, okR_ite, okS_ite, okS_nil, okR_and, okR_or, okR_chn, truth_bl, gc_app, gc_self, cmp_le, cmp_lt, e_var, e_cst, e_tup, e_lst, e_bin, e_neg, e_not, e_cmp, e_isN, e_ntN, e_ite, e_call, e_blt, e_isa, e_mth, e_ix, e_sl, e_lc, es_nil, es_cons, ts_nil', ts_one', lc_turn, it_seq, it_enm, it_zip, it_rng, rng_1, rng_2, okT_some, x_asg, x_par, x_sub, x_expr, x_ret, x_if, x_for, for_turn, x_while, wh_test, x_pass, x_brk, x_cnt, asg_nm, asg_tup, asg_cons, asg_nil, List.getElem?_cons_zero, List.getElem?_cons_succ, List.set_cons_zero, List.set_cons_succ, List.length_cons, List.length_nil, List.map_cons, List.map_nil, List.replicate, List.cons_append, List.nil_append, Option.bind_some, Option.map_some, Option.map_none, Nat.reduceAdd, Nat.reduceSub, Nat.reduceLT, ↓reduceIte, wipeE, ite_self, Option.join_some, Bool.not_true, Bool.not_false, Bool.false_eq_true, and_self, and_true, true_and, isNon, partD, okO_some, okO_none, ok_srcT, ok_srcL, ok_enmT, ok_enmL, seq_ref, lst_ref, b_lenT, b_lenL, b_lenR, b_listT, b_listL, b_listR, b_tupT, b_tupR, b_all, b_any, b_int, b_min, b_max, b_repr, b_ssetR, b_lsetT, b_sortR, b_rangeL1, x_ixT, x_ixR, x_ixL, x_set, m_append, m_extend, m_popAt, c_eq, c_ne, c_in, c_ni, c_lt, c_le, c_gt, c_ge, t_bl, t_ref, o_add, o_sub, o_mul, o_mod, o_div, o_pow, o_cat, n_new, i_tup, i_int, i_non, s_lT0, s_lL0, at_0, at_1, at_2]
    rw [getL_new]
    simp only [okR_some, okR_none, okS_nx, okS_rt, okS_bk, okS_ct, okR_ok, okR_ite, okS_ite, okS_nil, okR_and, okR_or, okR_chn, truth_bl, gc_app, gc_self, cmp_le, cmp_lt, e_var, e_cst, e_tup, e_lst, e_bin, e_neg, e_not, e_cmp, e_isN, e_ntN, e_ite, e_call, e_blt, e_isa, e_mth, e_ix, e_sl, e_lc, es_nil, es_cons, ts_nil', ts_one', lc_turn, it_seq, it_enm, it_zip, it_rng, rng_1, rng_2, okT_some, x_asg, x_par, x_sub, x_expr, x_ret, x_if, x_for, for_turn, x_while, wh_test, x_pass, x_brk, x_cnt, asg_nm, asg_tup, asg_cons, asg_nil, List.getElem?_cons_zero, List.getElem?_cons_succ, List.set_cons_zero, List.set_cons_succ, List.length_cons, List.length_nil, List.map_cons, List.map_nil, List.replicate, List.cons_append, List.nil_append, Option.bind_some, Option.map_some, Option.map_none, Nat.reduceAdd, Nat.reduceSub, Nat.reduceLT, ↓reduceIte, wipeE, ite_self, Option.join_some, Bool.not_true, Bool.not_false, Bool.false_eq_true, and_self, and_true, true_and, isNon, partD, okO_some, okO_none, ok_srcT, ok_srcL, ok_enmT, ok_enmL, seq_ref, lst_ref, b_lenT, b_lenL, b_lenR, b_listT, b_listL, b_listR, b_tupT, b_tupR, b_all, b_any, b_int, b_min, b_max, b_repr, b_ssetR, b_lsetT, b_sortR, b_rangeL1, x_ixT, x_ixR, x_ixL, x_set, m_append, m_extend, m_popAt, c_eq, c_ne, c_in, c_ni, c_lt, c_le, c_gt, c_ge, t_bl, t_ref, o_add, o_sub, o_mul, o_mod, o_div, o_pow, o_cat, n_new, i_tup, i_int, i_non, s_lT0, s_lL0, at_0, at_1, at_2]
    rw [show (as.take (srcT (as.map tI)).n) = as by
      show as.take (as.map tI).length = as
      rw [List.length_map, List.take_length], ints_of]
    simp only [okR_some, okR_none, okS_nx, okS_rt, okS_bk, okS_ct, okR_ok, okR_ite, okS_ite, okS_nil, okR_and, okR_or, okR_chn, truth_bl, gc_app, gc_self, cmp_le, cmp_lt, e_var, e_cst, e_tup, e_lst, e_bin, e_neg, e_not, e_cmp, e_isN, e_ntN, e_ite, e_call, e_blt, e_isa, e_mth, e_ix, e_sl, e_lc, es_nil, es_cons, ts_nil', ts_one', lc_turn, it_seq, it_enm, it_zip, it_rng, rng_1, rng_2, okT_some, x_asg, x_par, x_sub, x_expr, x_ret, x_if, x_for, for_turn, x_while, wh_test, x_pass, x_brk, x_cnt, asg_nm, asg_tup, asg_cons, asg_nil, List.getElem?_cons_zero, List.getElem?_cons_succ, List.set_cons_zero, List.set_cons_succ, List.length_cons, List.length_nil, List.map_cons, List.map_nil, List.replicate, List.cons_append, List.nil_append, Option.bind_some, Option.map_some, Option.map_none, Nat.reduceAdd, Nat.reduceSub, Nat.reduceLT, ↓reduceIte, wipeE, ite_self, Option.join_some, Bool.not_true, Bool.not_false, Bool.false_eq_true, and_self, and_true, true_and, isNon, partD, okO_some, okO_none, ok_srcT, ok_srcL, ok_enmT, ok_enmL, seq_ref, lst_ref, b_lenT, b_lenL, b_lenR, b_listT, b_listL, b_listR, b_tupT, b_tupR, b_all, b_any, b_int, b_min, b_max, b_repr, b_ssetR, b_lsetT, b_sortR, b_rangeL1, x_ixT, x_ixR, x_ixL, x_set, m_append, m_extend, m_popAt, c_eq, c_ne, c_in, c_ni, c_lt, c_le, c_gt, c_ge, t_bl, t_ref, o_add, o_sub, o_mul, o_mod, o_div, o_pow, o_cat, n_new, i_tup, i_int, i_non, s_lT0, s_lL0, at_0, at_1, at_2]
    rw [if_pos hz]
    refine gc_end ⟨_, _, rfl, ?_, by rw [List.append_assoc], getL_new⟩ (fun _ hc => absurd hc (by simp [cleanD])) (lev_same _ _ _)
    rw [List.length_append]
    omega
def InR (x : Int) : Prop := 0 ≤ x ∧ x < 7
structure QOk (hd : List Int) (as : List (List Int)) : Prop where
  h1 : hd.length ≤ 63
  h2 : ∀ x ∈ hd, InR x
  a0 : 1 ≤ as.length
  a1 : as.length ≤ 5
  a2 : ∀ xs ∈ as, 1 ≤ xs.length ∧ xs.length ≤ 4 ∧ ∀ x ∈ xs, InR x
theorem flat_le : ∀ (as : List (List Int)) {m : Nat}, (∀ xs ∈ as, xs.length ≤ m) → as.flatten.length ≤ as.length * m
  | [], m, _ => Nat.zero_le _
  | a :: r, m, h => by
    have h1 := h a List.mem_cons_self
    have h2 := flat_le r (m := m) fun xs hx => h xs (List.mem_cons_of_mem _ hx)
    rw [List.flatten_cons, List.length_append, List.length_cons, Nat.succ_mul]
    omega
abbrev qD (hd : List Int) (as : List (List Int)) : D := .tup [tI hd, .tup (as.map tI)]
def rgI (b : Int) : List Int := (List.range (b - 0).toNat).map fun i => (0 : Int) + (i : Nat)
theorem rgD_I (b : Int) : rgD 0 b = (rgI b).map D.int := by unfold rgD rgI; rw [List.map_map]; rfl
theorem rgI_len (b : Int) : (rgI b).length = b.toNat := by unfold rgI; rw [List.length_map, List.length_range, Int.sub_zero]
theorem rgI_mem {b x : Int} (h : x ∈ rgI b) : 0 ≤ x ∧ x < b := by
  unfold rgI at h
  obtain ⟨i, hi, rfl⟩ := List.mem_map.mp h
  have := List.mem_range.mp hi
  omega
theorem query_ok (fuel k : Nat) (s : MS) (h : PenAt s) : okR ((L fuel (k + 4)).fn "_law_query" [.ref 2, .int 5, .int 7, .int 4] s) (fun d s' => (∃ hd as, d = qD hd as ∧ QOk hd as) ∧ PenAt s' ∧ Ext s s') := by
  rw [fn__law_query]
  refine okR_fnD ?_
  unfold c__law_query
  have hs := h.len
  rw [okS_cons]
  simp only [okR_some, okR_none, okS_nx, okS_rt, okS_bk, okS_ct, okR_ok, okR_ite, okS_ite, okS_nil, okR_and, okR_or, okR_chn, truth_bl, gc_app, gc_self, cmp_le, cmp_lt, e_var, e_cst, e_tup, e_lst, e_bin, e_neg, e_not, e_cmp, e_isN, e_ntN, e_ite, e_call, e_blt, e_isa, e_mth, e_ix, e_sl, e_lc, es_nil, es_cons, ts_nil', ts_one', lc_turn, it_seq, it_enm, it_zip, it_rng, rng_1, rng_2, okT_some, x_asg, x_par, x_sub, x_expr, x_ret, x_if, x_for, for_turn, x_while, wh_test, x_pass, x_brk, x_cnt, asg_nm, asg_tup, asg_cons, asg_nil, List.getElem?_cons_zero, List.getElem?_cons_succ, List.set_cons_zero, List.set_cons_succ, List.length_cons, List.length_nil, List.map_cons, List.map_nil, List.replicate, List.cons_append, List.nil_append, Option.bind_some, Option.map_some, Option.map_none, Nat.reduceAdd, Nat.reduceSub, Nat.reduceLT, ↓reduceIte, wipeE, ite_self, Option.join_some, Bool.not_true, Bool.not_false, Bool.false_eq_true, and_self, and_true, true_and, isNon, partD, okO_some, okO_none, ok_srcT, ok_srcL, ok_enmT, ok_enmL, seq_ref, lst_ref, b_lenT, b_lenL, b_lenR, b_listT, b_listL, b_listR, b_tupT, b_tupR, b_all, b_any, b_int, b_min, b_max, b_repr, b_ssetR, b_lsetT, b_sortR, b_rangeL1, x_ixT, x_ixR, x_ixL, x_set, m_append, m_extend, m_popAt, c_eq, c_ne, c_in, c_ni, c_lt, c_le, c_gt, c_ge, t_bl, t_ref, o_add, o_sub, o_mul, o_mod, o_div, o_pow, o_cat, n_new, i_tup, i_int, i_non, s_lT0, s_lL0, at_0, at_1, at_2]
  refine okR_mono (draw_ok fuel (k + 1) s h (b := 7) (by omega) (by omega)) ?_
  rintro d S1 ⟨⟨i, rfl, i0, i1⟩, p1, e1⟩
  simp only [okR_some, okR_none, okS_nx, okS_rt, okS_bk, okS_ct, okR_ok, okR_ite, okS_ite, okS_nil, okR_and, okR_or, okR_chn, truth_bl, gc_app, gc_self, cmp_le, cmp_lt, e_var, e_cst, e_tup, e_lst, e_bin, e_neg, e_not, e_cmp, e_isN, e_ntN, e_ite, e_call, e_blt, e_isa, e_mth, e_ix, e_sl, e_lc, es_nil, es_cons, ts_nil', ts_one', lc_turn, it_seq, it_enm, it_zip, it_rng, rng_1, rng_2, okT_some, x_asg, x_par, x_sub, x_expr, x_ret, x_if, x_for, for_turn, x_while, wh_test, x_pass, x_brk, x_cnt, asg_nm, asg_tup, asg_cons, asg_nil, List.getElem?_cons_zero, List.getElem?_cons_succ, List.set_cons_zero, List.set_cons_succ, List.length_cons, List.length_nil, List.map_cons, List.map_nil, List.replicate, List.cons_append, List.nil_append, Option.bind_some, Option.map_some, Option.map_none, Nat.reduceAdd, Nat.reduceSub, Nat.reduceLT, ↓reduceIte, wipeE, ite_self, Option.join_some, Bool.not_true, Bool.not_false, Bool.false_eq_true, and_self, and_true, true_and, isNon, partD, okO_some, okO_none, ok_srcT, ok_srcL, ok_enmT, ok_enmL, seq_ref, lst_ref, b_lenT, b_lenL, b_lenR, b_listT, b_listL, b_listR, b_tupT, b_tupR, b_all, b_any, b_int, b_min, b_max, b_repr, b_ssetR, b_lsetT, b_sortR, b_rangeL1, x_ixT, x_ixR, x_ixL, x_set, m_append, m_extend, m_popAt, c_eq, c_ne, c_in, c_ni, c_lt, c_le, c_gt, c_ge, t_bl, t_ref, o_add, o_sub, o_mul, o_mod, o_div, o_pow, o_cat, n_new, i_tup, i_int, i_non, s_lT0, s_lL0, at_0, at_1, at_2]
  rw [if_pos (by unfold inR; simp only [Bool.and_eq_true, decide_eq_true_eq]; omega), rgD_I]
  generalize hS2 : (S1 ++ [MO.lst ((rgI (1 + i)).map D.int)] : MS) = S2
  have g2 : getL S2 S1.length = some ((rgI (1 + i)).map D.int) := by rw [← hS2]; exact getL_new
  have e2 : Ext S1 S2 := by rw [← hS2]; exact Ext.app _ _
  have p2 : PenAt S2 := by rw [← hS2]; exact p1.app
  have hA : S1.length ≠ 2 := by have := p1.len; omega
  have hl : (rgI (1 + i)).length = (1 + i).toNat := rgI_len _
  rw [okS_cons]
  simp only [okR_some, okR_none, okS_nx, okS_rt, okS_bk, okS_ct, okR_ok, okR_ite, okS_ite, okS_nil, okR_and, okR_or, okR_chn, truth_bl, gc_app, gc_self, cmp_le, cmp_lt, e_var, e_cst, e_tup, e_lst, e_bin, e_neg, e_not, e_cmp, e_isN, e_ntN, e_ite, e_call, e_blt, e_isa, e_mth, e_ix, e_sl, e_lc, es_nil, es_cons, ts_nil', ts_one', lc_turn, it_seq, it_enm, it_zip, it_rng, rng_1, rng_2, okT_some, x_asg, x_par, x_sub, x_expr, x_ret, x_if, x_for, for_turn, x_while, wh_test, x_pass, x_brk, x_cnt, asg_nm, asg_tup, asg_cons, asg_nil, List.getElem?_cons_zero, List.getElem?_cons_succ, List.set_cons_zero, List.set_cons_succ, List.length_cons, List.length_nil, List.map_cons, List.map_nil, List.replicate, List.cons_append, List.nil_append, Option.bind_some, Option.map_some, Option.map_none, Nat.reduceAdd, Nat.reduceSub, Nat.reduceLT, ↓reduceIte, wipeE, ite_self, Option.join_some, Bool.not_true, Bool.not_false, Bool.false_eq_true, and_self, and_true, true_and, isNon, partD, okO_some, okO_none, ok_srcT, ok_srcL, ok_enmT, ok_enmL, seq_ref, lst_ref, b_lenT, b_lenL, b_lenR, b_listT, b_listL, b_listR, b_tupT, b_tupR, b_all, b_any, b_int, b_min, b_max, b_repr, b_ssetR, b_lsetT, b_sortR, b_rangeL1, x_ixT, x_ixR, x_ixL, x_set, m_append, m_extend, m_popAt, c_eq, c_ne, c_in, c_ni, c_lt, c_le, c_gt, c_ge, t_bl, t_ref, o_add, o_sub, o_mul, o_mod, o_div, o_pow, o_cat, n_new, i_tup, i_int, i_non, s_lT0, s_lL0, at_0, at_1, at_2]
  refine okR_mono (draw_ok fuel (k + 1) S2 p2 (b := 5) (by omega) (by omega)) ?_
  rintro d S3 ⟨⟨m, rfl, m0, m1⟩, p3, e3⟩
  simp only [okR_some, okR_none, okS_nx, okS_rt, okS_bk, okS_ct, okR_ok, okR_ite, okS_ite, okS_nil, okR_and, okR_or, okR_chn, truth_bl, gc_app, gc_self, cmp_le, cmp_lt, e_var, e_cst, e_tup, e_lst, e_bin, e_neg, e_not, e_cmp, e_isN, e_ntN, e_ite, e_call, e_blt, e_isa, e_mth, e_ix, e_sl, e_lc, es_nil, es_cons, ts_nil', ts_one', lc_turn, it_seq, it_enm, it_zip, it_rng, rng_1, rng_2, okT_some, x_asg, x_par, x_sub, x_expr, x_ret, x_if, x_for, for_turn, x_while, wh_test, x_pass, x_brk, x_cnt, asg_nm, asg_tup, asg_cons, asg_nil, List.getElem?_cons_zero, List.getElem?_cons_succ, List.set_cons_zero, List.set_cons_succ, List.length_cons, List.length_nil, List.map_cons, List.map_nil, List.replicate, List.cons_append, List.nil_append, Option.bind_some, Option.map_some, Option.map_none, Nat.reduceAdd, Nat.reduceSub, Nat.reduceLT, ↓reduceIte, wipeE, ite_self, Option.join_some, Bool.not_true, Bool.not_false, Bool.false_eq_true, and_self, and_true, true_and, isNon, partD, okO_some, okO_none, ok_srcT, ok_srcL, ok_enmT, ok_enmL, seq_ref, lst_ref, b_lenT, b_lenL, b_lenR, b_listT, b_listL, b_listR, b_tupT, b_tupR, b_all, b_any, b_int, b_min, b_max, b_repr, b_ssetR, b_lsetT, b_sortR, b_rangeL1, x_ixT, x_ixR, x_ixL, x_set, m_append, m_extend, m_popAt, c_eq, c_ne, c_in, c_ni, c_lt, c_le, c_gt, c_ge, t_bl, t_ref, o_add, o_sub, o_mul, o_mod, o_div, o_pow, o_cat, n_new, i_tup, i_int, i_non, s_lT0, s_lL0, at_0, at_1, at_2]
  rw [if_pos (by unfold inR; simp only [Bool.and_eq_true, decide_eq_true_eq]; omega)]
  have g3 := e3.getL g2 hA
  refine okR_lc0 (fun j acc t => PenAt t ∧ Ext S3 t ∧ ∃ as : List (List Int), acc = as.map tI ∧ as.length = j ∧ ∀ xs ∈ as, 1 ≤ xs.length ∧ xs.length ≤ 4 ∧ ∀ x ∈ xs, InR x) ⟨p3, Ext.refl _, [], rfl, rfl, fun _ h => (List.not_mem_nil h).elim⟩ ?_ ?_
  · rintro j acc t hj ⟨pt, et, as, rfl, rfl, ma⟩
    have hj5 : as.length < (1 + m).toNat := by
      have : as.length < (1 + m - 0).toNat := hj
      rwa [Int.sub_zero] at this
    refine ⟨.int (0 + (as.length : Nat)), rfl, ?_⟩
    simp only [okR_some, okR_none, okS_nx, okS_rt, okS_bk, okS_ct, okR_ok, okR_ite, okS_ite, okS_nil, okR_and, okR_or, okR_chn, truth_bl, gc_app, gc_self, cmp_le, cmp_lt, e_var, e_cst, e_tup, e_lst, e_bin, e_neg, e_not, e_cmp, e_isN, e_ntN, e_ite, e_call, e_blt, e_isa, e_mth, e_ix, e_sl, e_lc, es_nil, es_cons, ts_nil', ts_one', lc_turn, it_seq, it_enm, it_zip, it_rng, rng_1, rng_2, okT_some, x_asg, x_par, x_sub, x_expr, x_ret, x_if, x_for, for_turn, x_while, wh_test, x_pass, x_brk, x_cnt, asg_nm, asg_tup, asg_cons, asg_nil, List.getElem?_cons_zero, List.getElem?_cons_succ, List.set_cons_zero, List.set_cons_succ, List.length_cons, List.length_nil, List.map_cons, List.map_nil, List.replicate, List.cons_append, List.nil_append, Option.bind_some, Option.map_some, Option.map_none, Nat.reduceAdd, Nat.reduceSub, Nat.reduceLT, ↓reduceIte, wipeE, ite_self, Option.join_some, Bool.not_true, Bool.not_false, Bool.false_eq_true, and_self, and_true, true_and, isNon, partD, okO_some, okO_none, ok_srcT, ok_srcL, ok_enmT, ok_enmL, seq_ref, lst_ref, b_lenT, b_lenL, b_lenR, b_listT, b_listL, b_listR, b_tupT, b_tupR, b_all, b_any, b_int, b_min, b_max, b_repr, b_ssetR, b_lsetT, b_sortR, b_rangeL1, x_ixT, x_ixR, x_ixL, x_set, m_append, m_extend, m_popAt, c_eq, c_ne, c_in, c_ni, c_lt, c_le, c_gt, c_ge, t_bl, t_ref, o_add, o_sub, o_mul, o_mod, o_div, o_pow, o_cat, n_new, i_tup, i_int, i_non, s_lT0, s_lL0, at_0, at_1, at_2]
    refine okR_mono (atom_ok fuel k t pt (a := S1.length) (ns := rgI (1 + i)) (width := 4) (et.getL g3 hA) hA (by omega) (by omega) (by omega) (by omega)) ?_
    rintro d t1 ⟨xs, rfl, mx, l1, l2, pt1, et1⟩
    refine ⟨by rw [List.length_map]; omega, pt1, et.trans et1, as ++ [xs], by rw [List.map_append]; rfl, by rw [List.length_append]; rfl, fun ys hy => ?_⟩
    rcases List.mem_append.mp hy with hy | hy
    · exact ma ys hy
    · have e : ys = xs := by simpa using hy
      subst e
      exact ⟨l1, by omega, fun x hx => by have := rgI_mem (mx x hx); unfold InR; omega⟩
  · rintro acc t ⟨pt, et, as, rfl, la, ma⟩
    refine ⟨rfl, ?_⟩
    rw [getL_new]
    simp only [okR_some, okR_none, okS_nx, okS_rt, okS_bk, okS_ct, okR_ok, okR_ite, okS_ite, okS_nil, okR_and, okR_or, okR_chn, truth_bl, gc_app, gc_self, cmp_le, cmp_lt, e_var, e_cst, e_tup, e_lst, e_bin, e_neg, e_not, e_cmp, e_isN, e_ntN, e_ite, e_call, e_blt, e_isa, e_mth, e_ix, e_sl, e_lc, es_nil, es_cons, ts_nil', ts_one', lc_turn, it_seq, it_enm, it_zip, it_rng, rng_1, rng_2, okT_some, x_asg, x_par, x_sub, x_expr, x_ret, x_if, x_for, for_turn, x_while, wh_test, x_pass, x_brk, x_cnt, asg_nm, asg_tup, asg_cons, asg_nil, List.getElem?_cons_zero, List.getElem?_cons_succ, List.set_cons_zero, List.set_cons_succ, List.length_cons, List.length_nil, List.map_cons, List.map_nil, List.replicate, List.cons_append, List.nil_append, Option.bind_some, Option.map_some, Option.map_none, Nat.reduceAdd, Nat.reduceSub, Nat.reduceLT, ↓reduceIte, wipeE, ite_self, Option.join_some, Bool.not_true, Bool.not_false, Bool.false_eq_true, and_self, and_true, true_and, isNon, partD, okO_some, okO_none, ok_srcT, ok_srcL, ok_enmT, ok_enmL, seq_ref, lst_ref, b_lenT, b_lenL, b_lenR, b_listT, b_listL, b_listR, b_tupT, b_tupR, b_all, b_any, b_int, b_min, b_max, b_repr, b_ssetR, b_lsetT, b_sortR, b_rangeL1, x_ixT, x_ixR, x_ixL, x_set, m_append, m_extend, m_popAt, c_eq, c_ne, c_in, c_ni, c_lt, c_le, c_gt, c_ge, t_bl, t_ref, o_add, o_sub, o_mul, o_mod, o_div, o_pow, o_cat, n_new, i_tup, i_int, i_non, s_lT0, s_lL0, at_0, at_1, at_2]
    have la' : as.length = (1 + m).toNat := by
      rw [la]
      show (1 + m - 0).toNat = _
      rw [Int.sub_zero]
    generalize hS5 : (t ++ [MO.lst (as.map tI)] : MS) = S5
    have e5 : Ext s S5 := by
      rw [← hS5]
      exact (e1.trans (e2.trans (e3.trans et))).trans (Ext.app _ _)
    have p5 : PenAt S5 := by rw [← hS5]; exact pt.app
    have hf : as.flatten.length < 64 := by
      have := flat_le as (m := 4) fun xs hx => (ma xs hx).2.1
      omega
    have mf : ∀ x ∈ as.flatten, InR x := fun x hx => by
      obtain ⟨ys, hy, hx⟩ := List.mem_flatten.mp hx
      exact (ma ys hy).2.2 x hx
    rw [okS_cons]
    simp only [okR_some, okR_none, okS_nx, okS_rt, okS_bk, okS_ct, okR_ok, okR_ite, okS_ite, okS_nil, okR_and, okR_or, okR_chn, truth_bl, gc_app, gc_self, cmp_le, cmp_lt, e_var, e_cst, e_tup, e_lst, e_bin, e_neg, e_not, e_cmp, e_isN, e_ntN, e_ite, e_call, e_blt, e_isa, e_mth, e_ix, e_sl, e_lc, es_nil, es_cons, ts_nil', ts_one', lc_turn, it_seq, it_enm, it_zip, it_rng, rng_1, rng_2, okT_some, x_asg, x_par, x_sub, x_expr, x_ret, x_if, x_for, for_turn, x_while, wh_test, x_pass, x_brk, x_cnt, asg_nm, asg_tup, asg_cons, asg_nil, List.getElem?_cons_zero, List.getElem?_cons_succ, List.set_cons_zero, List.set_cons_succ, List.length_cons, List.length_nil, List.map_cons, List.map_nil, List.replicate, List.cons_append, List.nil_append, Option.bind_some, Option.map_some, Option.map_none, Nat.reduceAdd, Nat.reduceSub, Nat.reduceLT, ↓reduceIte, wipeE, ite_self, Option.join_some, Bool.not_true, Bool.not_false, Bool.false_eq_true, and_self, and_true, true_and, isNon, partD, okO_some, okO_none, ok_srcT, ok_srcL, ok_enmT, ok_enmL, seq_ref, lst_ref, b_lenT, b_lenL, b_lenR, b_listT, b_listL, b_listR, b_tupT, b_tupR, b_all, b_any, b_int, b_min, b_max, b_repr, b_ssetR, b_lsetT, b_sortR, b_rangeL1, x_ixT, x_ixR, x_ixL, x_set, m_append, m_extend, m_popAt, c_eq, c_ne, c_in, c_ni, c_lt, c_le, c_gt, c_ge, t_bl, t_ref, o_add, o_sub, o_mul, o_mod, o_div, o_pow, o_cat, n_new, i_tup, i_int, i_non, s_lT0, s_lL0, at_0, at_1, at_2]
    refine okR_mono (vars_ok fuel (k + 2) S5 (hd := .tup []) hf) ?_
    rintro d S6 ⟨n, t6, rfl, hn, rfl, g6⟩
    have hsl := srt_len_le as.flatten
    have p6 : PenAt (S5 ++ t6) := p5.app
    have h5 := p5.len
    rw [okS_cons]
    simp only [okR_some, okR_none, okS_nx, okS_rt, okS_bk, okS_ct, okR_ok, okR_ite, okS_ite, okS_nil, okR_and, okR_or, okR_chn, truth_bl, gc_app, gc_self, cmp_le, cmp_lt, e_var, e_cst, e_tup, e_lst, e_bin, e_neg, e_not, e_cmp, e_isN, e_ntN, e_ite, e_call, e_blt, e_isa, e_mth, e_ix, e_sl, e_lc, es_nil, es_cons, ts_nil', ts_one', lc_turn, it_seq, it_enm, it_zip, it_rng, rng_1, rng_2, okT_some, x_asg, x_par, x_sub, x_expr, x_ret, x_if, x_for, for_turn, x_while, wh_test, x_pass, x_brk, x_cnt, asg_nm, asg_tup, asg_cons, asg_nil, List.getElem?_cons_zero, List.getElem?_cons_succ, List.set_cons_zero, List.set_cons_succ, List.length_cons, List.length_nil, List.map_cons, List.map_nil, List.replicate, List.cons_append, List.nil_append, Option.bind_some, Option.map_some, Option.map_none, Nat.reduceAdd, Nat.reduceSub, Nat.reduceLT, ↓reduceIte, wipeE, ite_self, Option.join_some, Bool.not_true, Bool.not_false, Bool.false_eq_true, and_self, and_true, true_and, isNon, partD, okO_some, okO_none, ok_srcT, ok_srcL, ok_enmT, ok_enmL, seq_ref, lst_ref, b_lenT, b_lenL, b_lenR, b_listT, b_listL, b_listR, b_tupT, b_tupR, b_all, b_any, b_int, b_min, b_max, b_repr, b_ssetR, b_lsetT, b_sortR, b_rangeL1, x_ixT, x_ixR, x_ixL, x_set, m_append, m_extend, m_popAt, c_eq, c_ne, c_in, c_ni, c_lt, c_le, c_gt, c_ge, t_bl, t_ref, o_add, o_sub, o_mul, o_mod, o_div, o_pow, o_cat, n_new, i_tup, i_int, i_non, s_lT0, s_lL0, at_0, at_1, at_2, g6]
    refine okR_mono (some_ok fuel k (S5 ++ t6) p6 (a := n) (ns := srt as.flatten) (most := ((srt as.flatten).map D.int).length) g6 (by omega) (by omega) (by rw [List.length_map]; omega) (by omega)) ?_
    rintro d S7 ⟨n7, xs, rfl, hn7, g7, m7, l7, p7, e7⟩
    simp only [okR_some, okR_none, okS_nx, okS_rt, okS_bk, okS_ct, okR_ok, okR_ite, okS_ite, okS_nil, okR_and, okR_or, okR_chn, truth_bl, gc_app, gc_self, cmp_le, cmp_lt, e_var, e_cst, e_tup, e_lst, e_bin, e_neg, e_not, e_cmp, e_isN, e_ntN, e_ite, e_call, e_blt, e_isa, e_mth, e_ix, e_sl, e_lc, es_nil, es_cons, ts_nil', ts_one', lc_turn, it_seq, it_enm, it_zip, it_rng, rng_1, rng_2, okT_some, x_asg, x_par, x_sub, x_expr, x_ret, x_if, x_for, for_turn, x_while, wh_test, x_pass, x_brk, x_cnt, asg_nm, asg_tup, asg_cons, asg_nil, List.getElem?_cons_zero, List.getElem?_cons_succ, List.set_cons_zero, List.set_cons_succ, List.length_cons, List.length_nil, List.map_cons, List.map_nil, List.replicate, List.cons_append, List.nil_append, Option.bind_some, Option.map_some, Option.map_none, Nat.reduceAdd, Nat.reduceSub, Nat.reduceLT, ↓reduceIte, wipeE, ite_self, Option.join_some, Bool.not_true, Bool.not_false, Bool.false_eq_true, and_self, and_true, true_and, isNon, partD, okO_some, okO_none, ok_srcT, ok_srcL, ok_enmT, ok_enmL, seq_ref, lst_ref, b_lenT, b_lenL, b_lenR, b_listT, b_listL, b_listR, b_tupT, b_tupR, b_all, b_any, b_int, b_min, b_max, b_repr, b_ssetR, b_lsetT, b_sortR, b_rangeL1, x_ixT, x_ixR, x_ixL, x_set, m_append, m_extend, m_popAt, c_eq, c_ne, c_in, c_ni, c_lt, c_le, c_gt, c_ge, t_bl, t_ref, o_add, o_sub, o_mul, o_mod, o_div, o_pow, o_cat, n_new, i_tup, i_int, i_non, s_lT0, s_lL0, at_0, at_1, at_2, g7]
    rw [ints_of]
    simp only [okR_some, okR_none, okS_nx, okS_rt, okS_bk, okS_ct, okR_ok, okR_ite, okS_ite, okS_nil, okR_and, okR_or, okR_chn, truth_bl, gc_app, gc_self, cmp_le, cmp_lt, e_var, e_cst, e_tup, e_lst, e_bin, e_neg, e_not, e_cmp, e_isN, e_ntN, e_ite, e_call, e_blt, e_isa, e_mth, e_ix, e_sl, e_lc, es_nil, es_cons, ts_nil', ts_one', lc_turn, it_seq, it_enm, it_zip, it_rng, rng_1, rng_2, okT_some, x_asg, x_par, x_sub, x_expr, x_ret, x_if, x_for, for_turn, x_while, wh_test, x_pass, x_brk, x_cnt, asg_nm, asg_tup, asg_cons, asg_nil, List.getElem?_cons_zero, List.getElem?_cons_succ, List.set_cons_zero, List.set_cons_succ, List.length_cons, List.length_nil, List.map_cons, List.map_nil, List.replicate, List.cons_append, List.nil_append, Option.bind_some, Option.map_some, Option.map_none, Nat.reduceAdd, Nat.reduceSub, Nat.reduceLT, ↓reduceIte, wipeE, ite_self, Option.join_some, Bool.not_true, Bool.not_false, Bool.false_eq_true, and_self, and_true, true_and, isNon, partD, okO_some, okO_none, ok_srcT, ok_srcL, ok_enmT, ok_enmL, seq_ref, lst_ref, b_lenT, b_lenL, b_lenR, b_listT, b_listL, b_listR, b_tupT, b_tupR, b_all, b_any, b_int, b_min, b_max, b_repr, b_ssetR, b_lsetT, b_sortR, b_rangeL1, x_ixT, x_ixR, x_ixL, x_set, m_append, m_extend, m_popAt, c_eq, c_ne, c_in, c_ni, c_lt, c_le, c_gt, c_ge, t_bl, t_ref, o_add, o_sub, o_mul, o_mod, o_div, o_pow, o_cat, n_new, i_tup, i_int, i_non, s_lT0, s_lL0, at_0, at_1, at_2]
    rw [if_pos (by omega)]
    rw [getL_new]
    simp only [okR_some, okR_none, okS_nx, okS_rt, okS_bk, okS_ct, okR_ok, okR_ite, okS_ite, okS_nil, okR_and, okR_or, okR_chn, truth_bl, gc_app, gc_self, cmp_le, cmp_lt, e_var, e_cst, e_tup, e_lst, e_bin, e_neg, e_not, e_cmp, e_isN, e_ntN, e_ite, e_call, e_blt, e_isa, e_mth, e_ix, e_sl, e_lc, es_nil, es_cons, ts_nil', ts_one', lc_turn, it_seq, it_enm, it_zip, it_rng, rng_1, rng_2, okT_some, x_asg, x_par, x_sub, x_expr, x_ret, x_if, x_for, for_turn, x_while, wh_test, x_pass, x_brk, x_cnt, asg_nm, asg_tup, asg_cons, asg_nil, List.getElem?_cons_zero, List.getElem?_cons_succ, List.set_cons_zero, List.set_cons_succ, List.length_cons, List.length_nil, List.map_cons, List.map_nil, List.replicate, List.cons_append, List.nil_append, Option.bind_some, Option.map_some, Option.map_none, Nat.reduceAdd, Nat.reduceSub, Nat.reduceLT, ↓reduceIte, wipeE, ite_self, Option.join_some, Bool.not_true, Bool.not_false, Bool.false_eq_true, and_self, and_true, true_and, isNon, partD, okO_some, okO_none, ok_srcT, ok_srcL, ok_enmT, ok_enmL, seq_ref, lst_ref, b_lenT, b_lenL, b_lenR, b_listT, b_listL, b_listR, b_tupT, b_tupR, b_all, b_any, b_int, b_min, b_max, b_repr, b_ssetR, b_lsetT, b_sortR, b_rangeL1, x_ixT, x_ixR, x_ixL, x_set, m_append, m_extend, m_popAt, c_eq, c_ne, c_in, c_ni, c_lt, c_le, c_gt, c_ge, t_bl, t_ref, o_add, o_sub, o_mul, o_mod, o_div, o_pow, o_cat, n_new, i_tup, i_int, i_non, s_lT0, s_lL0, at_0, at_1, at_2]
    have hq : QOk (isort xs) as := ⟨by rw [(perm_isort xs).length_eq]; omega, fun x hx => mf x ((mem_srt x _).mp (m7 x ((perm_isort xs).mem_iff.mp hx))), by omega, by omega, ma⟩
    exact gc_end ⟨⟨isort xs, as, rfl, hq⟩, p7.app, (e5.trans (Ext.app _ _)).trans (e7.trans (Ext.app _ _))⟩ (fun _ _ => ⟨⟨isort xs, as, rfl, hq⟩, h, Ext.refl s⟩) (lev_same _ _ _)
end K03

namespace K03
open PySem Mir
structure Rl where
  t : Int
  xs : List Int
  y : Int
abbrev rD (r : Rl) : D := .tup [.int r.t, tI r.xs, .int r.y]
structure ROk (r : Rl) : Prop where
  t0 : 0 ≤ r.t
  t1 : r.t < 5
  l : r.xs.length ≤ 4
  m : ∀ x ∈ r.xs, InR x
  y : InR r.y
theorem atI_map {α : Type} {f : α → D} {ns : List α} {i : Int} (h0 : 0 ≤ i) (h1 : i < ns.length) : ∃ c, L2.atI (ns.map f) i = some (f c) ∧ c ∈ ns := by
  obtain ⟨j, rfl⟩ := Int.eq_ofNat_of_zero_le h0
  have hj : j < ns.length := by omega
  refine ⟨ns[j], L2.atI_nat ?_, List.getElem_mem hj⟩
  rw [List.getElem?_map, List.getElem?_eq_getElem hj]
  rfl
theorem rule_ok (fuel k : Nat) (s : MS) (h : PenAt s) {hd : List Int} {as : List (List Int)} (q : QOk hd as) : okR ((L fuel (k + 4)).fn "_law_rule" [.ref 2, qD hd as] s) (fun d s' => (∃ r, d = rD r ∧ ROk r) ∧ PenAt s' ∧ Ext s s') := by
  rw [fn__law_rule]
  refine okR_fnD ?_
  unfold c__law_rule
  have hs := h.len
  have qa0 := q.a0
  have qa1 := q.a1
  rw [okS_cons]
  simp only [okR_some, okR_none, okS_nx, okS_rt, okS_bk, okS_ct, okR_ok, okR_ite, okS_ite, okS_nil, okR_and, okR_or, okR_chn, truth_bl, gc_app, gc_self, cmp_le, cmp_lt, e_var, e_cst, e_tup, e_lst, e_bin, e_neg, e_not, e_cmp, e_isN, e_ntN, e_ite, e_call, e_blt, e_isa, e_mth, e_ix, e_sl, e_lc, es_nil, es_cons, ts_nil', ts_one', lc_turn, it_seq, it_enm, it_zip, it_rng, rng_1, rng_2, okT_some, x_asg, x_par, x_sub, x_expr, x_ret, x_if, x_for, for_turn, x_while, wh_test, x_pass, x_brk, x_cnt, asg_nm, asg_tup, asg_cons, asg_nil, List.getElem?_cons_zero, List.getElem?_cons_succ, List.set_cons_zero, List.set_cons_succ, List.length_cons, List.length_nil, List.map_cons, List.map_nil, List.replicate, List.cons_append, List.nil_append, Option.bind_some, Option.map_some, Option.map_none, Nat.reduceAdd, Nat.reduceSub, Nat.reduceLT, ↓reduceIte, wipeE, ite_self, Option.join_some, Bool.not_true, Bool.not_false, Bool.false_eq_true, and_self, and_true, true_and, isNon, partD, okO_some, okO_none, ok_srcT, ok_srcL, ok_enmT, ok_enmL, seq_ref, lst_ref, b_lenT, b_lenL, b_lenR, b_listT, b_listL, b_listR, b_tupT, b_tupR, b_all, b_any, b_int, b_min, b_max, b_repr, b_ssetR, b_lsetT, b_sortR, b_rangeL1, x_ixT, x_ixR, x_ixL, x_set, m_append, m_extend, m_popAt, c_eq, c_ne, c_in, c_ni, c_lt, c_le, c_gt, c_ge, t_bl, t_ref, o_add, o_sub, o_mul, o_mod, o_div, o_pow, o_cat, n_new, i_tup, i_int, i_non, s_lT0, s_lL0, at_0, at_1, at_2]
  refine okR_mono (draw_ok fuel (k + 1) s h (b := ((as.map tI).length : Nat)) (by rw [List.length_map]; omega) (by rw [List.length_map]; omega)) ?_
  rintro d S1 ⟨⟨i, rfl, i0, i1⟩, p1, e1⟩
  rw [List.length_map] at i1
  obtain ⟨atom, hat, hm⟩ := atI_map (f := tI) (ns := as) i0 i1
  obtain ⟨l1, l2, mA⟩ := q.a2 atom hm
  rw [okS_cons]
  simp only [okR_some, okR_none, okS_nx, okS_rt, okS_bk, okS_ct, okR_ok, okR_ite, okS_ite, okS_nil, okR_and, okR_or, okR_chn, truth_bl, gc_app, gc_self, cmp_le, cmp_lt, e_var, e_cst, e_tup, e_lst, e_bin, e_neg, e_not, e_cmp, e_isN, e_ntN, e_ite, e_call, e_blt, e_isa, e_mth, e_ix, e_sl, e_lc, es_nil, es_cons, ts_nil', ts_one', lc_turn, it_seq, it_enm, it_zip, it_rng, rng_1, rng_2, okT_some, x_asg, x_par, x_sub, x_expr, x_ret, x_if, x_for, for_turn, x_while, wh_test, x_pass, x_brk, x_cnt, asg_nm, asg_tup, asg_cons, asg_nil, List.getElem?_cons_zero, List.getElem?_cons_succ, List.set_cons_zero, List.set_cons_succ, List.length_cons, List.length_nil, List.map_cons, List.map_nil, List.replicate, List.cons_append, List.nil_append, Option.bind_some, Option.map_some, Option.map_none, Nat.reduceAdd, Nat.reduceSub, Nat.reduceLT, ↓reduceIte, wipeE, ite_self, Option.join_some, Bool.not_true, Bool.not_false, Bool.false_eq_true, and_self, and_true, true_and, isNon, partD, okO_some, okO_none, ok_srcT, ok_srcL, ok_enmT, ok_enmL, seq_ref, lst_ref, b_lenT, b_lenL, b_lenR, b_listT, b_listL, b_listR, b_tupT, b_tupR, b_all, b_any, b_int, b_min, b_max, b_repr, b_ssetR, b_lsetT, b_sortR, b_rangeL1, x_ixT, x_ixR, x_ixL, x_set, m_append, m_extend, m_popAt, c_eq, c_ne, c_in, c_ni, c_lt, c_le, c_gt, c_ge, t_bl, t_ref, o_add, o_sub, o_mul, o_mod, o_div, o_pow, o_cat, n_new, i_tup, i_int, i_non, s_lT0, s_lL0, at_0, at_1, at_2, hat]
  have hA : S1.length ≠ 2 := by have := p1.len; omega
  generalize hS2 : (S1 ++ [MO.lst (atom.map D.int)] : MS) = S2
  have g2 : getL S2 S1.length = some (atom.map D.int) := by rw [← hS2]; exact getL_new
  have e2 : Ext S1 S2 := by rw [← hS2]; exact Ext.app _ _
  have p2 : PenAt S2 := by rw [← hS2]; exact p1.app
  rw [okS_cons]
  simp only [okR_some, okR_none, okS_nx, okS_rt, okS_bk, okS_ct, okR_ok, okR_ite, okS_ite, okS_nil, okR_and, okR_or, okR_chn, truth_bl, gc_app, gc_self, cmp_le, cmp_lt, e_var, e_cst, e_tup, e_lst, e_bin, e_neg, e_not, e_cmp, e_isN, e_ntN, e_ite, e_call, e_blt, e_isa, e_mth, e_ix, e_sl, e_lc, es_nil, es_cons, ts_nil', ts_one', lc_turn, it_seq, it_enm, it_zip, it_rng, rng_1, rng_2, okT_some, x_asg, x_par, x_sub, x_expr, x_ret, x_if, x_for, for_turn, x_while, wh_test, x_pass, x_brk, x_cnt, asg_nm, asg_tup, asg_cons, asg_nil, List.getElem?_cons_zero, List.getElem?_cons_succ, List.set_cons_zero, List.set_cons_succ, List.length_cons, List.length_nil, List.map_cons, List.map_nil, List.replicate, List.cons_append, List.nil_append, Option.bind_some, Option.map_some, Option.map_none, Nat.reduceAdd, Nat.reduceSub, Nat.reduceLT, ↓reduceIte, wipeE, ite_self, Option.join_some, Bool.not_true, Bool.not_false, Bool.false_eq_true, and_self, and_true, true_and, isNon, partD, okO_some, okO_none, ok_srcT, ok_srcL, ok_enmT, ok_enmL, seq_ref, lst_ref, b_lenT, b_lenL, b_lenR, b_listT, b_listL, b_listR, b_tupT, b_tupR, b_all, b_any, b_int, b_min, b_max, b_repr, b_ssetR, b_lsetT, b_sortR, b_rangeL1, x_ixT, x_ixR, x_ixL, x_set, m_append, m_extend, m_popAt, c_eq, c_ne, c_in, c_ni, c_lt, c_le, c_gt, c_ge, t_bl, t_ref, o_add, o_sub, o_mul, o_mod, o_div, o_pow, o_cat, n_new, i_tup, i_int, i_non, s_lT0, s_lL0, at_0, at_1, at_2, g2]
  refine okR_mono (draw_ok fuel (k + 1) S2 p2 (b := ((atom.map D.int).length : Nat)) (by rw [List.length_map]; omega) (by rw [List.length_map]; omega)) ?_
  rintro d S3 ⟨⟨m, rfl, m0, m1⟩, p3, e3⟩
  have g3 := e3.getL g2 hA
  obtain ⟨j, hj, hjl⟩ := ixN_of m0 m1
  rw [List.length_map] at hjl
  simp only [okR_some, okR_none, okS_nx, okS_rt, okS_bk, okS_ct, okR_ok, okR_ite, okS_ite, okS_nil, okR_and, okR_or, okR_chn, truth_bl, gc_app, gc_self, cmp_le, cmp_lt, e_var, e_cst, e_tup, e_lst, e_bin, e_neg, e_not, e_cmp, e_isN, e_ntN, e_ite, e_call, e_blt, e_isa, e_mth, e_ix, e_sl, e_lc, es_nil, es_cons, ts_nil', ts_one', lc_turn, it_seq, it_enm, it_zip, it_rng, rng_1, rng_2, okT_some, x_asg, x_par, x_sub, x_expr, x_ret, x_if, x_for, for_turn, x_while, wh_test, x_pass, x_brk, x_cnt, asg_nm, asg_tup, asg_cons, asg_nil, List.getElem?_cons_zero, List.getElem?_cons_succ, List.set_cons_zero, List.set_cons_succ, List.length_cons, List.length_nil, List.map_cons, List.map_nil, List.replicate, List.cons_append, List.nil_append, Option.bind_some, Option.map_some, Option.map_none, Nat.reduceAdd, Nat.reduceSub, Nat.reduceLT, ↓reduceIte, wipeE, ite_self, Option.join_some, Bool.not_true, Bool.not_false, Bool.false_eq_true, and_self, and_true, true_and, isNon, partD, okO_some, okO_none, ok_srcT, ok_srcL, ok_enmT, ok_enmL, seq_ref, lst_ref, b_lenT, b_lenL, b_lenR, b_listT, b_listL, b_listR, b_tupT, b_tupR, b_all, b_any, b_int, b_min, b_max, b_repr, b_ssetR, b_lsetT, b_sortR, b_rangeL1, x_ixT, x_ixR, x_ixL, x_set, m_append, m_extend, m_popAt, c_eq, c_ne, c_in, c_ni, c_lt, c_le, c_gt, c_ge, t_bl, t_ref, o_add, o_sub, o_mul, o_mod, o_div, o_pow, o_cat, n_new, i_tup, i_int, i_non, s_lT0, s_lL0, at_0, at_1, at_2, g3, hj]
  rw [List.getElem?_map, List.getElem?_eq_getElem hjl]
  simp only [okR_some, okR_none, okS_nx, okS_rt, okS_bk, okS_ct, okR_ok, okR_ite, okS_ite, okS_nil, okR_and, okR_or, okR_chn, truth_bl, gc_app, gc_self, cmp_le, cmp_lt, e_var, e_cst, e_tup, e_lst, e_bin, e_neg, e_not, e_cmp, e_isN, e_ntN, e_ite, e_call, e_blt, e_isa, e_mth, e_ix, e_sl, e_lc, es_nil, es_cons, ts_nil', ts_one', lc_turn, it_seq, it_enm, it_zip, it_rng, rng_1, rng_2, okT_some, x_asg, x_par, x_sub, x_expr, x_ret, x_if, x_for, for_turn, x_while, wh_test, x_pass, x_brk, x_cnt, asg_nm, asg_tup, asg_cons, asg_nil, List.getElem?_cons_zero, List.getElem?_cons_succ, List.set_cons_zero, List.set_cons_succ, List.length_cons, List.length_nil, List.map_cons, List.map_nil, List.replicate, List.cons_append, List.nil_append, Option.bind_some, Option.map_some, Option.map_none, Nat.reduceAdd, Nat.reduceSub, Nat.reduceLT, ↓reduceIte, wipeE, ite_self, Option.join_some, Bool.not_true, Bool.not_false, Bool.false_eq_true, and_self, and_true, true_and, isNon, partD, okO_some, okO_none, ok_srcT, ok_srcL, ok_enmT, ok_enmL, seq_ref, lst_ref, b_lenT, b_lenL, b_lenR, b_listT, b_listL, b_listR, b_tupT, b_tupR, b_all, b_any, b_int, b_min, b_max, b_repr, b_ssetR, b_lsetT, b_sortR, b_rangeL1, x_ixT, x_ixR, x_ixL, x_set, m_append, m_extend, m_popAt, c_eq, c_ne, c_in, c_ni, c_lt, c_le, c_gt, c_ge, t_bl, t_ref, o_add, o_sub, o_mul, o_mod, o_div, o_pow, o_cat, n_new, i_tup, i_int, i_non, s_lT0, s_lL0, at_0, at_1, at_2]
  have hl3 : S1.length ≤ S1.length := Nat.le_refl _
  have h1 := p1.len
  have e03 : Ext s S3 := e1.trans (e2.trans e3)
  rw [map_eraseIdx]
  generalize hS4 : (S3.set S1.length (MO.lst ((atom.eraseIdx j).map D.int)) : MS) = S4
  have g4 : getL S4 S1.length = some ((atom.eraseIdx j).map D.int) := by rw [← hS4]; exact getL_set g3
  have e4 : Ext s S4 := by rw [← hS4]; exact e03.high e1.1 _
  have p4 : PenAt S4 := by rw [← hS4]; exact p3.set (by omega) (by omega) _
  have l4 : (atom.eraseIdx j).length ≤ 4 := by rw [List.length_eraseIdx]; split <;> omega
  rw [okS_cons]
  simp only [okR_some, okR_none, okS_nx, okS_rt, okS_bk, okS_ct, okR_ok, okR_ite, okS_ite, okS_nil, okR_and, okR_or, okR_chn, truth_bl, gc_app, gc_self, cmp_le, cmp_lt, e_var, e_cst, e_tup, e_lst, e_bin, e_neg, e_not, e_cmp, e_isN, e_ntN, e_ite, e_call, e_blt, e_isa, e_mth, e_ix, e_sl, e_lc, es_nil, es_cons, ts_nil', ts_one', lc_turn, it_seq, it_enm, it_zip, it_rng, rng_1, rng_2, okT_some, x_asg, x_par, x_sub, x_expr, x_ret, x_if, x_for, for_turn, x_while, wh_test, x_pass, x_brk, x_cnt, asg_nm, asg_tup, asg_cons, asg_nil, List.getElem?_cons_zero, List.getElem?_cons_succ, List.set_cons_zero, List.set_cons_succ, List.length_cons, List.length_nil, List.map_cons, List.map_nil, List.replicate, List.cons_append, List.nil_append, Option.bind_some, Option.map_some, Option.map_none, Nat.reduceAdd, Nat.reduceSub, Nat.reduceLT, ↓reduceIte, wipeE, ite_self, Option.join_some, Bool.not_true, Bool.not_false, Bool.false_eq_true, and_self, and_true, true_and, isNon, partD, okO_some, okO_none, ok_srcT, ok_srcL, ok_enmT, ok_enmL, seq_ref, lst_ref, b_lenT, b_lenL, b_lenR, b_listT, b_listL, b_listR, b_tupT, b_tupR, b_all, b_any, b_int, b_min, b_max, b_repr, b_ssetR, b_lsetT, b_sortR, b_rangeL1, x_ixT, x_ixR, x_ixL, x_set, m_append, m_extend, m_popAt, c_eq, c_ne, c_in, c_ni, c_lt, c_le, c_gt, c_ge, t_bl, t_ref, o_add, o_sub, o_mul, o_mod, o_div, o_pow, o_cat, n_new, i_tup, i_int, i_non, s_lT0, s_lL0, at_0, at_1, at_2]
  refine okR_mono (some_ok fuel k S4 p4 (a := S1.length) (ns := atom.eraseIdx j) (most := 3) g4 hA (by omega) (by omega) (by omega)) ?_
  rintro d S5 ⟨n5, xs, rfl, hn5, g5, m5, l5, p5, e5⟩
  simp only [okR_some, okR_none, okS_nx, okS_rt, okS_bk, okS_ct, okR_ok, okR_ite, okS_ite, okS_nil, okR_and, okR_or, okR_chn, truth_bl, gc_app, gc_self, cmp_le, cmp_lt, e_var, e_cst, e_tup, e_lst, e_bin, e_neg, e_not, e_cmp, e_isN, e_ntN, e_ite, e_call, e_blt, e_isa, e_mth, e_ix, e_sl, e_lc, es_nil, es_cons, ts_nil', ts_one', lc_turn, it_seq, it_enm, it_zip, it_rng, rng_1, rng_2, okT_some, x_asg, x_par, x_sub, x_expr, x_ret, x_if, x_for, for_turn, x_while, wh_test, x_pass, x_brk, x_cnt, asg_nm, asg_tup, asg_cons, asg_nil, List.getElem?_cons_zero, List.getElem?_cons_succ, List.set_cons_zero, List.set_cons_succ, List.length_cons, List.length_nil, List.map_cons, List.map_nil, List.replicate, List.cons_append, List.nil_append, Option.bind_some, Option.map_some, Option.map_none, Nat.reduceAdd, Nat.reduceSub, Nat.reduceLT, ↓reduceIte, wipeE, ite_self, Option.join_some, Bool.not_true, Bool.not_false, Bool.false_eq_true, and_self, and_true, true_and, isNon, partD, okO_some, okO_none, ok_srcT, ok_srcL, ok_enmT, ok_enmL, seq_ref, lst_ref, b_lenT, b_lenL, b_lenR, b_listT, b_listL, b_listR, b_tupT, b_tupR, b_all, b_any, b_int, b_min, b_max, b_repr, b_ssetR, b_lsetT, b_sortR, b_rangeL1, x_ixT, x_ixR, x_ixL, x_set, m_append, m_extend, m_popAt, c_eq, c_ne, c_in, c_ni, c_lt, c_le, c_gt, c_ge, t_bl, t_ref, o_add, o_sub, o_mul, o_mod, o_div, o_pow, o_cat, n_new, i_tup, i_int, i_non, s_lT0, s_lL0, at_0, at_1, at_2, g5]
  rw [ints_of]
  simp only [okR_some, okR_none, okS_nx, okS_rt, okS_bk, okS_ct, okR_ok, okR_ite, okS_ite, okS_nil, okR_and, okR_or, okR_chn, truth_bl, gc_app, gc_self, cmp_le, cmp_lt, e_var, e_cst, e_tup, e_lst, e_bin, e_neg, e_not, e_cmp, e_isN, e_ntN, e_ite, e_call, e_blt, e_isa, e_mth, e_ix, e_sl, e_lc, es_nil, es_cons, ts_nil', ts_one', lc_turn, it_seq, it_enm, it_zip, it_rng, rng_1, rng_2, okT_some, x_asg, x_par, x_sub, x_expr, x_ret, x_if, x_for, for_turn, x_while, wh_test, x_pass, x_brk, x_cnt, asg_nm, asg_tup, asg_cons, asg_nil, List.getElem?_cons_zero, List.getElem?_cons_succ, List.set_cons_zero, List.set_cons_succ, List.length_cons, List.length_nil, List.map_cons, List.map_nil, List.replicate, List.cons_append, List.nil_append, Option.bind_some, Option.map_some, Option.map_none, Nat.reduceAdd, Nat.reduceSub, Nat.reduceLT, ↓reduceIte, wipeE, ite_self, Option.join_some, Bool.not_true, Bool.not_false, Bool.false_eq_true, and_self, and_true, true_and, isNon, partD, okO_some, okO_none, ok_srcT, ok_srcL, ok_enmT, ok_enmL, seq_ref, lst_ref, b_lenT, b_lenL, b_lenR, b_listT, b_listL, b_listR, b_tupT, b_tupR, b_all, b_any, b_int, b_min, b_max, b_repr, b_ssetR, b_lsetT, b_sortR, b_rangeL1, x_ixT, x_ixR, x_ixL, x_set, m_append, m_extend, m_popAt, c_eq, c_ne, c_in, c_ni, c_lt, c_le, c_gt, c_ge, t_bl, t_ref, o_add, o_sub, o_mul, o_mod, o_div, o_pow, o_cat, n_new, i_tup, i_int, i_non, s_lT0, s_lL0, at_0, at_1, at_2]
  rw [if_pos (by omega), getL_new]
  simp only [okR_some, okR_none, okS_nx, okS_rt, okS_bk, okS_ct, okR_ok, okR_ite, okS_ite, okS_nil, okR_and, okR_or, okR_chn, truth_bl, gc_app, gc_self, cmp_le, cmp_lt, e_var, e_cst, e_tup, e_lst, e_bin, e_neg, e_not, e_cmp, e_isN, e_ntN, e_ite, e_call, e_blt, e_isa, e_mth, e_ix, e_sl, e_lc, es_nil, es_cons, ts_nil', ts_one', lc_turn, it_seq, it_enm, it_zip, it_rng, rng_1, rng_2, okT_some, x_asg, x_par, x_sub, x_expr, x_ret, x_if, x_for, for_turn, x_while, wh_test, x_pass, x_brk, x_cnt, asg_nm, asg_tup, asg_cons, asg_nil, List.getElem?_cons_zero, List.getElem?_cons_succ, List.set_cons_zero, List.set_cons_succ, List.length_cons, List.length_nil, List.map_cons, List.map_nil, List.replicate, List.cons_append, List.nil_append, Option.bind_some, Option.map_some, Option.map_none, Nat.reduceAdd, Nat.reduceSub, Nat.reduceLT, ↓reduceIte, wipeE, ite_self, Option.join_some, Bool.not_true, Bool.not_false, Bool.false_eq_true, and_self, and_true, true_and, isNon, partD, okO_some, okO_none, ok_srcT, ok_srcL, ok_enmT, ok_enmL, seq_ref, lst_ref, b_lenT, b_lenL, b_lenR, b_listT, b_listL, b_listR, b_tupT, b_tupR, b_all, b_any, b_int, b_min, b_max, b_repr, b_ssetR, b_lsetT, b_sortR, b_rangeL1, x_ixT, x_ixR, x_ixL, x_set, m_append, m_extend, m_popAt, c_eq, c_ne, c_in, c_ni, c_lt, c_le, c_gt, c_ge, t_bl, t_ref, o_add, o_sub, o_mul, o_mod, o_div, o_pow, o_cat, n_new, i_tup, i_int, i_non, s_lT0, s_lL0, at_0, at_1, at_2]
  have hr : ROk ⟨i, isort xs, atom[j]⟩ := ⟨i0, by show i < 5; omega, by show (isort xs).length ≤ 4; rw [(perm_isort xs).length_eq]; omega, fun x hx => mA x (mem_erase x (m5 x ((perm_isort xs).mem_iff.mp hx))), mA _ (List.getElem_mem hjl)⟩
  exact gc_end ⟨⟨_, rfl, hr⟩, p5.app, (e4.trans e5).trans (Ext.app _ _)⟩ (fun _ _ => ⟨⟨_, rfl, hr⟩, h, Ext.refl s⟩) (lev_same _ _ _)
structure RsOk (rs : List Rl) : Prop where
  l : rs.length ≤ 6
  m : ∀ r ∈ rs, ROk r
abbrev rsD (rs : List Rl) : D := .tup (rs.map rD)
theorem rules_ok (fuel k : Nat) (s : MS) (h : PenAt s) {hd : List Int} {as : List (List Int)} (q : QOk hd as) : okR ((L fuel (k + 5)).fn "_law_rules" [.ref 2, qD hd as] s) (fun d s' => (∃ rs, d = rsD rs ∧ RsOk rs) ∧ PenAt s' ∧ Ext s s') := by
  rw [fn__law_rules]
  refine okR_fnD ?_
  unfold c__law_rules
  have hs := h.len
  rw [okS_cons]
  simp only [okR_some, okR_none, okS_nx, okS_rt, okS_bk, okS_ct, okR_ok, okR_ite, okS_ite, okS_nil, okR_and, okR_or, okR_chn, truth_bl, gc_app, gc_self, cmp_le, cmp_lt, e_var, e_cst, e_tup, e_lst, e_bin, e_neg, e_not, e_cmp, e_isN, e_ntN, e_ite, e_call, e_blt, e_isa, e_mth, e_ix, e_sl, e_lc, es_nil, es_cons, ts_nil', ts_one', lc_turn, it_seq, it_enm, it_zip, it_rng, rng_1, rng_2, okT_some, x_asg, x_par, x_sub, x_expr, x_ret, x_if, x_for, for_turn, x_while, wh_test, x_pass, x_brk, x_cnt, asg_nm, asg_tup, asg_cons, asg_nil, List.getElem?_cons_zero, List.getElem?_cons_succ, List.set_cons_zero, List.set_cons_succ, List.length_cons, List.length_nil, List.map_cons, List.map_nil, List.replicate, List.cons_append, List.nil_append, Option.bind_some, Option.map_some, Option.map_none, Nat.reduceAdd, Nat.reduceSub, Nat.reduceLT, ↓reduceIte, wipeE, ite_self, Option.join_some, Bool.not_true, Bool.not_false, Bool.false_eq_true, and_self, and_true, true_and, isNon, partD, okO_some, okO_none, ok_srcT, ok_srcL, ok_enmT, ok_enmL, seq_ref, lst_ref, b_lenT, b_lenL, b_lenR, b_listT, b_listL, b_listR, b_tupT, b_tupR, b_all, b_any, b_int, b_min, b_max, b_repr, b_ssetR, b_lsetT, b_sortR, b_rangeL1, x_ixT, x_ixR, x_ixL, x_set, m_append, m_extend, m_popAt, c_eq, c_ne, c_in, c_ni, c_lt, c_le, c_gt, c_ge, t_bl, t_ref, o_add, o_sub, o_mul, o_mod, o_div, o_pow, o_cat, n_new, i_tup, i_int, i_non, s_lT0, s_lL0, at_0, at_1, at_2]
  refine okR_mono (draw_ok fuel (k + 2) s h (b := 7) (by omega) (by omega)) ?_
  rintro d S1 ⟨⟨i, rfl, i0, i1⟩, p1, e1⟩
  generalize hS2 : (S1 ++ [MO.lst [D.int 0, D.int 0, D.int 1, D.int 2, D.int i]] : MS) = S2
  have g2 : getL S2 S1.length = some (([0, 0, 1, 2, i] : List Int).map D.int) := by rw [← hS2]; exact getL_new
  have e2 : Ext S1 S2 := by rw [← hS2]; exact Ext.app _ _
  have p2 : PenAt S2 := by rw [← hS2]; exact p1.app
  have h1 := p1.len
  refine okR_mono (one_ok fuel (k + 1) S2 p2 g2 (by omega) (by simp) (by simp)) ?_
  rintro d S3 ⟨⟨m, rfl, hm⟩, p3, e3⟩
  have hm7 : 0 ≤ m ∧ m ≤ 6 := by
    simp only [List.mem_cons, List.not_mem_nil, or_false] at hm
    omega
  rw [rng_1, if_pos (by unfold inR; simp only [Bool.and_eq_true, decide_eq_true_eq]; omega)]
  refine okR_lc0 (fun j acc t => PenAt t ∧ Ext S3 t ∧ ∃ rs : List Rl, acc = rs.map rD ∧ rs.length = j ∧ ∀ r ∈ rs, ROk r) ⟨p3, Ext.refl _, [], rfl, rfl, fun _ h => (List.not_mem_nil h).elim⟩ ?_ ?_
  · rintro j acc t hj ⟨pt, et, rs, rfl, rfl, ma⟩
    have hj5 : rs.length < m.toNat := by
      have : rs.length < (m - 0).toNat := hj
      rwa [Int.sub_zero] at this
    refine ⟨.int (0 + (rs.length : Nat)), rfl, ?_⟩
    simp only [okR_some, okR_none, okS_nx, okS_rt, okS_bk, okS_ct, okR_ok, okR_ite, okS_ite, okS_nil, okR_and, okR_or, okR_chn, truth_bl, gc_app, gc_self, cmp_le, cmp_lt, e_var, e_cst, e_tup, e_lst, e_bin, e_neg, e_not, e_cmp, e_isN, e_ntN, e_ite, e_call, e_blt, e_isa, e_mth, e_ix, e_sl, e_lc, es_nil, es_cons, ts_nil', ts_one', lc_turn, it_seq, it_enm, it_zip, it_rng, rng_1, rng_2, okT_some, x_asg, x_par, x_sub, x_expr, x_ret, x_if, x_for, for_turn, x_while, wh_test, x_pass, x_brk, x_cnt, asg_nm, asg_tup, asg_cons, asg_nil, List.getElem?_cons_zero, List.getElem?_cons_succ, List.set_cons_zero, List.set_cons_succ, List.length_cons, List.length_nil, List.map_cons, List.map_nil, List.replicate, List.cons_append, List.nil_append, Option.bind_some, Option.map_some, Option.map_none, Nat.reduceAdd, Nat.reduceSub, Nat.reduceLT, ↓reduceIte, wipeE, ite_self, Option.join_some, Bool.not_true, Bool.not_false, Bool.false_eq_true, and_self, and_true, true_and, isNon, partD, okO_some, okO_none, ok_srcT, ok_srcL, ok_enmT, ok_enmL, seq_ref, lst_ref, b_lenT, b_lenL, b_lenR, b_listT, b_listL, b_listR, b_tupT, b_tupR, b_all, b_any, b_int, b_min, b_max, b_repr, b_ssetR, b_lsetT, b_sortR, b_rangeL1, x_ixT, x_ixR, x_ixL, x_set, m_append, m_extend, m_popAt, c_eq, c_ne, c_in, c_ni, c_lt, c_le, c_gt, c_ge, t_bl, t_ref, o_add, o_sub, o_mul, o_mod, o_div, o_pow, o_cat, n_new, i_tup, i_int, i_non, s_lT0, s_lL0, at_0, at_1, at_2]
    refine okR_mono (rule_ok fuel k t pt q) ?_
    rintro d t1 ⟨⟨r, rfl, hr⟩, pt1, et1⟩
    refine ⟨by rw [List.length_map]; omega, pt1, et.trans et1, rs ++ [r], by rw [List.map_append]; rfl, by rw [List.length_append]; rfl, fun z hz => ?_⟩
    rcases List.mem_append.mp hz with hz | hz
    · exact ma z hz
    · have e : z = r := by simpa using hz
      exact e ▸ hr
  · rintro acc t ⟨pt, et, rs, rfl, la, ma⟩
    refine ⟨rfl, ?_⟩
    rw [getL_new]
    simp only [okR_some, okR_none, okS_nx, okS_rt, okS_bk, okS_ct, okR_ok, okR_ite, okS_ite, okS_nil, okR_and, okR_or, okR_chn, truth_bl, gc_app, gc_self, cmp_le, cmp_lt, e_var, e_cst, e_tup, e_lst, e_bin, e_neg, e_not, e_cmp, e_isN, e_ntN, e_ite, e_call, e_blt, e_isa, e_mth, e_ix, e_sl, e_lc, es_nil, es_cons, ts_nil', ts_one', lc_turn, it_seq, it_enm, it_zip, it_rng, rng_1, rng_2, okT_some, x_asg, x_par, x_sub, x_expr, x_ret, x_if, x_for, for_turn, x_while, wh_test, x_pass, x_brk, x_cnt, asg_nm, asg_tup, asg_cons, asg_nil, List.getElem?_cons_zero, List.getElem?_cons_succ, List.set_cons_zero, List.set_cons_succ, List.length_cons, List.length_nil, List.map_cons, List.map_nil, List.replicate, List.cons_append, List.nil_append, Option.bind_some, Option.map_some, Option.map_none, Nat.reduceAdd, Nat.reduceSub, Nat.reduceLT, ↓reduceIte, wipeE, ite_self, Option.join_some, Bool.not_true, Bool.not_false, Bool.false_eq_true, and_self, and_true, true_and, isNon, partD, okO_some, okO_none, ok_srcT, ok_srcL, ok_enmT, ok_enmL, seq_ref, lst_ref, b_lenT, b_lenL, b_lenR, b_listT, b_listL, b_listR, b_tupT, b_tupR, b_all, b_any, b_int, b_min, b_max, b_repr, b_ssetR, b_lsetT, b_sortR, b_rangeL1, x_ixT, x_ixR, x_ixL, x_set, m_append, m_extend, m_popAt, c_eq, c_ne, c_in, c_ni, c_lt, c_le, c_gt, c_ge, t_bl, t_ref, o_add, o_sub, o_mul, o_mod, o_div, o_pow, o_cat, n_new, i_tup, i_int, i_non, s_lT0, s_lL0, at_0, at_1, at_2]
    have la' : rs.length = m.toNat := by
      rw [la]
      show (m - 0).toNat = _
      rw [Int.sub_zero]
    have hr : RsOk rs := ⟨by omega, ma⟩
    exact gc_end ⟨⟨rs, rfl, hr⟩, pt.app, (e1.trans (e2.trans (e3.trans et))).trans (Ext.app _ _)⟩ (fun _ _ => ⟨⟨rs, rfl, hr⟩, h, Ext.refl s⟩) (lev_same _ _ _)
end K03

namespace Mir
open PySem
theorem okR_is {α : Type} {r : R α} {x : α} {s : MS} (h : okR r fun a s' => a = x ∧ s' = s) : r = .ok x s := by
  obtain ⟨a, s', e, rfl, rfl⟩ := okR_eq h
  exact e
theorem lc_ints {src : Src} {f : D → MS → R (Option D)} {s : MS} {ns : List Int} (F : Int → Option D) (hn : src.n = ns.length) (hg : ∀ j x, ns[j]? = some x → src.get j s = some (.int x)) (hfin : src.fin s = true) (hz : ns.length < 1000000)
    (hf : ∀ x ∈ ns, okR (f (.int x) s) fun a s' => a = F x ∧ s' = s) : lcGo src f src.n 0 [] s = .ok (ns.filterMap F) s := by
  have := lc_pure (src := src) (f := f) (s := s) (ds := ns.map D.int) (fun d => match d with
    | .int x => F x
    | _ => none) (by rw [List.length_map]; exact hn) (by rw [List.length_map]; exact hz) (fun j d hd => by
      rw [List.getElem?_map, Option.map_eq_some_iff] at hd
      obtain ⟨x, hx, rfl⟩ := hd
      exact hg j x hx) hfin (fun d hd => by
      obtain ⟨x, hx, rfl⟩ := List.mem_map.mp hd
      exact okR_is (hf x hx))
  rw [this, List.filterMap_map]
  rfl
theorem lc_T {f : D → MS → R (Option D)} {s : MS} {ns : List Int} {P : List D → MS → Prop} (F : Int → Option D) (hz : ns.length < 1000000) (hf : ∀ x ∈ ns, okR (f (.int x) s) fun a s' => a = F x ∧ s' = s) (h : P (ns.filterMap F) s) :
    okR (lcGo (srcT (ns.map D.int)) f (srcT (ns.map D.int)).n 0 [] s) P :=
  okR_of_eq (lc_ints F (by show (ns.map D.int).length = _; rw [List.length_map]) (fun j x hx => by show (ns.map D.int)[j]? = _; rw [List.getElem?_map, hx]; rfl) rfl hz hf) h
theorem srcL_get {s : MS} {k n : Nat} {ys : List D} (h : getL s k = some ys) (hl : ys.length = n) (j : Nat) : (srcL k n).get j s = ys[j]? := by
  show srcL.okGet s k n j = _
  unfold srcL.okGet
  rw [h]
  show (if ys.length = n then _ else _) = _
  rw [if_pos hl]
theorem srcL_fin {s : MS} {k n : Nat} {ys : List D} (h : getL s k = some ys) (hl : ys.length = n) : (srcL k n).fin s = true := by
  show srcL.okFin s k n = _
  unfold srcL.okFin
  rw [h]
  exact decide_eq_true hl
theorem lc_L {f : D → MS → R (Option D)} {s : MS} {ns : List Int} {k : Nat} {P : List D → MS → Prop} (F : Int → Option D) (hk : getL s k = some (ns.map D.int)) (hz : ns.length < 1000000) (hf : ∀ x ∈ ns, okR (f (.int x) s) fun a s' => a = F x ∧ s' = s) (h : P (ns.filterMap F) s) :
    okR (lcGo (srcL k (ns.map D.int).length) f (srcL k (ns.map D.int).length).n 0 [] s) P :=
  okR_of_eq (lc_ints F (by show (ns.map D.int).length = _; rw [List.length_map]) (fun j x hx => by rw [srcL_get hk rfl, List.getElem?_map, hx]; rfl) (srcL_fin hk rfl) hz hf) h
theorem filterMap_some {α β : Type} (f : α → β) (l : List α) : l.filterMap (fun x => some (f x)) = l.map f := by
  induction l with
  | nil => rfl
  | cons a r ih => rw [List.filterMap_cons, ih]; rfl
theorem filterMap_if {α β : Type} (p : α → Bool) (f : α → β) (l : List α) : l.filterMap (fun x => if p x then some (f x) else none) = (l.filter p).map f := by
  induction l with
  | nil => rfl
  | cons a r ih =>
    rw [List.filterMap_cons, List.filter_cons]
    cases p a <;> simp [ih]
end Mir
namespace K03
open PySem Mir
def Sat (r : Rl) (kn : List Int) : Bool := r.xs.all fun x => decide (x ∈ kn)
def App (r : Rl) (kn : List Int) : Bool := Sat r kn && decide (r.y ∉ kn)
theorem fits_ok (fuel k : Nat) (s : MS) {a : Nat} {kn : List Int} {r : Rl} (h : getL s a = some (kn.map D.int)) (hz : r.xs.length ≤ 4) : okR ((L fuel (k + 1)).fn "fits" [rD r, .ref a] s) (fun d s' => d = .bl (Sat r kn) ∧ s' = s) := by
  rw [fn_fits]
  refine okR_fnD ?_
  unfold c_fits
  rw [okS_cons]
  simp only [okR_some, okR_none, okS_nx, okS_rt, okS_bk, okS_ct, okR_ok, okR_ite, okS_ite, okS_nil, okR_and, okR_or, okR_chn, truth_bl, gc_app, gc_self, cmp_le, cmp_lt, e_var, e_cst, e_tup, e_lst, e_bin, e_neg, e_not, e_cmp, e_isN, e_ntN, e_ite, e_call, e_blt, e_isa, e_mth, e_ix, e_sl, e_lc, es_nil, es_cons, ts_nil', ts_one', lc_turn, it_seq, it_enm, it_zip, it_rng, rng_1, rng_2, okT_some, x_asg, x_par, x_sub, x_expr, x_ret, x_if, x_for, for_turn, x_while, wh_test, x_pass, x_brk, x_cnt, asg_nm, asg_tup, asg_cons, asg_nil, List.getElem?_cons_zero, List.getElem?_cons_succ, List.set_cons_zero, List.set_cons_succ, List.length_cons, List.length_nil, List.map_cons, List.map_nil, List.replicate, List.cons_append, List.nil_append, Option.bind_some, Option.map_some, Option.map_none, Nat.reduceAdd, Nat.reduceSub, Nat.reduceLT, ↓reduceIte, wipeE, ite_self, Option.join_some, Bool.not_true, Bool.not_false, Bool.false_eq_true, and_self, and_true, true_and, isNon, partD, okO_some, okO_none, ok_srcT, ok_srcL, ok_enmT, ok_enmL, seq_ref, lst_ref, b_lenT, b_lenL, b_lenR, b_listT, b_listL, b_listR, b_tupT, b_tupR, b_all, b_any, b_int, b_min, b_max, b_repr, b_ssetR, b_lsetT, b_sortR, b_rangeL1, x_ixT, x_ixR, x_ixL, x_set, m_append, m_extend, m_popAt, c_eq, c_ne, c_in, c_ni, c_lt, c_le, c_gt, c_ge, t_bl, t_ref, o_add, o_sub, o_mul, o_mod, o_div, o_pow, o_cat, n_new, i_tup, i_int, i_non, s_lT0, s_lL0, at_0, at_1, at_2]
  refine lc_T (fun x => some (.bl (decide (x ∈ kn)))) (by omega) (fun x hx => ?_) ?_
  · simp only [okR_some, okR_none, okS_nx, okS_rt, okS_bk, okS_ct, okR_ok, okR_ite, okS_ite, okS_nil, okR_and, okR_or, okR_chn, truth_bl, gc_app, gc_self, cmp_le, cmp_lt, e_var, e_cst, e_tup, e_lst, e_bin, e_neg, e_not, e_cmp, e_isN, e_ntN, e_ite, e_call, e_blt, e_isa, e_mth, e_ix, e_sl, e_lc, es_nil, es_cons, ts_nil', ts_one', lc_turn, it_seq, it_enm, it_zip, it_rng, rng_1, rng_2, okT_some, x_asg, x_par, x_sub, x_expr, x_ret, x_if, x_for, for_turn, x_while, wh_test, x_pass, x_brk, x_cnt, asg_nm, asg_tup, asg_cons, asg_nil, List.getElem?_cons_zero, List.getElem?_cons_succ, List.set_cons_zero, List.set_cons_succ, List.length_cons, List.length_nil, List.map_cons, List.map_nil, List.replicate, List.cons_append, List.nil_append, Option.bind_some, Option.map_some, Option.map_none, Nat.reduceAdd, Nat.reduceSub, Nat.reduceLT, ↓reduceIte, wipeE, ite_self, Option.join_some, Bool.not_true, Bool.not_false, Bool.false_eq_true, and_self, and_true, true_and, isNon, partD, okO_some, okO_none, ok_srcT, ok_srcL, ok_enmT, ok_enmL, seq_ref, lst_ref, b_lenT, b_lenL, b_lenR, b_listT, b_listL, b_listR, b_tupT, b_tupR, b_all, b_any, b_int, b_min, b_max, b_repr, b_ssetR, b_lsetT, b_sortR, b_rangeL1, x_ixT, x_ixR, x_ixL, x_set, m_append, m_extend, m_popAt, c_eq, c_ne, c_in, c_ni, c_lt, c_le, c_gt, c_ge, t_bl, t_ref, o_add, o_sub, o_mul, o_mod, o_div, o_pow, o_cat, n_new, i_tup, i_int, i_non, s_lT0, s_lL0, at_0, at_1, at_2]
    rw [in_R h]
    simp only [okR_some, okR_none, okS_nx, okS_rt, okS_bk, okS_ct, okR_ok, okR_ite, okS_ite, okS_nil, okR_and, okR_or, okR_chn, truth_bl, gc_app, gc_self, cmp_le, cmp_lt, e_var, e_cst, e_tup, e_lst, e_bin, e_neg, e_not, e_cmp, e_isN, e_ntN, e_ite, e_call, e_blt, e_isa, e_mth, e_ix, e_sl, e_lc, es_nil, es_cons, ts_nil', ts_one', lc_turn, it_seq, it_enm, it_zip, it_rng, rng_1, rng_2, okT_some, x_asg, x_par, x_sub, x_expr, x_ret, x_if, x_for, for_turn, x_while, wh_test, x_pass, x_brk, x_cnt, asg_nm, asg_tup, asg_cons, asg_nil, List.getElem?_cons_zero, List.getElem?_cons_succ, List.set_cons_zero, List.set_cons_succ, List.length_cons, List.length_nil, List.map_cons, List.map_nil, List.replicate, List.cons_append, List.nil_append, Option.bind_some, Option.map_some, Option.map_none, Nat.reduceAdd, Nat.reduceSub, Nat.reduceLT, ↓reduceIte, wipeE, ite_self, Option.join_some, Bool.not_true, Bool.not_false, Bool.false_eq_true, and_self, and_true, true_and, isNon, partD, okO_some, okO_none, ok_srcT, ok_srcL, ok_enmT, ok_enmL, seq_ref, lst_ref, b_lenT, b_lenL, b_lenR, b_listT, b_listL, b_listR, b_tupT, b_tupR, b_all, b_any, b_int, b_min, b_max, b_repr, b_ssetR, b_lsetT, b_sortR, b_rangeL1, x_ixT, x_ixR, x_ixL, x_set, m_append, m_extend, m_popAt, c_eq, c_ne, c_in, c_ni, c_lt, c_le, c_gt, c_ge, t_bl, t_ref, o_add, o_sub, o_mul, o_mod, o_div, o_pow, o_cat, n_new, i_tup, i_int, i_non, s_lT0, s_lL0, at_0, at_1, at_2]
  · rw [getL_new, filterMap_some]
    simp only [okR_some, okR_none, okS_nx, okS_rt, okS_bk, okS_ct, okR_ok, okR_ite, okS_ite, okS_nil, okR_and, okR_or, okR_chn, truth_bl, gc_app, gc_self, cmp_le, cmp_lt, e_var, e_cst, e_tup, e_lst, e_bin, e_neg, e_not, e_cmp, e_isN, e_ntN, e_ite, e_call, e_blt, e_isa, e_mth, e_ix, e_sl, e_lc, es_nil, es_cons, ts_nil', ts_one', lc_turn, it_seq, it_enm, it_zip, it_rng, rng_1, rng_2, okT_some, x_asg, x_par, x_sub, x_expr, x_ret, x_if, x_for, for_turn, x_while, wh_test, x_pass, x_brk, x_cnt, asg_nm, asg_tup, asg_cons, asg_nil, List.getElem?_cons_zero, List.getElem?_cons_succ, List.set_cons_zero, List.set_cons_succ, List.length_cons, List.length_nil, List.map_cons, List.map_nil, List.replicate, List.cons_append, List.nil_append, Option.bind_some, Option.map_some, Option.map_none, Nat.reduceAdd, Nat.reduceSub, Nat.reduceLT, ↓reduceIte, wipeE, ite_self, Option.join_some, Bool.not_true, Bool.not_false, Bool.false_eq_true, and_self, and_true, true_and, isNon, partD, okO_some, okO_none, ok_srcT, ok_srcL, ok_enmT, ok_enmL, seq_ref, lst_ref, b_lenT, b_lenL, b_lenR, b_listT, b_listL, b_listR, b_tupT, b_tupR, b_all, b_any, b_int, b_min, b_max, b_repr, b_ssetR, b_lsetT, b_sortR, b_rangeL1, x_ixT, x_ixR, x_ixL, x_set, m_append, m_extend, m_popAt, c_eq, c_ne, c_in, c_ni, c_lt, c_le, c_gt, c_ge, t_bl, t_ref, o_add, o_sub, o_mul, o_mod, o_div, o_pow, o_cat, n_new, i_tup, i_int, i_non, s_lT0, s_lL0, at_0, at_1, at_2]
    rw [show r.xs.map (fun x => D.bl (decide (x ∈ kn))) = (r.xs.map fun x => decide (x ∈ kn)).map D.bl by rw [List.map_map]; rfl, bools_of]
    simp only [okR_some, okR_none, okS_nx, okS_rt, okS_bk, okS_ct, okR_ok, okR_ite, okS_ite, okS_nil, okR_and, okR_or, okR_chn, truth_bl, gc_app, gc_self, cmp_le, cmp_lt, e_var, e_cst, e_tup, e_lst, e_bin, e_neg, e_not, e_cmp, e_isN, e_ntN, e_ite, e_call, e_blt, e_isa, e_mth, e_ix, e_sl, e_lc, es_nil, es_cons, ts_nil', ts_one', lc_turn, it_seq, it_enm, it_zip, it_rng, rng_1, rng_2, okT_some, x_asg, x_par, x_sub, x_expr, x_ret, x_if, x_for, for_turn, x_while, wh_test, x_pass, x_brk, x_cnt, asg_nm, asg_tup, asg_cons, asg_nil, List.getElem?_cons_zero, List.getElem?_cons_succ, List.set_cons_zero, List.set_cons_succ, List.length_cons, List.length_nil, List.map_cons, List.map_nil, List.replicate, List.cons_append, List.nil_append, Option.bind_some, Option.map_some, Option.map_none, Nat.reduceAdd, Nat.reduceSub, Nat.reduceLT, ↓reduceIte, wipeE, ite_self, Option.join_some, Bool.not_true, Bool.not_false, Bool.false_eq_true, and_self, and_true, true_and, isNon, partD, okO_some, okO_none, ok_srcT, ok_srcL, ok_enmT, ok_enmL, seq_ref, lst_ref, b_lenT, b_lenL, b_lenR, b_listT, b_listL, b_listR, b_tupT, b_tupR, b_all, b_any, b_int, b_min, b_max, b_repr, b_ssetR, b_lsetT, b_sortR, b_rangeL1, x_ixT, x_ixR, x_ixL, x_set, m_append, m_extend, m_popAt, c_eq, c_ne, c_in, c_ni, c_lt, c_le, c_gt, c_ge, t_bl, t_ref, o_add, o_sub, o_mul, o_mod, o_div, o_pow, o_cat, n_new, i_tup, i_int, i_non, s_lT0, s_lL0, at_0, at_1, at_2]
    refine gc_pure rfl ⟨?_, rfl⟩
    unfold Sat
    rw [List.all_map]
    rfl
theorem next_ok (fuel k : Nat) (s : MS) {a : Nat} {kn : List Int} {rs : List Rl} (h : getL s a = some (kn.map D.int)) (hr : RsOk rs) : okR ((L fuel (k + 2)).fn "next_rule" [rsD rs, .ref a] s)
    (fun d s' => s' = s ∧ ((d = .non ∧ ∀ r ∈ rs, App r kn = false) ∨ ∃ (j : Nat) (r : Rl), d = .int j ∧ rs[j]? = some r ∧ App r kn = true)) := by
  rw [fn_next_rule]
  refine okR_fnD ?_
  unfold c_next_rule
  rw [okS_cons]
  simp only [okR_some, okR_none, okS_nx, okS_rt, okS_bk, okS_ct, okR_ok, okR_ite, okS_ite, okS_nil, okR_and, okR_or, okR_chn, truth_bl, gc_app, gc_self, cmp_le, cmp_lt, e_var, e_cst, e_tup, e_lst, e_bin, e_neg, e_not, e_cmp, e_isN, e_ntN, e_ite, e_call, e_blt, e_isa, e_mth, e_ix, e_sl, e_lc, es_nil, es_cons, ts_nil', ts_one', lc_turn, it_seq, it_enm, it_zip, it_rng, rng_1, rng_2, okT_some, x_asg, x_par, x_sub, x_expr, x_ret, x_if, x_for, for_turn, x_while, wh_test, x_pass, x_brk, x_cnt, asg_nm, asg_tup, asg_cons, asg_nil, List.getElem?_cons_zero, List.getElem?_cons_succ, List.set_cons_zero, List.set_cons_succ, List.length_cons, List.length_nil, List.map_cons, List.map_nil, List.replicate, List.cons_append, List.nil_append, Option.bind_some, Option.map_some, Option.map_none, Nat.reduceAdd, Nat.reduceSub, Nat.reduceLT, ↓reduceIte, wipeE, ite_self, Option.join_some, Bool.not_true, Bool.not_false, Bool.false_eq_true, and_self, and_true, true_and, isNon, partD, okO_some, okO_none, ok_srcT, ok_srcL, ok_enmT, ok_enmL, seq_ref, lst_ref, b_lenT, b_lenL, b_lenR, b_listT, b_listL, b_listR, b_tupT, b_tupR, b_all, b_any, b_int, b_min, b_max, b_repr, b_ssetR, b_lsetT, b_sortR, b_rangeL1, x_ixT, x_ixR, x_ixL, x_set, m_append, m_extend, m_popAt, c_eq, c_ne, c_in, c_ni, c_lt, c_le, c_gt, c_ge, t_bl, t_ref, o_add, o_sub, o_mul, o_mod, o_div, o_pow, o_cat, n_new, i_tup, i_int, i_non, s_lT0, s_lL0, at_0, at_1, at_2]
  refine okS_for0 (fun j e t => t = s ∧ (∃ u v, e = [some (rsD rs), some (.ref a), u, v]) ∧ ∀ r ∈ rs.take j, App r kn = false) ⟨rfl, ⟨_, _, rfl⟩, fun r hr => by simp at hr⟩ ?_ ?_
  · rintro j e t hj ⟨rfl, ⟨u, v, rfl⟩, hno⟩
    have hj' : j < rs.length := by
      have : j < (rs.map rD).length := hj
      rwa [List.length_map] at this
    refine ⟨.tup [.int j, rD rs[j]], by show ((rs.map rD)[j]?).map _ = _; rw [List.getElem?_map, List.getElem?_eq_getElem hj']; rfl, ?_⟩
    rw [for_turn]
    simp only [okR_some, okR_none, okS_nx, okS_rt, okS_bk, okS_ct, okR_ok, okR_ite, okS_ite, okS_nil, okR_and, okR_or, okR_chn, truth_bl, gc_app, gc_self, cmp_le, cmp_lt, e_var, e_cst, e_tup, e_lst, e_bin, e_neg, e_not, e_cmp, e_isN, e_ntN, e_ite, e_call, e_blt, e_isa, e_mth, e_ix, e_sl, e_lc, es_nil, es_cons, ts_nil', ts_one', lc_turn, it_seq, it_enm, it_zip, it_rng, rng_1, rng_2, okT_some, x_asg, x_par, x_sub, x_expr, x_ret, x_if, x_for, for_turn, x_while, wh_test, x_pass, x_brk, x_cnt, asg_nm, asg_tup, asg_cons, asg_nil, List.getElem?_cons_zero, List.getElem?_cons_succ, List.set_cons_zero, List.set_cons_succ, List.length_cons, List.length_nil, List.map_cons, List.map_nil, List.replicate, List.cons_append, List.nil_append, Option.bind_some, Option.map_some, Option.map_none, Nat.reduceAdd, Nat.reduceSub, Nat.reduceLT, ↓reduceIte, wipeE, ite_self, Option.join_some, Bool.not_true, Bool.not_false, Bool.false_eq_true, and_self, and_true, true_and, isNon, partD, okO_some, okO_none, ok_srcT, ok_srcL, ok_enmT, ok_enmL, seq_ref, lst_ref, b_lenT, b_lenL, b_lenR, b_listT, b_listL, b_listR, b_tupT, b_tupR, b_all, b_any, b_int, b_min, b_max, b_repr, b_ssetR, b_lsetT, b_sortR, b_rangeL1, x_ixT, x_ixR, x_ixL, x_set, m_append, m_extend, m_popAt, c_eq, c_ne, c_in, c_ni, c_lt, c_le, c_gt, c_ge, t_bl, t_ref, o_add, o_sub, o_mul, o_mod, o_div, o_pow, o_cat, n_new, i_tup, i_int, i_non, s_lT0, s_lL0, at_0, at_1, at_2]
    rw [okS_cons]
    simp only [okR_some, okR_none, okS_nx, okS_rt, okS_bk, okS_ct, okR_ok, okR_ite, okS_ite, okS_nil, okR_and, okR_or, okR_chn, truth_bl, gc_app, gc_self, cmp_le, cmp_lt, e_var, e_cst, e_tup, e_lst, e_bin, e_neg, e_not, e_cmp, e_isN, e_ntN, e_ite, e_call, e_blt, e_isa, e_mth, e_ix, e_sl, e_lc, es_nil, es_cons, ts_nil', ts_one', lc_turn, it_seq, it_enm, it_zip, it_rng, rng_1, rng_2, okT_some, x_asg, x_par, x_sub, x_expr, x_ret, x_if, x_for, for_turn, x_while, wh_test, x_pass, x_brk, x_cnt, asg_nm, asg_tup, asg_cons, asg_nil, List.getElem?_cons_zero, List.getElem?_cons_succ, List.set_cons_zero, List.set_cons_succ, List.length_cons, List.length_nil, List.map_cons, List.map_nil, List.replicate, List.cons_append, List.nil_append, Option.bind_some, Option.map_some, Option.map_none, Nat.reduceAdd, Nat.reduceSub, Nat.reduceLT, ↓reduceIte, wipeE, ite_self, Option.join_some, Bool.not_true, Bool.not_false, Bool.false_eq_true, and_self, and_true, true_and, isNon, partD, okO_some, okO_none, ok_srcT, ok_srcL, ok_enmT, ok_enmL, seq_ref, lst_ref, b_lenT, b_lenL, b_lenR, b_listT, b_listL, b_listR, b_tupT, b_tupR, b_all, b_any, b_int, b_min, b_max, b_repr, b_ssetR, b_lsetT, b_sortR, b_rangeL1, x_ixT, x_ixR, x_ixL, x_set, m_append, m_extend, m_popAt, c_eq, c_ne, c_in, c_ni, c_lt, c_le, c_gt, c_ge, t_bl, t_ref, o_add, o_sub, o_mul, o_mod, o_div, o_pow, o_cat, n_new, i_tup, i_int, i_non, s_lT0, s_lL0, at_0, at_1, at_2]
    refine okR_mono (fits_ok fuel k t h (hr.m _ (List.getElem_mem hj')).l) ?_
    rintro d t1 ⟨rfl, rfl⟩
    simp only [okR_some, okR_none, okS_nx, okS_rt, okS_bk, okS_ct, okR_ok, okR_ite, okS_ite, okS_nil, okR_and, okR_or, okR_chn, truth_bl, gc_app, gc_self, cmp_le, cmp_lt, e_var, e_cst, e_tup, e_lst, e_bin, e_neg, e_not, e_cmp, e_isN, e_ntN, e_ite, e_call, e_blt, e_isa, e_mth, e_ix, e_sl, e_lc, es_nil, es_cons, ts_nil', ts_one', lc_turn, it_seq, it_enm, it_zip, it_rng, rng_1, rng_2, okT_some, x_asg, x_par, x_sub, x_expr, x_ret, x_if, x_for, for_turn, x_while, wh_test, x_pass, x_brk, x_cnt, asg_nm, asg_tup, asg_cons, asg_nil, List.getElem?_cons_zero, List.getElem?_cons_succ, List.set_cons_zero, List.set_cons_succ, List.length_cons, List.length_nil, List.map_cons, List.map_nil, List.replicate, List.cons_append, List.nil_append, Option.bind_some, Option.map_some, Option.map_none, Nat.reduceAdd, Nat.reduceSub, Nat.reduceLT, ↓reduceIte, wipeE, ite_self, Option.join_some, Bool.not_true, Bool.not_false, Bool.false_eq_true, and_self, and_true, true_and, isNon, partD, okO_some, okO_none, ok_srcT, ok_srcL, ok_enmT, ok_enmL, seq_ref, lst_ref, b_lenT, b_lenL, b_lenR, b_listT, b_listL, b_listR, b_tupT, b_tupR, b_all, b_any, b_int, b_min, b_max, b_repr, b_ssetR, b_lsetT, b_sortR, b_rangeL1, x_ixT, x_ixR, x_ixL, x_set, m_append, m_extend, m_popAt, c_eq, c_ne, c_in, c_ni, c_lt, c_le, c_gt, c_ge, t_bl, t_ref, o_add, o_sub, o_mul, o_mod, o_div, o_pow, o_cat, n_new, i_tup, i_int, i_non, s_lT0, s_lL0, at_0, at_1, at_2]
    have step : App rs[j] kn = false → ∀ r ∈ rs.take (j + 1), App r kn = false := fun hA r hr => by
      rw [List.take_add_one, List.getElem?_eq_getElem hj'] at hr
      rcases List.mem_append.mp hr with hr | hr
      · exact hno r hr
      · have e : r = rs[j] := by simpa using hr
        rw [e]; exact hA
    cases hS : Sat rs[j] kn with
    | false =>
      simp only [okR_some, okR_none, okS_nx, okS_rt, okS_bk, okS_ct, okR_ok, okR_ite, okS_ite, okS_nil, okR_and, okR_or, okR_chn, truth_bl, gc_app, gc_self, cmp_le, cmp_lt, e_var, e_cst, e_tup, e_lst, e_bin, e_neg, e_not, e_cmp, e_isN, e_ntN, e_ite, e_call, e_blt, e_isa, e_mth, e_ix, e_sl, e_lc, es_nil, es_cons, ts_nil', ts_one', lc_turn, it_seq, it_enm, it_zip, it_rng, rng_1, rng_2, okT_some, x_asg, x_par, x_sub, x_expr, x_ret, x_if, x_for, for_turn, x_while, wh_test, x_pass, x_brk, x_cnt, asg_nm, asg_tup, asg_cons, asg_nil, List.getElem?_cons_zero, List.getElem?_cons_succ, List.set_cons_zero, List.set_cons_succ, List.length_cons, List.length_nil, List.map_cons, List.map_nil, List.replicate, List.cons_append, List.nil_append, Option.bind_some, Option.map_some, Option.map_none, Nat.reduceAdd, Nat.reduceSub, Nat.reduceLT, ↓reduceIte, wipeE, ite_self, Option.join_some, Bool.not_true, Bool.not_false, Bool.false_eq_true, and_self, and_true, true_and, isNon, partD, okO_some, okO_none, ok_srcT, ok_srcL, ok_enmT, ok_enmL, seq_ref, lst_ref, b_lenT, b_lenL, b_lenR, b_listT, b_listL, b_listR, b_tupT, b_tupR, b_all, b_any, b_int, b_min, b_max, b_repr, b_ssetR, b_lsetT, b_sortR, b_rangeL1, x_ixT, x_ixR, x_ixL, x_set, m_append, m_extend, m_popAt, c_eq, c_ne, c_in, c_ni, c_lt, c_le, c_gt, c_ge, t_bl, t_ref, o_add, o_sub, o_mul, o_mod, o_div, o_pow, o_cat, n_new, i_tup, i_int, i_non, s_lT0, s_lL0, at_0, at_1, at_2]
      exact ⟨⟨_, _, rfl⟩, step (by unfold App; rw [hS]; rfl)⟩
    | true =>
      simp only [okR_some, okR_none, okS_nx, okS_rt, okS_bk, okS_ct, okR_ok, okR_ite, okS_ite, okS_nil, okR_and, okR_or, okR_chn, truth_bl, gc_app, gc_self, cmp_le, cmp_lt, e_var, e_cst, e_tup, e_lst, e_bin, e_neg, e_not, e_cmp, e_isN, e_ntN, e_ite, e_call, e_blt, e_isa, e_mth, e_ix, e_sl, e_lc, es_nil, es_cons, ts_nil', ts_one', lc_turn, it_seq, it_enm, it_zip, it_rng, rng_1, rng_2, okT_some, x_asg, x_par, x_sub, x_expr, x_ret, x_if, x_for, for_turn, x_while, wh_test, x_pass, x_brk, x_cnt, asg_nm, asg_tup, asg_cons, asg_nil, List.getElem?_cons_zero, List.getElem?_cons_succ, List.set_cons_zero, List.set_cons_succ, List.length_cons, List.length_nil, List.map_cons, List.map_nil, List.replicate, List.cons_append, List.nil_append, Option.bind_some, Option.map_some, Option.map_none, Nat.reduceAdd, Nat.reduceSub, Nat.reduceLT, ↓reduceIte, wipeE, ite_self, Option.join_some, Bool.not_true, Bool.not_false, Bool.false_eq_true, and_self, and_true, true_and, isNon, partD, okO_some, okO_none, ok_srcT, ok_srcL, ok_enmT, ok_enmL, seq_ref, lst_ref, b_lenT, b_lenL, b_lenR, b_listT, b_listL, b_listR, b_tupT, b_tupR, b_all, b_any, b_int, b_min, b_max, b_repr, b_ssetR, b_lsetT, b_sortR, b_rangeL1, x_ixT, x_ixR, x_ixL, x_set, m_append, m_extend, m_popAt, c_eq, c_ne, c_in, c_ni, c_lt, c_le, c_gt, c_ge, t_bl, t_ref, o_add, o_sub, o_mul, o_mod, o_div, o_pow, o_cat, n_new, i_tup, i_int, i_non, s_lT0, s_lL0, at_0, at_1, at_2]
      rw [in_R h]
      simp only [okR_some, okR_none, okS_nx, okS_rt, okS_bk, okS_ct, okR_ok, okR_ite, okS_ite, okS_nil, okR_and, okR_or, okR_chn, truth_bl, gc_app, gc_self, cmp_le, cmp_lt, e_var, e_cst, e_tup, e_lst, e_bin, e_neg, e_not, e_cmp, e_isN, e_ntN, e_ite, e_call, e_blt, e_isa, e_mth, e_ix, e_sl, e_lc, es_nil, es_cons, ts_nil', ts_one', lc_turn, it_seq, it_enm, it_zip, it_rng, rng_1, rng_2, okT_some, x_asg, x_par, x_sub, x_expr, x_ret, x_if, x_for, for_turn, x_while, wh_test, x_pass, x_brk, x_cnt, asg_nm, asg_tup, asg_cons, asg_nil, List.getElem?_cons_zero, List.getElem?_cons_succ, List.set_cons_zero, List.set_cons_succ, List.length_cons, List.length_nil, List.map_cons, List.map_nil, List.replicate, List.cons_append, List.nil_append, Option.bind_some, Option.map_some, Option.map_none, Nat.reduceAdd, Nat.reduceSub, Nat.reduceLT, ↓reduceIte, wipeE, ite_self, Option.join_some, Bool.not_true, Bool.not_false, Bool.false_eq_true, and_self, and_true, true_and, isNon, partD, okO_some, okO_none, ok_srcT, ok_srcL, ok_enmT, ok_enmL, seq_ref, lst_ref, b_lenT, b_lenL, b_lenR, b_listT, b_listL, b_listR, b_tupT, b_tupR, b_all, b_any, b_int, b_min, b_max, b_repr, b_ssetR, b_lsetT, b_sortR, b_rangeL1, x_ixT, x_ixR, x_ixL, x_set, m_append, m_extend, m_popAt, c_eq, c_ne, c_in, c_ni, c_lt, c_le, c_gt, c_ge, t_bl, t_ref, o_add, o_sub, o_mul, o_mod, o_div, o_pow, o_cat, n_new, i_tup, i_int, i_non, s_lT0, s_lL0, at_0, at_1, at_2]
      by_cases hy : rs[j].y ∈ kn
      · rw [decide_eq_true hy]
        simp only [okR_some, okR_none, okS_nx, okS_rt, okS_bk, okS_ct, okR_ok, okR_ite, okS_ite, okS_nil, okR_and, okR_or, okR_chn, truth_bl, gc_app, gc_self, cmp_le, cmp_lt, e_var, e_cst, e_tup, e_lst, e_bin, e_neg, e_not, e_cmp, e_isN, e_ntN, e_ite, e_call, e_blt, e_isa, e_mth, e_ix, e_sl, e_lc, es_nil, es_cons, ts_nil', ts_one', lc_turn, it_seq, it_enm, it_zip, it_rng, rng_1, rng_2, okT_some, x_asg, x_par, x_sub, x_expr, x_ret, x_if, x_for, for_turn, x_while, wh_test, x_pass, x_brk, x_cnt, asg_nm, asg_tup, asg_cons, asg_nil, List.getElem?_cons_zero, List.getElem?_cons_succ, List.set_cons_zero, List.set_cons_succ, List.length_cons, List.length_nil, List.map_cons, List.map_nil, List.replicate, List.cons_append, List.nil_append, Option.bind_some, Option.map_some, Option.map_none, Nat.reduceAdd, Nat.reduceSub, Nat.reduceLT, ↓reduceIte, wipeE, ite_self, Option.join_some, Bool.not_true, Bool.not_false, Bool.false_eq_true, and_self, and_true, true_and, isNon, partD, okO_some, okO_none, ok_srcT, ok_srcL, ok_enmT, ok_enmL, seq_ref, lst_ref, b_lenT, b_lenL, b_lenR, b_listT, b_listL, b_listR, b_tupT, b_tupR, b_all, b_any, b_int, b_min, b_max, b_repr, b_ssetR, b_lsetT, b_sortR, b_rangeL1, x_ixT, x_ixR, x_ixL, x_set, m_append, m_extend, m_popAt, c_eq, c_ne, c_in, c_ni, c_lt, c_le, c_gt, c_ge, t_bl, t_ref, o_add, o_sub, o_mul, o_mod, o_div, o_pow, o_cat, n_new, i_tup, i_int, i_non, s_lT0, s_lL0, at_0, at_1, at_2]
        exact ⟨⟨_, _, rfl⟩, step (by unfold App; rw [hS, decide_eq_false (fun z => z hy)]; rfl)⟩
      · rw [decide_eq_false hy]
        simp only [okR_some, okR_none, okS_nx, okS_rt, okS_bk, okS_ct, okR_ok, okR_ite, okS_ite, okS_nil, okR_and, okR_or, okR_chn, truth_bl, gc_app, gc_self, cmp_le, cmp_lt, e_var, e_cst, e_tup, e_lst, e_bin, e_neg, e_not, e_cmp, e_isN, e_ntN, e_ite, e_call, e_blt, e_isa, e_mth, e_ix, e_sl, e_lc, es_nil, es_cons, ts_nil', ts_one', lc_turn, it_seq, it_enm, it_zip, it_rng, rng_1, rng_2, okT_some, x_asg, x_par, x_sub, x_expr, x_ret, x_if, x_for, for_turn, x_while, wh_test, x_pass, x_brk, x_cnt, asg_nm, asg_tup, asg_cons, asg_nil, List.getElem?_cons_zero, List.getElem?_cons_succ, List.set_cons_zero, List.set_cons_succ, List.length_cons, List.length_nil, List.map_cons, List.map_nil, List.replicate, List.cons_append, List.nil_append, Option.bind_some, Option.map_some, Option.map_none, Nat.reduceAdd, Nat.reduceSub, Nat.reduceLT, ↓reduceIte, wipeE, ite_self, Option.join_some, Bool.not_true, Bool.not_false, Bool.false_eq_true, and_self, and_true, true_and, isNon, partD, okO_some, okO_none, ok_srcT, ok_srcL, ok_enmT, ok_enmL, seq_ref, lst_ref, b_lenT, b_lenL, b_lenR, b_listT, b_listL, b_listR, b_tupT, b_tupR, b_all, b_any, b_int, b_min, b_max, b_repr, b_ssetR, b_lsetT, b_sortR, b_rangeL1, x_ixT, x_ixR, x_ixL, x_set, m_append, m_extend, m_popAt, c_eq, c_ne, c_in, c_ni, c_lt, c_le, c_gt, c_ge, t_bl, t_ref, o_add, o_sub, o_mul, o_mod, o_div, o_pow, o_cat, n_new, i_tup, i_int, i_non, s_lT0, s_lL0, at_0, at_1, at_2]
        rw [okS_cons]
        simp only [okR_some, okR_none, okS_nx, okS_rt, okS_bk, okS_ct, okR_ok, okR_ite, okS_ite, okS_nil, okR_and, okR_or, okR_chn, truth_bl, gc_app, gc_self, cmp_le, cmp_lt, e_var, e_cst, e_tup, e_lst, e_bin, e_neg, e_not, e_cmp, e_isN, e_ntN, e_ite, e_call, e_blt, e_isa, e_mth, e_ix, e_sl, e_lc, es_nil, es_cons, ts_nil', ts_one', lc_turn, it_seq, it_enm, it_zip, it_rng, rng_1, rng_2, okT_some, x_asg, x_par, x_sub, x_expr, x_ret, x_if, x_for, for_turn, x_while, wh_test, x_pass, x_brk, x_cnt, asg_nm, asg_tup, asg_cons, asg_nil, List.getElem?_cons_zero, List.getElem?_cons_succ, List.set_cons_zero, List.set_cons_succ, List.length_cons, List.length_nil, List.map_cons, List.map_nil, List.replicate, List.cons_append, List.nil_append, Option.bind_some, Option.map_some, Option.map_none, Nat.reduceAdd, Nat.reduceSub, Nat.reduceLT, ↓reduceIte, wipeE, ite_self, Option.join_some, Bool.not_true, Bool.not_false, Bool.false_eq_true, and_self, and_true, true_and, isNon, partD, okO_some, okO_none, ok_srcT, ok_srcL, ok_enmT, ok_enmL, seq_ref, lst_ref, b_lenT, b_lenL, b_lenR, b_listT, b_listL, b_listR, b_tupT, b_tupR, b_all, b_any, b_int, b_min, b_max, b_repr, b_ssetR, b_lsetT, b_sortR, b_rangeL1, x_ixT, x_ixR, x_ixL, x_set, m_append, m_extend, m_popAt, c_eq, c_ne, c_in, c_ni, c_lt, c_le, c_gt, c_ge, t_bl, t_ref, o_add, o_sub, o_mul, o_mod, o_div, o_pow, o_cat, n_new, i_tup, i_int, i_non, s_lT0, s_lL0, at_0, at_1, at_2]
        exact gc_pure0 ⟨rfl, .inr ⟨j, rs[j], rfl, List.getElem?_eq_getElem hj', by unfold App; rw [hS, decide_eq_true hy]; rfl⟩⟩
  · rintro e t ⟨rfl, ⟨u, v, rfl⟩, hno⟩
    refine ⟨rfl, ?_⟩
    dsimp only
    rw [okS_cons]
    simp only [okR_some, okR_none, okS_nx, okS_rt, okS_bk, okS_ct, okR_ok, okR_ite, okS_ite, okS_nil, okR_and, okR_or, okR_chn, truth_bl, gc_app, gc_self, cmp_le, cmp_lt, e_var, e_cst, e_tup, e_lst, e_bin, e_neg, e_not, e_cmp, e_isN, e_ntN, e_ite, e_call, e_blt, e_isa, e_mth, e_ix, e_sl, e_lc, es_nil, es_cons, ts_nil', ts_one', lc_turn, it_seq, it_enm, it_zip, it_rng, rng_1, rng_2, okT_some, x_asg, x_par, x_sub, x_expr, x_ret, x_if, x_for, for_turn, x_while, wh_test, x_pass, x_brk, x_cnt, asg_nm, asg_tup, asg_cons, asg_nil, List.getElem?_cons_zero, List.getElem?_cons_succ, List.set_cons_zero, List.set_cons_succ, List.length_cons, List.length_nil, List.map_cons, List.map_nil, List.replicate, List.cons_append, List.nil_append, Option.bind_some, Option.map_some, Option.map_none, Nat.reduceAdd, Nat.reduceSub, Nat.reduceLT, ↓reduceIte, wipeE, ite_self, Option.join_some, Bool.not_true, Bool.not_false, Bool.false_eq_true, and_self, and_true, true_and, isNon, partD, okO_some, okO_none, ok_srcT, ok_srcL, ok_enmT, ok_enmL, seq_ref, lst_ref, b_lenT, b_lenL, b_lenR, b_listT, b_listL, b_listR, b_tupT, b_tupR, b_all, b_any, b_int, b_min, b_max, b_repr, b_ssetR, b_lsetT, b_sortR, b_rangeL1, x_ixT, x_ixR, x_ixL, x_set, m_append, m_extend, m_popAt, c_eq, c_ne, c_in, c_ni, c_lt, c_le, c_gt, c_ge, t_bl, t_ref, o_add, o_sub, o_mul, o_mod, o_div, o_pow, o_cat, n_new, i_tup, i_int, i_non, s_lT0, s_lL0, at_0, at_1, at_2]
    refine gc_pure0 ⟨rfl, .inl ⟨rfl, fun r hr => hno r ?_⟩⟩
    rw [show (srcTE (rs.map rD)).n = rs.length by show (rs.map rD).length = _; rw [List.length_map], List.take_length]
    exact hr
end K03

namespace K03
open PySem Mir
def yOf (rs : List Rl) (j : Nat) : Int := ((rs[j]?).map (·.y)).getD 0
def knOf (rs : List Rl) (sm : List Int) (ch : List Nat) : List Int := sm ++ ch.map (yOf rs)
def Valid (rs : List Rl) (sm : List Int) (ch : List Nat) : Prop := ∀ j n, ch[j]? = some n → ∃ r, rs[n]? = some r ∧ App r (knOf rs sm (ch.take j)) = true
def Closed (rs : List Rl) (kn : List Int) : Prop := ∀ r ∈ rs, App r kn = false
def mu (kn : List Int) : Nat := ((List.range 7).filter fun v : Nat => decide ((v : Int) ∉ kn)).length
theorem mu_le (kn : List Int) : mu kn ≤ 7 := by
  unfold mu
  have := List.length_filter_le (fun v : Nat => decide ((v : Int) ∉ kn)) (List.range 7)
  rwa [List.length_range] at this
theorem filter_lt {α : Type} {p q : α → Bool} : ∀ {l : List α} {a : α}, a ∈ l → p a = true → q a = false → (∀ b, q b = true → p b = true) → (l.filter q).length < (l.filter p).length
  | b :: l, a, h, hp, hq, hi => by
    have le : ∀ l : List α, (l.filter q).length ≤ (l.filter p).length := by
      intro l
      induction l with
      | nil => exact Nat.le_refl _
      | cons c r ih =>
        rw [List.filter_cons, List.filter_cons]
        cases hc : q c with
        | true => rw [hi c hc]; simp; exact ih
        | false => cases p c <;> simp <;> omega
    rw [List.filter_cons, List.filter_cons]
    rcases List.mem_cons.mp h with rfl | h
    · rw [hp, hq]
      have := le l
      simp
      omega
    · have ih := filter_lt h hp hq hi
      cases hc : q b with
      | true => rw [hi b hc]; simp; exact ih
      | false => cases p b <;> simp <;> omega
theorem mu_lt {kn kn' : List Int} {y : Int} (hy : InR y) (h : y ∉ kn) (h' : y ∈ kn') (hs : ∀ x ∈ kn, x ∈ kn') : mu kn' < mu kn := by
  obtain ⟨n, rfl⟩ := Int.eq_ofNat_of_zero_le hy.1
  have hn : n < 7 := by have := hy.2; omega
  exact filter_lt (a := n) (List.mem_range.mpr hn) (decide_eq_true h) (decide_eq_false fun z => z h') fun b hb => decide_eq_true fun z => (of_decide_eq_true hb) (hs _ z)
theorem knOf_snoc (rs : List Rl) (sm : List Int) (ch : List Nat) (j : Nat) : knOf rs sm (ch ++ [j]) = knOf rs sm ch ++ [yOf rs j] := by
  unfold knOf
  rw [List.map_append, List.append_assoc]
  rfl
theorem valid_snoc {rs : List Rl} {sm : List Int} {ch : List Nat} {j : Nat} {r : Rl} (v : Valid rs sm ch) (hr : rs[j]? = some r) (h : App r (knOf rs sm ch) = true) : Valid rs sm (ch ++ [j]) := fun i n hi => by
  by_cases hlt : i < ch.length
  · rw [List.getElem?_append_left hlt] at hi
    rw [List.take_append_of_le_length (Nat.le_of_lt hlt)]
    exact v i n hi
  · have e : i = ch.length := by
      have := (List.getElem?_eq_some_iff.mp hi).1
      rw [List.length_append, List.length_singleton] at this
      omega
    subst e
    rw [List.getElem?_append_right (Nat.le_refl _), Nat.sub_self] at hi
    cases (show some j = some n from hi)
    rw [List.take_left]
    exact ⟨r, hr, h⟩
theorem app_y {r : Rl} {kn : List Int} (h : App r kn = true) : r.y ∉ kn := by
  unfold App at h
  rw [Bool.and_eq_true, decide_eq_true_eq] at h
  exact h.2
theorem app_sat {r : Rl} {kn : List Int} (h : App r kn = true) : ∀ x ∈ r.xs, x ∈ kn := by
  unfold App Sat at h
  rw [Bool.and_eq_true, List.all_eq_true] at h
  exact fun x hx => of_decide_eq_true (h.1 x hx)
abbrev chI (ch : List Nat) : List Int := ch.map fun n : Nat => (n : Int)
theorem set_new2 {s t : MS} {o p o' : MO} : (s ++ o :: p :: t).set (s.length + 1) o' = s ++ o :: o' :: t := by
  rw [List.set_append_right _ _ (Nat.le_succ _)]
  show s ++ (o :: p :: t).set (s.length + 1 - s.length) o' = _
  rw [Nat.add_sub_cancel_left]
  rfl
theorem atI_get {α : Type} {f : α → D} {l : List α} {j : Nat} {a : α} (h : l[j]? = some a) : L2.atI (l.map f) (j : Int) = some (f a) := by
  refine L2.atI_nat ?_
  rw [List.getElem?_map, h]
  rfl
theorem longest_ok (fuel k : Nat) (hf : 8 ≤ fuel) (s : MS) {sm : List Int} {rs : List Rl} (hr : RsOk rs) (hsm : sm.length ≤ 900) : okR ((L fuel (k + 3)).fn "longest_chain" [rsD rs, tI sm] s)
    (fun d s' => ∃ (ch : List Nat) (t : MS), d = .ref (s.length + 1) ∧ s' = s ++ t ∧ getL s' (s.length + 1) = some ((chI ch).map D.int) ∧ Valid rs sm ch ∧ Closed rs (knOf rs sm ch) ∧ ch.length ≤ 7) := by
  rw [fn_longest_chain]
  refine okR_fnD ?_
  unfold c_longest_chain
  rw [okS_cons]
  simp only [okR_some, okR_none, okS_nx, okS_rt, okS_bk, okS_ct, okR_ok, okR_ite, okS_ite, okS_nil, okR_and, okR_or, okR_chn, truth_bl, gc_app, gc_self, cmp_le, cmp_lt, e_var, e_cst, e_tup, e_lst, e_bin, e_neg, e_not, e_cmp, e_isN, e_ntN, e_ite, e_call, e_blt, e_isa, e_mth, e_ix, e_sl, e_lc, es_nil, es_cons, ts_nil', ts_one', lc_turn, it_seq, it_enm, it_zip, it_rng, rng_1, rng_2, okT_some, x_asg, x_par, x_sub, x_expr, x_ret, x_if, x_for, for_turn, x_while, wh_test, x_pass, x_brk, x_cnt, asg_nm, asg_tup, asg_cons, asg_nil, List.getElem?_cons_zero, List.getElem?_cons_succ, List.set_cons_zero, List.set_cons_succ, List.length_cons, List.length_nil, List.map_cons, List.map_nil, List.replicate, List.cons_append, List.nil_append, Option.bind_some, Option.map_some, Option.map_none, Nat.reduceAdd, Nat.reduceSub, Nat.reduceLT, ↓reduceIte, wipeE, ite_self, Option.join_some, Bool.not_true, Bool.not_false, Bool.false_eq_true, and_self, and_true, true_and, isNon, partD, okO_some, okO_none, ok_srcT, ok_srcL, ok_enmT, ok_enmL, seq_ref, lst_ref, b_lenT, b_lenL, b_lenR, b_listT, b_listL, b_listR, b_tupT, b_tupR, b_all, b_any, b_int, b_min, b_max, b_repr, b_ssetR, b_lsetT, b_sortR, b_rangeL1, x_ixT, x_ixR, x_ixL, x_set, m_append, m_extend, m_popAt, c_eq, c_ne, c_in, c_ni, c_lt, c_le, c_gt, c_ge, t_bl, t_ref, o_add, o_sub, o_mul, o_mod, o_div, o_pow, o_cat, n_new, i_tup, i_int, i_non, s_lT0, s_lL0, at_0, at_1, at_2]
  have hS : (s ++ [MO.lst (sm.map D.int)] ++ [MO.lst []] : MS) = s ++ [MO.lst (sm.map D.int), MO.lst []] := by rw [List.append_assoc]; rfl
  have hl2 : (s ++ [MO.lst (sm.map D.int)] : MS).length = s.length + 1 := by simp
  rw [hS, hl2, okS_cons]
  simp only [okR_some, okR_none, okS_nx, okS_rt, okS_bk, okS_ct, okR_ok, okR_ite, okS_ite, okS_nil, okR_and, okR_or, okR_chn, truth_bl, gc_app, gc_self, cmp_le, cmp_lt, e_var, e_cst, e_tup, e_lst, e_bin, e_neg, e_not, e_cmp, e_isN, e_ntN, e_ite, e_call, e_blt, e_isa, e_mth, e_ix, e_sl, e_lc, es_nil, es_cons, ts_nil', ts_one', lc_turn, it_seq, it_enm, it_zip, it_rng, rng_1, rng_2, okT_some, x_asg, x_par, x_sub, x_expr, x_ret, x_if, x_for, for_turn, x_while, wh_test, x_pass, x_brk, x_cnt, asg_nm, asg_tup, asg_cons, asg_nil, List.getElem?_cons_zero, List.getElem?_cons_succ, List.set_cons_zero, List.set_cons_succ, List.length_cons, List.length_nil, List.map_cons, List.map_nil, List.replicate, List.cons_append, List.nil_append, Option.bind_some, Option.map_some, Option.map_none, Nat.reduceAdd, Nat.reduceSub, Nat.reduceLT, ↓reduceIte, wipeE, ite_self, Option.join_some, Bool.not_true, Bool.not_false, Bool.false_eq_true, and_self, and_true, true_and, isNon, partD, okO_some, okO_none, ok_srcT, ok_srcL, ok_enmT, ok_enmL, seq_ref, lst_ref, b_lenT, b_lenL, b_lenR, b_listT, b_listL, b_listR, b_tupT, b_tupR, b_all, b_any, b_int, b_min, b_max, b_repr, b_ssetR, b_lsetT, b_sortR, b_rangeL1, x_ixT, x_ixR, x_ixL, x_set, m_append, m_extend, m_popAt, c_eq, c_ne, c_in, c_ni, c_lt, c_le, c_gt, c_ge, t_bl, t_ref, o_add, o_sub, o_mul, o_mod, o_div, o_pow, o_cat, n_new, i_tup, i_int, i_non, s_lT0, s_lL0, at_0, at_1, at_2]
  refine okR_mono (next_ok fuel k _ (kn := sm) getL_new hr) ?_
  rintro d S1 ⟨rfl, hd⟩
  rw [okS_cons]
  simp only [okR_some, okR_none, okS_nx, okS_rt, okS_bk, okS_ct, okR_ok, okR_ite, okS_ite, okS_nil, okR_and, okR_or, okR_chn, truth_bl, gc_app, gc_self, cmp_le, cmp_lt, e_var, e_cst, e_tup, e_lst, e_bin, e_neg, e_not, e_cmp, e_isN, e_ntN, e_ite, e_call, e_blt, e_isa, e_mth, e_ix, e_sl, e_lc, es_nil, es_cons, ts_nil', ts_one', lc_turn, it_seq, it_enm, it_zip, it_rng, rng_1, rng_2, okT_some, x_asg, x_par, x_sub, x_expr, x_ret, x_if, x_for, for_turn, x_while, wh_test, x_pass, x_brk, x_cnt, asg_nm, asg_tup, asg_cons, asg_nil, List.getElem?_cons_zero, List.getElem?_cons_succ, List.set_cons_zero, List.set_cons_succ, List.length_cons, List.length_nil, List.map_cons, List.map_nil, List.replicate, List.cons_append, List.nil_append, Option.bind_some, Option.map_some, Option.map_none, Nat.reduceAdd, Nat.reduceSub, Nat.reduceLT, ↓reduceIte, wipeE, ite_self, Option.join_some, Bool.not_true, Bool.not_false, Bool.false_eq_true, and_self, and_true, true_and, isNon, partD, okO_some, okO_none, ok_srcT, ok_srcL, ok_enmT, ok_enmL, seq_ref, lst_ref, b_lenT, b_lenL, b_lenR, b_listT, b_listL, b_listR, b_tupT, b_tupR, b_all, b_any, b_int, b_min, b_max, b_repr, b_ssetR, b_lsetT, b_sortR, b_rangeL1, x_ixT, x_ixR, x_ixL, x_set, m_append, m_extend, m_popAt, c_eq, c_ne, c_in, c_ni, c_lt, c_le, c_gt, c_ge, t_bl, t_ref, o_add, o_sub, o_mul, o_mod, o_div, o_pow, o_cat, n_new, i_tup, i_int, i_non, s_lT0, s_lL0, at_0, at_1, at_2]
  rw [lev_fuel]
  have e0 : knOf rs sm [] = sm := by unfold knOf; simp
  refine whGo_ok (fun m e t => ∃ (ch : List Nat) (num : D), e = [some (rsD rs), some (tI sm), some (.ref s.length), some (.ref (s.length + 1)), some num] ∧ t = s ++ [MO.lst ((knOf rs sm ch).map D.int), MO.lst ((chI ch).map D.int)] ∧ Valid rs sm ch ∧ ch.length + mu (knOf rs sm ch) ≤ 7 ∧ m = mu (knOf rs sm ch) ∧
    ((num = .non ∧ ∀ r ∈ rs, App r (knOf rs sm ch) = false) ∨ ∃ (j : Nat) (r : Rl), num = .int j ∧ rs[j]? = some r ∧ App r (knOf rs sm ch) = true)) ?_ fuel (mu sm) _ _ (by have := mu_le sm; omega) ⟨[], d, rfl, by rw [e0]; rfl, fun j n h => by simp at h, by rw [e0]; have := mu_le sm; simpa using this, by rw [e0], by rw [e0]; exact hd⟩
  rintro m e t ⟨ch, num, rfl, rfl, hv, hb, rfl, hn⟩
  rw [wh_test]
  rcases hn with ⟨rfl, hc⟩ | ⟨j, r, rfl, hj, hA⟩
  · simp only [okR_some, okR_none, okS_nx, okS_rt, okS_bk, okS_ct, okR_ok, okR_ite, okS_ite, okS_nil, okR_and, okR_or, okR_chn, truth_bl, gc_app, gc_self, cmp_le, cmp_lt, e_var, e_cst, e_tup, e_lst, e_bin, e_neg, e_not, e_cmp, e_isN, e_ntN, e_ite, e_call, e_blt, e_isa, e_mth, e_ix, e_sl, e_lc, es_nil, es_cons, ts_nil', ts_one', lc_turn, it_seq, it_enm, it_zip, it_rng, rng_1, rng_2, okT_some, x_asg, x_par, x_sub, x_expr, x_ret, x_if, x_for, for_turn, x_while, wh_test, x_pass, x_brk, x_cnt, asg_nm, asg_tup, asg_cons, asg_nil, List.getElem?_cons_zero, List.getElem?_cons_succ, List.set_cons_zero, List.set_cons_succ, List.length_cons, List.length_nil, List.map_cons, List.map_nil, List.replicate, List.cons_append, List.nil_append, Option.bind_some, Option.map_some, Option.map_none, Nat.reduceAdd, Nat.reduceSub, Nat.reduceLT, ↓reduceIte, wipeE, ite_self, Option.join_some, Bool.not_true, Bool.not_false, Bool.false_eq_true, and_self, and_true, true_and, isNon, partD, okO_some, okO_none, ok_srcT, ok_srcL, ok_enmT, ok_enmL, seq_ref, lst_ref, b_lenT, b_lenL, b_lenR, b_listT, b_listL, b_listR, b_tupT, b_tupR, b_all, b_any, b_int, b_min, b_max, b_repr, b_ssetR, b_lsetT, b_sortR, b_rangeL1, x_ixT, x_ixR, x_ixL, x_set, m_append, m_extend, m_popAt, c_eq, c_ne, c_in, c_ni, c_lt, c_le, c_gt, c_ge, t_bl, t_ref, o_add, o_sub, o_mul, o_mod, o_div, o_pow, o_cat, n_new, i_tup, i_int, i_non, s_lT0, s_lL0, at_0, at_1, at_2]
    rw [okS_cons]
    simp only [okR_some, okR_none, okS_nx, okS_rt, okS_bk, okS_ct, okR_ok, okR_ite, okS_ite, okS_nil, okR_and, okR_or, okR_chn, truth_bl, gc_app, gc_self, cmp_le, cmp_lt, e_var, e_cst, e_tup, e_lst, e_bin, e_neg, e_not, e_cmp, e_isN, e_ntN, e_ite, e_call, e_blt, e_isa, e_mth, e_ix, e_sl, e_lc, es_nil, es_cons, ts_nil', ts_one', lc_turn, it_seq, it_enm, it_zip, it_rng, rng_1, rng_2, okT_some, x_asg, x_par, x_sub, x_expr, x_ret, x_if, x_for, for_turn, x_while, wh_test, x_pass, x_brk, x_cnt, asg_nm, asg_tup, asg_cons, asg_nil, List.getElem?_cons_zero, List.getElem?_cons_succ, List.set_cons_zero, List.set_cons_succ, List.length_cons, List.length_nil, List.map_cons, List.map_nil, List.replicate, List.cons_append, List.nil_append, Option.bind_some, Option.map_some, Option.map_none, Nat.reduceAdd, Nat.reduceSub, Nat.reduceLT, ↓reduceIte, wipeE, ite_self, Option.join_some, Bool.not_true, Bool.not_false, Bool.false_eq_true, and_self, and_true, true_and, isNon, partD, okO_some, okO_none, ok_srcT, ok_srcL, ok_enmT, ok_enmL, seq_ref, lst_ref, b_lenT, b_lenL, b_lenR, b_listT, b_listL, b_listR, b_tupT, b_tupR, b_all, b_any, b_int, b_min, b_max, b_repr, b_ssetR, b_lsetT, b_sortR, b_rangeL1, x_ixT, x_ixR, x_ixL, x_set, m_append, m_extend, m_popAt, c_eq, c_ne, c_in, c_ni, c_lt, c_le, c_gt, c_ge, t_bl, t_ref, o_add, o_sub, o_mul, o_mod, o_div, o_pow, o_cat, n_new, i_tup, i_int, i_non, s_lT0, s_lL0, at_0, at_1, at_2]
    refine gc_end ⟨ch, _, rfl, rfl, getL_new2, hv, hc, by omega⟩ (fun _ hc => absurd hc (by simp [cleanD])) (lev_same _ _ _)
  · have hm : r ∈ rs := List.mem_of_getElem? hj
    have hy : yOf rs j = r.y := by unfold yOf; rw [hj]; rfl
    have hlt : mu (knOf rs sm (ch ++ [j])) < mu (knOf rs sm ch) := by
      rw [knOf_snoc, hy]
      exact mu_lt (hr.m r hm).y (app_y hA) (List.mem_append_right _ (List.mem_singleton.mpr rfl)) fun x hx => List.mem_append_left _ hx
    simp only [okR_some, okR_none, okS_nx, okS_rt, okS_bk, okS_ct, okR_ok, okR_ite, okS_ite, okS_nil, okR_and, okR_or, okR_chn, truth_bl, gc_app, gc_self, cmp_le, cmp_lt, e_var, e_cst, e_tup, e_lst, e_bin, e_neg, e_not, e_cmp, e_isN, e_ntN, e_ite, e_call, e_blt, e_isa, e_mth, e_ix, e_sl, e_lc, es_nil, es_cons, ts_nil', ts_one', lc_turn, it_seq, it_enm, it_zip, it_rng, rng_1, rng_2, okT_some, x_asg, x_par, x_sub, x_expr, x_ret, x_if, x_for, for_turn, x_while, wh_test, x_pass, x_brk, x_cnt, asg_nm, asg_tup, asg_cons, asg_nil, List.getElem?_cons_zero, List.getElem?_cons_succ, List.set_cons_zero, List.set_cons_succ, List.length_cons, List.length_nil, List.map_cons, List.map_nil, List.replicate, List.cons_append, List.nil_append, Option.bind_some, Option.map_some, Option.map_none, Nat.reduceAdd, Nat.reduceSub, Nat.reduceLT, ↓reduceIte, wipeE, ite_self, Option.join_some, Bool.not_true, Bool.not_false, Bool.false_eq_true, and_self, and_true, true_and, isNon, partD, okO_some, okO_none, ok_srcT, ok_srcL, ok_enmT, ok_enmL, seq_ref, lst_ref, b_lenT, b_lenL, b_lenR, b_listT, b_listL, b_listR, b_tupT, b_tupR, b_all, b_any, b_int, b_min, b_max, b_repr, b_ssetR, b_lsetT, b_sortR, b_rangeL1, x_ixT, x_ixR, x_ixL, x_set, m_append, m_extend, m_popAt, c_eq, c_ne, c_in, c_ni, c_lt, c_le, c_gt, c_ge, t_bl, t_ref, o_add, o_sub, o_mul, o_mod, o_div, o_pow, o_cat, n_new, i_tup, i_int, i_non, s_lT0, s_lL0, at_0, at_1, at_2]
    refine ⟨mu (knOf rs sm (ch ++ [j])), hlt, ?_⟩
    rw [okS_cons]
    simp only [okR_some, okR_none, okS_nx, okS_rt, okS_bk, okS_ct, okR_ok, okR_ite, okS_ite, okS_nil, okR_and, okR_or, okR_chn, truth_bl, gc_app, gc_self, cmp_le, cmp_lt, e_var, e_cst, e_tup, e_lst, e_bin, e_neg, e_not, e_cmp, e_isN, e_ntN, e_ite, e_call, e_blt, e_isa, e_mth, e_ix, e_sl, e_lc, es_nil, es_cons, ts_nil', ts_one', lc_turn, it_seq, it_enm, it_zip, it_rng, rng_1, rng_2, okT_some, x_asg, x_par, x_sub, x_expr, x_ret, x_if, x_for, for_turn, x_while, wh_test, x_pass, x_brk, x_cnt, asg_nm, asg_tup, asg_cons, asg_nil, List.getElem?_cons_zero, List.getElem?_cons_succ, List.set_cons_zero, List.set_cons_succ, List.length_cons, List.length_nil, List.map_cons, List.map_nil, List.replicate, List.cons_append, List.nil_append, Option.bind_some, Option.map_some, Option.map_none, Nat.reduceAdd, Nat.reduceSub, Nat.reduceLT, ↓reduceIte, wipeE, ite_self, Option.join_some, Bool.not_true, Bool.not_false, Bool.false_eq_true, and_self, and_true, true_and, isNon, partD, okO_some, okO_none, ok_srcT, ok_srcL, ok_enmT, ok_enmL, seq_ref, lst_ref, b_lenT, b_lenL, b_lenR, b_listT, b_listL, b_listR, b_tupT, b_tupR, b_all, b_any, b_int, b_min, b_max, b_repr, b_ssetR, b_lsetT, b_sortR, b_rangeL1, x_ixT, x_ixR, x_ixL, x_set, m_append, m_extend, m_popAt, c_eq, c_ne, c_in, c_ni, c_lt, c_le, c_gt, c_ge, t_bl, t_ref, o_add, o_sub, o_mul, o_mod, o_div, o_pow, o_cat, n_new, i_tup, i_int, i_non, s_lT0, s_lL0, at_0, at_1, at_2, atI_get hj]
    rw [getL_new]
    simp only [okR_some, okR_none, okS_nx, okS_rt, okS_bk, okS_ct, okR_ok, okR_ite, okS_ite, okS_nil, okR_and, okR_or, okR_chn, truth_bl, gc_app, gc_self, cmp_le, cmp_lt, e_var, e_cst, e_tup, e_lst, e_bin, e_neg, e_not, e_cmp, e_isN, e_ntN, e_ite, e_call, e_blt, e_isa, e_mth, e_ix, e_sl, e_lc, es_nil, es_cons, ts_nil', ts_one', lc_turn, it_seq, it_enm, it_zip, it_rng, rng_1, rng_2, okT_some, x_asg, x_par, x_sub, x_expr, x_ret, x_if, x_for, for_turn, x_while, wh_test, x_pass, x_brk, x_cnt, asg_nm, asg_tup, asg_cons, asg_nil, List.getElem?_cons_zero, List.getElem?_cons_succ, List.set_cons_zero, List.set_cons_succ, List.length_cons, List.length_nil, List.map_cons, List.map_nil, List.replicate, List.cons_append, List.nil_append, Option.bind_some, Option.map_some, Option.map_none, Nat.reduceAdd, Nat.reduceSub, Nat.reduceLT, ↓reduceIte, wipeE, ite_self, Option.join_some, Bool.not_true, Bool.not_false, Bool.false_eq_true, and_self, and_true, true_and, isNon, partD, okO_some, okO_none, ok_srcT, ok_srcL, ok_enmT, ok_enmL, seq_ref, lst_ref, b_lenT, b_lenL, b_lenR, b_listT, b_listL, b_listR, b_tupT, b_tupR, b_all, b_any, b_int, b_min, b_max, b_repr, b_ssetR, b_lsetT, b_sortR, b_rangeL1, x_ixT, x_ixR, x_ixL, x_set, m_append, m_extend, m_popAt, c_eq, c_ne, c_in, c_ni, c_lt, c_le, c_gt, c_ge, t_bl, t_ref, o_add, o_sub, o_mul, o_mod, o_div, o_pow, o_cat, n_new, i_tup, i_int, i_non, s_lT0, s_lL0, at_0, at_1, at_2]
    rw [if_pos (by rw [List.length_map]; unfold knOf; rw [List.length_append, List.length_map]; omega), set_new, okS_cons]
    simp only [okR_some, okR_none, okS_nx, okS_rt, okS_bk, okS_ct, okR_ok, okR_ite, okS_ite, okS_nil, okR_and, okR_or, okR_chn, truth_bl, gc_app, gc_self, cmp_le, cmp_lt, e_var, e_cst, e_tup, e_lst, e_bin, e_neg, e_not, e_cmp, e_isN, e_ntN, e_ite, e_call, e_blt, e_isa, e_mth, e_ix, e_sl, e_lc, es_nil, es_cons, ts_nil', ts_one', lc_turn, it_seq, it_enm, it_zip, it_rng, rng_1, rng_2, okT_some, x_asg, x_par, x_sub, x_expr, x_ret, x_if, x_for, for_turn, x_while, wh_test, x_pass, x_brk, x_cnt, asg_nm, asg_tup, asg_cons, asg_nil, List.getElem?_cons_zero, List.getElem?_cons_succ, List.set_cons_zero, List.set_cons_succ, List.length_cons, List.length_nil, List.map_cons, List.map_nil, List.replicate, List.cons_append, List.nil_append, Option.bind_some, Option.map_some, Option.map_none, Nat.reduceAdd, Nat.reduceSub, Nat.reduceLT, ↓reduceIte, wipeE, ite_self, Option.join_some, Bool.not_true, Bool.not_false, Bool.false_eq_true, and_self, and_true, true_and, isNon, partD, okO_some, okO_none, ok_srcT, ok_srcL, ok_enmT, ok_enmL, seq_ref, lst_ref, b_lenT, b_lenL, b_lenR, b_listT, b_listL, b_listR, b_tupT, b_tupR, b_all, b_any, b_int, b_min, b_max, b_repr, b_ssetR, b_lsetT, b_sortR, b_rangeL1, x_ixT, x_ixR, x_ixL, x_set, m_append, m_extend, m_popAt, c_eq, c_ne, c_in, c_ni, c_lt, c_le, c_gt, c_ge, t_bl, t_ref, o_add, o_sub, o_mul, o_mod, o_div, o_pow, o_cat, n_new, i_tup, i_int, i_non, s_lT0, s_lL0, at_0, at_1, at_2]
    rw [getL_new2]
    simp only [okR_some, okR_none, okS_nx, okS_rt, okS_bk, okS_ct, okR_ok, okR_ite, okS_ite, okS_nil, okR_and, okR_or, okR_chn, truth_bl, gc_app, gc_self, cmp_le, cmp_lt, e_var, e_cst, e_tup, e_lst, e_bin, e_neg, e_not, e_cmp, e_isN, e_ntN, e_ite, e_call, e_blt, e_isa, e_mth, e_ix, e_sl, e_lc, es_nil, es_cons, ts_nil', ts_one', lc_turn, it_seq, it_enm, it_zip, it_rng, rng_1, rng_2, okT_some, x_asg, x_par, x_sub, x_expr, x_ret, x_if, x_for, for_turn, x_while, wh_test, x_pass, x_brk, x_cnt, asg_nm, asg_tup, asg_cons, asg_nil, List.getElem?_cons_zero, List.getElem?_cons_succ, List.set_cons_zero, List.set_cons_succ, List.length_cons, List.length_nil, List.map_cons, List.map_nil, List.replicate, List.cons_append, List.nil_append, Option.bind_some, Option.map_some, Option.map_none, Nat.reduceAdd, Nat.reduceSub, Nat.reduceLT, ↓reduceIte, wipeE, ite_self, Option.join_some, Bool.not_true, Bool.not_false, Bool.false_eq_true, and_self, and_true, true_and, isNon, partD, okO_some, okO_none, ok_srcT, ok_srcL, ok_enmT, ok_enmL, seq_ref, lst_ref, b_lenT, b_lenL, b_lenR, b_listT, b_listL, b_listR, b_tupT, b_tupR, b_all, b_any, b_int, b_min, b_max, b_repr, b_ssetR, b_lsetT, b_sortR, b_rangeL1, x_ixT, x_ixR, x_ixL, x_set, m_append, m_extend, m_popAt, c_eq, c_ne, c_in, c_ni, c_lt, c_le, c_gt, c_ge, t_bl, t_ref, o_add, o_sub, o_mul, o_mod, o_div, o_pow, o_cat, n_new, i_tup, i_int, i_non, s_lT0, s_lL0, at_0, at_1, at_2]
    rw [if_pos (by rw [List.length_map, List.length_map]; omega), set_new2, okS_cons]
    simp only [okR_some, okR_none, okS_nx, okS_rt, okS_bk, okS_ct, okR_ok, okR_ite, okS_ite, okS_nil, okR_and, okR_or, okR_chn, truth_bl, gc_app, gc_self, cmp_le, cmp_lt, e_var, e_cst, e_tup, e_lst, e_bin, e_neg, e_not, e_cmp, e_isN, e_ntN, e_ite, e_call, e_blt, e_isa, e_mth, e_ix, e_sl, e_lc, es_nil, es_cons, ts_nil', ts_one', lc_turn, it_seq, it_enm, it_zip, it_rng, rng_1, rng_2, okT_some, x_asg, x_par, x_sub, x_expr, x_ret, x_if, x_for, for_turn, x_while, wh_test, x_pass, x_brk, x_cnt, asg_nm, asg_tup, asg_cons, asg_nil, List.getElem?_cons_zero, List.getElem?_cons_succ, List.set_cons_zero, List.set_cons_succ, List.length_cons, List.length_nil, List.map_cons, List.map_nil, List.replicate, List.cons_append, List.nil_append, Option.bind_some, Option.map_some, Option.map_none, Nat.reduceAdd, Nat.reduceSub, Nat.reduceLT, ↓reduceIte, wipeE, ite_self, Option.join_some, Bool.not_true, Bool.not_false, Bool.false_eq_true, and_self, and_true, true_and, isNon, partD, okO_some, okO_none, ok_srcT, ok_srcL, ok_enmT, ok_enmL, seq_ref, lst_ref, b_lenT, b_lenL, b_lenR, b_listT, b_listL, b_listR, b_tupT, b_tupR, b_all, b_any, b_int, b_min, b_max, b_repr, b_ssetR, b_lsetT, b_sortR, b_rangeL1, x_ixT, x_ixR, x_ixL, x_set, m_append, m_extend, m_popAt, c_eq, c_ne, c_in, c_ni, c_lt, c_le, c_gt, c_ge, t_bl, t_ref, o_add, o_sub, o_mul, o_mod, o_div, o_pow, o_cat, n_new, i_tup, i_int, i_non, s_lT0, s_lL0, at_0, at_1, at_2]
    have ek : (knOf rs sm ch).map D.int ++ [D.int r.y] = (knOf rs sm (ch ++ [j])).map D.int := by rw [knOf_snoc, hy, List.map_append]; rfl
    have ec : (chI ch).map D.int ++ [D.int (j : Int)] = (chI (ch ++ [j])).map D.int := by unfold chI; rw [List.map_append, List.map_append]; rfl
    rw [ek, ec]
    refine okR_mono (next_ok fuel k _ (kn := knOf rs sm (ch ++ [j])) getL_new hr) ?_
    rintro d S2 ⟨rfl, hd⟩
    exact ⟨ch ++ [j], d, rfl, rfl, valid_snoc hv hj hA, by rw [List.length_append, List.length_singleton]; omega, rfl, hd⟩
theorem valid_get {rs : List Rl} {sm : List Int} {ch : List Nat} (v : Valid rs sm ch) : ∀ n ∈ ch, ∃ r, rs[n]? = some r := fun n hn => by
  obtain ⟨j, hj⟩ := List.mem_iff_getElem?.mp hn
  obtain ⟨r, h, _⟩ := v j n hj
  exact ⟨r, h⟩
/-- [rules[number][2] for number in chain] -/
theorem ys_of {rs : List Rl} {sm : List Int} {ch : List Nat} (v : Valid rs sm ch) : ∀ x ∈ chI ch, ∃ r, L2.atI (rs.map rD) x = some (rD r) ∧ r.y = yOf rs x.toNat := fun x hx => by
  obtain ⟨n, hn, rfl⟩ := List.mem_map.mp hx
  obtain ⟨r, hr⟩ := valid_get v n hn
  exact ⟨r, atI_get hr, by unfold yOf; rw [Int.toNat_natCast, hr]; rfl⟩
theorem map_ys (rs : List Rl) (ch : List Nat) : (chI ch).filterMap (fun x => some (D.int (yOf rs x.toNat))) = (ch.map (yOf rs)).map D.int := by
  rw [filterMap_some, List.map_map, List.map_map]
  rfl
theorem reached_ok (fuel k : Nat) (s : MS) {sm : List Int} {rs : List Rl} {ch : List Nat} {a : Nat} (ha : getL s a = some ((chI ch).map D.int)) (v : Valid rs sm ch) (hl : ch.length ≤ 7) (hsm : sm.length ≤ 50) :
    okR ((L fuel (k + 1)).fn "reached_by" [rsD rs, tI sm, .ref a] s) (fun d s' => d = tI (srt (knOf rs sm ch)) ∧ s' = s) := by
  rw [fn_reached_by]
  refine okR_fnD ?_
  unfold c_reached_by
  rw [okS_cons]
  simp only [okR_some, okR_none, okS_nx, okS_rt, okS_bk, okS_ct, okR_ok, okR_ite, okS_ite, okS_nil, okR_and, okR_or, okR_chn, truth_bl, gc_app, gc_self, cmp_le, cmp_lt, e_var, e_cst, e_tup, e_lst, e_bin, e_neg, e_not, e_cmp, e_isN, e_ntN, e_ite, e_call, e_blt, e_isa, e_mth, e_ix, e_sl, e_lc, es_nil, es_cons, ts_nil', ts_one', lc_turn, it_seq, it_enm, it_zip, it_rng, rng_1, rng_2, okT_some, x_asg, x_par, x_sub, x_expr, x_ret, x_if, x_for, for_turn, x_while, wh_test, x_pass, x_brk, x_cnt, asg_nm, asg_tup, asg_cons, asg_nil, List.getElem?_cons_zero, List.getElem?_cons_succ, List.set_cons_zero, List.set_cons_succ, List.length_cons, List.length_nil, List.map_cons, List.map_nil, List.replicate, List.cons_append, List.nil_append, Option.bind_some, Option.map_some, Option.map_none, Nat.reduceAdd, Nat.reduceSub, Nat.reduceLT, ↓reduceIte, wipeE, ite_self, Option.join_some, Bool.not_true, Bool.not_false, Bool.false_eq_true, and_self, and_true, true_and, isNon, partD, okO_some, okO_none, ok_srcT, ok_srcL, ok_enmT, ok_enmL, seq_ref, lst_ref, b_lenT, b_lenL, b_lenR, b_listT, b_listL, b_listR, b_tupT, b_tupR, b_all, b_any, b_int, b_min, b_max, b_repr, b_ssetR, b_lsetT, b_sortR, b_rangeL1, x_ixT, x_ixR, x_ixL, x_set, m_append, m_extend, m_popAt, c_eq, c_ne, c_in, c_ni, c_lt, c_le, c_gt, c_ge, t_bl, t_ref, o_add, o_sub, o_mul, o_mod, o_div, o_pow, o_cat, n_new, i_tup, i_int, i_non, s_lT0, s_lL0, at_0, at_1, at_2]
  rw [getL_app ha]
  simp only [okR_some, okR_none, okS_nx, okS_rt, okS_bk, okS_ct, okR_ok, okR_ite, okS_ite, okS_nil, okR_and, okR_or, okR_chn, truth_bl, gc_app, gc_self, cmp_le, cmp_lt, e_var, e_cst, e_tup, e_lst, e_bin, e_neg, e_not, e_cmp, e_isN, e_ntN, e_ite, e_call, e_blt, e_isa, e_mth, e_ix, e_sl, e_lc, es_nil, es_cons, ts_nil', ts_one', lc_turn, it_seq, it_enm, it_zip, it_rng, rng_1, rng_2, okT_some, x_asg, x_par, x_sub, x_expr, x_ret, x_if, x_for, for_turn, x_while, wh_test, x_pass, x_brk, x_cnt, asg_nm, asg_tup, asg_cons, asg_nil, List.getElem?_cons_zero, List.getElem?_cons_succ, List.set_cons_zero, List.set_cons_succ, List.length_cons, List.length_nil, List.map_cons, List.map_nil, List.replicate, List.cons_append, List.nil_append, Option.bind_some, Option.map_some, Option.map_none, Nat.reduceAdd, Nat.reduceSub, Nat.reduceLT, ↓reduceIte, wipeE, ite_self, Option.join_some, Bool.not_true, Bool.not_false, Bool.false_eq_true, and_self, and_true, true_and, isNon, partD, okO_some, okO_none, ok_srcT, ok_srcL, ok_enmT, ok_enmL, seq_ref, lst_ref, b_lenT, b_lenL, b_lenR, b_listT, b_listL, b_listR, b_tupT, b_tupR, b_all, b_any, b_int, b_min, b_max, b_repr, b_ssetR, b_lsetT, b_sortR, b_rangeL1, x_ixT, x_ixR, x_ixL, x_set, m_append, m_extend, m_popAt, c_eq, c_ne, c_in, c_ni, c_lt, c_le, c_gt, c_ge, t_bl, t_ref, o_add, o_sub, o_mul, o_mod, o_div, o_pow, o_cat, n_new, i_tup, i_int, i_non, s_lT0, s_lL0, at_0, at_1, at_2]
  refine lc_L (fun x => some (.int (yOf rs x.toNat))) (getL_app ha) (by unfold chI; rw [List.length_map]; omega) (fun x hx => ?_) ?_
  · obtain ⟨r, h1, h2⟩ := ys_of v x hx
    simp only [okR_some, okR_none, okS_nx, okS_rt, okS_bk, okS_ct, okR_ok, okR_ite, okS_ite, okS_nil, okR_and, okR_or, okR_chn, truth_bl, gc_app, gc_self, cmp_le, cmp_lt, e_var, e_cst, e_tup, e_lst, e_bin, e_neg, e_not, e_cmp, e_isN, e_ntN, e_ite, e_call, e_blt, e_isa, e_mth, e_ix, e_sl, e_lc, es_nil, es_cons, ts_nil', ts_one', lc_turn, it_seq, it_enm, it_zip, it_rng, rng_1, rng_2, okT_some, x_asg, x_par, x_sub, x_expr, x_ret, x_if, x_for, for_turn, x_while, wh_test, x_pass, x_brk, x_cnt, asg_nm, asg_tup, asg_cons, asg_nil, List.getElem?_cons_zero, List.getElem?_cons_succ, List.set_cons_zero, List.set_cons_succ, List.length_cons, List.length_nil, List.map_cons, List.map_nil, List.replicate, List.cons_append, List.nil_append, Option.bind_some, Option.map_some, Option.map_none, Nat.reduceAdd, Nat.reduceSub, Nat.reduceLT, ↓reduceIte, wipeE, ite_self, Option.join_some, Bool.not_true, Bool.not_false, Bool.false_eq_true, and_self, and_true, true_and, isNon, partD, okO_some, okO_none, ok_srcT, ok_srcL, ok_enmT, ok_enmL, seq_ref, lst_ref, b_lenT, b_lenL, b_lenR, b_listT, b_listL, b_listR, b_tupT, b_tupR, b_all, b_any, b_int, b_min, b_max, b_repr, b_ssetR, b_lsetT, b_sortR, b_rangeL1, x_ixT, x_ixR, x_ixL, x_set, m_append, m_extend, m_popAt, c_eq, c_ne, c_in, c_ni, c_lt, c_le, c_gt, c_ge, t_bl, t_ref, o_add, o_sub, o_mul, o_mod, o_div, o_pow, o_cat, n_new, i_tup, i_int, i_non, s_lT0, s_lL0, at_0, at_1, at_2, h1]
    rw [h2]
  · rw [map_ys, getL_app getL_new]
    simp only [okR_some, okR_none, okS_nx, okS_rt, okS_bk, okS_ct, okR_ok, okR_ite, okS_ite, okS_nil, okR_and, okR_or, okR_chn, truth_bl, gc_app, gc_self, cmp_le, cmp_lt, e_var, e_cst, e_tup, e_lst, e_bin, e_neg, e_not, e_cmp, e_isN, e_ntN, e_ite, e_call, e_blt, e_isa, e_mth, e_ix, e_sl, e_lc, es_nil, es_cons, ts_nil', ts_one', lc_turn, it_seq, it_enm, it_zip, it_rng, rng_1, rng_2, okT_some, x_asg, x_par, x_sub, x_expr, x_ret, x_if, x_for, for_turn, x_while, wh_test, x_pass, x_brk, x_cnt, asg_nm, asg_tup, asg_cons, asg_nil, List.getElem?_cons_zero, List.getElem?_cons_succ, List.set_cons_zero, List.set_cons_succ, List.length_cons, List.length_nil, List.map_cons, List.map_nil, List.replicate, List.cons_append, List.nil_append, Option.bind_some, Option.map_some, Option.map_none, Nat.reduceAdd, Nat.reduceSub, Nat.reduceLT, ↓reduceIte, wipeE, ite_self, Option.join_some, Bool.not_true, Bool.not_false, Bool.false_eq_true, and_self, and_true, true_and, isNon, partD, okO_some, okO_none, ok_srcT, ok_srcL, ok_enmT, ok_enmL, seq_ref, lst_ref, b_lenT, b_lenL, b_lenR, b_listT, b_listL, b_listR, b_tupT, b_tupR, b_all, b_any, b_int, b_min, b_max, b_repr, b_ssetR, b_lsetT, b_sortR, b_rangeL1, x_ixT, x_ixR, x_ixL, x_set, m_append, m_extend, m_popAt, c_eq, c_ne, c_in, c_ni, c_lt, c_le, c_gt, c_ge, t_bl, t_ref, o_add, o_sub, o_mul, o_mod, o_div, o_pow, o_cat, n_new, i_tup, i_int, i_non, s_lT0, s_lL0, at_0, at_1, at_2]
    rw [show (s ++ [MO.lst (sm.map D.int)] : MS).length = s.length + 1 by simp]
    rw [show (s ++ [MO.lst (sm.map D.int)] ++ [MO.lst ((ch.map (yOf rs)).map D.int)] : MS) = s ++ [MO.lst (sm.map D.int), MO.lst ((ch.map (yOf rs)).map D.int)] by rw [List.append_assoc]; rfl, getL_new2]
    simp only [okR_some, okR_none, okS_nx, okS_rt, okS_bk, okS_ct, okR_ok, okR_ite, okS_ite, okS_nil, okR_and, okR_or, okR_chn, truth_bl, gc_app, gc_self, cmp_le, cmp_lt, e_var, e_cst, e_tup, e_lst, e_bin, e_neg, e_not, e_cmp, e_isN, e_ntN, e_ite, e_call, e_blt, e_isa, e_mth, e_ix, e_sl, e_lc, es_nil, es_cons, ts_nil', ts_one', lc_turn, it_seq, it_enm, it_zip, it_rng, rng_1, rng_2, okT_some, x_asg, x_par, x_sub, x_expr, x_ret, x_if, x_for, for_turn, x_while, wh_test, x_pass, x_brk, x_cnt, asg_nm, asg_tup, asg_cons, asg_nil, List.getElem?_cons_zero, List.getElem?_cons_succ, List.set_cons_zero, List.set_cons_succ, List.length_cons, List.length_nil, List.map_cons, List.map_nil, List.replicate, List.cons_append, List.nil_append, Option.bind_some, Option.map_some, Option.map_none, Nat.reduceAdd, Nat.reduceSub, Nat.reduceLT, ↓reduceIte, wipeE, ite_self, Option.join_some, Bool.not_true, Bool.not_false, Bool.false_eq_true, and_self, and_true, true_and, isNon, partD, okO_some, okO_none, ok_srcT, ok_srcL, ok_enmT, ok_enmL, seq_ref, lst_ref, b_lenT, b_lenL, b_lenR, b_listT, b_listL, b_listR, b_tupT, b_tupR, b_all, b_any, b_int, b_min, b_max, b_repr, b_ssetR, b_lsetT, b_sortR, b_rangeL1, x_ixT, x_ixR, x_ixL, x_set, m_append, m_extend, m_popAt, c_eq, c_ne, c_in, c_ni, c_lt, c_le, c_gt, c_ge, t_bl, t_ref, o_add, o_sub, o_mul, o_mod, o_div, o_pow, o_cat, n_new, i_tup, i_int, i_non, s_lT0, s_lL0, at_0, at_1, at_2]
    rw [if_pos (by rw [List.length_map, List.length_map, List.length_map]; omega), getL_new]
    simp only [okR_some, okR_none, okS_nx, okS_rt, okS_bk, okS_ct, okR_ok, okR_ite, okS_ite, okS_nil, okR_and, okR_or, okR_chn, truth_bl, gc_app, gc_self, cmp_le, cmp_lt, e_var, e_cst, e_tup, e_lst, e_bin, e_neg, e_not, e_cmp, e_isN, e_ntN, e_ite, e_call, e_blt, e_isa, e_mth, e_ix, e_sl, e_lc, es_nil, es_cons, ts_nil', ts_one', lc_turn, it_seq, it_enm, it_zip, it_rng, rng_1, rng_2, okT_some, x_asg, x_par, x_sub, x_expr, x_ret, x_if, x_for, for_turn, x_while, wh_test, x_pass, x_brk, x_cnt, asg_nm, asg_tup, asg_cons, asg_nil, List.getElem?_cons_zero, List.getElem?_cons_succ, List.set_cons_zero, List.set_cons_succ, List.length_cons, List.length_nil, List.map_cons, List.map_nil, List.replicate, List.cons_append, List.nil_append, Option.bind_some, Option.map_some, Option.map_none, Nat.reduceAdd, Nat.reduceSub, Nat.reduceLT, ↓reduceIte, wipeE, ite_self, Option.join_some, Bool.not_true, Bool.not_false, Bool.false_eq_true, and_self, and_true, true_and, isNon, partD, okO_some, okO_none, ok_srcT, ok_srcL, ok_enmT, ok_enmL, seq_ref, lst_ref, b_lenT, b_lenL, b_lenR, b_listT, b_listL, b_listR, b_tupT, b_tupR, b_all, b_any, b_int, b_min, b_max, b_repr, b_ssetR, b_lsetT, b_sortR, b_rangeL1, x_ixT, x_ixR, x_ixL, x_set, m_append, m_extend, m_popAt, c_eq, c_ne, c_in, c_ni, c_lt, c_le, c_gt, c_ge, t_bl, t_ref, o_add, o_sub, o_mul, o_mod, o_div, o_pow, o_cat, n_new, i_tup, i_int, i_non, s_lT0, s_lL0, at_0, at_1, at_2]
    rw [← List.map_append, ints_of]
    simp only [okR_some, okR_none, okS_nx, okS_rt, okS_bk, okS_ct, okR_ok, okR_ite, okS_ite, okS_nil, okR_and, okR_or, okR_chn, truth_bl, gc_app, gc_self, cmp_le, cmp_lt, e_var, e_cst, e_tup, e_lst, e_bin, e_neg, e_not, e_cmp, e_isN, e_ntN, e_ite, e_call, e_blt, e_isa, e_mth, e_ix, e_sl, e_lc, es_nil, es_cons, ts_nil', ts_one', lc_turn, it_seq, it_enm, it_zip, it_rng, rng_1, rng_2, okT_some, x_asg, x_par, x_sub, x_expr, x_ret, x_if, x_for, for_turn, x_while, wh_test, x_pass, x_brk, x_cnt, asg_nm, asg_tup, asg_cons, asg_nil, List.getElem?_cons_zero, List.getElem?_cons_succ, List.set_cons_zero, List.set_cons_succ, List.length_cons, List.length_nil, List.map_cons, List.map_nil, List.replicate, List.cons_append, List.nil_append, Option.bind_some, Option.map_some, Option.map_none, Nat.reduceAdd, Nat.reduceSub, Nat.reduceLT, ↓reduceIte, wipeE, ite_self, Option.join_some, Bool.not_true, Bool.not_false, Bool.false_eq_true, and_self, and_true, true_and, isNon, partD, okO_some, okO_none, ok_srcT, ok_srcL, ok_enmT, ok_enmL, seq_ref, lst_ref, b_lenT, b_lenL, b_lenR, b_listT, b_listL, b_listR, b_tupT, b_tupR, b_all, b_any, b_int, b_min, b_max, b_repr, b_ssetR, b_lsetT, b_sortR, b_rangeL1, x_ixT, x_ixR, x_ixL, x_set, m_append, m_extend, m_popAt, c_eq, c_ne, c_in, c_ni, c_lt, c_le, c_gt, c_ge, t_bl, t_ref, o_add, o_sub, o_mul, o_mod, o_div, o_pow, o_cat, n_new, i_tup, i_int, i_non, s_lT0, s_lL0, at_0, at_1, at_2]
    rw [if_pos (by rw [List.length_append, List.length_map]; omega), getL_new]
    simp only [okR_some, okR_none, okS_nx, okS_rt, okS_bk, okS_ct, okR_ok, okR_ite, okS_ite, okS_nil, okR_and, okR_or, okR_chn, truth_bl, gc_app, gc_self, cmp_le, cmp_lt, e_var, e_cst, e_tup, e_lst, e_bin, e_neg, e_not, e_cmp, e_isN, e_ntN, e_ite, e_call, e_blt, e_isa, e_mth, e_ix, e_sl, e_lc, es_nil, es_cons, ts_nil', ts_one', lc_turn, it_seq, it_enm, it_zip, it_rng, rng_1, rng_2, okT_some, x_asg, x_par, x_sub, x_expr, x_ret, x_if, x_for, for_turn, x_while, wh_test, x_pass, x_brk, x_cnt, asg_nm, asg_tup, asg_cons, asg_nil, List.getElem?_cons_zero, List.getElem?_cons_succ, List.set_cons_zero, List.set_cons_succ, List.length_cons, List.length_nil, List.map_cons, List.map_nil, List.replicate, List.cons_append, List.nil_append, Option.bind_some, Option.map_some, Option.map_none, Nat.reduceAdd, Nat.reduceSub, Nat.reduceLT, ↓reduceIte, wipeE, ite_self, Option.join_some, Bool.not_true, Bool.not_false, Bool.false_eq_true, and_self, and_true, true_and, isNon, partD, okO_some, okO_none, ok_srcT, ok_srcL, ok_enmT, ok_enmL, seq_ref, lst_ref, b_lenT, b_lenL, b_lenR, b_listT, b_listL, b_listR, b_tupT, b_tupR, b_all, b_any, b_int, b_min, b_max, b_repr, b_ssetR, b_lsetT, b_sortR, b_rangeL1, x_ixT, x_ixR, x_ixL, x_set, m_append, m_extend, m_popAt, c_eq, c_ne, c_in, c_ni, c_lt, c_le, c_gt, c_ge, t_bl, t_ref, o_add, o_sub, o_mul, o_mod, o_div, o_pow, o_cat, n_new, i_tup, i_int, i_non, s_lT0, s_lL0, at_0, at_1, at_2]
    rw [List.append_assoc, List.append_assoc]
    exact gc_pure (by show cleanD.cleanDs _ _ = true; exact clean_ints _ _) ⟨rfl, rfl⟩
theorem closure_ok (fuel k : Nat) (hf : 8 ≤ fuel) (s : MS) {sm : List Int} {rs : List Rl} {qd : D} (hr : RsOk rs) (hsm : sm.length ≤ 50) : okR ((L fuel (k + 4)).fn "closure_of" [qd, rsD rs, tI sm] s)
    (fun d s' => ∃ ch, d = tI (srt (knOf rs sm ch)) ∧ s' = s ∧ Valid rs sm ch ∧ Closed rs (knOf rs sm ch)) := by
  rw [fn_closure_of]
  refine okR_fnD ?_
  unfold c_closure_of
  rw [okS_cons]
  simp only [okR_some, okR_none, okS_nx, okS_rt, okS_bk, okS_ct, okR_ok, okR_ite, okS_ite, okS_nil, okR_and, okR_or, okR_chn, truth_bl, gc_app, gc_self, cmp_le, cmp_lt, e_var, e_cst, e_tup, e_lst, e_bin, e_neg, e_not, e_cmp, e_isN, e_ntN, e_ite, e_call, e_blt, e_isa, e_mth, e_ix, e_sl, e_lc, es_nil, es_cons, ts_nil', ts_one', lc_turn, it_seq, it_enm, it_zip, it_rng, rng_1, rng_2, okT_some, x_asg, x_par, x_sub, x_expr, x_ret, x_if, x_for, for_turn, x_while, wh_test, x_pass, x_brk, x_cnt, asg_nm, asg_tup, asg_cons, asg_nil, List.getElem?_cons_zero, List.getElem?_cons_succ, List.set_cons_zero, List.set_cons_succ, List.length_cons, List.length_nil, List.map_cons, List.map_nil, List.replicate, List.cons_append, List.nil_append, Option.bind_some, Option.map_some, Option.map_none, Nat.reduceAdd, Nat.reduceSub, Nat.reduceLT, ↓reduceIte, wipeE, ite_self, Option.join_some, Bool.not_true, Bool.not_false, Bool.false_eq_true, and_self, and_true, true_and, isNon, partD, okO_some, okO_none, ok_srcT, ok_srcL, ok_enmT, ok_enmL, seq_ref, lst_ref, b_lenT, b_lenL, b_lenR, b_listT, b_listL, b_listR, b_tupT, b_tupR, b_all, b_any, b_int, b_min, b_max, b_repr, b_ssetR, b_lsetT, b_sortR, b_rangeL1, x_ixT, x_ixR, x_ixL, x_set, m_append, m_extend, m_popAt, c_eq, c_ne, c_in, c_ni, c_lt, c_le, c_gt, c_ge, t_bl, t_ref, o_add, o_sub, o_mul, o_mod, o_div, o_pow, o_cat, n_new, i_tup, i_int, i_non, s_lT0, s_lL0, at_0, at_1, at_2]
  refine okR_mono (longest_ok fuel k hf s hr (by omega)) ?_
  rintro d S1 ⟨ch, t, rfl, rfl, g1, v, hc, hl⟩
  refine okR_mono (reached_ok fuel (k + 2) (s ++ t) g1 v hl hsm) ?_
  rintro d S2 ⟨rfl, rfl⟩
  exact gc_pure (by show cleanD.cleanDs _ _ = true; exact clean_ints _ _) ⟨ch, rfl, rfl, v, hc⟩
theorem chain_ok (fuel k : Nat) (hf : 8 ≤ fuel) (s : MS) {sm wt : List Int} {rs : List Rl} {qd : D} (hr : RsOk rs) (hsm : sm.length ≤ 50) (hw : wt.length ≤ 900) : okR ((L fuel (k + 4)).fn "chain_for" [qd, rsD rs, tI sm, tI wt] s)
    (fun d s' => ∃ ch, (d = if (wt.all fun x => decide (x ∈ srt (knOf rs sm ch))) then tI (chI ch) else .non) ∧ s' = s ∧ Valid rs sm ch ∧ Closed rs (knOf rs sm ch) ∧ ch.length ≤ 7) := by
  rw [fn_chain_for]
  refine okR_fnD ?_
  unfold c_chain_for
  rw [okS_cons]
  simp only [okR_some, okR_none, okS_nx, okS_rt, okS_bk, okS_ct, okR_ok, okR_ite, okS_ite, okS_nil, okR_and, okR_or, okR_chn, truth_bl, gc_app, gc_self, cmp_le, cmp_lt, e_var, e_cst, e_tup, e_lst, e_bin, e_neg, e_not, e_cmp, e_isN, e_ntN, e_ite, e_call, e_blt, e_isa, e_mth, e_ix, e_sl, e_lc, es_nil, es_cons, ts_nil', ts_one', lc_turn, it_seq, it_enm, it_zip, it_rng, rng_1, rng_2, okT_some, x_asg, x_par, x_sub, x_expr, x_ret, x_if, x_for, for_turn, x_while, wh_test, x_pass, x_brk, x_cnt, asg_nm, asg_tup, asg_cons, asg_nil, List.getElem?_cons_zero, List.getElem?_cons_succ, List.set_cons_zero, List.set_cons_succ, List.length_cons, List.length_nil, List.map_cons, List.map_nil, List.replicate, List.cons_append, List.nil_append, Option.bind_some, Option.map_some, Option.map_none, Nat.reduceAdd, Nat.reduceSub, Nat.reduceLT, ↓reduceIte, wipeE, ite_self, Option.join_some, Bool.not_true, Bool.not_false, Bool.false_eq_true, and_self, and_true, true_and, isNon, partD, okO_some, okO_none, ok_srcT, ok_srcL, ok_enmT, ok_enmL, seq_ref, lst_ref, b_lenT, b_lenL, b_lenR, b_listT, b_listL, b_listR, b_tupT, b_tupR, b_all, b_any, b_int, b_min, b_max, b_repr, b_ssetR, b_lsetT, b_sortR, b_rangeL1, x_ixT, x_ixR, x_ixL, x_set, m_append, m_extend, m_popAt, c_eq, c_ne, c_in, c_ni, c_lt, c_le, c_gt, c_ge, t_bl, t_ref, o_add, o_sub, o_mul, o_mod, o_div, o_pow, o_cat, n_new, i_tup, i_int, i_non, s_lT0, s_lL0, at_0, at_1, at_2]
  refine okR_mono (longest_ok fuel k hf s hr (by omega)) ?_
  rintro d S1 ⟨ch, t, rfl, rfl, g1, v, hc, hl⟩
  rw [okS_cons]
  simp only [okR_some, okR_none, okS_nx, okS_rt, okS_bk, okS_ct, okR_ok, okR_ite, okS_ite, okS_nil, okR_and, okR_or, okR_chn, truth_bl, gc_app, gc_self, cmp_le, cmp_lt, e_var, e_cst, e_tup, e_lst, e_bin, e_neg, e_not, e_cmp, e_isN, e_ntN, e_ite, e_call, e_blt, e_isa, e_mth, e_ix, e_sl, e_lc, es_nil, es_cons, ts_nil', ts_one', lc_turn, it_seq, it_enm, it_zip, it_rng, rng_1, rng_2, okT_some, x_asg, x_par, x_sub, x_expr, x_ret, x_if, x_for, for_turn, x_while, wh_test, x_pass, x_brk, x_cnt, asg_nm, asg_tup, asg_cons, asg_nil, List.getElem?_cons_zero, List.getElem?_cons_succ, List.set_cons_zero, List.set_cons_succ, List.length_cons, List.length_nil, List.map_cons, List.map_nil, List.replicate, List.cons_append, List.nil_append, Option.bind_some, Option.map_some, Option.map_none, Nat.reduceAdd, Nat.reduceSub, Nat.reduceLT, ↓reduceIte, wipeE, ite_self, Option.join_some, Bool.not_true, Bool.not_false, Bool.false_eq_true, and_self, and_true, true_and, isNon, partD, okO_some, okO_none, ok_srcT, ok_srcL, ok_enmT, ok_enmL, seq_ref, lst_ref, b_lenT, b_lenL, b_lenR, b_listT, b_listL, b_listR, b_tupT, b_tupR, b_all, b_any, b_int, b_min, b_max, b_repr, b_ssetR, b_lsetT, b_sortR, b_rangeL1, x_ixT, x_ixR, x_ixL, x_set, m_append, m_extend, m_popAt, c_eq, c_ne, c_in, c_ni, c_lt, c_le, c_gt, c_ge, t_bl, t_ref, o_add, o_sub, o_mul, o_mod, o_div, o_pow, o_cat, n_new, i_tup, i_int, i_non, s_lT0, s_lL0, at_0, at_1, at_2]
  refine okR_mono (reached_ok fuel (k + 2) (s ++ t) g1 v hl hsm) ?_
  rintro d S2 ⟨rfl, rfl⟩
  rw [okS_cons]
  simp only [okR_some, okR_none, okS_nx, okS_rt, okS_bk, okS_ct, okR_ok, okR_ite, okS_ite, okS_nil, okR_and, okR_or, okR_chn, truth_bl, gc_app, gc_self, cmp_le, cmp_lt, e_var, e_cst, e_tup, e_lst, e_bin, e_neg, e_not, e_cmp, e_isN, e_ntN, e_ite, e_call, e_blt, e_isa, e_mth, e_ix, e_sl, e_lc, es_nil, es_cons, ts_nil', ts_one', lc_turn, it_seq, it_enm, it_zip, it_rng, rng_1, rng_2, okT_some, x_asg, x_par, x_sub, x_expr, x_ret, x_if, x_for, for_turn, x_while, wh_test, x_pass, x_brk, x_cnt, asg_nm, asg_tup, asg_cons, asg_nil, List.getElem?_cons_zero, List.getElem?_cons_succ, List.set_cons_zero, List.set_cons_succ, List.length_cons, List.length_nil, List.map_cons, List.map_nil, List.replicate, List.cons_append, List.nil_append, Option.bind_some, Option.map_some, Option.map_none, Nat.reduceAdd, Nat.reduceSub, Nat.reduceLT, ↓reduceIte, wipeE, ite_self, Option.join_some, Bool.not_true, Bool.not_false, Bool.false_eq_true, and_self, and_true, true_and, isNon, partD, okO_some, okO_none, ok_srcT, ok_srcL, ok_enmT, ok_enmL, seq_ref, lst_ref, b_lenT, b_lenL, b_lenR, b_listT, b_listL, b_listR, b_tupT, b_tupR, b_all, b_any, b_int, b_min, b_max, b_repr, b_ssetR, b_lsetT, b_sortR, b_rangeL1, x_ixT, x_ixR, x_ixL, x_set, m_append, m_extend, m_popAt, c_eq, c_ne, c_in, c_ni, c_lt, c_le, c_gt, c_ge, t_bl, t_ref, o_add, o_sub, o_mul, o_mod, o_div, o_pow, o_cat, n_new, i_tup, i_int, i_non, s_lT0, s_lL0, at_0, at_1, at_2]
  refine lc_T (fun x => some (.bl (decide (x ∈ srt (knOf rs sm ch))))) (by omega) (fun x hx => ?_) ?_
  · simp only [okR_some, okR_none, okS_nx, okS_rt, okS_bk, okS_ct, okR_ok, okR_ite, okS_ite, okS_nil, okR_and, okR_or, okR_chn, truth_bl, gc_app, gc_self, cmp_le, cmp_lt, e_var, e_cst, e_tup, e_lst, e_bin, e_neg, e_not, e_cmp, e_isN, e_ntN, e_ite, e_call, e_blt, e_isa, e_mth, e_ix, e_sl, e_lc, es_nil, es_cons, ts_nil', ts_one', lc_turn, it_seq, it_enm, it_zip, it_rng, rng_1, rng_2, okT_some, x_asg, x_par, x_sub, x_expr, x_ret, x_if, x_for, for_turn, x_while, wh_test, x_pass, x_brk, x_cnt, asg_nm, asg_tup, asg_cons, asg_nil, List.getElem?_cons_zero, List.getElem?_cons_succ, List.set_cons_zero, List.set_cons_succ, List.length_cons, List.length_nil, List.map_cons, List.map_nil, List.replicate, List.cons_append, List.nil_append, Option.bind_some, Option.map_some, Option.map_none, Nat.reduceAdd, Nat.reduceSub, Nat.reduceLT, ↓reduceIte, wipeE, ite_self, Option.join_some, Bool.not_true, Bool.not_false, Bool.false_eq_true, and_self, and_true, true_and, isNon, partD, okO_some, okO_none, ok_srcT, ok_srcL, ok_enmT, ok_enmL, seq_ref, lst_ref, b_lenT, b_lenL, b_lenR, b_listT, b_listL, b_listR, b_tupT, b_tupR, b_all, b_any, b_int, b_min, b_max, b_repr, b_ssetR, b_lsetT, b_sortR, b_rangeL1, x_ixT, x_ixR, x_ixL, x_set, m_append, m_extend, m_popAt, c_eq, c_ne, c_in, c_ni, c_lt, c_le, c_gt, c_ge, t_bl, t_ref, o_add, o_sub, o_mul, o_mod, o_div, o_pow, o_cat, n_new, i_tup, i_int, i_non, s_lT0, s_lL0, at_0, at_1, at_2]
    rw [in_T]
    simp only [okR_some, okR_none, okS_nx, okS_rt, okS_bk, okS_ct, okR_ok, okR_ite, okS_ite, okS_nil, okR_and, okR_or, okR_chn, truth_bl, gc_app, gc_self, cmp_le, cmp_lt, e_var, e_cst, e_tup, e_lst, e_bin, e_neg, e_not, e_cmp, e_isN, e_ntN, e_ite, e_call, e_blt, e_isa, e_mth, e_ix, e_sl, e_lc, es_nil, es_cons, ts_nil', ts_one', lc_turn, it_seq, it_enm, it_zip, it_rng, rng_1, rng_2, okT_some, x_asg, x_par, x_sub, x_expr, x_ret, x_if, x_for, for_turn, x_while, wh_test, x_pass, x_brk, x_cnt, asg_nm, asg_tup, asg_cons, asg_nil, List.getElem?_cons_zero, List.getElem?_cons_succ, List.set_cons_zero, List.set_cons_succ, List.length_cons, List.length_nil, List.map_cons, List.map_nil, List.replicate, List.cons_append, List.nil_append, Option.bind_some, Option.map_some, Option.map_none, Nat.reduceAdd, Nat.reduceSub, Nat.reduceLT, ↓reduceIte, wipeE, ite_self, Option.join_some, Bool.not_true, Bool.not_false, Bool.false_eq_true, and_self, and_true, true_and, isNon, partD, okO_some, okO_none, ok_srcT, ok_srcL, ok_enmT, ok_enmL, seq_ref, lst_ref, b_lenT, b_lenL, b_lenR, b_listT, b_listL, b_listR, b_tupT, b_tupR, b_all, b_any, b_int, b_min, b_max, b_repr, b_ssetR, b_lsetT, b_sortR, b_rangeL1, x_ixT, x_ixR, x_ixL, x_set, m_append, m_extend, m_popAt, c_eq, c_ne, c_in, c_ni, c_lt, c_le, c_gt, c_ge, t_bl, t_ref, o_add, o_sub, o_mul, o_mod, o_div, o_pow, o_cat, n_new, i_tup, i_int, i_non, s_lT0, s_lL0, at_0, at_1, at_2]
  · rw [getL_new, filterMap_some]
    simp only [okR_some, okR_none, okS_nx, okS_rt, okS_bk, okS_ct, okR_ok, okR_ite, okS_ite, okS_nil, okR_and, okR_or, okR_chn, truth_bl, gc_app, gc_self, cmp_le, cmp_lt, e_var, e_cst, e_tup, e_lst, e_bin, e_neg, e_not, e_cmp, e_isN, e_ntN, e_ite, e_call, e_blt, e_isa, e_mth, e_ix, e_sl, e_lc, es_nil, es_cons, ts_nil', ts_one', lc_turn, it_seq, it_enm, it_zip, it_rng, rng_1, rng_2, okT_some, x_asg, x_par, x_sub, x_expr, x_ret, x_if, x_for, for_turn, x_while, wh_test, x_pass, x_brk, x_cnt, asg_nm, asg_tup, asg_cons, asg_nil, List.getElem?_cons_zero, List.getElem?_cons_succ, List.set_cons_zero, List.set_cons_succ, List.length_cons, List.length_nil, List.map_cons, List.map_nil, List.replicate, List.cons_append, List.nil_append, Option.bind_some, Option.map_some, Option.map_none, Nat.reduceAdd, Nat.reduceSub, Nat.reduceLT, ↓reduceIte, wipeE, ite_self, Option.join_some, Bool.not_true, Bool.not_false, Bool.false_eq_true, and_self, and_true, true_and, isNon, partD, okO_some, okO_none, ok_srcT, ok_srcL, ok_enmT, ok_enmL, seq_ref, lst_ref, b_lenT, b_lenL, b_lenR, b_listT, b_listL, b_listR, b_tupT, b_tupR, b_all, b_any, b_int, b_min, b_max, b_repr, b_ssetR, b_lsetT, b_sortR, b_rangeL1, x_ixT, x_ixR, x_ixL, x_set, m_append, m_extend, m_popAt, c_eq, c_ne, c_in, c_ni, c_lt, c_le, c_gt, c_ge, t_bl, t_ref, o_add, o_sub, o_mul, o_mod, o_div, o_pow, o_cat, n_new, i_tup, i_int, i_non, s_lT0, s_lL0, at_0, at_1, at_2]
    rw [show wt.map (fun x => D.bl (decide (x ∈ srt (knOf rs sm ch)))) = (wt.map fun x => decide (x ∈ srt (knOf rs sm ch))).map D.bl by rw [List.map_map]; rfl, bools_of]
    simp only [okR_some, okR_none, okS_nx, okS_rt, okS_bk, okS_ct, okR_ok, okR_ite, okS_ite, okS_nil, okR_and, okR_or, okR_chn, truth_bl, gc_app, gc_self, cmp_le, cmp_lt, e_var, e_cst, e_tup, e_lst, e_bin, e_neg, e_not, e_cmp, e_isN, e_ntN, e_ite, e_call, e_blt, e_isa, e_mth, e_ix, e_sl, e_lc, es_nil, es_cons, ts_nil', ts_one', lc_turn, it_seq, it_enm, it_zip, it_rng, rng_1, rng_2, okT_some, x_asg, x_par, x_sub, x_expr, x_ret, x_if, x_for, for_turn, x_while, wh_test, x_pass, x_brk, x_cnt, asg_nm, asg_tup, asg_cons, asg_nil, List.getElem?_cons_zero, List.getElem?_cons_succ, List.set_cons_zero, List.set_cons_succ, List.length_cons, List.length_nil, List.map_cons, List.map_nil, List.replicate, List.cons_append, List.nil_append, Option.bind_some, Option.map_some, Option.map_none, Nat.reduceAdd, Nat.reduceSub, Nat.reduceLT, ↓reduceIte, wipeE, ite_self, Option.join_some, Bool.not_true, Bool.not_false, Bool.false_eq_true, and_self, and_true, true_and, isNon, partD, okO_some, okO_none, ok_srcT, ok_srcL, ok_enmT, ok_enmL, seq_ref, lst_ref, b_lenT, b_lenL, b_lenR, b_listT, b_listL, b_listR, b_tupT, b_tupR, b_all, b_any, b_int, b_min, b_max, b_repr, b_ssetR, b_lsetT, b_sortR, b_rangeL1, x_ixT, x_ixR, x_ixL, x_set, m_append, m_extend, m_popAt, c_eq, c_ne, c_in, c_ni, c_lt, c_le, c_gt, c_ge, t_bl, t_ref, o_add, o_sub, o_mul, o_mod, o_div, o_pow, o_cat, n_new, i_tup, i_int, i_non, s_lT0, s_lL0, at_0, at_1, at_2]
    rw [List.all_map]
    split
    · rename_i hA
      have hA : (wt.all fun x => decide (x ∈ srt (knOf rs sm ch))) = true := hA
      simp only [okR_some, okR_none, okS_nx, okS_rt, okS_bk, okS_ct, okR_ok, okR_ite, okS_ite, okS_nil, okR_and, okR_or, okR_chn, truth_bl, gc_app, gc_self, cmp_le, cmp_lt, e_var, e_cst, e_tup, e_lst, e_bin, e_neg, e_not, e_cmp, e_isN, e_ntN, e_ite, e_call, e_blt, e_isa, e_mth, e_ix, e_sl, e_lc, es_nil, es_cons, ts_nil', ts_one', lc_turn, it_seq, it_enm, it_zip, it_rng, rng_1, rng_2, okT_some, x_asg, x_par, x_sub, x_expr, x_ret, x_if, x_for, for_turn, x_while, wh_test, x_pass, x_brk, x_cnt, asg_nm, asg_tup, asg_cons, asg_nil, List.getElem?_cons_zero, List.getElem?_cons_succ, List.set_cons_zero, List.set_cons_succ, List.length_cons, List.length_nil, List.map_cons, List.map_nil, List.replicate, List.cons_append, List.nil_append, Option.bind_some, Option.map_some, Option.map_none, Nat.reduceAdd, Nat.reduceSub, Nat.reduceLT, ↓reduceIte, wipeE, ite_self, Option.join_some, Bool.not_true, Bool.not_false, Bool.false_eq_true, and_self, and_true, true_and, isNon, partD, okO_some, okO_none, ok_srcT, ok_srcL, ok_enmT, ok_enmL, seq_ref, lst_ref, b_lenT, b_lenL, b_lenR, b_listT, b_listL, b_listR, b_tupT, b_tupR, b_all, b_any, b_int, b_min, b_max, b_repr, b_ssetR, b_lsetT, b_sortR, b_rangeL1, x_ixT, x_ixR, x_ixL, x_set, m_append, m_extend, m_popAt, c_eq, c_ne, c_in, c_ni, c_lt, c_le, c_gt, c_ge, t_bl, t_ref, o_add, o_sub, o_mul, o_mod, o_div, o_pow, o_cat, n_new, i_tup, i_int, i_non, s_lT0, s_lL0, at_0, at_1, at_2, g1]
      exact gc_pure (by show cleanD.cleanDs _ _ = true; exact clean_ints _ _) ⟨ch, by rw [if_pos hA], rfl, v, hc, hl⟩
    · rename_i hA
      have hA : ¬ (wt.all fun x => decide (x ∈ srt (knOf rs sm ch))) = true := hA
      exact gc_pure rfl ⟨ch, by rw [if_neg hA], rfl, v, hc, hl⟩
end K03

namespace K03
open PySem Mir
def stp (fd : List Int) (r : Rl) : List Int := if App r fd then fd ++ [r.y] else fd
def pas (rs : List Rl) (fd : List Int) : List Int := rs.foldl stp fd
def pasN (rs : List Rl) : Nat → List Int → List Int
  | 0, fd => fd
  | n + 1, fd => pasN rs n (pas rs fd)
theorem pasN_succ (rs : List Rl) : ∀ (n : Nat) (fd : List Int), pasN rs (n + 1) fd = pas rs (pasN rs n fd)
  | 0, _ => rfl
  | n + 1, fd => pasN_succ rs n (pas rs fd)
theorem stp_mu {fd : List Int} {r : Rl} (h : InR r.y) : (stp fd r).length + mu (stp fd r) ≤ fd.length + mu fd := by
  unfold stp
  split
  · rename_i hA
    have := mu_lt h (app_y hA) (List.mem_append_right fd (List.mem_singleton.mpr rfl)) fun x hx => List.mem_append_left _ hx
    rw [List.length_append, List.length_singleton]
    omega
  · exact Nat.le_refl _
theorem fold_mu : ∀ (rs : List Rl) (fd : List Int), (∀ r ∈ rs, InR r.y) → (rs.foldl stp fd).length + mu (rs.foldl stp fd) ≤ fd.length + mu fd
  | [], _, _ => Nat.le_refl _
  | r :: rs, fd, h => Nat.le_trans (fold_mu rs (stp fd r) fun z hz => h z (List.mem_cons_of_mem _ hz)) (stp_mu (h r List.mem_cons_self))
theorem pasN_mu (rs : List Rl) (h : ∀ r ∈ rs, InR r.y) : ∀ (n : Nat) (fd : List Int), (pasN rs n fd).length + mu (pasN rs n fd) ≤ fd.length + mu fd
  | 0, _ => Nat.le_refl _
  | n + 1, fd => Nat.le_trans (pasN_mu rs h n (pas rs fd)) (fold_mu rs fd h)
theorem stp_sub (fd : List Int) (r : Rl) : ∀ x ∈ fd, x ∈ stp fd r := fun x hx => by
  unfold stp
  split
  · exact List.mem_append_left _ hx
  · exact hx
theorem fold_sub : ∀ (rs : List Rl) (fd : List Int), ∀ x ∈ fd, x ∈ rs.foldl stp fd
  | [], _, _, h => h
  | r :: rs, fd, x, h => fold_sub rs (stp fd r) x (stp_sub fd r x h)
theorem pasN_sub (rs : List Rl) : ∀ (n : Nat) (fd : List Int), ∀ x ∈ fd, x ∈ pasN rs n fd
  | 0, _, _, h => h
  | n + 1, fd, x, h => pasN_sub rs n _ x (fold_sub rs fd x h)
theorem stp_len (fd : List Int) (r : Rl) : fd.length ≤ (stp fd r).length := by
  unfold stp
  split
  · rw [List.length_append]; omega
  · exact Nat.le_refl _
theorem fold_len : ∀ (rs : List Rl) (fd : List Int), fd.length ≤ (rs.foldl stp fd).length
  | [], _ => Nat.le_refl _
  | r :: rs, fd => Nat.le_trans (stp_len fd r) (fold_len rs _)
/-- a pass that adds nothing finds no rule to apply -/
theorem fold_fix : ∀ (rs : List Rl) (fd : List Int), (rs.foldl stp fd).length = fd.length → Closed rs fd ∧ rs.foldl stp fd = fd
  | [], _, _ => ⟨fun r hr => (List.not_mem_nil hr).elim, rfl⟩
  | r :: rs, fd, h => by
    have h : (rs.foldl stp (stp fd r)).length = fd.length := h
    have h1 := fold_len rs (stp fd r)
    cases hA : App r fd with
    | true =>
      have : stp fd r = fd ++ [r.y] := by unfold stp; rw [if_pos hA]
      rw [this] at h1 h
      rw [List.length_append, List.length_singleton] at h1
      omega
    | false =>
      have e : stp fd r = fd := by unfold stp; rw [if_neg (by rw [hA]; exact Bool.false_ne_true)]
      rw [e] at h
      obtain ⟨c1, c2⟩ := fold_fix rs fd h
      refine ⟨fun z hz => ?_, by show rs.foldl stp (stp fd r) = fd; rw [e]; exact c2⟩
      rcases List.mem_cons.mp hz with rfl | hz
      · exact hA
      · exact c1 z hz
theorem pasN_fix {rs : List Rl} {fd : List Int} (h : pas rs fd = fd) : ∀ n, pasN rs n fd = fd
  | 0 => rfl
  | n + 1 => by
    show pasN rs n (pas rs fd) = fd
    rw [h]
    exact pasN_fix h n
theorem mu_zero {fd : List Int} (h : mu fd = 0) {y : Int} (hy : InR y) : y ∈ fd := by
  obtain ⟨n, rfl⟩ := Int.eq_ofNat_of_zero_le hy.1
  have hn : n < 7 := by have := hy.2; omega
  unfold mu at h
  rw [List.length_eq_zero_iff, List.filter_eq_nil_iff] at h
  have := h n (List.mem_range.mpr hn)
  rw [decide_eq_true_eq, Classical.not_not] at this
  exact this
theorem pasN_closed {rs : List Rl} (h : ∀ r ∈ rs, InR r.y) : ∀ (n : Nat) (fd : List Int), mu fd ≤ n → Closed rs (pasN rs n fd)
  | 0, fd, hm => fun r hr => by
    unfold App
    rw [decide_eq_false (fun z => z (mu_zero (Nat.le_zero.mp hm) (h r hr))), Bool.and_false]
  | n + 1, fd, hm => by
    by_cases e : (rs.foldl stp fd).length = fd.length
    · obtain ⟨c1, c2⟩ := fold_fix rs fd e
      rw [pasN_fix (rs := rs) c2]
      exact c1
    · have h1 := fold_mu rs fd h
      have h2 := fold_len rs fd
      exact pasN_closed h n _ (by show mu (rs.foldl stp fd) ≤ n; omega)
/-- nothing beyond a closed list is found -/
theorem fold_in {kn : List Int} : ∀ (rs : List Rl) (fd : List Int), Closed rs kn → (∀ x ∈ fd, x ∈ kn) → ∀ x ∈ rs.foldl stp fd, x ∈ kn
  | [], _, _, h => h
  | r :: rs, fd, hc, h => fold_in rs (stp fd r) (fun z hz => hc z (List.mem_cons_of_mem _ hz)) fun x hx => by
    unfold stp at hx
    split at hx
    · rename_i hA
      rcases List.mem_append.mp hx with hx | hx
      · exact h x hx
      · have e : x = r.y := by simpa using hx
        have q := hc r List.mem_cons_self
        unfold App Sat at q
        rw [Bool.and_eq_false_iff] at q
        rcases q with q | q
        · have : (r.xs.all fun x => decide (x ∈ kn)) = true := List.all_eq_true.mpr fun z hz => decide_eq_true (h z (app_sat hA z hz))
          rw [this] at q
          cases q
        · rw [e]
          exact Classical.not_not.mp (of_decide_eq_false q)
    · exact h x hx
theorem pasN_in {kn : List Int} {rs : List Rl} (hc : Closed rs kn) : ∀ (n : Nat) (fd : List Int), (∀ x ∈ fd, x ∈ kn) → ∀ x ∈ pasN rs n fd, x ∈ kn
  | 0, _, h => h
  | n + 1, fd, h => pasN_in hc n _ (fold_in rs fd hc h)
/-- nothing of a chain is beyond a closed list -/
theorem valid_in {rs : List Rl} {sm kn : List Int} (hc : Closed rs kn) (h : ∀ x ∈ sm, x ∈ kn) : ∀ (ch : List Nat), Valid rs sm ch → ∀ x ∈ knOf rs sm ch, x ∈ kn := by
  intro ch v
  have key : ∀ j, j ≤ ch.length → ∀ x ∈ knOf rs sm (ch.take j), x ∈ kn := by
    intro j
    induction j with
    | zero => intro _ x hx; unfold knOf at hx; simp at hx; exact h x hx
    | succ j ih =>
      intro hj x hx
      have hlt : j < ch.length := hj
      rw [List.take_add_one, List.getElem?_eq_getElem hlt] at hx
      have hx : x ∈ knOf rs sm (ch.take j ++ [ch[j]]) := hx
      rw [knOf_snoc] at hx
      rcases List.mem_append.mp hx with hx | hx
      · exact ih (by omega) x hx
      · obtain ⟨r, hr, hA⟩ := v j ch[j] (List.getElem?_eq_getElem hlt)
        have e : x = r.y := by
          have : x = yOf rs ch[j] := by simpa using hx
          rw [this]; unfold yOf; rw [hr]; rfl
        have q := hc r (List.mem_of_getElem? hr)
        unfold App Sat at q
        rw [Bool.and_eq_false_iff] at q
        rcases q with q | q
        · have : (r.xs.all fun x => decide (x ∈ kn)) = true := List.all_eq_true.mpr fun z hz => decide_eq_true (ih (by omega) z (app_sat hA z hz))
          rw [this] at q
          cases q
        · rw [e]
          exact Classical.not_not.mp (of_decide_eq_false q)
  have := key ch.length (Nat.le_refl _)
  rwa [List.take_length] at this
/-- both find the same -/
theorem same_closure {rs : List Rl} {sm : List Int} {ch : List Nat} (hr : ∀ r ∈ rs, InR r.y) (v : Valid rs sm ch) (hc : Closed rs (knOf rs sm ch)) : srt (knOf rs sm ch) = srt (pasN rs 7 sm) :=
  asc_one (pw_srt _) (pw_srt _) fun k => by
    rw [mem_srt, mem_srt]
    exact ⟨valid_in (pasN_closed hr 7 sm (mu_le sm)) (pasN_sub rs 7 sm) ch v k, pasN_in hc 7 sm (fun x hx => by unfold knOf; exact List.mem_append_left _ hx) k⟩
theorem gc_if {tbl : Tbl} {fuel k : Nat} {s t : MS} : (if (lev tbl fuel k).same s (List.take s.length (s ++ t)) = true then s else s ++ t) = s := by
  rw [lev_sameC, same_take]; rfl
theorem filter_nil {r : Rl} {fd : List Int} : decide (r.xs.filter (fun x => !decide (x ∈ fd)) = []) = Sat r fd := by
  unfold Sat
  rw [Bool.eq_iff_iff, decide_eq_true_eq, List.filter_eq_nil_iff, List.all_eq_true]
  exact ⟨fun h x hx => by have := h x hx; simpa using this, fun h x hx => by have := h x hx; simpa using this⟩
theorem lclosure_ok (fuel k : Nat) (s : MS) {sm : List Int} {rs : List Rl} (hr : RsOk rs) (hsm : sm.length ≤ 50) : okR ((L fuel (k + 1)).fn "_law_closure" [rsD rs, tI sm] s)
    (fun d s' => ∃ (n : Nat) (t : MS), d = .ref n ∧ s.length ≤ n ∧ s' = s ++ t ∧ getL s' n = some ((srt (pasN rs 7 sm)).map D.int)) := by
  rw [fn__law_closure]
  refine okR_fnD ?_
  unfold c__law_closure
  have hy : ∀ r ∈ rs, InR r.y := fun r h => (hr.m r h).y
  rw [okS_cons]
  simp only [okR_some, okR_none, okS_nx, okS_rt, okS_bk, okS_ct, okR_ok, okR_ite, okS_ite, okS_nil, okR_and, okR_or, okR_chn, truth_bl, gc_app, gc_self, cmp_le, cmp_lt, e_var, e_cst, e_tup, e_lst, e_bin, e_neg, e_not, e_cmp, e_isN, e_ntN, e_ite, e_call, e_blt, e_isa, e_mth, e_ix, e_sl, e_lc, es_nil, es_cons, ts_nil', ts_one', lc_turn, it_seq, it_enm, it_zip, it_rng, rng_1, rng_2, okT_some, x_asg, x_par, x_sub, x_expr, x_ret, x_if, x_for, for_turn, x_while, wh_test, x_pass, x_brk, x_cnt, asg_nm, asg_tup, asg_cons, asg_nil, List.getElem?_cons_zero, List.getElem?_cons_succ, List.set_cons_zero, List.set_cons_succ, List.length_cons, List.length_nil, List.map_cons, List.map_nil, List.replicate, List.cons_append, List.nil_append, Option.bind_some, Option.map_some, Option.map_none, Nat.reduceAdd, Nat.reduceSub, Nat.reduceLT, ↓reduceIte, wipeE, ite_self, Option.join_some, Bool.not_true, Bool.not_false, Bool.false_eq_true, and_self, and_true, true_and, isNon, partD, okO_some, okO_none, ok_srcT, ok_srcL, ok_enmT, ok_enmL, seq_ref, lst_ref, b_lenT, b_lenL, b_lenR, b_listT, b_listL, b_listR, b_tupT, b_tupR, b_all, b_any, b_int, b_min, b_max, b_repr, b_ssetR, b_lsetT, b_sortR, b_rangeL1, x_ixT, x_ixR, x_ixL, x_set, m_append, m_extend, m_popAt, c_eq, c_ne, c_in, c_ni, c_lt, c_le, c_gt, c_ge, t_bl, t_ref, o_add, o_sub, o_mul, o_mod, o_div, o_pow, o_cat, n_new, i_tup, i_int, i_non, s_lT0, s_lL0, at_0, at_1, at_2]
  rw [okS_cons]
  simp only [okR_some, okR_none, okS_nx, okS_rt, okS_bk, okS_ct, okR_ok, okR_ite, okS_ite, okS_nil, okR_and, okR_or, okR_chn, truth_bl, gc_app, gc_self, cmp_le, cmp_lt, e_var, e_cst, e_tup, e_lst, e_bin, e_neg, e_not, e_cmp, e_isN, e_ntN, e_ite, e_call, e_blt, e_isa, e_mth, e_ix, e_sl, e_lc, es_nil, es_cons, ts_nil', ts_one', lc_turn, it_seq, it_enm, it_zip, it_rng, rng_1, rng_2, okT_some, x_asg, x_par, x_sub, x_expr, x_ret, x_if, x_for, for_turn, x_while, wh_test, x_pass, x_brk, x_cnt, asg_nm, asg_tup, asg_cons, asg_nil, List.getElem?_cons_zero, List.getElem?_cons_succ, List.set_cons_zero, List.set_cons_succ, List.length_cons, List.length_nil, List.map_cons, List.map_nil, List.replicate, List.cons_append, List.nil_append, Option.bind_some, Option.map_some, Option.map_none, Nat.reduceAdd, Nat.reduceSub, Nat.reduceLT, ↓reduceIte, wipeE, ite_self, Option.join_some, Bool.not_true, Bool.not_false, Bool.false_eq_true, and_self, and_true, true_and, isNon, partD, okO_some, okO_none, ok_srcT, ok_srcL, ok_enmT, ok_enmL, seq_ref, lst_ref, b_lenT, b_lenL, b_lenR, b_listT, b_listL, b_listR, b_tupT, b_tupR, b_all, b_any, b_int, b_min, b_max, b_repr, b_ssetR, b_lsetT, b_sortR, b_rangeL1, x_ixT, x_ixR, x_ixL, x_set, m_append, m_extend, m_popAt, c_eq, c_ne, c_in, c_ni, c_lt, c_le, c_gt, c_ge, t_bl, t_ref, o_add, o_sub, o_mul, o_mod, o_div, o_pow, o_cat, n_new, i_tup, i_int, i_non, s_lT0, s_lL0, at_0, at_1, at_2]
  rw [if_pos (by decide)]
  refine okS_for0 (fun j e t => (∃ a b c d f, e = [some (rsD rs), some (tI sm), some (.ref s.length), a, b, c, d, f]) ∧ t = s ++ [MO.lst ((pasN rs j sm).map D.int)]) ⟨⟨_, _, _, _, _, rfl⟩, rfl⟩ ?_ ?_
  · rintro j e t hj ⟨⟨a, b, c, d, f, rfl⟩, rfl⟩
    refine ⟨.int (0 + j), rfl, ?_⟩
    rw [for_turn]
    simp only [okR_some, okR_none, okS_nx, okS_rt, okS_bk, okS_ct, okR_ok, okR_ite, okS_ite, okS_nil, okR_and, okR_or, okR_chn, truth_bl, gc_app, gc_self, cmp_le, cmp_lt, e_var, e_cst, e_tup, e_lst, e_bin, e_neg, e_not, e_cmp, e_isN, e_ntN, e_ite, e_call, e_blt, e_isa, e_mth, e_ix, e_sl, e_lc, es_nil, es_cons, ts_nil', ts_one', lc_turn, it_seq, it_enm, it_zip, it_rng, rng_1, rng_2, okT_some, x_asg, x_par, x_sub, x_expr, x_ret, x_if, x_for, for_turn, x_while, wh_test, x_pass, x_brk, x_cnt, asg_nm, asg_tup, asg_cons, asg_nil, List.getElem?_cons_zero, List.getElem?_cons_succ, List.set_cons_zero, List.set_cons_succ, List.length_cons, List.length_nil, List.map_cons, List.map_nil, List.replicate, List.cons_append, List.nil_append, Option.bind_some, Option.map_some, Option.map_none, Nat.reduceAdd, Nat.reduceSub, Nat.reduceLT, ↓reduceIte, wipeE, ite_self, Option.join_some, Bool.not_true, Bool.not_false, Bool.false_eq_true, and_self, and_true, true_and, isNon, partD, okO_some, okO_none, ok_srcT, ok_srcL, ok_enmT, ok_enmL, seq_ref, lst_ref, b_lenT, b_lenL, b_lenR, b_listT, b_listL, b_listR, b_tupT, b_tupR, b_all, b_any, b_int, b_min, b_max, b_repr, b_ssetR, b_lsetT, b_sortR, b_rangeL1, x_ixT, x_ixR, x_ixL, x_set, m_append, m_extend, m_popAt, c_eq, c_ne, c_in, c_ni, c_lt, c_le, c_gt, c_ge, t_bl, t_ref, o_add, o_sub, o_mul, o_mod, o_div, o_pow, o_cat, n_new, i_tup, i_int, i_non, s_lT0, s_lL0, at_0, at_1, at_2]
    rw [okS_cons]
    simp only [okR_some, okR_none, okS_nx, okS_rt, okS_bk, okS_ct, okR_ok, okR_ite, okS_ite, okS_nil, okR_and, okR_or, okR_chn, truth_bl, gc_app, gc_self, cmp_le, cmp_lt, e_var, e_cst, e_tup, e_lst, e_bin, e_neg, e_not, e_cmp, e_isN, e_ntN, e_ite, e_call, e_blt, e_isa, e_mth, e_ix, e_sl, e_lc, es_nil, es_cons, ts_nil', ts_one', lc_turn, it_seq, it_enm, it_zip, it_rng, rng_1, rng_2, okT_some, x_asg, x_par, x_sub, x_expr, x_ret, x_if, x_for, for_turn, x_while, wh_test, x_pass, x_brk, x_cnt, asg_nm, asg_tup, asg_cons, asg_nil, List.getElem?_cons_zero, List.getElem?_cons_succ, List.set_cons_zero, List.set_cons_succ, List.length_cons, List.length_nil, List.map_cons, List.map_nil, List.replicate, List.cons_append, List.nil_append, Option.bind_some, Option.map_some, Option.map_none, Nat.reduceAdd, Nat.reduceSub, Nat.reduceLT, ↓reduceIte, wipeE, ite_self, Option.join_some, Bool.not_true, Bool.not_false, Bool.false_eq_true, and_self, and_true, true_and, isNon, partD, okO_some, okO_none, ok_srcT, ok_srcL, ok_enmT, ok_enmL, seq_ref, lst_ref, b_lenT, b_lenL, b_lenR, b_listT, b_listL, b_listR, b_tupT, b_tupR, b_all, b_any, b_int, b_min, b_max, b_repr, b_ssetR, b_lsetT, b_sortR, b_rangeL1, x_ixT, x_ixR, x_ixL, x_set, m_append, m_extend, m_popAt, c_eq, c_ne, c_in, c_ni, c_lt, c_le, c_gt, c_ge, t_bl, t_ref, o_add, o_sub, o_mul, o_mod, o_div, o_pow, o_cat, n_new, i_tup, i_int, i_non, s_lT0, s_lL0, at_0, at_1, at_2]
    generalize hfd : pasN rs j sm = fd
    have hlen : fd.length + mu fd ≤ 57 := by
      have h1 := pasN_mu rs hy j sm
      have h2 := mu_le sm
      rw [hfd] at h1
      omega
    refine okS_for0 (fun i e t => (∃ a b c d f, e = [some (rsD rs), some (tI sm), some (.ref s.length), a, b, c, d, f]) ∧ t = s ++ [MO.lst (((rs.take i).foldl stp fd).map D.int)]) ⟨⟨_, _, _, _, _, rfl⟩, rfl⟩ ?_ ?_
    · rintro i e t hi ⟨⟨a, b, c, d, f, rfl⟩, rfl⟩
      have hi' : i < rs.length := by
        have : i < (rs.map rD).length := hi
        rwa [List.length_map] at this
      refine ⟨rD rs[i], by show (rs.map rD)[i]? = _; rw [List.getElem?_map, List.getElem?_eq_getElem hi']; rfl, ?_⟩
      have hnext : (rs.take (i + 1)).foldl stp fd = stp ((rs.take i).foldl stp fd) rs[i] := by
        rw [List.take_add_one, List.getElem?_eq_getElem hi', List.foldl_append]
        rfl
      have hlen2 : ((rs.take i).foldl stp fd).length ≤ 57 := by
        have := fold_mu (rs.take i) fd fun r h => hy r (List.mem_of_mem_take h)
        omega
      rw [hnext]
      generalize (rs.take i).foldl stp fd = g at hlen2 ⊢
      rw [for_turn]
      simp only [okR_some, okR_none, okS_nx, okS_rt, okS_bk, okS_ct, okR_ok, okR_ite, okS_ite, okS_nil, okR_and, okR_or, okR_chn, truth_bl, gc_app, gc_self, cmp_le, cmp_lt, e_var, e_cst, e_tup, e_lst, e_bin, e_neg, e_not, e_cmp, e_isN, e_ntN, e_ite, e_call, e_blt, e_isa, e_mth, e_ix, e_sl, e_lc, es_nil, es_cons, ts_nil', ts_one', lc_turn, it_seq, it_enm, it_zip, it_rng, rng_1, rng_2, okT_some, x_asg, x_par, x_sub, x_expr, x_ret, x_if, x_for, for_turn, x_while, wh_test, x_pass, x_brk, x_cnt, asg_nm, asg_tup, asg_cons, asg_nil, List.getElem?_cons_zero, List.getElem?_cons_succ, List.set_cons_zero, List.set_cons_succ, List.length_cons, List.length_nil, List.map_cons, List.map_nil, List.replicate, List.cons_append, List.nil_append, Option.bind_some, Option.map_some, Option.map_none, Nat.reduceAdd, Nat.reduceSub, Nat.reduceLT, ↓reduceIte, wipeE, ite_self, Option.join_some, Bool.not_true, Bool.not_false, Bool.false_eq_true, and_self, and_true, true_and, isNon, partD, okO_some, okO_none, ok_srcT, ok_srcL, ok_enmT, ok_enmL, seq_ref, lst_ref, b_lenT, b_lenL, b_lenR, b_listT, b_listL, b_listR, b_tupT, b_tupR, b_all, b_any, b_int, b_min, b_max, b_repr, b_ssetR, b_lsetT, b_sortR, b_rangeL1, x_ixT, x_ixR, x_ixL, x_set, m_append, m_extend, m_popAt, c_eq, c_ne, c_in, c_ni, c_lt, c_le, c_gt, c_ge, t_bl, t_ref, o_add, o_sub, o_mul, o_mod, o_div, o_pow, o_cat, n_new, i_tup, i_int, i_non, s_lT0, s_lL0, at_0, at_1, at_2]
      rw [okS_cons]
      simp only [okR_some, okR_none, okS_nx, okS_rt, okS_bk, okS_ct, okR_ok, okR_ite, okS_ite, okS_nil, okR_and, okR_or, okR_chn, truth_bl, gc_app, gc_self, cmp_le, cmp_lt, e_var, e_cst, e_tup, e_lst, e_bin, e_neg, e_not, e_cmp, e_isN, e_ntN, e_ite, e_call, e_blt, e_isa, e_mth, e_ix, e_sl, e_lc, es_nil, es_cons, ts_nil', ts_one', lc_turn, it_seq, it_enm, it_zip, it_rng, rng_1, rng_2, okT_some, x_asg, x_par, x_sub, x_expr, x_ret, x_if, x_for, for_turn, x_while, wh_test, x_pass, x_brk, x_cnt, asg_nm, asg_tup, asg_cons, asg_nil, List.getElem?_cons_zero, List.getElem?_cons_succ, List.set_cons_zero, List.set_cons_succ, List.length_cons, List.length_nil, List.map_cons, List.map_nil, List.replicate, List.cons_append, List.nil_append, Option.bind_some, Option.map_some, Option.map_none, Nat.reduceAdd, Nat.reduceSub, Nat.reduceLT, ↓reduceIte, wipeE, ite_self, Option.join_some, Bool.not_true, Bool.not_false, Bool.false_eq_true, and_self, and_true, true_and, isNon, partD, okO_some, okO_none, ok_srcT, ok_srcL, ok_enmT, ok_enmL, seq_ref, lst_ref, b_lenT, b_lenL, b_lenR, b_listT, b_listL, b_listR, b_tupT, b_tupR, b_all, b_any, b_int, b_min, b_max, b_repr, b_ssetR, b_lsetT, b_sortR, b_rangeL1, x_ixT, x_ixR, x_ixL, x_set, m_append, m_extend, m_popAt, c_eq, c_ne, c_in, c_ni, c_lt, c_le, c_gt, c_ge, t_bl, t_ref, o_add, o_sub, o_mul, o_mod, o_div, o_pow, o_cat, n_new, i_tup, i_int, i_non, s_lT0, s_lL0, at_0, at_1, at_2]
      rw [in_R getL_new]
      simp only [okR_some, okR_none, okS_nx, okS_rt, okS_bk, okS_ct, okR_ok, okR_ite, okS_ite, okS_nil, okR_and, okR_or, okR_chn, truth_bl, gc_app, gc_self, cmp_le, cmp_lt, e_var, e_cst, e_tup, e_lst, e_bin, e_neg, e_not, e_cmp, e_isN, e_ntN, e_ite, e_call, e_blt, e_isa, e_mth, e_ix, e_sl, e_lc, es_nil, es_cons, ts_nil', ts_one', lc_turn, it_seq, it_enm, it_zip, it_rng, rng_1, rng_2, okT_some, x_asg, x_par, x_sub, x_expr, x_ret, x_if, x_for, for_turn, x_while, wh_test, x_pass, x_brk, x_cnt, asg_nm, asg_tup, asg_cons, asg_nil, List.getElem?_cons_zero, List.getElem?_cons_succ, List.set_cons_zero, List.set_cons_succ, List.length_cons, List.length_nil, List.map_cons, List.map_nil, List.replicate, List.cons_append, List.nil_append, Option.bind_some, Option.map_some, Option.map_none, Nat.reduceAdd, Nat.reduceSub, Nat.reduceLT, ↓reduceIte, wipeE, ite_self, Option.join_some, Bool.not_true, Bool.not_false, Bool.false_eq_true, and_self, and_true, true_and, isNon, partD, okO_some, okO_none, ok_srcT, ok_srcL, ok_enmT, ok_enmL, seq_ref, lst_ref, b_lenT, b_lenL, b_lenR, b_listT, b_listL, b_listR, b_tupT, b_tupR, b_all, b_any, b_int, b_min, b_max, b_repr, b_ssetR, b_lsetT, b_sortR, b_rangeL1, x_ixT, x_ixR, x_ixL, x_set, m_append, m_extend, m_popAt, c_eq, c_ne, c_in, c_ni, c_lt, c_le, c_gt, c_ge, t_bl, t_ref, o_add, o_sub, o_mul, o_mod, o_div, o_pow, o_cat, n_new, i_tup, i_int, i_non, s_lT0, s_lL0, at_0, at_1, at_2]
      by_cases hy2 : rs[i].y ∈ g
      · rw [decide_eq_true hy2]
        simp only [okR_some, okR_none, okS_nx, okS_rt, okS_bk, okS_ct, okR_ok, okR_ite, okS_ite, okS_nil, okR_and, okR_or, okR_chn, truth_bl, gc_app, gc_self, cmp_le, cmp_lt, e_var, e_cst, e_tup, e_lst, e_bin, e_neg, e_not, e_cmp, e_isN, e_ntN, e_ite, e_call, e_blt, e_isa, e_mth, e_ix, e_sl, e_lc, es_nil, es_cons, ts_nil', ts_one', lc_turn, it_seq, it_enm, it_zip, it_rng, rng_1, rng_2, okT_some, x_asg, x_par, x_sub, x_expr, x_ret, x_if, x_for, for_turn, x_while, wh_test, x_pass, x_brk, x_cnt, asg_nm, asg_tup, asg_cons, asg_nil, List.getElem?_cons_zero, List.getElem?_cons_succ, List.set_cons_zero, List.set_cons_succ, List.length_cons, List.length_nil, List.map_cons, List.map_nil, List.replicate, List.cons_append, List.nil_append, Option.bind_some, Option.map_some, Option.map_none, Nat.reduceAdd, Nat.reduceSub, Nat.reduceLT, ↓reduceIte, wipeE, ite_self, Option.join_some, Bool.not_true, Bool.not_false, Bool.false_eq_true, and_self, and_true, true_and, isNon, partD, okO_some, okO_none, ok_srcT, ok_srcL, ok_enmT, ok_enmL, seq_ref, lst_ref, b_lenT, b_lenL, b_lenR, b_listT, b_listL, b_listR, b_tupT, b_tupR, b_all, b_any, b_int, b_min, b_max, b_repr, b_ssetR, b_lsetT, b_sortR, b_rangeL1, x_ixT, x_ixR, x_ixL, x_set, m_append, m_extend, m_popAt, c_eq, c_ne, c_in, c_ni, c_lt, c_le, c_gt, c_ge, t_bl, t_ref, o_add, o_sub, o_mul, o_mod, o_div, o_pow, o_cat, n_new, i_tup, i_int, i_non, s_lT0, s_lL0, at_0, at_1, at_2]
        refine ⟨⟨_, _, _, _, _, rfl⟩, ?_⟩
        unfold stp App
        rw [decide_eq_false (fun z => z hy2), Bool.and_false]
        rfl
      · rw [decide_eq_false hy2]
        simp only [okR_some, okR_none, okS_nx, okS_rt, okS_bk, okS_ct, okR_ok, okR_ite, okS_ite, okS_nil, okR_and, okR_or, okR_chn, truth_bl, gc_app, gc_self, cmp_le, cmp_lt, e_var, e_cst, e_tup, e_lst, e_bin, e_neg, e_not, e_cmp, e_isN, e_ntN, e_ite, e_call, e_blt, e_isa, e_mth, e_ix, e_sl, e_lc, es_nil, es_cons, ts_nil', ts_one', lc_turn, it_seq, it_enm, it_zip, it_rng, rng_1, rng_2, okT_some, x_asg, x_par, x_sub, x_expr, x_ret, x_if, x_for, for_turn, x_while, wh_test, x_pass, x_brk, x_cnt, asg_nm, asg_tup, asg_cons, asg_nil, List.getElem?_cons_zero, List.getElem?_cons_succ, List.set_cons_zero, List.set_cons_succ, List.length_cons, List.length_nil, List.map_cons, List.map_nil, List.replicate, List.cons_append, List.nil_append, Option.bind_some, Option.map_some, Option.map_none, Nat.reduceAdd, Nat.reduceSub, Nat.reduceLT, ↓reduceIte, wipeE, ite_self, Option.join_some, Bool.not_true, Bool.not_false, Bool.false_eq_true, and_self, and_true, true_and, isNon, partD, okO_some, okO_none, ok_srcT, ok_srcL, ok_enmT, ok_enmL, seq_ref, lst_ref, b_lenT, b_lenL, b_lenR, b_listT, b_listL, b_listR, b_tupT, b_tupR, b_all, b_any, b_int, b_min, b_max, b_repr, b_ssetR, b_lsetT, b_sortR, b_rangeL1, x_ixT, x_ixR, x_ixL, x_set, m_append, m_extend, m_popAt, c_eq, c_ne, c_in, c_ni, c_lt, c_le, c_gt, c_ge, t_bl, t_ref, o_add, o_sub, o_mul, o_mod, o_div, o_pow, o_cat, n_new, i_tup, i_int, i_non, s_lT0, s_lL0, at_0, at_1, at_2]
        have hxl := (hr.m _ (List.getElem_mem hi')).l
        refine lc_T (fun x => if !decide (x ∈ g) then some (.int x) else none) (by omega) (fun x hx => ?_) ?_
        · simp only [okR_some, okR_none, okS_nx, okS_rt, okS_bk, okS_ct, okR_ok, okR_ite, okS_ite, okS_nil, okR_and, okR_or, okR_chn, truth_bl, gc_app, gc_self, cmp_le, cmp_lt, e_var, e_cst, e_tup, e_lst, e_bin, e_neg, e_not, e_cmp, e_isN, e_ntN, e_ite, e_call, e_blt, e_isa, e_mth, e_ix, e_sl, e_lc, es_nil, es_cons, ts_nil', ts_one', lc_turn, it_seq, it_enm, it_zip, it_rng, rng_1, rng_2, okT_some, x_asg, x_par, x_sub, x_expr, x_ret, x_if, x_for, for_turn, x_while, wh_test, x_pass, x_brk, x_cnt, asg_nm, asg_tup, asg_cons, asg_nil, List.getElem?_cons_zero, List.getElem?_cons_succ, List.set_cons_zero, List.set_cons_succ, List.length_cons, List.length_nil, List.map_cons, List.map_nil, List.replicate, List.cons_append, List.nil_append, Option.bind_some, Option.map_some, Option.map_none, Nat.reduceAdd, Nat.reduceSub, Nat.reduceLT, ↓reduceIte, wipeE, ite_self, Option.join_some, Bool.not_true, Bool.not_false, Bool.false_eq_true, and_self, and_true, true_and, isNon, partD, okO_some, okO_none, ok_srcT, ok_srcL, ok_enmT, ok_enmL, seq_ref, lst_ref, b_lenT, b_lenL, b_lenR, b_listT, b_listL, b_listR, b_tupT, b_tupR, b_all, b_any, b_int, b_min, b_max, b_repr, b_ssetR, b_lsetT, b_sortR, b_rangeL1, x_ixT, x_ixR, x_ixL, x_set, m_append, m_extend, m_popAt, c_eq, c_ne, c_in, c_ni, c_lt, c_le, c_gt, c_ge, t_bl, t_ref, o_add, o_sub, o_mul, o_mod, o_div, o_pow, o_cat, n_new, i_tup, i_int, i_non, s_lT0, s_lL0, at_0, at_1, at_2]
          rw [in_R getL_new]
          simp only [okR_some, okR_none, okS_nx, okS_rt, okS_bk, okS_ct, okR_ok, okR_ite, okS_ite, okS_nil, okR_and, okR_or, okR_chn, truth_bl, gc_app, gc_self, cmp_le, cmp_lt, e_var, e_cst, e_tup, e_lst, e_bin, e_neg, e_not, e_cmp, e_isN, e_ntN, e_ite, e_call, e_blt, e_isa, e_mth, e_ix, e_sl, e_lc, es_nil, es_cons, ts_nil', ts_one', lc_turn, it_seq, it_enm, it_zip, it_rng, rng_1, rng_2, okT_some, x_asg, x_par, x_sub, x_expr, x_ret, x_if, x_for, for_turn, x_while, wh_test, x_pass, x_brk, x_cnt, asg_nm, asg_tup, asg_cons, asg_nil, List.getElem?_cons_zero, List.getElem?_cons_succ, List.set_cons_zero, List.set_cons_succ, List.length_cons, List.length_nil, List.map_cons, List.map_nil, List.replicate, List.cons_append, List.nil_append, Option.bind_some, Option.map_some, Option.map_none, Nat.reduceAdd, Nat.reduceSub, Nat.reduceLT, ↓reduceIte, wipeE, ite_self, Option.join_some, Bool.not_true, Bool.not_false, Bool.false_eq_true, and_self, and_true, true_and, isNon, partD, okO_some, okO_none, ok_srcT, ok_srcL, ok_enmT, ok_enmL, seq_ref, lst_ref, b_lenT, b_lenL, b_lenR, b_listT, b_listL, b_listR, b_tupT, b_tupR, b_all, b_any, b_int, b_min, b_max, b_repr, b_ssetR, b_lsetT, b_sortR, b_rangeL1, x_ixT, x_ixR, x_ixL, x_set, m_append, m_extend, m_popAt, c_eq, c_ne, c_in, c_ni, c_lt, c_le, c_gt, c_ge, t_bl, t_ref, o_add, o_sub, o_mul, o_mod, o_div, o_pow, o_cat, n_new, i_tup, i_int, i_non, s_lT0, s_lL0, at_0, at_1, at_2]
          cases decide (x ∈ g) <;> simp only [okR_some, okR_none, okS_nx, okS_rt, okS_bk, okS_ct, okR_ok, okR_ite, okS_ite, okS_nil, okR_and, okR_or, okR_chn, truth_bl, gc_app, gc_self, cmp_le, cmp_lt, e_var, e_cst, e_tup, e_lst, e_bin, e_neg, e_not, e_cmp, e_isN, e_ntN, e_ite, e_call, e_blt, e_isa, e_mth, e_ix, e_sl, e_lc, es_nil, es_cons, ts_nil', ts_one', lc_turn, it_seq, it_enm, it_zip, it_rng, rng_1, rng_2, okT_some, x_asg, x_par, x_sub, x_expr, x_ret, x_if, x_for, for_turn, x_while, wh_test, x_pass, x_brk, x_cnt, asg_nm, asg_tup, asg_cons, asg_nil, List.getElem?_cons_zero, List.getElem?_cons_succ, List.set_cons_zero, List.set_cons_succ, List.length_cons, List.length_nil, List.map_cons, List.map_nil, List.replicate, List.cons_append, List.nil_append, Option.bind_some, Option.map_some, Option.map_none, Nat.reduceAdd, Nat.reduceSub, Nat.reduceLT, ↓reduceIte, wipeE, ite_self, Option.join_some, Bool.not_true, Bool.not_false, Bool.false_eq_true, and_self, and_true, true_and, isNon, partD, okO_some, okO_none, ok_srcT, ok_srcL, ok_enmT, ok_enmL, seq_ref, lst_ref, b_lenT, b_lenL, b_lenR, b_listT, b_listL, b_listR, b_tupT, b_tupR, b_all, b_any, b_int, b_min, b_max, b_repr, b_ssetR, b_lsetT, b_sortR, b_rangeL1, x_ixT, x_ixR, x_ixL, x_set, m_append, m_extend, m_popAt, c_eq, c_ne, c_in, c_ni, c_lt, c_le, c_gt, c_ge, t_bl, t_ref, o_add, o_sub, o_mul, o_mod, o_div, o_pow, o_cat, n_new, i_tup, i_int, i_non, s_lT0, s_lL0, at_0, at_1, at_2]
        · rw [filterMap_if, eq_L0 (getL_app getL_new) getL_new, filter_nil]
          simp only [okR_some, okR_none, okS_nx, okS_rt, okS_bk, okS_ct, okR_ok, okR_ite, okS_ite, okS_nil, okR_and, okR_or, okR_chn, truth_bl, gc_app, gc_self, cmp_le, cmp_lt, e_var, e_cst, e_tup, e_lst, e_bin, e_neg, e_not, e_cmp, e_isN, e_ntN, e_ite, e_call, e_blt, e_isa, e_mth, e_ix, e_sl, e_lc, es_nil, es_cons, ts_nil', ts_one', lc_turn, it_seq, it_enm, it_zip, it_rng, rng_1, rng_2, okT_some, x_asg, x_par, x_sub, x_expr, x_ret, x_if, x_for, for_turn, x_while, wh_test, x_pass, x_brk, x_cnt, asg_nm, asg_tup, asg_cons, asg_nil, List.getElem?_cons_zero, List.getElem?_cons_succ, List.set_cons_zero, List.set_cons_succ, List.length_cons, List.length_nil, List.map_cons, List.map_nil, List.replicate, List.cons_append, List.nil_append, Option.bind_some, Option.map_some, Option.map_none, Nat.reduceAdd, Nat.reduceSub, Nat.reduceLT, ↓reduceIte, wipeE, ite_self, Option.join_some, Bool.not_true, Bool.not_false, Bool.false_eq_true, and_self, and_true, true_and, isNon, partD, okO_some, okO_none, ok_srcT, ok_srcL, ok_enmT, ok_enmL, seq_ref, lst_ref, b_lenT, b_lenL, b_lenR, b_listT, b_listL, b_listR, b_tupT, b_tupR, b_all, b_any, b_int, b_min, b_max, b_repr, b_ssetR, b_lsetT, b_sortR, b_rangeL1, x_ixT, x_ixR, x_ixL, x_set, m_append, m_extend, m_popAt, c_eq, c_ne, c_in, c_ni, c_lt, c_le, c_gt, c_ge, t_bl, t_ref, o_add, o_sub, o_mul, o_mod, o_div, o_pow, o_cat, n_new, i_tup, i_int, i_non, s_lT0, s_lL0, at_0, at_1, at_2]
          cases hS : Sat rs[i] g with
          | false =>
            simp only [okR_some, okR_none, okS_nx, okS_rt, okS_bk, okS_ct, okR_ok, okR_ite, okS_ite, okS_nil, okR_and, okR_or, okR_chn, truth_bl, gc_app, gc_self, cmp_le, cmp_lt, e_var, e_cst, e_tup, e_lst, e_bin, e_neg, e_not, e_cmp, e_isN, e_ntN, e_ite, e_call, e_blt, e_isa, e_mth, e_ix, e_sl, e_lc, es_nil, es_cons, ts_nil', ts_one', lc_turn, it_seq, it_enm, it_zip, it_rng, rng_1, rng_2, okT_some, x_asg, x_par, x_sub, x_expr, x_ret, x_if, x_for, for_turn, x_while, wh_test, x_pass, x_brk, x_cnt, asg_nm, asg_tup, asg_cons, asg_nil, List.getElem?_cons_zero, List.getElem?_cons_succ, List.set_cons_zero, List.set_cons_succ, List.length_cons, List.length_nil, List.map_cons, List.map_nil, List.replicate, List.cons_append, List.nil_append, Option.bind_some, Option.map_some, Option.map_none, Nat.reduceAdd, Nat.reduceSub, Nat.reduceLT, ↓reduceIte, wipeE, ite_self, Option.join_some, Bool.not_true, Bool.not_false, Bool.false_eq_true, and_self, and_true, true_and, isNon, partD, okO_some, okO_none, ok_srcT, ok_srcL, ok_enmT, ok_enmL, seq_ref, lst_ref, b_lenT, b_lenL, b_lenR, b_listT, b_listL, b_listR, b_tupT, b_tupR, b_all, b_any, b_int, b_min, b_max, b_repr, b_ssetR, b_lsetT, b_sortR, b_rangeL1, x_ixT, x_ixR, x_ixL, x_set, m_append, m_extend, m_popAt, c_eq, c_ne, c_in, c_ni, c_lt, c_le, c_gt, c_ge, t_bl, t_ref, o_add, o_sub, o_mul, o_mod, o_div, o_pow, o_cat, n_new, i_tup, i_int, i_non, s_lT0, s_lL0, at_0, at_1, at_2]
            rw [List.append_assoc (s ++ _), gc_if]
            refine ⟨⟨_, _, _, _, _, rfl⟩, ?_⟩
            unfold stp App
            rw [hS]
            rfl
          | true =>
            simp only [okR_some, okR_none, okS_nx, okS_rt, okS_bk, okS_ct, okR_ok, okR_ite, okS_ite, okS_nil, okR_and, okR_or, okR_chn, truth_bl, gc_app, gc_self, cmp_le, cmp_lt, e_var, e_cst, e_tup, e_lst, e_bin, e_neg, e_not, e_cmp, e_isN, e_ntN, e_ite, e_call, e_blt, e_isa, e_mth, e_ix, e_sl, e_lc, es_nil, es_cons, ts_nil', ts_one', lc_turn, it_seq, it_enm, it_zip, it_rng, rng_1, rng_2, okT_some, x_asg, x_par, x_sub, x_expr, x_ret, x_if, x_for, for_turn, x_while, wh_test, x_pass, x_brk, x_cnt, asg_nm, asg_tup, asg_cons, asg_nil, List.getElem?_cons_zero, List.getElem?_cons_succ, List.set_cons_zero, List.set_cons_succ, List.length_cons, List.length_nil, List.map_cons, List.map_nil, List.replicate, List.cons_append, List.nil_append, Option.bind_some, Option.map_some, Option.map_none, Nat.reduceAdd, Nat.reduceSub, Nat.reduceLT, ↓reduceIte, wipeE, ite_self, Option.join_some, Bool.not_true, Bool.not_false, Bool.false_eq_true, and_self, and_true, true_and, isNon, partD, okO_some, okO_none, ok_srcT, ok_srcL, ok_enmT, ok_enmL, seq_ref, lst_ref, b_lenT, b_lenL, b_lenR, b_listT, b_listL, b_listR, b_tupT, b_tupR, b_all, b_any, b_int, b_min, b_max, b_repr, b_ssetR, b_lsetT, b_sortR, b_rangeL1, x_ixT, x_ixR, x_ixL, x_set, m_append, m_extend, m_popAt, c_eq, c_ne, c_in, c_ni, c_lt, c_le, c_gt, c_ge, t_bl, t_ref, o_add, o_sub, o_mul, o_mod, o_div, o_pow, o_cat, n_new, i_tup, i_int, i_non, s_lT0, s_lL0, at_0, at_1, at_2]
            rw [List.append_assoc (s ++ _), gc_if, okS_cons]
            simp only [okR_some, okR_none, okS_nx, okS_rt, okS_bk, okS_ct, okR_ok, okR_ite, okS_ite, okS_nil, okR_and, okR_or, okR_chn, truth_bl, gc_app, gc_self, cmp_le, cmp_lt, e_var, e_cst, e_tup, e_lst, e_bin, e_neg, e_not, e_cmp, e_isN, e_ntN, e_ite, e_call, e_blt, e_isa, e_mth, e_ix, e_sl, e_lc, es_nil, es_cons, ts_nil', ts_one', lc_turn, it_seq, it_enm, it_zip, it_rng, rng_1, rng_2, okT_some, x_asg, x_par, x_sub, x_expr, x_ret, x_if, x_for, for_turn, x_while, wh_test, x_pass, x_brk, x_cnt, asg_nm, asg_tup, asg_cons, asg_nil, List.getElem?_cons_zero, List.getElem?_cons_succ, List.set_cons_zero, List.set_cons_succ, List.length_cons, List.length_nil, List.map_cons, List.map_nil, List.replicate, List.cons_append, List.nil_append, Option.bind_some, Option.map_some, Option.map_none, Nat.reduceAdd, Nat.reduceSub, Nat.reduceLT, ↓reduceIte, wipeE, ite_self, Option.join_some, Bool.not_true, Bool.not_false, Bool.false_eq_true, and_self, and_true, true_and, isNon, partD, okO_some, okO_none, ok_srcT, ok_srcL, ok_enmT, ok_enmL, seq_ref, lst_ref, b_lenT, b_lenL, b_lenR, b_listT, b_listL, b_listR, b_tupT, b_tupR, b_all, b_any, b_int, b_min, b_max, b_repr, b_ssetR, b_lsetT, b_sortR, b_rangeL1, x_ixT, x_ixR, x_ixL, x_set, m_append, m_extend, m_popAt, c_eq, c_ne, c_in, c_ni, c_lt, c_le, c_gt, c_ge, t_bl, t_ref, o_add, o_sub, o_mul, o_mod, o_div, o_pow, o_cat, n_new, i_tup, i_int, i_non, s_lT0, s_lL0, at_0, at_1, at_2]
            rw [getL_new]
            simp only [okR_some, okR_none, okS_nx, okS_rt, okS_bk, okS_ct, okR_ok, okR_ite, okS_ite, okS_nil, okR_and, okR_or, okR_chn, truth_bl, gc_app, gc_self, cmp_le, cmp_lt, e_var, e_cst, e_tup, e_lst, e_bin, e_neg, e_not, e_cmp, e_isN, e_ntN, e_ite, e_call, e_blt, e_isa, e_mth, e_ix, e_sl, e_lc, es_nil, es_cons, ts_nil', ts_one', lc_turn, it_seq, it_enm, it_zip, it_rng, rng_1, rng_2, okT_some, x_asg, x_par, x_sub, x_expr, x_ret, x_if, x_for, for_turn, x_while, wh_test, x_pass, x_brk, x_cnt, asg_nm, asg_tup, asg_cons, asg_nil, List.getElem?_cons_zero, List.getElem?_cons_succ, List.set_cons_zero, List.set_cons_succ, List.length_cons, List.length_nil, List.map_cons, List.map_nil, List.replicate, List.cons_append, List.nil_append, Option.bind_some, Option.map_some, Option.map_none, Nat.reduceAdd, Nat.reduceSub, Nat.reduceLT, ↓reduceIte, wipeE, ite_self, Option.join_some, Bool.not_true, Bool.not_false, Bool.false_eq_true, and_self, and_true, true_and, isNon, partD, okO_some, okO_none, ok_srcT, ok_srcL, ok_enmT, ok_enmL, seq_ref, lst_ref, b_lenT, b_lenL, b_lenR, b_listT, b_listL, b_listR, b_tupT, b_tupR, b_all, b_any, b_int, b_min, b_max, b_repr, b_ssetR, b_lsetT, b_sortR, b_rangeL1, x_ixT, x_ixR, x_ixL, x_set, m_append, m_extend, m_popAt, c_eq, c_ne, c_in, c_ni, c_lt, c_le, c_gt, c_ge, t_bl, t_ref, o_add, o_sub, o_mul, o_mod, o_div, o_pow, o_cat, n_new, i_tup, i_int, i_non, s_lT0, s_lL0, at_0, at_1, at_2]
            rw [if_pos (by rw [List.length_map]; omega), set_new]
            refine ⟨⟨_, _, _, _, _, rfl⟩, ?_⟩
            have hA : App rs[i] g = true := by unfold App; rw [hS, decide_eq_true hy2]; rfl
            unfold stp
            rw [if_pos hA, List.map_append]
            rfl
    · rintro e t ⟨⟨a, b, c, d, f, rfl⟩, rfl⟩
      refine ⟨rfl, ?_⟩
      rw [show (srcT (rs.map rD)).n = rs.length by show (rs.map rD).length = _; rw [List.length_map], List.take_length]
      simp only [okR_some, okR_none, okS_nx, okS_rt, okS_bk, okS_ct, okR_ok, okR_ite, okS_ite, okS_nil, okR_and, okR_or, okR_chn, truth_bl, gc_app, gc_self, cmp_le, cmp_lt, e_var, e_cst, e_tup, e_lst, e_bin, e_neg, e_not, e_cmp, e_isN, e_ntN, e_ite, e_call, e_blt, e_isa, e_mth, e_ix, e_sl, e_lc, es_nil, es_cons, ts_nil', ts_one', lc_turn, it_seq, it_enm, it_zip, it_rng, rng_1, rng_2, okT_some, x_asg, x_par, x_sub, x_expr, x_ret, x_if, x_for, for_turn, x_while, wh_test, x_pass, x_brk, x_cnt, asg_nm, asg_tup, asg_cons, asg_nil, List.getElem?_cons_zero, List.getElem?_cons_succ, List.set_cons_zero, List.set_cons_succ, List.length_cons, List.length_nil, List.map_cons, List.map_nil, List.replicate, List.cons_append, List.nil_append, Option.bind_some, Option.map_some, Option.map_none, Nat.reduceAdd, Nat.reduceSub, Nat.reduceLT, ↓reduceIte, wipeE, ite_self, Option.join_some, Bool.not_true, Bool.not_false, Bool.false_eq_true, and_self, and_true, true_and, isNon, partD, okO_some, okO_none, ok_srcT, ok_srcL, ok_enmT, ok_enmL, seq_ref, lst_ref, b_lenT, b_lenL, b_lenR, b_listT, b_listL, b_listR, b_tupT, b_tupR, b_all, b_any, b_int, b_min, b_max, b_repr, b_ssetR, b_lsetT, b_sortR, b_rangeL1, x_ixT, x_ixR, x_ixL, x_set, m_append, m_extend, m_popAt, c_eq, c_ne, c_in, c_ni, c_lt, c_le, c_gt, c_ge, t_bl, t_ref, o_add, o_sub, o_mul, o_mod, o_div, o_pow, o_cat, n_new, i_tup, i_int, i_non, s_lT0, s_lL0, at_0, at_1, at_2]
      exact ⟨⟨_, _, _, _, _, rfl⟩, by rw [pasN_succ, hfd]; rfl⟩
  · rintro e t ⟨⟨a, b, c, d, f, rfl⟩, rfl⟩
    refine ⟨rfl, ?_⟩
    dsimp only
    rw [okS_cons]
    simp only [okR_some, okR_none, okS_nx, okS_rt, okS_bk, okS_ct, okR_ok, okR_ite, okS_ite, okS_nil, okR_and, okR_or, okR_chn, truth_bl, gc_app, gc_self, cmp_le, cmp_lt, e_var, e_cst, e_tup, e_lst, e_bin, e_neg, e_not, e_cmp, e_isN, e_ntN, e_ite, e_call, e_blt, e_isa, e_mth, e_ix, e_sl, e_lc, es_nil, es_cons, ts_nil', ts_one', lc_turn, it_seq, it_enm, it_zip, it_rng, rng_1, rng_2, okT_some, x_asg, x_par, x_sub, x_expr, x_ret, x_if, x_for, for_turn, x_while, wh_test, x_pass, x_brk, x_cnt, asg_nm, asg_tup, asg_cons, asg_nil, List.getElem?_cons_zero, List.getElem?_cons_succ, List.set_cons_zero, List.set_cons_succ, List.length_cons, List.length_nil, List.map_cons, List.map_nil, List.replicate, List.cons_append, List.nil_append, Option.bind_some, Option.map_some, Option.map_none, Nat.reduceAdd, Nat.reduceSub, Nat.reduceLT, ↓reduceIte, wipeE, ite_self, Option.join_some, Bool.not_true, Bool.not_false, Bool.false_eq_true, and_self, and_true, true_and, isNon, partD, okO_some, okO_none, ok_srcT, ok_srcL, ok_enmT, ok_enmL, seq_ref, lst_ref, b_lenT, b_lenL, b_lenR, b_listT, b_listL, b_listR, b_tupT, b_tupR, b_all, b_any, b_int, b_min, b_max, b_repr, b_ssetR, b_lsetT, b_sortR, b_rangeL1, x_ixT, x_ixR, x_ixL, x_set, m_append, m_extend, m_popAt, c_eq, c_ne, c_in, c_ni, c_lt, c_le, c_gt, c_ge, t_bl, t_ref, o_add, o_sub, o_mul, o_mod, o_div, o_pow, o_cat, n_new, i_tup, i_int, i_non, s_lT0, s_lL0, at_0, at_1, at_2]
    have h7 : (srcRng 0 7).n = 7 := rfl
    rw [h7, getL_new]
    simp only [okR_some, okR_none, okS_nx, okS_rt, okS_bk, okS_ct, okR_ok, okR_ite, okS_ite, okS_nil, okR_and, okR_or, okR_chn, truth_bl, gc_app, gc_self, cmp_le, cmp_lt, e_var, e_cst, e_tup, e_lst, e_bin, e_neg, e_not, e_cmp, e_isN, e_ntN, e_ite, e_call, e_blt, e_isa, e_mth, e_ix, e_sl, e_lc, es_nil, es_cons, ts_nil', ts_one', lc_turn, it_seq, it_enm, it_zip, it_rng, rng_1, rng_2, okT_some, x_asg, x_par, x_sub, x_expr, x_ret, x_if, x_for, for_turn, x_while, wh_test, x_pass, x_brk, x_cnt, asg_nm, asg_tup, asg_cons, asg_nil, List.getElem?_cons_zero, List.getElem?_cons_succ, List.set_cons_zero, List.set_cons_succ, List.length_cons, List.length_nil, List.map_cons, List.map_nil, List.replicate, List.cons_append, List.nil_append, Option.bind_some, Option.map_some, Option.map_none, Nat.reduceAdd, Nat.reduceSub, Nat.reduceLT, ↓reduceIte, wipeE, ite_self, Option.join_some, Bool.not_true, Bool.not_false, Bool.false_eq_true, and_self, and_true, true_and, isNon, partD, okO_some, okO_none, ok_srcT, ok_srcL, ok_enmT, ok_enmL, seq_ref, lst_ref, b_lenT, b_lenL, b_lenR, b_listT, b_listL, b_listR, b_tupT, b_tupR, b_all, b_any, b_int, b_min, b_max, b_repr, b_ssetR, b_lsetT, b_sortR, b_rangeL1, x_ixT, x_ixR, x_ixL, x_set, m_append, m_extend, m_popAt, c_eq, c_ne, c_in, c_ni, c_lt, c_le, c_gt, c_ge, t_bl, t_ref, o_add, o_sub, o_mul, o_mod, o_div, o_pow, o_cat, n_new, i_tup, i_int, i_non, s_lT0, s_lL0, at_0, at_1, at_2]
    rw [ints_of]
    simp only [okR_some, okR_none, okS_nx, okS_rt, okS_bk, okS_ct, okR_ok, okR_ite, okS_ite, okS_nil, okR_and, okR_or, okR_chn, truth_bl, gc_app, gc_self, cmp_le, cmp_lt, e_var, e_cst, e_tup, e_lst, e_bin, e_neg, e_not, e_cmp, e_isN, e_ntN, e_ite, e_call, e_blt, e_isa, e_mth, e_ix, e_sl, e_lc, es_nil, es_cons, ts_nil', ts_one', lc_turn, it_seq, it_enm, it_zip, it_rng, rng_1, rng_2, okT_some, x_asg, x_par, x_sub, x_expr, x_ret, x_if, x_for, for_turn, x_while, wh_test, x_pass, x_brk, x_cnt, asg_nm, asg_tup, asg_cons, asg_nil, List.getElem?_cons_zero, List.getElem?_cons_succ, List.set_cons_zero, List.set_cons_succ, List.length_cons, List.length_nil, List.map_cons, List.map_nil, List.replicate, List.cons_append, List.nil_append, Option.bind_some, Option.map_some, Option.map_none, Nat.reduceAdd, Nat.reduceSub, Nat.reduceLT, ↓reduceIte, wipeE, ite_self, Option.join_some, Bool.not_true, Bool.not_false, Bool.false_eq_true, and_self, and_true, true_and, isNon, partD, okO_some, okO_none, ok_srcT, ok_srcL, ok_enmT, ok_enmL, seq_ref, lst_ref, b_lenT, b_lenL, b_lenR, b_listT, b_listL, b_listR, b_tupT, b_tupR, b_all, b_any, b_int, b_min, b_max, b_repr, b_ssetR, b_lsetT, b_sortR, b_rangeL1, x_ixT, x_ixR, x_ixL, x_set, m_append, m_extend, m_popAt, c_eq, c_ne, c_in, c_ni, c_lt, c_le, c_gt, c_ge, t_bl, t_ref, o_add, o_sub, o_mul, o_mod, o_div, o_pow, o_cat, n_new, i_tup, i_int, i_non, s_lT0, s_lL0, at_0, at_1, at_2]
    have h1 := pasN_mu rs hy 7 sm
    have h2 := mu_le sm
    rw [if_pos (by omega)]
    exact gc_end ⟨_, _, rfl, by rw [List.length_append]; omega, by rw [List.append_assoc], getL_new⟩ (fun _ hc => absurd hc (by simp [cleanD])) (lev_same _ _ _)
end K03

namespace K03
open PySem Mir
theorem ty1 : (Ty.int == Ty.int) = true := rfl
theorem ty2 : (Ty.bool == Ty.int) = false := rfl
theorem ty3 : (Ty.tuple == Ty.tuple) = true := rfl
theorem whole_ok (fuel k : Nat) (s : MS) {v lo hi : Int} (h1 : lo ≤ v) (h2 : v ≤ hi) : okR ((L fuel (k + 1)).fn "_law_whole" [.int v, .int lo, .int hi] s) (fun d s' => d = .bl true ∧ s' = s) := by
  rw [fn__law_whole]
  refine okR_fnD ?_
  unfold c__law_whole
  rw [okS_cons]
  simp only [okR_some, okR_none, okS_nx, okS_rt, okS_bk, okS_ct, okR_ok, okR_ite, okS_ite, okS_nil, okR_and, okR_or, okR_chn, truth_bl, gc_app, gc_self, cmp_le, cmp_lt, e_var, e_cst, e_tup, e_lst, e_bin, e_neg, e_not, e_cmp, e_isN, e_ntN, e_ite, e_call, e_blt, e_isa, e_mth, e_ix, e_sl, e_lc, es_nil, es_cons, ts_nil', ts_one', lc_turn, it_seq, it_enm, it_zip, it_rng, rng_1, rng_2, okT_some, x_asg, x_par, x_sub, x_expr, x_ret, x_if, x_for, for_turn, x_while, wh_test, x_pass, x_brk, x_cnt, asg_nm, asg_tup, asg_cons, asg_nil, List.getElem?_cons_zero, List.getElem?_cons_succ, List.set_cons_zero, List.set_cons_succ, List.length_cons, List.length_nil, List.map_cons, List.map_nil, List.replicate, List.cons_append, List.nil_append, Option.bind_some, Option.map_some, Option.map_none, Nat.reduceAdd, Nat.reduceSub, Nat.reduceLT, ↓reduceIte, wipeE, ite_self, Option.join_some, Bool.not_true, Bool.not_false, Bool.false_eq_true, and_self, and_true, true_and, isNon, partD, okO_some, okO_none, ok_srcT, ok_srcL, ok_enmT, ok_enmL, seq_ref, lst_ref, b_lenT, b_lenL, b_lenR, b_listT, b_listL, b_listR, b_tupT, b_tupR, b_all, b_any, b_int, b_min, b_max, b_repr, b_ssetR, b_lsetT, b_sortR, b_rangeL1, x_ixT, x_ixR, x_ixL, x_set, m_append, m_extend, m_popAt, c_eq, c_ne, c_in, c_ni, c_lt, c_le, c_gt, c_ge, t_bl, t_ref, o_add, o_sub, o_mul, o_mod, o_div, o_pow, o_cat, n_new, i_tup, i_int, i_non, s_lT0, s_lL0, at_0, at_1, at_2, ty1, ty2]
  rw [if_pos (decide_eq_true h1), decide_eq_true h2]
  exact gc_pure0 ⟨rfl, rfl⟩
theorem valid_y {rs : List Rl} {sm : List Int} {ch : List Nat} (v : Valid rs sm ch) {i j : Nat} (hij : i < j) (hj : j < ch.length) : ch[i]'(Nat.lt_trans hij hj) ≠ ch[j] := fun e => by
  obtain ⟨r, hr, hA⟩ := v j ch[j] (List.getElem?_eq_getElem hj)
  refine app_y hA ?_
  unfold knOf
  refine List.mem_append_right _ (List.mem_map.mpr ⟨ch[j], ?_, by unfold yOf; rw [hr]; rfl⟩)
  rw [← e]
  exact List.mem_iff_getElem?.mpr ⟨i, by rw [List.getElem?_take_of_lt hij, List.getElem?_eq_getElem]⟩
theorem valid_nd {rs : List Rl} {sm : List Int} {ch : List Nat} (v : Valid rs sm ch) : (chI ch).Nodup := by
  rw [List.nodup_iff_pairwise_ne, List.pairwise_iff_getElem]
  intro i j hi hj hij e
  unfold chI at hi hj e
  rw [List.length_map] at hi hj
  rw [List.getElem_map, List.getElem_map] at e
  exact valid_y v hij hj (by omega)
theorem break_ok (fuel k : Nat) (s : MS) {sm : List Int} {rs : List Rl} {ch : List Nat} (hr : RsOk rs) (v : Valid rs sm ch) (hl : ch.length ≤ 7) (hsm : sm.length ≤ 50) : okR ((L fuel (k + 1)).fn "_law_chain_break" [rsD rs, tI sm, tI (chI ch)] s)
    (fun d s' => ∃ (n : Nat) (t : MS), d = .ref n ∧ s.length ≤ n ∧ s' = s ++ t ∧ getL s' n = some []) := by
  rw [fn__law_chain_break]
  refine okR_fnD ?_
  unfold c__law_chain_break
  rw [okS_cons]
  simp only [okR_some, okR_none, okS_nx, okS_rt, okS_bk, okS_ct, okR_ok, okR_ite, okS_ite, okS_nil, okR_and, okR_or, okR_chn, truth_bl, gc_app, gc_self, cmp_le, cmp_lt, e_var, e_cst, e_tup, e_lst, e_bin, e_neg, e_not, e_cmp, e_isN, e_ntN, e_ite, e_call, e_blt, e_isa, e_mth, e_ix, e_sl, e_lc, es_nil, es_cons, ts_nil', ts_one', lc_turn, it_seq, it_enm, it_zip, it_rng, rng_1, rng_2, okT_some, x_asg, x_par, x_sub, x_expr, x_ret, x_if, x_for, for_turn, x_while, wh_test, x_pass, x_brk, x_cnt, asg_nm, asg_tup, asg_cons, asg_nil, List.getElem?_cons_zero, List.getElem?_cons_succ, List.set_cons_zero, List.set_cons_succ, List.length_cons, List.length_nil, List.map_cons, List.map_nil, List.replicate, List.cons_append, List.nil_append, Option.bind_some, Option.map_some, Option.map_none, Nat.reduceAdd, Nat.reduceSub, Nat.reduceLT, ↓reduceIte, wipeE, ite_self, Option.join_some, Bool.not_true, Bool.not_false, Bool.false_eq_true, and_self, and_true, true_and, isNon, partD, okO_some, okO_none, ok_srcT, ok_srcL, ok_enmT, ok_enmL, seq_ref, lst_ref, b_lenT, b_lenL, b_lenR, b_listT, b_listL, b_listR, b_tupT, b_tupR, b_all, b_any, b_int, b_min, b_max, b_repr, b_ssetR, b_lsetT, b_sortR, b_rangeL1, x_ixT, x_ixR, x_ixL, x_set, m_append, m_extend, m_popAt, c_eq, c_ne, c_in, c_ni, c_lt, c_le, c_gt, c_ge, t_bl, t_ref, o_add, o_sub, o_mul, o_mod, o_div, o_pow, o_cat, n_new, i_tup, i_int, i_non, s_lT0, s_lL0, at_0, at_1, at_2]
  rw [okS_cons]
  simp only [okR_some, okR_none, okS_nx, okS_rt, okS_bk, okS_ct, okR_ok, okR_ite, okS_ite, okS_nil, okR_and, okR_or, okR_chn, truth_bl, gc_app, gc_self, cmp_le, cmp_lt, e_var, e_cst, e_tup, e_lst, e_bin, e_neg, e_not, e_cmp, e_isN, e_ntN, e_ite, e_call, e_blt, e_isa, e_mth, e_ix, e_sl, e_lc, es_nil, es_cons, ts_nil', ts_one', lc_turn, it_seq, it_enm, it_zip, it_rng, rng_1, rng_2, okT_some, x_asg, x_par, x_sub, x_expr, x_ret, x_if, x_for, for_turn, x_while, wh_test, x_pass, x_brk, x_cnt, asg_nm, asg_tup, asg_cons, asg_nil, List.getElem?_cons_zero, List.getElem?_cons_succ, List.set_cons_zero, List.set_cons_succ, List.length_cons, List.length_nil, List.map_cons, List.map_nil, List.replicate, List.cons_append, List.nil_append, Option.bind_some, Option.map_some, Option.map_none, Nat.reduceAdd, Nat.reduceSub, Nat.reduceLT, ↓reduceIte, wipeE, ite_self, Option.join_some, Bool.not_true, Bool.not_false, Bool.false_eq_true, and_self, and_true, true_and, isNon, partD, okO_some, okO_none, ok_srcT, ok_srcL, ok_enmT, ok_enmL, seq_ref, lst_ref, b_lenT, b_lenL, b_lenR, b_listT, b_listL, b_listR, b_tupT, b_tupR, b_all, b_any, b_int, b_min, b_max, b_repr, b_ssetR, b_lsetT, b_sortR, b_rangeL1, x_ixT, x_ixR, x_ixL, x_set, m_append, m_extend, m_popAt, c_eq, c_ne, c_in, c_ni, c_lt, c_le, c_gt, c_ge, t_bl, t_ref, o_add, o_sub, o_mul, o_mod, o_div, o_pow, o_cat, n_new, i_tup, i_int, i_non, s_lT0, s_lL0, at_0, at_1, at_2]
  refine okS_for0 (fun j e t => (∃ a b c, e = [some (rsD rs), some (tI sm), some (tI (chI ch)), some (.ref s.length), a, b, c]) ∧ t = s ++ [MO.lst ((knOf rs sm (ch.take j)).map D.int)]) ⟨⟨_, _, _, rfl⟩, by unfold knOf; simp⟩ ?_ ?_
  · rintro j e t hj ⟨⟨a, b, c, rfl⟩, rfl⟩
    have hj' : j < ch.length := by
      have : j < ((chI ch).map D.int).length := hj
      rwa [List.length_map, List.length_map] at this
    obtain ⟨r, hrr, hA⟩ := v j ch[j] (List.getElem?_eq_getElem hj')
    refine ⟨.tup [.int j, .int (ch[j] : Nat)], by show (((chI ch).map D.int)[j]?).map _ = _; rw [List.getElem?_map, List.getElem?_map, List.getElem?_eq_getElem hj']; rfl, ?_⟩
    have hxl := (hr.m r (List.mem_of_getElem? hrr)).l
    have hsn : knOf rs sm (ch.take (j + 1)) = knOf rs sm (ch.take j) ++ [r.y] := by
      rw [List.take_add_one, List.getElem?_eq_getElem hj']
      show knOf rs sm (ch.take j ++ [ch[j]]) = _
      rw [knOf_snoc]
      congr 2
      unfold yOf
      rw [hrr]
      rfl
    have hkl : (knOf rs sm (ch.take j)).length ≤ 57 := by
      unfold knOf
      rw [List.length_append, List.length_map, List.length_take]
      omega
    rw [hsn]
    generalize knOf rs sm (ch.take j) = g at hA hkl ⊢
    rw [for_turn]
    simp only [okR_some, okR_none, okS_nx, okS_rt, okS_bk, okS_ct, okR_ok, okR_ite, okS_ite, okS_nil, okR_and, okR_or, okR_chn, truth_bl, gc_app, gc_self, cmp_le, cmp_lt, e_var, e_cst, e_tup, e_lst, e_bin, e_neg, e_not, e_cmp, e_isN, e_ntN, e_ite, e_call, e_blt, e_isa, e_mth, e_ix, e_sl, e_lc, es_nil, es_cons, ts_nil', ts_one', lc_turn, it_seq, it_enm, it_zip, it_rng, rng_1, rng_2, okT_some, x_asg, x_par, x_sub, x_expr, x_ret, x_if, x_for, for_turn, x_while, wh_test, x_pass, x_brk, x_cnt, asg_nm, asg_tup, asg_cons, asg_nil, List.getElem?_cons_zero, List.getElem?_cons_succ, List.set_cons_zero, List.set_cons_succ, List.length_cons, List.length_nil, List.map_cons, List.map_nil, List.replicate, List.cons_append, List.nil_append, Option.bind_some, Option.map_some, Option.map_none, Nat.reduceAdd, Nat.reduceSub, Nat.reduceLT, ↓reduceIte, wipeE, ite_self, Option.join_some, Bool.not_true, Bool.not_false, Bool.false_eq_true, and_self, and_true, true_and, isNon, partD, okO_some, okO_none, ok_srcT, ok_srcL, ok_enmT, ok_enmL, seq_ref, lst_ref, b_lenT, b_lenL, b_lenR, b_listT, b_listL, b_listR, b_tupT, b_tupR, b_all, b_any, b_int, b_min, b_max, b_repr, b_ssetR, b_lsetT, b_sortR, b_rangeL1, x_ixT, x_ixR, x_ixL, x_set, m_append, m_extend, m_popAt, c_eq, c_ne, c_in, c_ni, c_lt, c_le, c_gt, c_ge, t_bl, t_ref, o_add, o_sub, o_mul, o_mod, o_div, o_pow, o_cat, n_new, i_tup, i_int, i_non, s_lT0, s_lL0, at_0, at_1, at_2]
    rw [okS_cons]
    simp only [okR_some, okR_none, okS_nx, okS_rt, okS_bk, okS_ct, okR_ok, okR_ite, okS_ite, okS_nil, okR_and, okR_or, okR_chn, truth_bl, gc_app, gc_self, cmp_le, cmp_lt, e_var, e_cst, e_tup, e_lst, e_bin, e_neg, e_not, e_cmp, e_isN, e_ntN, e_ite, e_call, e_blt, e_isa, e_mth, e_ix, e_sl, e_lc, es_nil, es_cons, ts_nil', ts_one', lc_turn, it_seq, it_enm, it_zip, it_rng, rng_1, rng_2, okT_some, x_asg, x_par, x_sub, x_expr, x_ret, x_if, x_for, for_turn, x_while, wh_test, x_pass, x_brk, x_cnt, asg_nm, asg_tup, asg_cons, asg_nil, List.getElem?_cons_zero, List.getElem?_cons_succ, List.set_cons_zero, List.set_cons_succ, List.length_cons, List.length_nil, List.map_cons, List.map_nil, List.replicate, List.cons_append, List.nil_append, Option.bind_some, Option.map_some, Option.map_none, Nat.reduceAdd, Nat.reduceSub, Nat.reduceLT, ↓reduceIte, wipeE, ite_self, Option.join_some, Bool.not_true, Bool.not_false, Bool.false_eq_true, and_self, and_true, true_and, isNon, partD, okO_some, okO_none, ok_srcT, ok_srcL, ok_enmT, ok_enmL, seq_ref, lst_ref, b_lenT, b_lenL, b_lenR, b_listT, b_listL, b_listR, b_tupT, b_tupR, b_all, b_any, b_int, b_min, b_max, b_repr, b_ssetR, b_lsetT, b_sortR, b_rangeL1, x_ixT, x_ixR, x_ixL, x_set, m_append, m_extend, m_popAt, c_eq, c_ne, c_in, c_ni, c_lt, c_le, c_gt, c_ge, t_bl, t_ref, o_add, o_sub, o_mul, o_mod, o_div, o_pow, o_cat, n_new, i_tup, i_int, i_non, s_lT0, s_lL0, at_0, at_1, at_2, atI_get hrr]
    refine lc_T (fun x => if !decide (x ∈ g) then some (.int x) else none) (by omega) (fun x hx => ?_) ?_
    · simp only [okR_some, okR_none, okS_nx, okS_rt, okS_bk, okS_ct, okR_ok, okR_ite, okS_ite, okS_nil, okR_and, okR_or, okR_chn, truth_bl, gc_app, gc_self, cmp_le, cmp_lt, e_var, e_cst, e_tup, e_lst, e_bin, e_neg, e_not, e_cmp, e_isN, e_ntN, e_ite, e_call, e_blt, e_isa, e_mth, e_ix, e_sl, e_lc, es_nil, es_cons, ts_nil', ts_one', lc_turn, it_seq, it_enm, it_zip, it_rng, rng_1, rng_2, okT_some, x_asg, x_par, x_sub, x_expr, x_ret, x_if, x_for, for_turn, x_while, wh_test, x_pass, x_brk, x_cnt, asg_nm, asg_tup, asg_cons, asg_nil, List.getElem?_cons_zero, List.getElem?_cons_succ, List.set_cons_zero, List.set_cons_succ, List.length_cons, List.length_nil, List.map_cons, List.map_nil, List.replicate, List.cons_append, List.nil_append, Option.bind_some, Option.map_some, Option.map_none, Nat.reduceAdd, Nat.reduceSub, Nat.reduceLT, ↓reduceIte, wipeE, ite_self, Option.join_some, Bool.not_true, Bool.not_false, Bool.false_eq_true, and_self, and_true, true_and, isNon, partD, okO_some, okO_none, ok_srcT, ok_srcL, ok_enmT, ok_enmL, seq_ref, lst_ref, b_lenT, b_lenL, b_lenR, b_listT, b_listL, b_listR, b_tupT, b_tupR, b_all, b_any, b_int, b_min, b_max, b_repr, b_ssetR, b_lsetT, b_sortR, b_rangeL1, x_ixT, x_ixR, x_ixL, x_set, m_append, m_extend, m_popAt, c_eq, c_ne, c_in, c_ni, c_lt, c_le, c_gt, c_ge, t_bl, t_ref, o_add, o_sub, o_mul, o_mod, o_div, o_pow, o_cat, n_new, i_tup, i_int, i_non, s_lT0, s_lL0, at_0, at_1, at_2]
      rw [in_R getL_new]
      simp only [okR_some, okR_none, okS_nx, okS_rt, okS_bk, okS_ct, okR_ok, okR_ite, okS_ite, okS_nil, okR_and, okR_or, okR_chn, truth_bl, gc_app, gc_self, cmp_le, cmp_lt, e_var, e_cst, e_tup, e_lst, e_bin, e_neg, e_not, e_cmp, e_isN, e_ntN, e_ite, e_call, e_blt, e_isa, e_mth, e_ix, e_sl, e_lc, es_nil, es_cons, ts_nil', ts_one', lc_turn, it_seq, it_enm, it_zip, it_rng, rng_1, rng_2, okT_some, x_asg, x_par, x_sub, x_expr, x_ret, x_if, x_for, for_turn, x_while, wh_test, x_pass, x_brk, x_cnt, asg_nm, asg_tup, asg_cons, asg_nil, List.getElem?_cons_zero, List.getElem?_cons_succ, List.set_cons_zero, List.set_cons_succ, List.length_cons, List.length_nil, List.map_cons, List.map_nil, List.replicate, List.cons_append, List.nil_append, Option.bind_some, Option.map_some, Option.map_none, Nat.reduceAdd, Nat.reduceSub, Nat.reduceLT, ↓reduceIte, wipeE, ite_self, Option.join_some, Bool.not_true, Bool.not_false, Bool.false_eq_true, and_self, and_true, true_and, isNon, partD, okO_some, okO_none, ok_srcT, ok_srcL, ok_enmT, ok_enmL, seq_ref, lst_ref, b_lenT, b_lenL, b_lenR, b_listT, b_listL, b_listR, b_tupT, b_tupR, b_all, b_any, b_int, b_min, b_max, b_repr, b_ssetR, b_lsetT, b_sortR, b_rangeL1, x_ixT, x_ixR, x_ixL, x_set, m_append, m_extend, m_popAt, c_eq, c_ne, c_in, c_ni, c_lt, c_le, c_gt, c_ge, t_bl, t_ref, o_add, o_sub, o_mul, o_mod, o_div, o_pow, o_cat, n_new, i_tup, i_int, i_non, s_lT0, s_lL0, at_0, at_1, at_2]
      cases decide (x ∈ g) <;> simp only [okR_some, okR_none, okS_nx, okS_rt, okS_bk, okS_ct, okR_ok, okR_ite, okS_ite, okS_nil, okR_and, okR_or, okR_chn, truth_bl, gc_app, gc_self, cmp_le, cmp_lt, e_var, e_cst, e_tup, e_lst, e_bin, e_neg, e_not, e_cmp, e_isN, e_ntN, e_ite, e_call, e_blt, e_isa, e_mth, e_ix, e_sl, e_lc, es_nil, es_cons, ts_nil', ts_one', lc_turn, it_seq, it_enm, it_zip, it_rng, rng_1, rng_2, okT_some, x_asg, x_par, x_sub, x_expr, x_ret, x_if, x_for, for_turn, x_while, wh_test, x_pass, x_brk, x_cnt, asg_nm, asg_tup, asg_cons, asg_nil, List.getElem?_cons_zero, List.getElem?_cons_succ, List.set_cons_zero, List.set_cons_succ, List.length_cons, List.length_nil, List.map_cons, List.map_nil, List.replicate, List.cons_append, List.nil_append, Option.bind_some, Option.map_some, Option.map_none, Nat.reduceAdd, Nat.reduceSub, Nat.reduceLT, ↓reduceIte, wipeE, ite_self, Option.join_some, Bool.not_true, Bool.not_false, Bool.false_eq_true, and_self, and_true, true_and, isNon, partD, okO_some, okO_none, ok_srcT, ok_srcL, ok_enmT, ok_enmL, seq_ref, lst_ref, b_lenT, b_lenL, b_lenR, b_listT, b_listL, b_listR, b_tupT, b_tupR, b_all, b_any, b_int, b_min, b_max, b_repr, b_ssetR, b_lsetT, b_sortR, b_rangeL1, x_ixT, x_ixR, x_ixL, x_set, m_append, m_extend, m_popAt, c_eq, c_ne, c_in, c_ni, c_lt, c_le, c_gt, c_ge, t_bl, t_ref, o_add, o_sub, o_mul, o_mod, o_div, o_pow, o_cat, n_new, i_tup, i_int, i_non, s_lT0, s_lL0, at_0, at_1, at_2]
    · rw [filterMap_if, eq_L0 (getL_app getL_new) getL_new, filter_nil, show Sat r g = true by
        unfold App at hA
        rw [Bool.and_eq_true] at hA
        exact hA.1]
      simp only [okR_some, okR_none, okS_nx, okS_rt, okS_bk, okS_ct, okR_ok, okR_ite, okS_ite, okS_nil, okR_and, okR_or, okR_chn, truth_bl, gc_app, gc_self, cmp_le, cmp_lt, e_var, e_cst, e_tup, e_lst, e_bin, e_neg, e_not, e_cmp, e_isN, e_ntN, e_ite, e_call, e_blt, e_isa, e_mth, e_ix, e_sl, e_lc, es_nil, es_cons, ts_nil', ts_one', lc_turn, it_seq, it_enm, it_zip, it_rng, rng_1, rng_2, okT_some, x_asg, x_par, x_sub, x_expr, x_ret, x_if, x_for, for_turn, x_while, wh_test, x_pass, x_brk, x_cnt, asg_nm, asg_tup, asg_cons, asg_nil, List.getElem?_cons_zero, List.getElem?_cons_succ, List.set_cons_zero, List.set_cons_succ, List.length_cons, List.length_nil, List.map_cons, List.map_nil, List.replicate, List.cons_append, List.nil_append, Option.bind_some, Option.map_some, Option.map_none, Nat.reduceAdd, Nat.reduceSub, Nat.reduceLT, ↓reduceIte, wipeE, ite_self, Option.join_some, Bool.not_true, Bool.not_false, Bool.false_eq_true, and_self, and_true, true_and, isNon, partD, okO_some, okO_none, ok_srcT, ok_srcL, ok_enmT, ok_enmL, seq_ref, lst_ref, b_lenT, b_lenL, b_lenR, b_listT, b_listL, b_listR, b_tupT, b_tupR, b_all, b_any, b_int, b_min, b_max, b_repr, b_ssetR, b_lsetT, b_sortR, b_rangeL1, x_ixT, x_ixR, x_ixL, x_set, m_append, m_extend, m_popAt, c_eq, c_ne, c_in, c_ni, c_lt, c_le, c_gt, c_ge, t_bl, t_ref, o_add, o_sub, o_mul, o_mod, o_div, o_pow, o_cat, n_new, i_tup, i_int, i_non, s_lT0, s_lL0, at_0, at_1, at_2]
      rw [List.append_assoc (s ++ _), gc_if, okS_cons]
      simp only [okR_some, okR_none, okS_nx, okS_rt, okS_bk, okS_ct, okR_ok, okR_ite, okS_ite, okS_nil, okR_and, okR_or, okR_chn, truth_bl, gc_app, gc_self, cmp_le, cmp_lt, e_var, e_cst, e_tup, e_lst, e_bin, e_neg, e_not, e_cmp, e_isN, e_ntN, e_ite, e_call, e_blt, e_isa, e_mth, e_ix, e_sl, e_lc, es_nil, es_cons, ts_nil', ts_one', lc_turn, it_seq, it_enm, it_zip, it_rng, rng_1, rng_2, okT_some, x_asg, x_par, x_sub, x_expr, x_ret, x_if, x_for, for_turn, x_while, wh_test, x_pass, x_brk, x_cnt, asg_nm, asg_tup, asg_cons, asg_nil, List.getElem?_cons_zero, List.getElem?_cons_succ, List.set_cons_zero, List.set_cons_succ, List.length_cons, List.length_nil, List.map_cons, List.map_nil, List.replicate, List.cons_append, List.nil_append, Option.bind_some, Option.map_some, Option.map_none, Nat.reduceAdd, Nat.reduceSub, Nat.reduceLT, ↓reduceIte, wipeE, ite_self, Option.join_some, Bool.not_true, Bool.not_false, Bool.false_eq_true, and_self, and_true, true_and, isNon, partD, okO_some, okO_none, ok_srcT, ok_srcL, ok_enmT, ok_enmL, seq_ref, lst_ref, b_lenT, b_lenL, b_lenR, b_listT, b_listL, b_listR, b_tupT, b_tupR, b_all, b_any, b_int, b_min, b_max, b_repr, b_ssetR, b_lsetT, b_sortR, b_rangeL1, x_ixT, x_ixR, x_ixL, x_set, m_append, m_extend, m_popAt, c_eq, c_ne, c_in, c_ni, c_lt, c_le, c_gt, c_ge, t_bl, t_ref, o_add, o_sub, o_mul, o_mod, o_div, o_pow, o_cat, n_new, i_tup, i_int, i_non, s_lT0, s_lL0, at_0, at_1, at_2, atI_get hrr]
      rw [getL_new]
      simp only [okR_some, okR_none, okS_nx, okS_rt, okS_bk, okS_ct, okR_ok, okR_ite, okS_ite, okS_nil, okR_and, okR_or, okR_chn, truth_bl, gc_app, gc_self, cmp_le, cmp_lt, e_var, e_cst, e_tup, e_lst, e_bin, e_neg, e_not, e_cmp, e_isN, e_ntN, e_ite, e_call, e_blt, e_isa, e_mth, e_ix, e_sl, e_lc, es_nil, es_cons, ts_nil', ts_one', lc_turn, it_seq, it_enm, it_zip, it_rng, rng_1, rng_2, okT_some, x_asg, x_par, x_sub, x_expr, x_ret, x_if, x_for, for_turn, x_while, wh_test, x_pass, x_brk, x_cnt, asg_nm, asg_tup, asg_cons, asg_nil, List.getElem?_cons_zero, List.getElem?_cons_succ, List.set_cons_zero, List.set_cons_succ, List.length_cons, List.length_nil, List.map_cons, List.map_nil, List.replicate, List.cons_append, List.nil_append, Option.bind_some, Option.map_some, Option.map_none, Nat.reduceAdd, Nat.reduceSub, Nat.reduceLT, ↓reduceIte, wipeE, ite_self, Option.join_some, Bool.not_true, Bool.not_false, Bool.false_eq_true, and_self, and_true, true_and, isNon, partD, okO_some, okO_none, ok_srcT, ok_srcL, ok_enmT, ok_enmL, seq_ref, lst_ref, b_lenT, b_lenL, b_lenR, b_listT, b_listL, b_listR, b_tupT, b_tupR, b_all, b_any, b_int, b_min, b_max, b_repr, b_ssetR, b_lsetT, b_sortR, b_rangeL1, x_ixT, x_ixR, x_ixL, x_set, m_append, m_extend, m_popAt, c_eq, c_ne, c_in, c_ni, c_lt, c_le, c_gt, c_ge, t_bl, t_ref, o_add, o_sub, o_mul, o_mod, o_div, o_pow, o_cat, n_new, i_tup, i_int, i_non, s_lT0, s_lL0, at_0, at_1, at_2]
      rw [if_pos (by rw [List.length_map]; omega), set_new]
      exact ⟨⟨_, _, _, rfl⟩, by rw [List.map_append]; rfl⟩
  · rintro e t ⟨⟨a, b, c, rfl⟩, rfl⟩
    refine ⟨rfl, ?_⟩
    dsimp only
    rw [okS_cons]
    simp only [okR_some, okR_none, okS_nx, okS_rt, okS_bk, okS_ct, okR_ok, okR_ite, okS_ite, okS_nil, okR_and, okR_or, okR_chn, truth_bl, gc_app, gc_self, cmp_le, cmp_lt, e_var, e_cst, e_tup, e_lst, e_bin, e_neg, e_not, e_cmp, e_isN, e_ntN, e_ite, e_call, e_blt, e_isa, e_mth, e_ix, e_sl, e_lc, es_nil, es_cons, ts_nil', ts_one', lc_turn, it_seq, it_enm, it_zip, it_rng, rng_1, rng_2, okT_some, x_asg, x_par, x_sub, x_expr, x_ret, x_if, x_for, for_turn, x_while, wh_test, x_pass, x_brk, x_cnt, asg_nm, asg_tup, asg_cons, asg_nil, List.getElem?_cons_zero, List.getElem?_cons_succ, List.set_cons_zero, List.set_cons_succ, List.length_cons, List.length_nil, List.map_cons, List.map_nil, List.replicate, List.cons_append, List.nil_append, Option.bind_some, Option.map_some, Option.map_none, Nat.reduceAdd, Nat.reduceSub, Nat.reduceLT, ↓reduceIte, wipeE, ite_self, Option.join_some, Bool.not_true, Bool.not_false, Bool.false_eq_true, and_self, and_true, true_and, isNon, partD, okO_some, okO_none, ok_srcT, ok_srcL, ok_enmT, ok_enmL, seq_ref, lst_ref, b_lenT, b_lenL, b_lenR, b_listT, b_listL, b_listR, b_tupT, b_tupR, b_all, b_any, b_int, b_min, b_max, b_repr, b_ssetR, b_lsetT, b_sortR, b_rangeL1, x_ixT, x_ixR, x_ixL, x_set, m_append, m_extend, m_popAt, c_eq, c_ne, c_in, c_ni, c_lt, c_le, c_gt, c_ge, t_bl, t_ref, o_add, o_sub, o_mul, o_mod, o_div, o_pow, o_cat, n_new, i_tup, i_int, i_non, s_lT0, s_lL0, at_0, at_1, at_2]
    exact gc_end ⟨_, _, rfl, by rw [List.length_append]; omega, by rw [List.append_assoc], getL_new⟩ (fun _ hc => absurd hc (by simp [cleanD])) (lev_same _ _ _)
theorem lreached_ok (fuel k : Nat) (s : MS) {sm : List Int} {rs : List Rl} {ch : List Nat} (v : Valid rs sm ch) (hl : ch.length ≤ 7) (hsm : sm.length ≤ 50) : okR ((L fuel (k + 1)).fn "_law_reached" [rsD rs, tI sm, tI (chI ch)] s)
    (fun d s' => ∃ (n : Nat) (t : MS), d = .ref n ∧ s.length ≤ n ∧ s' = s ++ t ∧ getL s' n = some ((knOf rs sm ch).map D.int)) := by
  rw [fn__law_reached]
  refine okR_fnD ?_
  unfold c__law_reached
  rw [okS_cons]
  simp only [okR_some, okR_none, okS_nx, okS_rt, okS_bk, okS_ct, okR_ok, okR_ite, okS_ite, okS_nil, okR_and, okR_or, okR_chn, truth_bl, gc_app, gc_self, cmp_le, cmp_lt, e_var, e_cst, e_tup, e_lst, e_bin, e_neg, e_not, e_cmp, e_isN, e_ntN, e_ite, e_call, e_blt, e_isa, e_mth, e_ix, e_sl, e_lc, es_nil, es_cons, ts_nil', ts_one', lc_turn, it_seq, it_enm, it_zip, it_rng, rng_1, rng_2, okT_some, x_asg, x_par, x_sub, x_expr, x_ret, x_if, x_for, for_turn, x_while, wh_test, x_pass, x_brk, x_cnt, asg_nm, asg_tup, asg_cons, asg_nil, List.getElem?_cons_zero, List.getElem?_cons_succ, List.set_cons_zero, List.set_cons_succ, List.length_cons, List.length_nil, List.map_cons, List.map_nil, List.replicate, List.cons_append, List.nil_append, Option.bind_some, Option.map_some, Option.map_none, Nat.reduceAdd, Nat.reduceSub, Nat.reduceLT, ↓reduceIte, wipeE, ite_self, Option.join_some, Bool.not_true, Bool.not_false, Bool.false_eq_true, and_self, and_true, true_and, isNon, partD, okO_some, okO_none, ok_srcT, ok_srcL, ok_enmT, ok_enmL, seq_ref, lst_ref, b_lenT, b_lenL, b_lenR, b_listT, b_listL, b_listR, b_tupT, b_tupR, b_all, b_any, b_int, b_min, b_max, b_repr, b_ssetR, b_lsetT, b_sortR, b_rangeL1, x_ixT, x_ixR, x_ixL, x_set, m_append, m_extend, m_popAt, c_eq, c_ne, c_in, c_ni, c_lt, c_le, c_gt, c_ge, t_bl, t_ref, o_add, o_sub, o_mul, o_mod, o_div, o_pow, o_cat, n_new, i_tup, i_int, i_non, s_lT0, s_lL0, at_0, at_1, at_2]
  refine lc_T (fun x => some (.int (yOf rs x.toNat))) (by unfold chI; rw [List.length_map]; omega) (fun x hx => ?_) ?_
  · obtain ⟨r, h1, h2⟩ := ys_of v x hx
    simp only [okR_some, okR_none, okS_nx, okS_rt, okS_bk, okS_ct, okR_ok, okR_ite, okS_ite, okS_nil, okR_and, okR_or, okR_chn, truth_bl, gc_app, gc_self, cmp_le, cmp_lt, e_var, e_cst, e_tup, e_lst, e_bin, e_neg, e_not, e_cmp, e_isN, e_ntN, e_ite, e_call, e_blt, e_isa, e_mth, e_ix, e_sl, e_lc, es_nil, es_cons, ts_nil', ts_one', lc_turn, it_seq, it_enm, it_zip, it_rng, rng_1, rng_2, okT_some, x_asg, x_par, x_sub, x_expr, x_ret, x_if, x_for, for_turn, x_while, wh_test, x_pass, x_brk, x_cnt, asg_nm, asg_tup, asg_cons, asg_nil, List.getElem?_cons_zero, List.getElem?_cons_succ, List.set_cons_zero, List.set_cons_succ, List.length_cons, List.length_nil, List.map_cons, List.map_nil, List.replicate, List.cons_append, List.nil_append, Option.bind_some, Option.map_some, Option.map_none, Nat.reduceAdd, Nat.reduceSub, Nat.reduceLT, ↓reduceIte, wipeE, ite_self, Option.join_some, Bool.not_true, Bool.not_false, Bool.false_eq_true, and_self, and_true, true_and, isNon, partD, okO_some, okO_none, ok_srcT, ok_srcL, ok_enmT, ok_enmL, seq_ref, lst_ref, b_lenT, b_lenL, b_lenR, b_listT, b_listL, b_listR, b_tupT, b_tupR, b_all, b_any, b_int, b_min, b_max, b_repr, b_ssetR, b_lsetT, b_sortR, b_rangeL1, x_ixT, x_ixR, x_ixL, x_set, m_append, m_extend, m_popAt, c_eq, c_ne, c_in, c_ni, c_lt, c_le, c_gt, c_ge, t_bl, t_ref, o_add, o_sub, o_mul, o_mod, o_div, o_pow, o_cat, n_new, i_tup, i_int, i_non, s_lT0, s_lL0, at_0, at_1, at_2, h1]
    rw [h2]
  · rw [map_ys, getL_app getL_new]
    simp only [okR_some, okR_none, okS_nx, okS_rt, okS_bk, okS_ct, okR_ok, okR_ite, okS_ite, okS_nil, okR_and, okR_or, okR_chn, truth_bl, gc_app, gc_self, cmp_le, cmp_lt, e_var, e_cst, e_tup, e_lst, e_bin, e_neg, e_not, e_cmp, e_isN, e_ntN, e_ite, e_call, e_blt, e_isa, e_mth, e_ix, e_sl, e_lc, es_nil, es_cons, ts_nil', ts_one', lc_turn, it_seq, it_enm, it_zip, it_rng, rng_1, rng_2, okT_some, x_asg, x_par, x_sub, x_expr, x_ret, x_if, x_for, for_turn, x_while, wh_test, x_pass, x_brk, x_cnt, asg_nm, asg_tup, asg_cons, asg_nil, List.getElem?_cons_zero, List.getElem?_cons_succ, List.set_cons_zero, List.set_cons_succ, List.length_cons, List.length_nil, List.map_cons, List.map_nil, List.replicate, List.cons_append, List.nil_append, Option.bind_some, Option.map_some, Option.map_none, Nat.reduceAdd, Nat.reduceSub, Nat.reduceLT, ↓reduceIte, wipeE, ite_self, Option.join_some, Bool.not_true, Bool.not_false, Bool.false_eq_true, and_self, and_true, true_and, isNon, partD, okO_some, okO_none, ok_srcT, ok_srcL, ok_enmT, ok_enmL, seq_ref, lst_ref, b_lenT, b_lenL, b_lenR, b_listT, b_listL, b_listR, b_tupT, b_tupR, b_all, b_any, b_int, b_min, b_max, b_repr, b_ssetR, b_lsetT, b_sortR, b_rangeL1, x_ixT, x_ixR, x_ixL, x_set, m_append, m_extend, m_popAt, c_eq, c_ne, c_in, c_ni, c_lt, c_le, c_gt, c_ge, t_bl, t_ref, o_add, o_sub, o_mul, o_mod, o_div, o_pow, o_cat, n_new, i_tup, i_int, i_non, s_lT0, s_lL0, at_0, at_1, at_2]
    rw [getL_new]
    simp only [okR_some, okR_none, okS_nx, okS_rt, okS_bk, okS_ct, okR_ok, okR_ite, okS_ite, okS_nil, okR_and, okR_or, okR_chn, truth_bl, gc_app, gc_self, cmp_le, cmp_lt, e_var, e_cst, e_tup, e_lst, e_bin, e_neg, e_not, e_cmp, e_isN, e_ntN, e_ite, e_call, e_blt, e_isa, e_mth, e_ix, e_sl, e_lc, es_nil, es_cons, ts_nil', ts_one', lc_turn, it_seq, it_enm, it_zip, it_rng, rng_1, rng_2, okT_some, x_asg, x_par, x_sub, x_expr, x_ret, x_if, x_for, for_turn, x_while, wh_test, x_pass, x_brk, x_cnt, asg_nm, asg_tup, asg_cons, asg_nil, List.getElem?_cons_zero, List.getElem?_cons_succ, List.set_cons_zero, List.set_cons_succ, List.length_cons, List.length_nil, List.map_cons, List.map_nil, List.replicate, List.cons_append, List.nil_append, Option.bind_some, Option.map_some, Option.map_none, Nat.reduceAdd, Nat.reduceSub, Nat.reduceLT, ↓reduceIte, wipeE, ite_self, Option.join_some, Bool.not_true, Bool.not_false, Bool.false_eq_true, and_self, and_true, true_and, isNon, partD, okO_some, okO_none, ok_srcT, ok_srcL, ok_enmT, ok_enmL, seq_ref, lst_ref, b_lenT, b_lenL, b_lenR, b_listT, b_listL, b_listR, b_tupT, b_tupR, b_all, b_any, b_int, b_min, b_max, b_repr, b_ssetR, b_lsetT, b_sortR, b_rangeL1, x_ixT, x_ixR, x_ixL, x_set, m_append, m_extend, m_popAt, c_eq, c_ne, c_in, c_ni, c_lt, c_le, c_gt, c_ge, t_bl, t_ref, o_add, o_sub, o_mul, o_mod, o_div, o_pow, o_cat, n_new, i_tup, i_int, i_non, s_lT0, s_lL0, at_0, at_1, at_2]
    rw [if_pos (by rw [List.length_map, List.length_map, List.length_map]; omega)]
    exact gc_end ⟨_, _, rfl, by rw [List.length_append, List.length_append]; omega, by rw [List.append_assoc, List.append_assoc], by rw [getL_new, ← List.map_append]; rfl⟩ (fun _ hc => absurd hc (by simp [cleanD])) (lev_same _ _ _)
theorem eq_00 {s : MS} {m n : Nat} (h1 : getL s m = some []) (h2 : getL s n = some []) : eqD s (.ref m) (.ref n) = some true := by
  rw [eq_LL (ns := []) (ms := []) h1 h2]
  rfl
theorem filterMap_none {α β : Type} (l : List α) : l.filterMap (fun _ => (none : Option β)) = [] := by
  induction l with
  | nil => rfl
  | cons a r ih => rw [List.filterMap_cons]; exact ih
theorem right_ok (fuel k : Nat) (s : MS) {sm wt : List Int} {rs : List Rl} {ch : List Nat} (hr : RsOk rs) (v : Valid rs sm ch) (hl : ch.length ≤ 7) (hsm : sm.length ≤ 50) (hw : wt.length ≤ 900) (hin : ∀ x ∈ wt, x ∈ knOf rs sm ch) : okR ((L fuel (k + 2)).fn "_law_is_right" [rsD rs, tI sm, tI wt, tI (chI ch)] s)
    (fun d s' => d = .bl true ∧ s' = s) := by
  rw [fn__law_is_right]
  refine okR_fnD ?_
  unfold c__law_is_right
  rw [okS_cons]
  simp only [okR_some, okR_none, okS_nx, okS_rt, okS_bk, okS_ct, okR_ok, okR_ite, okS_ite, okS_nil, okR_and, okR_or, okR_chn, truth_bl, gc_app, gc_self, cmp_le, cmp_lt, e_var, e_cst, e_tup, e_lst, e_bin, e_neg, e_not, e_cmp, e_isN, e_ntN, e_ite, e_call, e_blt, e_isa, e_mth, e_ix, e_sl, e_lc, es_nil, es_cons, ts_nil', ts_one', lc_turn, it_seq, it_enm, it_zip, it_rng, rng_1, rng_2, okT_some, x_asg, x_par, x_sub, x_expr, x_ret, x_if, x_for, for_turn, x_while, wh_test, x_pass, x_brk, x_cnt, asg_nm, asg_tup, asg_cons, asg_nil, List.getElem?_cons_zero, List.getElem?_cons_succ, List.set_cons_zero, List.set_cons_succ, List.length_cons, List.length_nil, List.map_cons, List.map_nil, List.replicate, List.cons_append, List.nil_append, Option.bind_some, Option.map_some, Option.map_none, Nat.reduceAdd, Nat.reduceSub, Nat.reduceLT, ↓reduceIte, wipeE, ite_self, Option.join_some, Bool.not_true, Bool.not_false, Bool.false_eq_true, and_self, and_true, true_and, isNon, partD, okO_some, okO_none, ok_srcT, ok_srcL, ok_enmT, ok_enmL, seq_ref, lst_ref, b_lenT, b_lenL, b_lenR, b_listT, b_listL, b_listR, b_tupT, b_tupR, b_all, b_any, b_int, b_min, b_max, b_repr, b_ssetR, b_lsetT, b_sortR, b_rangeL1, x_ixT, x_ixR, x_ixL, x_set, m_append, m_extend, m_popAt, c_eq, c_ne, c_in, c_ni, c_lt, c_le, c_gt, c_ge, t_bl, t_ref, o_add, o_sub, o_mul, o_mod, o_div, o_pow, o_cat, n_new, i_tup, i_int, i_non, s_lT0, s_lL0, at_0, at_1, at_2, ty3]
  refine lc_T (fun _ => none) (by unfold chI; rw [List.length_map]; omega) (fun x hx => ?_) ?_
  · obtain ⟨n, hn, rfl⟩ := List.mem_map.mp hx
    obtain ⟨r, hrr⟩ := valid_get v n hn
    have hlt := (List.getElem?_eq_some_iff.mp hrr).1
    simp only [okR_some, okR_none, okS_nx, okS_rt, okS_bk, okS_ct, okR_ok, okR_ite, okS_ite, okS_nil, okR_and, okR_or, okR_chn, truth_bl, gc_app, gc_self, cmp_le, cmp_lt, e_var, e_cst, e_tup, e_lst, e_bin, e_neg, e_not, e_cmp, e_isN, e_ntN, e_ite, e_call, e_blt, e_isa, e_mth, e_ix, e_sl, e_lc, es_nil, es_cons, ts_nil', ts_one', lc_turn, it_seq, it_enm, it_zip, it_rng, rng_1, rng_2, okT_some, x_asg, x_par, x_sub, x_expr, x_ret, x_if, x_for, for_turn, x_while, wh_test, x_pass, x_brk, x_cnt, asg_nm, asg_tup, asg_cons, asg_nil, List.getElem?_cons_zero, List.getElem?_cons_succ, List.set_cons_zero, List.set_cons_succ, List.length_cons, List.length_nil, List.map_cons, List.map_nil, List.replicate, List.cons_append, List.nil_append, Option.bind_some, Option.map_some, Option.map_none, Nat.reduceAdd, Nat.reduceSub, Nat.reduceLT, ↓reduceIte, wipeE, ite_self, Option.join_some, Bool.not_true, Bool.not_false, Bool.false_eq_true, and_self, and_true, true_and, isNon, partD, okO_some, okO_none, ok_srcT, ok_srcL, ok_enmT, ok_enmL, seq_ref, lst_ref, b_lenT, b_lenL, b_lenR, b_listT, b_listL, b_listR, b_tupT, b_tupR, b_all, b_any, b_int, b_min, b_max, b_repr, b_ssetR, b_lsetT, b_sortR, b_rangeL1, x_ixT, x_ixR, x_ixL, x_set, m_append, m_extend, m_popAt, c_eq, c_ne, c_in, c_ni, c_lt, c_le, c_gt, c_ge, t_bl, t_ref, o_add, o_sub, o_mul, o_mod, o_div, o_pow, o_cat, n_new, i_tup, i_int, i_non, s_lT0, s_lL0, at_0, at_1, at_2]
    refine okR_mono (whole_ok fuel k s (v := (n : Int)) (lo := 0) (hi := ((rs.map rD).length : Nat) - 1) (by omega) (by rw [List.length_map]; omega)) ?_
    rintro d t ⟨rfl, rfl⟩
    simp only [okR_some, okR_none, okS_nx, okS_rt, okS_bk, okS_ct, okR_ok, okR_ite, okS_ite, okS_nil, okR_and, okR_or, okR_chn, truth_bl, gc_app, gc_self, cmp_le, cmp_lt, e_var, e_cst, e_tup, e_lst, e_bin, e_neg, e_not, e_cmp, e_isN, e_ntN, e_ite, e_call, e_blt, e_isa, e_mth, e_ix, e_sl, e_lc, es_nil, es_cons, ts_nil', ts_one', lc_turn, it_seq, it_enm, it_zip, it_rng, rng_1, rng_2, okT_some, x_asg, x_par, x_sub, x_expr, x_ret, x_if, x_for, for_turn, x_while, wh_test, x_pass, x_brk, x_cnt, asg_nm, asg_tup, asg_cons, asg_nil, List.getElem?_cons_zero, List.getElem?_cons_succ, List.set_cons_zero, List.set_cons_succ, List.length_cons, List.length_nil, List.map_cons, List.map_nil, List.replicate, List.cons_append, List.nil_append, Option.bind_some, Option.map_some, Option.map_none, Nat.reduceAdd, Nat.reduceSub, Nat.reduceLT, ↓reduceIte, wipeE, ite_self, Option.join_some, Bool.not_true, Bool.not_false, Bool.false_eq_true, and_self, and_true, true_and, isNon, partD, okO_some, okO_none, ok_srcT, ok_srcL, ok_enmT, ok_enmL, seq_ref, lst_ref, b_lenT, b_lenL, b_lenR, b_listT, b_listL, b_listR, b_tupT, b_tupR, b_all, b_any, b_int, b_min, b_max, b_repr, b_ssetR, b_lsetT, b_sortR, b_rangeL1, x_ixT, x_ixR, x_ixL, x_set, m_append, m_extend, m_popAt, c_eq, c_ne, c_in, c_ni, c_lt, c_le, c_gt, c_ge, t_bl, t_ref, o_add, o_sub, o_mul, o_mod, o_div, o_pow, o_cat, n_new, i_tup, i_int, i_non, s_lT0, s_lL0, at_0, at_1, at_2]
  · rw [filterMap_none, eq_00 (getL_app getL_new) getL_new]
    simp only [okR_some, okR_none, okS_nx, okS_rt, okS_bk, okS_ct, okR_ok, okR_ite, okS_ite, okS_nil, okR_and, okR_or, okR_chn, truth_bl, gc_app, gc_self, cmp_le, cmp_lt, e_var, e_cst, e_tup, e_lst, e_bin, e_neg, e_not, e_cmp, e_isN, e_ntN, e_ite, e_call, e_blt, e_isa, e_mth, e_ix, e_sl, e_lc, es_nil, es_cons, ts_nil', ts_one', lc_turn, it_seq, it_enm, it_zip, it_rng, rng_1, rng_2, okT_some, x_asg, x_par, x_sub, x_expr, x_ret, x_if, x_for, for_turn, x_while, wh_test, x_pass, x_brk, x_cnt, asg_nm, asg_tup, asg_cons, asg_nil, List.getElem?_cons_zero, List.getElem?_cons_succ, List.set_cons_zero, List.set_cons_succ, List.length_cons, List.length_nil, List.map_cons, List.map_nil, List.replicate, List.cons_append, List.nil_append, Option.bind_some, Option.map_some, Option.map_none, Nat.reduceAdd, Nat.reduceSub, Nat.reduceLT, ↓reduceIte, wipeE, ite_self, Option.join_some, Bool.not_true, Bool.not_false, Bool.false_eq_true, and_self, and_true, true_and, isNon, partD, okO_some, okO_none, ok_srcT, ok_srcL, ok_enmT, ok_enmL, seq_ref, lst_ref, b_lenT, b_lenL, b_lenR, b_listT, b_listL, b_listR, b_tupT, b_tupR, b_all, b_any, b_int, b_min, b_max, b_repr, b_ssetR, b_lsetT, b_sortR, b_rangeL1, x_ixT, x_ixR, x_ixL, x_set, m_append, m_extend, m_popAt, c_eq, c_ne, c_in, c_ni, c_lt, c_le, c_gt, c_ge, t_bl, t_ref, o_add, o_sub, o_mul, o_mod, o_div, o_pow, o_cat, n_new, i_tup, i_int, i_non, s_lT0, s_lL0, at_0, at_1, at_2]
    rw [List.append_assoc, gc_if, okS_cons]
    simp only [okR_some, okR_none, okS_nx, okS_rt, okS_bk, okS_ct, okR_ok, okR_ite, okS_ite, okS_nil, okR_and, okR_or, okR_chn, truth_bl, gc_app, gc_self, cmp_le, cmp_lt, e_var, e_cst, e_tup, e_lst, e_bin, e_neg, e_not, e_cmp, e_isN, e_ntN, e_ite, e_call, e_blt, e_isa, e_mth, e_ix, e_sl, e_lc, es_nil, es_cons, ts_nil', ts_one', lc_turn, it_seq, it_enm, it_zip, it_rng, rng_1, rng_2, okT_some, x_asg, x_par, x_sub, x_expr, x_ret, x_if, x_for, for_turn, x_while, wh_test, x_pass, x_brk, x_cnt, asg_nm, asg_tup, asg_cons, asg_nil, List.getElem?_cons_zero, List.getElem?_cons_succ, List.set_cons_zero, List.set_cons_succ, List.length_cons, List.length_nil, List.map_cons, List.map_nil, List.replicate, List.cons_append, List.nil_append, Option.bind_some, Option.map_some, Option.map_none, Nat.reduceAdd, Nat.reduceSub, Nat.reduceLT, ↓reduceIte, wipeE, ite_self, Option.join_some, Bool.not_true, Bool.not_false, Bool.false_eq_true, and_self, and_true, true_and, isNon, partD, okO_some, okO_none, ok_srcT, ok_srcL, ok_enmT, ok_enmL, seq_ref, lst_ref, b_lenT, b_lenL, b_lenR, b_listT, b_listL, b_listR, b_tupT, b_tupR, b_all, b_any, b_int, b_min, b_max, b_repr, b_ssetR, b_lsetT, b_sortR, b_rangeL1, x_ixT, x_ixR, x_ixL, x_set, m_append, m_extend, m_popAt, c_eq, c_ne, c_in, c_ni, c_lt, c_le, c_gt, c_ge, t_bl, t_ref, o_add, o_sub, o_mul, o_mod, o_div, o_pow, o_cat, n_new, i_tup, i_int, i_non, s_lT0, s_lL0, at_0, at_1, at_2]
    rw [ints_of]
    simp only [okR_some, okR_none, okS_nx, okS_rt, okS_bk, okS_ct, okR_ok, okR_ite, okS_ite, okS_nil, okR_and, okR_or, okR_chn, truth_bl, gc_app, gc_self, cmp_le, cmp_lt, e_var, e_cst, e_tup, e_lst, e_bin, e_neg, e_not, e_cmp, e_isN, e_ntN, e_ite, e_call, e_blt, e_isa, e_mth, e_ix, e_sl, e_lc, es_nil, es_cons, ts_nil', ts_one', lc_turn, it_seq, it_enm, it_zip, it_rng, rng_1, rng_2, okT_some, x_asg, x_par, x_sub, x_expr, x_ret, x_if, x_for, for_turn, x_while, wh_test, x_pass, x_brk, x_cnt, asg_nm, asg_tup, asg_cons, asg_nil, List.getElem?_cons_zero, List.getElem?_cons_succ, List.set_cons_zero, List.set_cons_succ, List.length_cons, List.length_nil, List.map_cons, List.map_nil, List.replicate, List.cons_append, List.nil_append, Option.bind_some, Option.map_some, Option.map_none, Nat.reduceAdd, Nat.reduceSub, Nat.reduceLT, ↓reduceIte, wipeE, ite_self, Option.join_some, Bool.not_true, Bool.not_false, Bool.false_eq_true, and_self, and_true, true_and, isNon, partD, okO_some, okO_none, ok_srcT, ok_srcL, ok_enmT, ok_enmL, seq_ref, lst_ref, b_lenT, b_lenL, b_lenR, b_listT, b_listL, b_listR, b_tupT, b_tupR, b_all, b_any, b_int, b_min, b_max, b_repr, b_ssetR, b_lsetT, b_sortR, b_rangeL1, x_ixT, x_ixR, x_ixL, x_set, m_append, m_extend, m_popAt, c_eq, c_ne, c_in, c_ni, c_lt, c_le, c_gt, c_ge, t_bl, t_ref, o_add, o_sub, o_mul, o_mod, o_div, o_pow, o_cat, n_new, i_tup, i_int, i_non, s_lT0, s_lL0, at_0, at_1, at_2]
    have hcl : (chI ch).length ≤ 7 := by unfold chI; rw [List.length_map]; exact hl
    rw [if_pos (by omega), eq_int, decide_eq_true (by rw [List.length_map, ← srt_len (valid_nd v) (fun k => Iff.rfl)])]
    simp only [okR_some, okR_none, okS_nx, okS_rt, okS_bk, okS_ct, okR_ok, okR_ite, okS_ite, okS_nil, okR_and, okR_or, okR_chn, truth_bl, gc_app, gc_self, cmp_le, cmp_lt, e_var, e_cst, e_tup, e_lst, e_bin, e_neg, e_not, e_cmp, e_isN, e_ntN, e_ite, e_call, e_blt, e_isa, e_mth, e_ix, e_sl, e_lc, es_nil, es_cons, ts_nil', ts_one', lc_turn, it_seq, it_enm, it_zip, it_rng, rng_1, rng_2, okT_some, x_asg, x_par, x_sub, x_expr, x_ret, x_if, x_for, for_turn, x_while, wh_test, x_pass, x_brk, x_cnt, asg_nm, asg_tup, asg_cons, asg_nil, List.getElem?_cons_zero, List.getElem?_cons_succ, List.set_cons_zero, List.set_cons_succ, List.length_cons, List.length_nil, List.map_cons, List.map_nil, List.replicate, List.cons_append, List.nil_append, Option.bind_some, Option.map_some, Option.map_none, Nat.reduceAdd, Nat.reduceSub, Nat.reduceLT, ↓reduceIte, wipeE, ite_self, Option.join_some, Bool.not_true, Bool.not_false, Bool.false_eq_true, and_self, and_true, true_and, isNon, partD, okO_some, okO_none, ok_srcT, ok_srcL, ok_enmT, ok_enmL, seq_ref, lst_ref, b_lenT, b_lenL, b_lenR, b_listT, b_listL, b_listR, b_tupT, b_tupR, b_all, b_any, b_int, b_min, b_max, b_repr, b_ssetR, b_lsetT, b_sortR, b_rangeL1, x_ixT, x_ixR, x_ixL, x_set, m_append, m_extend, m_popAt, c_eq, c_ne, c_in, c_ni, c_lt, c_le, c_gt, c_ge, t_bl, t_ref, o_add, o_sub, o_mul, o_mod, o_div, o_pow, o_cat, n_new, i_tup, i_int, i_non, s_lT0, s_lL0, at_0, at_1, at_2]
    refine okR_mono (break_ok fuel k s hr v hl hsm) ?_
    rintro d S1 ⟨n, t, rfl, hn, rfl, g1⟩
    rw [eq_00 (getL_app g1) getL_new]
    simp only [okR_some, okR_none, okS_nx, okS_rt, okS_bk, okS_ct, okR_ok, okR_ite, okS_ite, okS_nil, okR_and, okR_or, okR_chn, truth_bl, gc_app, gc_self, cmp_le, cmp_lt, e_var, e_cst, e_tup, e_lst, e_bin, e_neg, e_not, e_cmp, e_isN, e_ntN, e_ite, e_call, e_blt, e_isa, e_mth, e_ix, e_sl, e_lc, es_nil, es_cons, ts_nil', ts_one', lc_turn, it_seq, it_enm, it_zip, it_rng, rng_1, rng_2, okT_some, x_asg, x_par, x_sub, x_expr, x_ret, x_if, x_for, for_turn, x_while, wh_test, x_pass, x_brk, x_cnt, asg_nm, asg_tup, asg_cons, asg_nil, List.getElem?_cons_zero, List.getElem?_cons_succ, List.set_cons_zero, List.set_cons_succ, List.length_cons, List.length_nil, List.map_cons, List.map_nil, List.replicate, List.cons_append, List.nil_append, Option.bind_some, Option.map_some, Option.map_none, Nat.reduceAdd, Nat.reduceSub, Nat.reduceLT, ↓reduceIte, wipeE, ite_self, Option.join_some, Bool.not_true, Bool.not_false, Bool.false_eq_true, and_self, and_true, true_and, isNon, partD, okO_some, okO_none, ok_srcT, ok_srcL, ok_enmT, ok_enmL, seq_ref, lst_ref, b_lenT, b_lenL, b_lenR, b_listT, b_listL, b_listR, b_tupT, b_tupR, b_all, b_any, b_int, b_min, b_max, b_repr, b_ssetR, b_lsetT, b_sortR, b_rangeL1, x_ixT, x_ixR, x_ixL, x_set, m_append, m_extend, m_popAt, c_eq, c_ne, c_in, c_ni, c_lt, c_le, c_gt, c_ge, t_bl, t_ref, o_add, o_sub, o_mul, o_mod, o_div, o_pow, o_cat, n_new, i_tup, i_int, i_non, s_lT0, s_lL0, at_0, at_1, at_2]
    rw [List.append_assoc, gc_if, okS_cons]
    simp only [okR_some, okR_none, okS_nx, okS_rt, okS_bk, okS_ct, okR_ok, okR_ite, okS_ite, okS_nil, okR_and, okR_or, okR_chn, truth_bl, gc_app, gc_self, cmp_le, cmp_lt, e_var, e_cst, e_tup, e_lst, e_bin, e_neg, e_not, e_cmp, e_isN, e_ntN, e_ite, e_call, e_blt, e_isa, e_mth, e_ix, e_sl, e_lc, es_nil, es_cons, ts_nil', ts_one', lc_turn, it_seq, it_enm, it_zip, it_rng, rng_1, rng_2, okT_some, x_asg, x_par, x_sub, x_expr, x_ret, x_if, x_for, for_turn, x_while, wh_test, x_pass, x_brk, x_cnt, asg_nm, asg_tup, asg_cons, asg_nil, List.getElem?_cons_zero, List.getElem?_cons_succ, List.set_cons_zero, List.set_cons_succ, List.length_cons, List.length_nil, List.map_cons, List.map_nil, List.replicate, List.cons_append, List.nil_append, Option.bind_some, Option.map_some, Option.map_none, Nat.reduceAdd, Nat.reduceSub, Nat.reduceLT, ↓reduceIte, wipeE, ite_self, Option.join_some, Bool.not_true, Bool.not_false, Bool.false_eq_true, and_self, and_true, true_and, isNon, partD, okO_some, okO_none, ok_srcT, ok_srcL, ok_enmT, ok_enmL, seq_ref, lst_ref, b_lenT, b_lenL, b_lenR, b_listT, b_listL, b_listR, b_tupT, b_tupR, b_all, b_any, b_int, b_min, b_max, b_repr, b_ssetR, b_lsetT, b_sortR, b_rangeL1, x_ixT, x_ixR, x_ixL, x_set, m_append, m_extend, m_popAt, c_eq, c_ne, c_in, c_ni, c_lt, c_le, c_gt, c_ge, t_bl, t_ref, o_add, o_sub, o_mul, o_mod, o_div, o_pow, o_cat, n_new, i_tup, i_int, i_non, s_lT0, s_lL0, at_0, at_1, at_2]
    refine lc_T (fun _ => none) (by omega) (fun x hx => ?_) ?_
    · simp only [okR_some, okR_none, okS_nx, okS_rt, okS_bk, okS_ct, okR_ok, okR_ite, okS_ite, okS_nil, okR_and, okR_or, okR_chn, truth_bl, gc_app, gc_self, cmp_le, cmp_lt, e_var, e_cst, e_tup, e_lst, e_bin, e_neg, e_not, e_cmp, e_isN, e_ntN, e_ite, e_call, e_blt, e_isa, e_mth, e_ix, e_sl, e_lc, es_nil, es_cons, ts_nil', ts_one', lc_turn, it_seq, it_enm, it_zip, it_rng, rng_1, rng_2, okT_some, x_asg, x_par, x_sub, x_expr, x_ret, x_if, x_for, for_turn, x_while, wh_test, x_pass, x_brk, x_cnt, asg_nm, asg_tup, asg_cons, asg_nil, List.getElem?_cons_zero, List.getElem?_cons_succ, List.set_cons_zero, List.set_cons_succ, List.length_cons, List.length_nil, List.map_cons, List.map_nil, List.replicate, List.cons_append, List.nil_append, Option.bind_some, Option.map_some, Option.map_none, Nat.reduceAdd, Nat.reduceSub, Nat.reduceLT, ↓reduceIte, wipeE, ite_self, Option.join_some, Bool.not_true, Bool.not_false, Bool.false_eq_true, and_self, and_true, true_and, isNon, partD, okO_some, okO_none, ok_srcT, ok_srcL, ok_enmT, ok_enmL, seq_ref, lst_ref, b_lenT, b_lenL, b_lenR, b_listT, b_listL, b_listR, b_tupT, b_tupR, b_all, b_any, b_int, b_min, b_max, b_repr, b_ssetR, b_lsetT, b_sortR, b_rangeL1, x_ixT, x_ixR, x_ixL, x_set, m_append, m_extend, m_popAt, c_eq, c_ne, c_in, c_ni, c_lt, c_le, c_gt, c_ge, t_bl, t_ref, o_add, o_sub, o_mul, o_mod, o_div, o_pow, o_cat, n_new, i_tup, i_int, i_non, s_lT0, s_lL0, at_0, at_1, at_2]
      refine okR_mono (lreached_ok fuel k s v hl hsm) ?_
      rintro d S2 ⟨n, t, rfl, hn, rfl, g1⟩
      rw [in_R g1, decide_eq_true (hin x hx)]
      simp only [okR_some, okR_none, okS_nx, okS_rt, okS_bk, okS_ct, okR_ok, okR_ite, okS_ite, okS_nil, okR_and, okR_or, okR_chn, truth_bl, gc_app, gc_self, cmp_le, cmp_lt, e_var, e_cst, e_tup, e_lst, e_bin, e_neg, e_not, e_cmp, e_isN, e_ntN, e_ite, e_call, e_blt, e_isa, e_mth, e_ix, e_sl, e_lc, es_nil, es_cons, ts_nil', ts_one', lc_turn, it_seq, it_enm, it_zip, it_rng, rng_1, rng_2, okT_some, x_asg, x_par, x_sub, x_expr, x_ret, x_if, x_for, for_turn, x_while, wh_test, x_pass, x_brk, x_cnt, asg_nm, asg_tup, asg_cons, asg_nil, List.getElem?_cons_zero, List.getElem?_cons_succ, List.set_cons_zero, List.set_cons_succ, List.length_cons, List.length_nil, List.map_cons, List.map_nil, List.replicate, List.cons_append, List.nil_append, Option.bind_some, Option.map_some, Option.map_none, Nat.reduceAdd, Nat.reduceSub, Nat.reduceLT, ↓reduceIte, wipeE, ite_self, Option.join_some, Bool.not_true, Bool.not_false, Bool.false_eq_true, and_self, and_true, true_and, isNon, partD, okO_some, okO_none, ok_srcT, ok_srcL, ok_enmT, ok_enmL, seq_ref, lst_ref, b_lenT, b_lenL, b_lenR, b_listT, b_listL, b_listR, b_tupT, b_tupR, b_all, b_any, b_int, b_min, b_max, b_repr, b_ssetR, b_lsetT, b_sortR, b_rangeL1, x_ixT, x_ixR, x_ixL, x_set, m_append, m_extend, m_popAt, c_eq, c_ne, c_in, c_ni, c_lt, c_le, c_gt, c_ge, t_bl, t_ref, o_add, o_sub, o_mul, o_mod, o_div, o_pow, o_cat, n_new, i_tup, i_int, i_non, s_lT0, s_lL0, at_0, at_1, at_2]
    · rw [filterMap_none, eq_00 (getL_app getL_new) getL_new]
      simp only [okR_some, okR_none, okS_nx, okS_rt, okS_bk, okS_ct, okR_ok, okR_ite, okS_ite, okS_nil, okR_and, okR_or, okR_chn, truth_bl, gc_app, gc_self, cmp_le, cmp_lt, e_var, e_cst, e_tup, e_lst, e_bin, e_neg, e_not, e_cmp, e_isN, e_ntN, e_ite, e_call, e_blt, e_isa, e_mth, e_ix, e_sl, e_lc, es_nil, es_cons, ts_nil', ts_one', lc_turn, it_seq, it_enm, it_zip, it_rng, rng_1, rng_2, okT_some, x_asg, x_par, x_sub, x_expr, x_ret, x_if, x_for, for_turn, x_while, wh_test, x_pass, x_brk, x_cnt, asg_nm, asg_tup, asg_cons, asg_nil, List.getElem?_cons_zero, List.getElem?_cons_succ, List.set_cons_zero, List.set_cons_succ, List.length_cons, List.length_nil, List.map_cons, List.map_nil, List.replicate, List.cons_append, List.nil_append, Option.bind_some, Option.map_some, Option.map_none, Nat.reduceAdd, Nat.reduceSub, Nat.reduceLT, ↓reduceIte, wipeE, ite_self, Option.join_some, Bool.not_true, Bool.not_false, Bool.false_eq_true, and_self, and_true, true_and, isNon, partD, okO_some, okO_none, ok_srcT, ok_srcL, ok_enmT, ok_enmL, seq_ref, lst_ref, b_lenT, b_lenL, b_lenR, b_listT, b_listL, b_listR, b_tupT, b_tupR, b_all, b_any, b_int, b_min, b_max, b_repr, b_ssetR, b_lsetT, b_sortR, b_rangeL1, x_ixT, x_ixR, x_ixL, x_set, m_append, m_extend, m_popAt, c_eq, c_ne, c_in, c_ni, c_lt, c_le, c_gt, c_ge, t_bl, t_ref, o_add, o_sub, o_mul, o_mod, o_div, o_pow, o_cat, n_new, i_tup, i_int, i_non, s_lT0, s_lL0, at_0, at_1, at_2]
      rw [List.append_assoc]
      exact gc_pure rfl ⟨rfl, rfl⟩
end K03

namespace Mir
open PySem
/-! what repr shows -/
structure Shw (m d : Nat) (p : PyData) : Prop where
  sh : p.showable = true
  lf : p.leavesShort 13 = true
  nd : p.hasDict = false
  w : p.weight ≤ m
  d : p.depth ≤ d
theorem Shw.int {i : Int} (h0 : 0 ≤ i) (h1 : i ≤ 1000) : Shw 10 0 (.int i) := by
  have hn : i.natAbs ≤ 1000 := by omega
  have hlog : i.natAbs.log2 < 10 := by
    by_cases e : i.natAbs = 0
    · rw [e]; decide
    · exact (Nat.log2_lt e).mpr (by omega)
  refine ⟨?_, ?_, rfl, ?_, Nat.le_refl _⟩
  · simp only [PyData.showable, decide_eq_true_eq]; omega
  · simp only [PyData.leavesShort, decide_eq_true_eq]; exact PyData.shown_int_le (by omega)
  · simp only [PyData.weight]; split <;> omega
theorem Shw.all {m d : Nat} : ∀ {xs : List PyData}, (∀ x ∈ xs, Shw m d x) → PyData.showableAll xs = true ∧ PyData.leavesShortAll 13 xs = true ∧ PyData.hasDictAll xs = false ∧ PyData.weightAll xs ≤ xs.length * (m + 1) ∧ PyData.depthAll xs ≤ d
  | [], _ => ⟨rfl, rfl, rfl, Nat.zero_le _, Nat.zero_le _⟩
  | x :: xs, h => by
    have hx := h x List.mem_cons_self
    obtain ⟨h1, h2, h3, h4, h5⟩ := Shw.all fun y hy => h y (List.mem_cons_of_mem _ hy)
    refine ⟨by simp [PyData.showableAll, hx.sh, h1], by simp [PyData.leavesShortAll, hx.lf, h2], by simp [PyData.hasDictAll, hx.nd, h3], ?_, ?_⟩
    · have := hx.w
      simp only [PyData.weightAll, List.length_cons, Nat.succ_mul]
      omega
    · have := hx.d
      simp only [PyData.depthAll]
      omega
theorem Shw.tup {m d n : Nat} {xs : List PyData} (h : ∀ x ∈ xs, Shw m d x) (hl : xs.length ≤ n) : Shw (n * (m + 1)) (d + 1) (.tuple xs) := by
  obtain ⟨h1, h2, h3, h4, h5⟩ := Shw.all h
  have := Nat.mul_le_mul_right (m + 1) hl
  exact ⟨by simp [PyData.showable, h1], by simp [PyData.leavesShort, h2], by simp [PyData.hasDict, h3], by simp only [PyData.weight]; omega, by simp only [PyData.depth]; omega⟩
theorem Shw.le {m d m' d' : Nat} {p : PyData} (h : Shw m d p) (h1 : m ≤ m') (h2 : d ≤ d') : Shw m' d' p := ⟨h.sh, h.lf, h.nd, Nat.le_trans h.w h1, Nat.le_trans h.d h2⟩
theorem Shw.ok {m d : Nat} {p : PyData} (h : Shw m d p) (hm : m ≤ 60000) (hd : d ≤ 60) : isShow p = true := by
  have h1 := PyData.shown_le 13 (by decide) p h.lf
  have h2 := h.w
  have h3 := h.d
  unfold isShow
  rw [h.sh, h.nd, decide_eq_true (by omega), decide_eq_true (by omega)]
  rfl
theorem mapM_map {s : MS} {n : Nat} {α : Type} {f : α → D} {f' : α → PyData} : ∀ {l : List α}, (∀ x ∈ l, toPy s n (f x) = some (f' x)) → (l.map f).mapM (toPy s n) = some (l.map f')
  | [], _ => rfl
  | a :: r, h => by
    rw [List.map_cons, List.mapM_cons, h a List.mem_cons_self, mapM_map fun x hx => h x (List.mem_cons_of_mem _ hx)]
    rfl
theorem py_tup {s : MS} {n : Nat} {ds : List D} {ps : List PyData} (h : ds.mapM (toPy s n) = some ps) : toPy s (n + 1) (.tup ds) = some (.tuple ps) := by
  rw [toPy, h]
  rfl
end Mir
namespace K03
open PySem Mir
def pI (xs : List Int) : PyData := .tuple (xs.map PyData.int)
def pR (r : Rl) : PyData := .tuple [.int r.t, pI r.xs, .int r.y]
def pQ (hd : List Int) (as : List (List Int)) (rs : List Rl) : PyData := .tuple [.tuple [pI hd, .tuple (as.map pI)], .tuple (rs.map pR)]
theorem py_tI (s : MS) (xs : List Int) : py s (tI xs) = some (pI xs) := py_tints s 38 xs
theorem py_q (s : MS) (hd : List Int) (as : List (List Int)) (rs : List Rl) : py s (.tup [qD hd as, rsD rs]) = some (pQ hd as rs) := by
  have h1 : toPy s 39 (qD hd as) = some (.tuple [pI hd, .tuple (as.map pI)]) := by
    refine py_tup (n := 38) ?_
    have e : toPy s 38 (.tup (as.map tI)) = some (.tuple (as.map pI)) := py_tup (n := 37) (mapM_map fun x _ => py_tints s 35 x)
    rw [List.mapM_cons, py_tints s 36 hd, List.mapM_cons, e]
    rfl
  have h2 : toPy s 39 (rsD rs) = some (.tuple (rs.map pR)) := by
    refine py_tup (n := 38) (mapM_map fun r _ => ?_)
    refine py_tup (n := 37) ?_
    rw [List.mapM_cons, py_int r.t s 36, List.mapM_cons, py_tints s 35 r.xs, List.mapM_cons, py_int r.y s 36]
    rfl
  refine py_tup (n := 39) ?_
  rw [List.mapM_cons, h1, List.mapM_cons, h2]
  rfl
theorem shw_I {xs : List Int} {n : Nat} (h : ∀ x ∈ xs, InR x) (hl : xs.length ≤ n) : Shw (n * 11) 1 (pI xs) :=
  Shw.tup (m := 10) (d := 0) (fun x hx => by
    obtain ⟨i, hi, rfl⟩ := List.mem_map.mp hx
    have := h i hi
    unfold InR at this
    exact Shw.int (by omega) (by omega)) (by rw [List.length_map]; exact hl)
theorem mem2 {p q x : PyData} {P : PyData → Prop} (hp : P p) (hq : P q) (h : x ∈ [p, q]) : P x := by
  rcases List.mem_cons.mp h with rfl | h
  · exact hp
  · rcases List.mem_cons.mp h with rfl | h
    · exact hq
    · exact (List.not_mem_nil h).elim
theorem mem3 {p q r x : PyData} {P : PyData → Prop} (hp : P p) (hq : P q) (hr : P r) (h : x ∈ [p, q, r]) : P x := by
  rcases List.mem_cons.mp h with rfl | h
  · exact hp
  · exact mem2 hq hr h
theorem shw_q {hd : List Int} {as : List (List Int)} {rs : List Rl} (q : QOk hd as) (r : RsOk rs) : isShow (pQ hd as rs) = true := by
  have h1 : Shw 225 2 (.tuple (as.map pI)) := Shw.tup (m := 44) (d := 1) (n := 5) (fun x hx => by
    obtain ⟨xs, hm, rfl⟩ := List.mem_map.mp hx
    have := q.a2 xs hm
    exact shw_I this.2.2 this.2.1) (by rw [List.length_map]; exact q.a1)
  have h2 : Shw 1388 3 (.tuple [pI hd, .tuple (as.map pI)]) := Shw.tup (m := 693) (d := 2) (n := 2) (fun x hx => mem2 (P := Shw 693 2) ((shw_I q.h2 q.h1).le (by omega) (by omega)) (h1.le (by omega) (by omega)) hx) (Nat.le_refl _)
  have h3 : Shw 816 3 (.tuple (rs.map pR)) := Shw.tup (m := 135) (d := 2) (n := 6) (fun x hx => by
    obtain ⟨z, hm, rfl⟩ := List.mem_map.mp hx
    have k := r.m z hm
    have k0 := k.t0
    have k1 := k.t1
    have ky := k.y
    unfold InR at ky
    exact Shw.tup (m := 44) (d := 1) (n := 3) (fun x hx => mem3 (P := Shw 44 1) ((Shw.int k0 (by omega)).le (by omega) (by omega)) (shw_I k.m k.l) ((Shw.int ky.1 (by omega)).le (by omega) (by omega)) hx) (Nat.le_refl _)) (by rw [List.length_map]; exact r.l)
  have h4 : Shw 2778 4 (pQ hd as rs) := Shw.tup (m := 1388) (d := 3) (n := 2) (fun x hx => mem2 (P := Shw 1388 3) h2 (h3.le (by omega) (by omega)) hx) (Nat.le_refl _)
  exact h4.ok (by omega) (by omega)
theorem shw_k {xs : List Int} (h : ∀ x ∈ xs, InR x) (hl : xs.length ≤ 100) : isShow (pI xs) = true := (shw_I h hl).ok (by omega) (by omega)
theorem pen_ok (fuel k : Nat) {ns : List Int} : okR ((L fuel (k + 1)).fn "_law_pen" [.rol (ns.map D.int)] []) (fun d s' => d = .ref 2 ∧ PenAt s') := by
  rw [fn__law_pen]
  refine okR_fnD ?_
  unfold c__law_pen
  rw [okS_cons]
  simp only [okR_some, okR_none, okS_nx, okS_rt, okS_bk, okS_ct, okR_ok, okR_ite, okS_ite, okS_nil, okR_and, okR_or, okR_chn, truth_bl, gc_app, gc_self, cmp_le, cmp_lt, e_var, e_cst, e_tup, e_lst, e_bin, e_neg, e_not, e_cmp, e_isN, e_ntN, e_ite, e_call, e_blt, e_isa, e_mth, e_ix, e_sl, e_lc, es_nil, es_cons, ts_nil', ts_one', lc_turn, it_seq, it_enm, it_zip, it_rng, rng_1, rng_2, okT_some, x_asg, x_par, x_sub, x_expr, x_ret, x_if, x_for, for_turn, x_while, wh_test, x_pass, x_brk, x_cnt, asg_nm, asg_tup, asg_cons, asg_nil, List.getElem?_cons_zero, List.getElem?_cons_succ, List.set_cons_zero, List.set_cons_succ, List.length_cons, List.length_nil, List.map_cons, List.map_nil, List.replicate, List.cons_append, List.nil_append, Option.bind_some, Option.map_some, Option.map_none, Nat.reduceAdd, Nat.reduceSub, Nat.reduceLT, ↓reduceIte, wipeE, ite_self, Option.join_some, Bool.not_true, Bool.not_false, Bool.false_eq_true, and_self, and_true, true_and, isNon, partD, okO_some, okO_none, ok_srcT, ok_srcL, ok_enmT, ok_enmL, seq_ref, lst_ref, b_lenT, b_lenL, b_lenR, b_listT, b_listL, b_listR, b_tupT, b_tupR, b_all, b_any, b_int, b_min, b_max, b_repr, b_ssetR, b_lsetT, b_sortR, b_rangeL1, x_ixT, x_ixR, x_ixL, x_set, m_append, m_extend, m_popAt, c_eq, c_ne, c_in, c_ni, c_lt, c_le, c_gt, c_ge, t_bl, t_ref, o_add, o_sub, o_mul, o_mod, o_div, o_pow, o_cat, n_new, i_tup, i_int, i_non, s_lT0, s_lL0, at_0, at_1, at_2]
  have e : cutD (ns.map D.int) none (some 63) = ((ns.drop (HT.sIx (ns.map D.int).length 0 none)).take (HT.sIx (ns.map D.int).length (ns.map D.int).length (some 63) - HT.sIx (ns.map D.int).length 0 none)).map D.int := by
    unfold cutD
    rw [← List.map_drop, ← List.map_take]
  have hl : (cutD (ns.map D.int) none (some 63)).length ≤ 63 := by
    unfold cutD
    rw [List.length_take]
    refine Nat.le_trans (Nat.min_le_left _ _) (Nat.le_trans (Nat.sub_le _ _) ?_)
    rw [show HT.sIx (ns.map D.int).length (ns.map D.int).length (some 63) = min 63 (ns.map D.int).length from HT.sIx_nat _ _ 63]
    exact Nat.min_le_left _ _
  generalize hc : (ns.drop (HT.sIx (ns.map D.int).length 0 none)).take (HT.sIx (ns.map D.int).length (ns.map D.int).length (some 63) - HT.sIx (ns.map D.int).length 0 none) = cells at e
  rw [e, List.length_map] at hl
  rw [e]
  refine gc_end (P := fun d s' => d = .ref 2 ∧ PenAt s') ?_ ?_ (lev_same _ _ _)
  · exact ⟨rfl, cells, 0, 0, rfl, rfl, hl⟩
  · exact fun _ hc => absurd hc (by simp [cleanD])
theorem filter_all {wt cl : List Int} : decide (wt.filter (fun x => !decide (x ∈ cl)) = []) = wt.all fun x => decide (x ∈ cl) := by
  rw [Bool.eq_iff_iff, decide_eq_true_eq, List.filter_eq_nil_iff, List.all_eq_true]
  exact ⟨fun h x hx => by have := h x hx; simpa using this, fun h x hx => by have := h x hx; simpa using this⟩
end K03

namespace K03
open PySem Mir
abbrev Fin : D → MS → Prop := fun d _ => d = .bl true
theorem inner_ok (fuel k : Nat) (hf : 8 ≤ fuel) {s0 : MS} {sc q0 : D} {hd : List Int} {as : List (List Int)} {rs : List Rl} {n : Nat} {kn : List Int} {W : Want} {turn bef lap a8 a9 a10 a11 a12 : Option D} {t : MS} (hq : QOk hd as) (hr : RsOk rs) (pt : PenAt t) (hn : getL t n = some (kn.map D.int)) (hn2 : n ≠ 2) (hkl : kn.length ≤ 20) (hkm : ∀ x ∈ kn, InR x)
    (fin : ∀ lap a8 a9 a10 a11 a12 t, PenAt t → getL t n = some (kn.map D.int) → W.nx [some sc, some (.ref 2), turn, some (qD hd as), some (rsD rs), some (.ref n), bef, lap, a8, a9, a10, a11, a12] t) :
    okS (exSs (L fuel (k + 5)) [.asg (.nm 8) (.blt .tuple [.call "_law_some_of" [.var 1, .var 5, .call "_law_one_of" [.var 1, .lst [.cst (.int 3), .cst (.int 7)]]]]), .asg (.nm 9) (.blt .tuple [.call "_law_some_of" [.var 1, .var 5, .call "_law_one_of" [.var 1, .lst [.cst (.int 3), .cst (.int 7)]]]]), .asg (.nm 10) (.call "_law_closure" [.var 4, .var 8]), .if_ (.cmp .NotEq (.blt .repr [.call "closure_of" [.var 3, .var 4, .var 8]]) (.blt .repr [.blt .tuple [.var 10]])) [.ret (.cst (.bl false))] [], .asg (.nm 11) (.call "chain_for" [.var 3, .var 4, .var 8, .var 9]), .if_ (.cmp .NotEq (.ntN (.var 11)) (.cmp .Eq (.lc (.var 12) [12] (.nm 12) (.seq (.var 9)) [.cmp .NotIn (.var 12) (.var 10)]) (.lst []))) [.ret (.cst (.bl false))] [], .if_ (.ntN (.var 11)) [.if_ (.not (.call "_law_is_right" [.var 4, .var 8, .var 9, .var 11])) [.ret (.cst (.bl false))] []] []]
      [some sc, some (.ref 2), turn, some (qD hd as), some (rsD rs), some (.ref n), bef, lap, a8, a9, a10, a11, a12] t) W := by
  have draw : ∀ t, PenAt t → getL t n = some (kn.map D.int) → okR ((L fuel (k + 5)).fn "_law_one_of" [.ref 2, .ref t.length] (t ++ [MO.lst [.int 3, .int 7]])) (fun d s' => (∃ i, d = .int i ∧ 0 ≤ i ∧ i ≤ 7) ∧ PenAt s' ∧ getL s' n = some (kn.map D.int)) := by
    intro t pt hn
    have h2 := pt.len
    refine okR_mono (one_ok fuel (k + 2) (t ++ [MO.lst [.int 3, .int 7]]) pt.app (a := t.length) (ns := [3, 7]) getL_new (by omega) (by simp) (by simp)) ?_
    rintro d s' ⟨⟨i, rfl, hi⟩, p, e⟩
    have : i = 3 ∨ i = 7 := by simpa using hi
    exact ⟨⟨i, rfl, by omega, by omega⟩, p, e.getL (getL_app hn) hn2⟩
  rw [okS_cons]
  simp only [okR_some, okR_none, okS_nx, okS_rt, okS_bk, okS_ct, okR_ok, okR_ite, okS_ite, okS_nil, okR_and, okR_or, okR_chn, truth_bl, gc_app, gc_self, cmp_le, cmp_lt, e_var, e_cst, e_tup, e_lst, e_bin, e_neg, e_not, e_cmp, e_isN, e_ntN, e_ite, e_call, e_blt, e_isa, e_mth, e_ix, e_sl, e_lc, es_nil, es_cons, ts_nil', ts_one', lc_turn, it_seq, it_enm, it_zip, it_rng, rng_1, rng_2, okT_some, x_asg, x_par, x_sub, x_expr, x_ret, x_if, x_for, for_turn, x_while, wh_test, x_pass, x_brk, x_cnt, asg_nm, asg_tup, asg_cons, asg_nil, List.getElem?_cons_zero, List.getElem?_cons_succ, List.set_cons_zero, List.set_cons_succ, List.length_cons, List.length_nil, List.map_cons, List.map_nil, List.replicate, List.cons_append, List.nil_append, Option.bind_some, Option.map_some, Option.map_none, Nat.reduceAdd, Nat.reduceSub, Nat.reduceLT, ↓reduceIte, wipeE, ite_self, Option.join_some, Bool.not_true, Bool.not_false, Bool.false_eq_true, and_self, and_true, true_and, isNon, partD, okO_some, okO_none, ok_srcT, ok_srcL, ok_enmT, ok_enmL, seq_ref, lst_ref, b_lenT, b_lenL, b_lenR, b_listT, b_listL, b_listR, b_tupT, b_tupR, b_all, b_any, b_int, b_min, b_max, b_repr, b_ssetR, b_lsetT, b_sortR, b_rangeL1, x_ixT, x_ixR, x_ixL, x_set, m_append, m_extend, m_popAt, c_eq, c_ne, c_in, c_ni, c_lt, c_le, c_gt, c_ge, t_bl, t_ref, o_add, o_sub, o_mul, o_mod, o_div, o_pow, o_cat, n_new, i_tup, i_int, i_non, s_lT0, s_lL0, at_0, at_1, at_2]
  refine okR_mono (draw t pt hn) ?_
  rintro d t1 ⟨⟨m, rfl, m0, m1⟩, p1, g1⟩
  refine okR_mono (some_ok fuel (k + 2) t1 p1 g1 hn2 m0 (by omega) (by omega)) ?_
  rintro d t2 ⟨n2, sm, rfl, hn3, g2, ms, ls, p2, e2⟩
  have k2 := e2.getL g1 hn2
  simp only [okR_some, okR_none, okS_nx, okS_rt, okS_bk, okS_ct, okR_ok, okR_ite, okS_ite, okS_nil, okR_and, okR_or, okR_chn, truth_bl, gc_app, gc_self, cmp_le, cmp_lt, e_var, e_cst, e_tup, e_lst, e_bin, e_neg, e_not, e_cmp, e_isN, e_ntN, e_ite, e_call, e_blt, e_isa, e_mth, e_ix, e_sl, e_lc, es_nil, es_cons, ts_nil', ts_one', lc_turn, it_seq, it_enm, it_zip, it_rng, rng_1, rng_2, okT_some, x_asg, x_par, x_sub, x_expr, x_ret, x_if, x_for, for_turn, x_while, wh_test, x_pass, x_brk, x_cnt, asg_nm, asg_tup, asg_cons, asg_nil, List.getElem?_cons_zero, List.getElem?_cons_succ, List.set_cons_zero, List.set_cons_succ, List.length_cons, List.length_nil, List.map_cons, List.map_nil, List.replicate, List.cons_append, List.nil_append, Option.bind_some, Option.map_some, Option.map_none, Nat.reduceAdd, Nat.reduceSub, Nat.reduceLT, ↓reduceIte, wipeE, ite_self, Option.join_some, Bool.not_true, Bool.not_false, Bool.false_eq_true, and_self, and_true, true_and, isNon, partD, okO_some, okO_none, ok_srcT, ok_srcL, ok_enmT, ok_enmL, seq_ref, lst_ref, b_lenT, b_lenL, b_lenR, b_listT, b_listL, b_listR, b_tupT, b_tupR, b_all, b_any, b_int, b_min, b_max, b_repr, b_ssetR, b_lsetT, b_sortR, b_rangeL1, x_ixT, x_ixR, x_ixL, x_set, m_append, m_extend, m_popAt, c_eq, c_ne, c_in, c_ni, c_lt, c_le, c_gt, c_ge, t_bl, t_ref, o_add, o_sub, o_mul, o_mod, o_div, o_pow, o_cat, n_new, i_tup, i_int, i_non, s_lT0, s_lL0, at_0, at_1, at_2, g2]
  rw [okS_cons]
  simp only [okR_some, okR_none, okS_nx, okS_rt, okS_bk, okS_ct, okR_ok, okR_ite, okS_ite, okS_nil, okR_and, okR_or, okR_chn, truth_bl, gc_app, gc_self, cmp_le, cmp_lt, e_var, e_cst, e_tup, e_lst, e_bin, e_neg, e_not, e_cmp, e_isN, e_ntN, e_ite, e_call, e_blt, e_isa, e_mth, e_ix, e_sl, e_lc, es_nil, es_cons, ts_nil', ts_one', lc_turn, it_seq, it_enm, it_zip, it_rng, rng_1, rng_2, okT_some, x_asg, x_par, x_sub, x_expr, x_ret, x_if, x_for, for_turn, x_while, wh_test, x_pass, x_brk, x_cnt, asg_nm, asg_tup, asg_cons, asg_nil, List.getElem?_cons_zero, List.getElem?_cons_succ, List.set_cons_zero, List.set_cons_succ, List.length_cons, List.length_nil, List.map_cons, List.map_nil, List.replicate, List.cons_append, List.nil_append, Option.bind_some, Option.map_some, Option.map_none, Nat.reduceAdd, Nat.reduceSub, Nat.reduceLT, ↓reduceIte, wipeE, ite_self, Option.join_some, Bool.not_true, Bool.not_false, Bool.false_eq_true, and_self, and_true, true_and, isNon, partD, okO_some, okO_none, ok_srcT, ok_srcL, ok_enmT, ok_enmL, seq_ref, lst_ref, b_lenT, b_lenL, b_lenR, b_listT, b_listL, b_listR, b_tupT, b_tupR, b_all, b_any, b_int, b_min, b_max, b_repr, b_ssetR, b_lsetT, b_sortR, b_rangeL1, x_ixT, x_ixR, x_ixL, x_set, m_append, m_extend, m_popAt, c_eq, c_ne, c_in, c_ni, c_lt, c_le, c_gt, c_ge, t_bl, t_ref, o_add, o_sub, o_mul, o_mod, o_div, o_pow, o_cat, n_new, i_tup, i_int, i_non, s_lT0, s_lL0, at_0, at_1, at_2]
  refine okR_mono (draw t2 p2 k2) ?_
  rintro d t3 ⟨⟨m', rfl, m0', m1'⟩, p3, g3⟩
  refine okR_mono (some_ok fuel (k + 2) t3 p3 g3 hn2 m0' (by omega) (by omega)) ?_
  rintro d t4 ⟨n4, wt, rfl, hn5, g4, mw, lw, p4, e4⟩
  have k4 := e4.getL g3 hn2
  simp only [okR_some, okR_none, okS_nx, okS_rt, okS_bk, okS_ct, okR_ok, okR_ite, okS_ite, okS_nil, okR_and, okR_or, okR_chn, truth_bl, gc_app, gc_self, cmp_le, cmp_lt, e_var, e_cst, e_tup, e_lst, e_bin, e_neg, e_not, e_cmp, e_isN, e_ntN, e_ite, e_call, e_blt, e_isa, e_mth, e_ix, e_sl, e_lc, es_nil, es_cons, ts_nil', ts_one', lc_turn, it_seq, it_enm, it_zip, it_rng, rng_1, rng_2, okT_some, x_asg, x_par, x_sub, x_expr, x_ret, x_if, x_for, for_turn, x_while, wh_test, x_pass, x_brk, x_cnt, asg_nm, asg_tup, asg_cons, asg_nil, List.getElem?_cons_zero, List.getElem?_cons_succ, List.set_cons_zero, List.set_cons_succ, List.length_cons, List.length_nil, List.map_cons, List.map_nil, List.replicate, List.cons_append, List.nil_append, Option.bind_some, Option.map_some, Option.map_none, Nat.reduceAdd, Nat.reduceSub, Nat.reduceLT, ↓reduceIte, wipeE, ite_self, Option.join_some, Bool.not_true, Bool.not_false, Bool.false_eq_true, and_self, and_true, true_and, isNon, partD, okO_some, okO_none, ok_srcT, ok_srcL, ok_enmT, ok_enmL, seq_ref, lst_ref, b_lenT, b_lenL, b_lenR, b_listT, b_listL, b_listR, b_tupT, b_tupR, b_all, b_any, b_int, b_min, b_max, b_repr, b_ssetR, b_lsetT, b_sortR, b_rangeL1, x_ixT, x_ixR, x_ixL, x_set, m_append, m_extend, m_popAt, c_eq, c_ne, c_in, c_ni, c_lt, c_le, c_gt, c_ge, t_bl, t_ref, o_add, o_sub, o_mul, o_mod, o_div, o_pow, o_cat, n_new, i_tup, i_int, i_non, s_lT0, s_lL0, at_0, at_1, at_2, g4]
  have hsm : sm.length ≤ 50 := by omega
  have hy : ∀ r ∈ rs, InR r.y := fun r h => (hr.m r h).y
  -- closed
  rw [okS_cons]
  simp only [okR_some, okR_none, okS_nx, okS_rt, okS_bk, okS_ct, okR_ok, okR_ite, okS_ite, okS_nil, okR_and, okR_or, okR_chn, truth_bl, gc_app, gc_self, cmp_le, cmp_lt, e_var, e_cst, e_tup, e_lst, e_bin, e_neg, e_not, e_cmp, e_isN, e_ntN, e_ite, e_call, e_blt, e_isa, e_mth, e_ix, e_sl, e_lc, es_nil, es_cons, ts_nil', ts_one', lc_turn, it_seq, it_enm, it_zip, it_rng, rng_1, rng_2, okT_some, x_asg, x_par, x_sub, x_expr, x_ret, x_if, x_for, for_turn, x_while, wh_test, x_pass, x_brk, x_cnt, asg_nm, asg_tup, asg_cons, asg_nil, List.getElem?_cons_zero, List.getElem?_cons_succ, List.set_cons_zero, List.set_cons_succ, List.length_cons, List.length_nil, List.map_cons, List.map_nil, List.replicate, List.cons_append, List.nil_append, Option.bind_some, Option.map_some, Option.map_none, Nat.reduceAdd, Nat.reduceSub, Nat.reduceLT, ↓reduceIte, wipeE, ite_self, Option.join_some, Bool.not_true, Bool.not_false, Bool.false_eq_true, and_self, and_true, true_and, isNon, partD, okO_some, okO_none, ok_srcT, ok_srcL, ok_enmT, ok_enmL, seq_ref, lst_ref, b_lenT, b_lenL, b_lenR, b_listT, b_listL, b_listR, b_tupT, b_tupR, b_all, b_any, b_int, b_min, b_max, b_repr, b_ssetR, b_lsetT, b_sortR, b_rangeL1, x_ixT, x_ixR, x_ixL, x_set, m_append, m_extend, m_popAt, c_eq, c_ne, c_in, c_ni, c_lt, c_le, c_gt, c_ge, t_bl, t_ref, o_add, o_sub, o_mul, o_mod, o_div, o_pow, o_cat, n_new, i_tup, i_int, i_non, s_lT0, s_lL0, at_0, at_1, at_2]
  refine okR_mono (lclosure_ok fuel (k + 4) t4 hr hsm) ?_
  rintro d t5 ⟨nc, u, rfl, hnc, rfl, gc⟩
  have p5 : PenAt (t4 ++ u) := p4.app
  have k5 : getL (t4 ++ u) n = some (kn.map D.int) := getL_app k4
  generalize t4 ++ u = T at gc p5 k5
  have hclm : ∀ x ∈ srt (pasN rs 7 sm), InR x ∧ True := fun x hx => ⟨by
    have key : ∀ (l : Nat) (fd : List Int), (∀ x ∈ fd, InR x) → ∀ x ∈ pasN rs l fd, InR x := by
      intro l
      induction l with
      | zero => exact fun fd h => h
      | succ l ih =>
        intro fd h
        refine ih _ ?_
        have fk : ∀ (zs : List Rl) (fd : List Int), (∀ r ∈ zs, InR r.y) → (∀ x ∈ fd, InR x) → ∀ x ∈ zs.foldl stp fd, InR x := by
          intro zs
          induction zs with
          | nil => exact fun fd _ h => h
          | cons z zs ih =>
            intro fd hz h
            refine ih (stp fd z) (fun r hr => hz r (List.mem_cons_of_mem _ hr)) fun x hx => ?_
            unfold stp at hx
            split at hx
            · rcases List.mem_append.mp hx with hx | hx
              · exact h x hx
              · have : x = z.y := by simpa using hx
                rw [this]; exact hz z List.mem_cons_self
            · exact h x hx
        exact fk rs fd hy h
    exact key 7 sm (fun x hx => hkm x (ms x hx)) x ((mem_srt x _).mp hx), trivial⟩
  have hcll : (srt (pasN rs 7 sm)).length ≤ 100 := by
    have h1 := pasN_mu rs hy 7 sm
    have h2 := mu_le sm
    have h3 := srt_len_le (pasN rs 7 sm)
    omega
  have hshow := shw_k (fun x hx => (hclm x hx).1) hcll
  -- the two closures show the same
  rw [okS_cons]
  simp only [okR_some, okR_none, okS_nx, okS_rt, okS_bk, okS_ct, okR_ok, okR_ite, okS_ite, okS_nil, okR_and, okR_or, okR_chn, truth_bl, gc_app, gc_self, cmp_le, cmp_lt, e_var, e_cst, e_tup, e_lst, e_bin, e_neg, e_not, e_cmp, e_isN, e_ntN, e_ite, e_call, e_blt, e_isa, e_mth, e_ix, e_sl, e_lc, es_nil, es_cons, ts_nil', ts_one', lc_turn, it_seq, it_enm, it_zip, it_rng, rng_1, rng_2, okT_some, x_asg, x_par, x_sub, x_expr, x_ret, x_if, x_for, for_turn, x_while, wh_test, x_pass, x_brk, x_cnt, asg_nm, asg_tup, asg_cons, asg_nil, List.getElem?_cons_zero, List.getElem?_cons_succ, List.set_cons_zero, List.set_cons_succ, List.length_cons, List.length_nil, List.map_cons, List.map_nil, List.replicate, List.cons_append, List.nil_append, Option.bind_some, Option.map_some, Option.map_none, Nat.reduceAdd, Nat.reduceSub, Nat.reduceLT, ↓reduceIte, wipeE, ite_self, Option.join_some, Bool.not_true, Bool.not_false, Bool.false_eq_true, and_self, and_true, true_and, isNon, partD, okO_some, okO_none, ok_srcT, ok_srcL, ok_enmT, ok_enmL, seq_ref, lst_ref, b_lenT, b_lenL, b_lenR, b_listT, b_listL, b_listR, b_tupT, b_tupR, b_all, b_any, b_int, b_min, b_max, b_repr, b_ssetR, b_lsetT, b_sortR, b_rangeL1, x_ixT, x_ixR, x_ixL, x_set, m_append, m_extend, m_popAt, c_eq, c_ne, c_in, c_ni, c_lt, c_le, c_gt, c_ge, t_bl, t_ref, o_add, o_sub, o_mul, o_mod, o_div, o_pow, o_cat, n_new, i_tup, i_int, i_non, s_lT0, s_lL0, at_0, at_1, at_2]
  refine okR_mono (closure_ok fuel (k + 1) hf T (qd := qD hd as) hr hsm) ?_
  rintro d T1 ⟨ch0, rfl, rfl, v0, c0⟩
  rw [same_closure hy v0 c0]
  simp only [okR_some, okR_none, okS_nx, okS_rt, okS_bk, okS_ct, okR_ok, okR_ite, okS_ite, okS_nil, okR_and, okR_or, okR_chn, truth_bl, gc_app, gc_self, cmp_le, cmp_lt, e_var, e_cst, e_tup, e_lst, e_bin, e_neg, e_not, e_cmp, e_isN, e_ntN, e_ite, e_call, e_blt, e_isa, e_mth, e_ix, e_sl, e_lc, es_nil, es_cons, ts_nil', ts_one', lc_turn, it_seq, it_enm, it_zip, it_rng, rng_1, rng_2, okT_some, x_asg, x_par, x_sub, x_expr, x_ret, x_if, x_for, for_turn, x_while, wh_test, x_pass, x_brk, x_cnt, asg_nm, asg_tup, asg_cons, asg_nil, List.getElem?_cons_zero, List.getElem?_cons_succ, List.set_cons_zero, List.set_cons_succ, List.length_cons, List.length_nil, List.map_cons, List.map_nil, List.replicate, List.cons_append, List.nil_append, Option.bind_some, Option.map_some, Option.map_none, Nat.reduceAdd, Nat.reduceSub, Nat.reduceLT, ↓reduceIte, wipeE, ite_self, Option.join_some, Bool.not_true, Bool.not_false, Bool.false_eq_true, and_self, and_true, true_and, isNon, partD, okO_some, okO_none, ok_srcT, ok_srcL, ok_enmT, ok_enmL, seq_ref, lst_ref, b_lenT, b_lenL, b_lenR, b_listT, b_listL, b_listR, b_tupT, b_tupR, b_all, b_any, b_int, b_min, b_max, b_repr, b_ssetR, b_lsetT, b_sortR, b_rangeL1, x_ixT, x_ixR, x_ixL, x_set, m_append, m_extend, m_popAt, c_eq, c_ne, c_in, c_ni, c_lt, c_le, c_gt, c_ge, t_bl, t_ref, o_add, o_sub, o_mul, o_mod, o_div, o_pow, o_cat, n_new, i_tup, i_int, i_non, s_lT0, s_lL0, at_0, at_1, at_2, py_tI, gc]
  rw [if_pos hshow, if_pos hshow, eq_str]
  simp only [okR_some, okR_none, okS_nx, okS_rt, okS_bk, okS_ct, okR_ok, okR_ite, okS_ite, okS_nil, okR_and, okR_or, okR_chn, truth_bl, gc_app, gc_self, cmp_le, cmp_lt, e_var, e_cst, e_tup, e_lst, e_bin, e_neg, e_not, e_cmp, e_isN, e_ntN, e_ite, e_call, e_blt, e_isa, e_mth, e_ix, e_sl, e_lc, es_nil, es_cons, ts_nil', ts_one', lc_turn, it_seq, it_enm, it_zip, it_rng, rng_1, rng_2, okT_some, x_asg, x_par, x_sub, x_expr, x_ret, x_if, x_for, for_turn, x_while, wh_test, x_pass, x_brk, x_cnt, asg_nm, asg_tup, asg_cons, asg_nil, List.getElem?_cons_zero, List.getElem?_cons_succ, List.set_cons_zero, List.set_cons_succ, List.length_cons, List.length_nil, List.map_cons, List.map_nil, List.replicate, List.cons_append, List.nil_append, Option.bind_some, Option.map_some, Option.map_none, Nat.reduceAdd, Nat.reduceSub, Nat.reduceLT, ↓reduceIte, wipeE, ite_self, Option.join_some, Bool.not_true, Bool.not_false, Bool.false_eq_true, and_self, and_true, true_and, isNon, partD, okO_some, okO_none, ok_srcT, ok_srcL, ok_enmT, ok_enmL, seq_ref, lst_ref, b_lenT, b_lenL, b_lenR, b_listT, b_listL, b_listR, b_tupT, b_tupR, b_all, b_any, b_int, b_min, b_max, b_repr, b_ssetR, b_lsetT, b_sortR, b_rangeL1, x_ixT, x_ixR, x_ixL, x_set, m_append, m_extend, m_popAt, c_eq, c_ne, c_in, c_ni, c_lt, c_le, c_gt, c_ge, t_bl, t_ref, o_add, o_sub, o_mul, o_mod, o_div, o_pow, o_cat, n_new, i_tup, i_int, i_non, s_lT0, s_lL0, at_0, at_1, at_2]
  -- the chain
  rw [okS_cons]
  simp only [okR_some, okR_none, okS_nx, okS_rt, okS_bk, okS_ct, okR_ok, okR_ite, okS_ite, okS_nil, okR_and, okR_or, okR_chn, truth_bl, gc_app, gc_self, cmp_le, cmp_lt, e_var, e_cst, e_tup, e_lst, e_bin, e_neg, e_not, e_cmp, e_isN, e_ntN, e_ite, e_call, e_blt, e_isa, e_mth, e_ix, e_sl, e_lc, es_nil, es_cons, ts_nil', ts_one', lc_turn, it_seq, it_enm, it_zip, it_rng, rng_1, rng_2, okT_some, x_asg, x_par, x_sub, x_expr, x_ret, x_if, x_for, for_turn, x_while, wh_test, x_pass, x_brk, x_cnt, asg_nm, asg_tup, asg_cons, asg_nil, List.getElem?_cons_zero, List.getElem?_cons_succ, List.set_cons_zero, List.set_cons_succ, List.length_cons, List.length_nil, List.map_cons, List.map_nil, List.replicate, List.cons_append, List.nil_append, Option.bind_some, Option.map_some, Option.map_none, Nat.reduceAdd, Nat.reduceSub, Nat.reduceLT, ↓reduceIte, wipeE, ite_self, Option.join_some, Bool.not_true, Bool.not_false, Bool.false_eq_true, and_self, and_true, true_and, isNon, partD, okO_some, okO_none, ok_srcT, ok_srcL, ok_enmT, ok_enmL, seq_ref, lst_ref, b_lenT, b_lenL, b_lenR, b_listT, b_listL, b_listR, b_tupT, b_tupR, b_all, b_any, b_int, b_min, b_max, b_repr, b_ssetR, b_lsetT, b_sortR, b_rangeL1, x_ixT, x_ixR, x_ixL, x_set, m_append, m_extend, m_popAt, c_eq, c_ne, c_in, c_ni, c_lt, c_le, c_gt, c_ge, t_bl, t_ref, o_add, o_sub, o_mul, o_mod, o_div, o_pow, o_cat, n_new, i_tup, i_int, i_non, s_lT0, s_lL0, at_0, at_1, at_2]
  refine okR_mono (chain_ok fuel (k + 1) hf T1 (qd := qD hd as) hr hsm (wt := wt) (by omega)) ?_
  rintro d T2 ⟨ch, hd2, rfl, v, c, hl⟩
  rw [same_closure hy v c] at hd2
  rw [okS_cons]
  simp only [okR_some, okR_none, okS_nx, okS_rt, okS_bk, okS_ct, okR_ok, okR_ite, okS_ite, okS_nil, okR_and, okR_or, okR_chn, truth_bl, gc_app, gc_self, cmp_le, cmp_lt, e_var, e_cst, e_tup, e_lst, e_bin, e_neg, e_not, e_cmp, e_isN, e_ntN, e_ite, e_call, e_blt, e_isa, e_mth, e_ix, e_sl, e_lc, es_nil, es_cons, ts_nil', ts_one', lc_turn, it_seq, it_enm, it_zip, it_rng, rng_1, rng_2, okT_some, x_asg, x_par, x_sub, x_expr, x_ret, x_if, x_for, for_turn, x_while, wh_test, x_pass, x_brk, x_cnt, asg_nm, asg_tup, asg_cons, asg_nil, List.getElem?_cons_zero, List.getElem?_cons_succ, List.set_cons_zero, List.set_cons_succ, List.length_cons, List.length_nil, List.map_cons, List.map_nil, List.replicate, List.cons_append, List.nil_append, Option.bind_some, Option.map_some, Option.map_none, Nat.reduceAdd, Nat.reduceSub, Nat.reduceLT, ↓reduceIte, wipeE, ite_self, Option.join_some, Bool.not_true, Bool.not_false, Bool.false_eq_true, and_self, and_true, true_and, isNon, partD, okO_some, okO_none, ok_srcT, ok_srcL, ok_enmT, ok_enmL, seq_ref, lst_ref, b_lenT, b_lenL, b_lenR, b_listT, b_listL, b_listR, b_tupT, b_tupR, b_all, b_any, b_int, b_min, b_max, b_repr, b_ssetR, b_lsetT, b_sortR, b_rangeL1, x_ixT, x_ixR, x_ixL, x_set, m_append, m_extend, m_popAt, c_eq, c_ne, c_in, c_ni, c_lt, c_le, c_gt, c_ge, t_bl, t_ref, o_add, o_sub, o_mul, o_mod, o_div, o_pow, o_cat, n_new, i_tup, i_int, i_non, s_lT0, s_lL0, at_0, at_1, at_2]
  refine lc_T (fun x => if !decide (x ∈ srt (pasN rs 7 sm)) then some (.int x) else none) (by omega) (fun x hx => ?_) ?_
  · simp only [okR_some, okR_none, okS_nx, okS_rt, okS_bk, okS_ct, okR_ok, okR_ite, okS_ite, okS_nil, okR_and, okR_or, okR_chn, truth_bl, gc_app, gc_self, cmp_le, cmp_lt, e_var, e_cst, e_tup, e_lst, e_bin, e_neg, e_not, e_cmp, e_isN, e_ntN, e_ite, e_call, e_blt, e_isa, e_mth, e_ix, e_sl, e_lc, es_nil, es_cons, ts_nil', ts_one', lc_turn, it_seq, it_enm, it_zip, it_rng, rng_1, rng_2, okT_some, x_asg, x_par, x_sub, x_expr, x_ret, x_if, x_for, for_turn, x_while, wh_test, x_pass, x_brk, x_cnt, asg_nm, asg_tup, asg_cons, asg_nil, List.getElem?_cons_zero, List.getElem?_cons_succ, List.set_cons_zero, List.set_cons_succ, List.length_cons, List.length_nil, List.map_cons, List.map_nil, List.replicate, List.cons_append, List.nil_append, Option.bind_some, Option.map_some, Option.map_none, Nat.reduceAdd, Nat.reduceSub, Nat.reduceLT, ↓reduceIte, wipeE, ite_self, Option.join_some, Bool.not_true, Bool.not_false, Bool.false_eq_true, and_self, and_true, true_and, isNon, partD, okO_some, okO_none, ok_srcT, ok_srcL, ok_enmT, ok_enmL, seq_ref, lst_ref, b_lenT, b_lenL, b_lenR, b_listT, b_listL, b_listR, b_tupT, b_tupR, b_all, b_any, b_int, b_min, b_max, b_repr, b_ssetR, b_lsetT, b_sortR, b_rangeL1, x_ixT, x_ixR, x_ixL, x_set, m_append, m_extend, m_popAt, c_eq, c_ne, c_in, c_ni, c_lt, c_le, c_gt, c_ge, t_bl, t_ref, o_add, o_sub, o_mul, o_mod, o_div, o_pow, o_cat, n_new, i_tup, i_int, i_non, s_lT0, s_lL0, at_0, at_1, at_2]
    rw [in_R gc]
    simp only [okR_some, okR_none, okS_nx, okS_rt, okS_bk, okS_ct, okR_ok, okR_ite, okS_ite, okS_nil, okR_and, okR_or, okR_chn, truth_bl, gc_app, gc_self, cmp_le, cmp_lt, e_var, e_cst, e_tup, e_lst, e_bin, e_neg, e_not, e_cmp, e_isN, e_ntN, e_ite, e_call, e_blt, e_isa, e_mth, e_ix, e_sl, e_lc, es_nil, es_cons, ts_nil', ts_one', lc_turn, it_seq, it_enm, it_zip, it_rng, rng_1, rng_2, okT_some, x_asg, x_par, x_sub, x_expr, x_ret, x_if, x_for, for_turn, x_while, wh_test, x_pass, x_brk, x_cnt, asg_nm, asg_tup, asg_cons, asg_nil, List.getElem?_cons_zero, List.getElem?_cons_succ, List.set_cons_zero, List.set_cons_succ, List.length_cons, List.length_nil, List.map_cons, List.map_nil, List.replicate, List.cons_append, List.nil_append, Option.bind_some, Option.map_some, Option.map_none, Nat.reduceAdd, Nat.reduceSub, Nat.reduceLT, ↓reduceIte, wipeE, ite_self, Option.join_some, Bool.not_true, Bool.not_false, Bool.false_eq_true, and_self, and_true, true_and, isNon, partD, okO_some, okO_none, ok_srcT, ok_srcL, ok_enmT, ok_enmL, seq_ref, lst_ref, b_lenT, b_lenL, b_lenR, b_listT, b_listL, b_listR, b_tupT, b_tupR, b_all, b_any, b_int, b_min, b_max, b_repr, b_ssetR, b_lsetT, b_sortR, b_rangeL1, x_ixT, x_ixR, x_ixL, x_set, m_append, m_extend, m_popAt, c_eq, c_ne, c_in, c_ni, c_lt, c_le, c_gt, c_ge, t_bl, t_ref, o_add, o_sub, o_mul, o_mod, o_div, o_pow, o_cat, n_new, i_tup, i_int, i_non, s_lT0, s_lL0, at_0, at_1, at_2]
    cases decide (x ∈ srt (pasN rs 7 sm)) <;> simp only [okR_some, okR_none, okS_nx, okS_rt, okS_bk, okS_ct, okR_ok, okR_ite, okS_ite, okS_nil, okR_and, okR_or, okR_chn, truth_bl, gc_app, gc_self, cmp_le, cmp_lt, e_var, e_cst, e_tup, e_lst, e_bin, e_neg, e_not, e_cmp, e_isN, e_ntN, e_ite, e_call, e_blt, e_isa, e_mth, e_ix, e_sl, e_lc, es_nil, es_cons, ts_nil', ts_one', lc_turn, it_seq, it_enm, it_zip, it_rng, rng_1, rng_2, okT_some, x_asg, x_par, x_sub, x_expr, x_ret, x_if, x_for, for_turn, x_while, wh_test, x_pass, x_brk, x_cnt, asg_nm, asg_tup, asg_cons, asg_nil, List.getElem?_cons_zero, List.getElem?_cons_succ, List.set_cons_zero, List.set_cons_succ, List.length_cons, List.length_nil, List.map_cons, List.map_nil, List.replicate, List.cons_append, List.nil_append, Option.bind_some, Option.map_some, Option.map_none, Nat.reduceAdd, Nat.reduceSub, Nat.reduceLT, ↓reduceIte, wipeE, ite_self, Option.join_some, Bool.not_true, Bool.not_false, Bool.false_eq_true, and_self, and_true, true_and, isNon, partD, okO_some, okO_none, ok_srcT, ok_srcL, ok_enmT, ok_enmL, seq_ref, lst_ref, b_lenT, b_lenL, b_lenR, b_listT, b_listL, b_listR, b_tupT, b_tupR, b_all, b_any, b_int, b_min, b_max, b_repr, b_ssetR, b_lsetT, b_sortR, b_rangeL1, x_ixT, x_ixR, x_ixL, x_set, m_append, m_extend, m_popAt, c_eq, c_ne, c_in, c_ni, c_lt, c_le, c_gt, c_ge, t_bl, t_ref, o_add, o_sub, o_mul, o_mod, o_div, o_pow, o_cat, n_new, i_tup, i_int, i_non, s_lT0, s_lL0, at_0, at_1, at_2]
  · rw [filterMap_if, eq_L0 (getL_app getL_new) getL_new, filter_all]
    by_cases hA : (wt.all fun x => decide (x ∈ srt (pasN rs 7 sm))) = true
    · rw [if_pos hA] at hd2
      subst hd2
      rw [hA]
      simp only [okR_some, okR_none, okS_nx, okS_rt, okS_bk, okS_ct, okR_ok, okR_ite, okS_ite, okS_nil, okR_and, okR_or, okR_chn, truth_bl, gc_app, gc_self, cmp_le, cmp_lt, e_var, e_cst, e_tup, e_lst, e_bin, e_neg, e_not, e_cmp, e_isN, e_ntN, e_ite, e_call, e_blt, e_isa, e_mth, e_ix, e_sl, e_lc, es_nil, es_cons, ts_nil', ts_one', lc_turn, it_seq, it_enm, it_zip, it_rng, rng_1, rng_2, okT_some, x_asg, x_par, x_sub, x_expr, x_ret, x_if, x_for, for_turn, x_while, wh_test, x_pass, x_brk, x_cnt, asg_nm, asg_tup, asg_cons, asg_nil, List.getElem?_cons_zero, List.getElem?_cons_succ, List.set_cons_zero, List.set_cons_succ, List.length_cons, List.length_nil, List.map_cons, List.map_nil, List.replicate, List.cons_append, List.nil_append, Option.bind_some, Option.map_some, Option.map_none, Nat.reduceAdd, Nat.reduceSub, Nat.reduceLT, ↓reduceIte, wipeE, ite_self, Option.join_some, Bool.not_true, Bool.not_false, Bool.false_eq_true, and_self, and_true, true_and, isNon, partD, okO_some, okO_none, ok_srcT, ok_srcL, ok_enmT, ok_enmL, seq_ref, lst_ref, b_lenT, b_lenL, b_lenR, b_listT, b_listL, b_listR, b_tupT, b_tupR, b_all, b_any, b_int, b_min, b_max, b_repr, b_ssetR, b_lsetT, b_sortR, b_rangeL1, x_ixT, x_ixR, x_ixL, x_set, m_append, m_extend, m_popAt, c_eq, c_ne, c_in, c_ni, c_lt, c_le, c_gt, c_ge, t_bl, t_ref, o_add, o_sub, o_mul, o_mod, o_div, o_pow, o_cat, n_new, i_tup, i_int, i_non, s_lT0, s_lL0, at_0, at_1, at_2]
      rw [eq_bl]
      simp only [okR_some, okR_none, okS_nx, okS_rt, okS_bk, okS_ct, okR_ok, okR_ite, okS_ite, okS_nil, okR_and, okR_or, okR_chn, truth_bl, gc_app, gc_self, cmp_le, cmp_lt, e_var, e_cst, e_tup, e_lst, e_bin, e_neg, e_not, e_cmp, e_isN, e_ntN, e_ite, e_call, e_blt, e_isa, e_mth, e_ix, e_sl, e_lc, es_nil, es_cons, ts_nil', ts_one', lc_turn, it_seq, it_enm, it_zip, it_rng, rng_1, rng_2, okT_some, x_asg, x_par, x_sub, x_expr, x_ret, x_if, x_for, for_turn, x_while, wh_test, x_pass, x_brk, x_cnt, asg_nm, asg_tup, asg_cons, asg_nil, List.getElem?_cons_zero, List.getElem?_cons_succ, List.set_cons_zero, List.set_cons_succ, List.length_cons, List.length_nil, List.map_cons, List.map_nil, List.replicate, List.cons_append, List.nil_append, Option.bind_some, Option.map_some, Option.map_none, Nat.reduceAdd, Nat.reduceSub, Nat.reduceLT, ↓reduceIte, wipeE, ite_self, Option.join_some, Bool.not_true, Bool.not_false, Bool.false_eq_true, and_self, and_true, true_and, isNon, partD, okO_some, okO_none, ok_srcT, ok_srcL, ok_enmT, ok_enmL, seq_ref, lst_ref, b_lenT, b_lenL, b_lenR, b_listT, b_listL, b_listR, b_tupT, b_tupR, b_all, b_any, b_int, b_min, b_max, b_repr, b_ssetR, b_lsetT, b_sortR, b_rangeL1, x_ixT, x_ixR, x_ixL, x_set, m_append, m_extend, m_popAt, c_eq, c_ne, c_in, c_ni, c_lt, c_le, c_gt, c_ge, t_bl, t_ref, o_add, o_sub, o_mul, o_mod, o_div, o_pow, o_cat, n_new, i_tup, i_int, i_non, s_lT0, s_lL0, at_0, at_1, at_2]
      rw [show (!(true == true)) = false from rfl]
      simp only [okR_some, okR_none, okS_nx, okS_rt, okS_bk, okS_ct, okR_ok, okR_ite, okS_ite, okS_nil, okR_and, okR_or, okR_chn, truth_bl, gc_app, gc_self, cmp_le, cmp_lt, e_var, e_cst, e_tup, e_lst, e_bin, e_neg, e_not, e_cmp, e_isN, e_ntN, e_ite, e_call, e_blt, e_isa, e_mth, e_ix, e_sl, e_lc, es_nil, es_cons, ts_nil', ts_one', lc_turn, it_seq, it_enm, it_zip, it_rng, rng_1, rng_2, okT_some, x_asg, x_par, x_sub, x_expr, x_ret, x_if, x_for, for_turn, x_while, wh_test, x_pass, x_brk, x_cnt, asg_nm, asg_tup, asg_cons, asg_nil, List.getElem?_cons_zero, List.getElem?_cons_succ, List.set_cons_zero, List.set_cons_succ, List.length_cons, List.length_nil, List.map_cons, List.map_nil, List.replicate, List.cons_append, List.nil_append, Option.bind_some, Option.map_some, Option.map_none, Nat.reduceAdd, Nat.reduceSub, Nat.reduceLT, ↓reduceIte, wipeE, ite_self, Option.join_some, Bool.not_true, Bool.not_false, Bool.false_eq_true, and_self, and_true, true_and, isNon, partD, okO_some, okO_none, ok_srcT, ok_srcL, ok_enmT, ok_enmL, seq_ref, lst_ref, b_lenT, b_lenL, b_lenR, b_listT, b_listL, b_listR, b_tupT, b_tupR, b_all, b_any, b_int, b_min, b_max, b_repr, b_ssetR, b_lsetT, b_sortR, b_rangeL1, x_ixT, x_ixR, x_ixL, x_set, m_append, m_extend, m_popAt, c_eq, c_ne, c_in, c_ni, c_lt, c_le, c_gt, c_ge, t_bl, t_ref, o_add, o_sub, o_mul, o_mod, o_div, o_pow, o_cat, n_new, i_tup, i_int, i_non, s_lT0, s_lL0, at_0, at_1, at_2]
      rw [List.append_assoc, gc_if, okS_cons]
      simp only [okR_some, okR_none, okS_nx, okS_rt, okS_bk, okS_ct, okR_ok, okR_ite, okS_ite, okS_nil, okR_and, okR_or, okR_chn, truth_bl, gc_app, gc_self, cmp_le, cmp_lt, e_var, e_cst, e_tup, e_lst, e_bin, e_neg, e_not, e_cmp, e_isN, e_ntN, e_ite, e_call, e_blt, e_isa, e_mth, e_ix, e_sl, e_lc, es_nil, es_cons, ts_nil', ts_one', lc_turn, it_seq, it_enm, it_zip, it_rng, rng_1, rng_2, okT_some, x_asg, x_par, x_sub, x_expr, x_ret, x_if, x_for, for_turn, x_while, wh_test, x_pass, x_brk, x_cnt, asg_nm, asg_tup, asg_cons, asg_nil, List.getElem?_cons_zero, List.getElem?_cons_succ, List.set_cons_zero, List.set_cons_succ, List.length_cons, List.length_nil, List.map_cons, List.map_nil, List.replicate, List.cons_append, List.nil_append, Option.bind_some, Option.map_some, Option.map_none, Nat.reduceAdd, Nat.reduceSub, Nat.reduceLT, ↓reduceIte, wipeE, ite_self, Option.join_some, Bool.not_true, Bool.not_false, Bool.false_eq_true, and_self, and_true, true_and, isNon, partD, okO_some, okO_none, ok_srcT, ok_srcL, ok_enmT, ok_enmL, seq_ref, lst_ref, b_lenT, b_lenL, b_lenR, b_listT, b_listL, b_listR, b_tupT, b_tupR, b_all, b_any, b_int, b_min, b_max, b_repr, b_ssetR, b_lsetT, b_sortR, b_rangeL1, x_ixT, x_ixR, x_ixL, x_set, m_append, m_extend, m_popAt, c_eq, c_ne, c_in, c_ni, c_lt, c_le, c_gt, c_ge, t_bl, t_ref, o_add, o_sub, o_mul, o_mod, o_div, o_pow, o_cat, n_new, i_tup, i_int, i_non, s_lT0, s_lL0, at_0, at_1, at_2]
      rw [okS_cons]
      simp only [okR_some, okR_none, okS_nx, okS_rt, okS_bk, okS_ct, okR_ok, okR_ite, okS_ite, okS_nil, okR_and, okR_or, okR_chn, truth_bl, gc_app, gc_self, cmp_le, cmp_lt, e_var, e_cst, e_tup, e_lst, e_bin, e_neg, e_not, e_cmp, e_isN, e_ntN, e_ite, e_call, e_blt, e_isa, e_mth, e_ix, e_sl, e_lc, es_nil, es_cons, ts_nil', ts_one', lc_turn, it_seq, it_enm, it_zip, it_rng, rng_1, rng_2, okT_some, x_asg, x_par, x_sub, x_expr, x_ret, x_if, x_for, for_turn, x_while, wh_test, x_pass, x_brk, x_cnt, asg_nm, asg_tup, asg_cons, asg_nil, List.getElem?_cons_zero, List.getElem?_cons_succ, List.set_cons_zero, List.set_cons_succ, List.length_cons, List.length_nil, List.map_cons, List.map_nil, List.replicate, List.cons_append, List.nil_append, Option.bind_some, Option.map_some, Option.map_none, Nat.reduceAdd, Nat.reduceSub, Nat.reduceLT, ↓reduceIte, wipeE, ite_self, Option.join_some, Bool.not_true, Bool.not_false, Bool.false_eq_true, and_self, and_true, true_and, isNon, partD, okO_some, okO_none, ok_srcT, ok_srcL, ok_enmT, ok_enmL, seq_ref, lst_ref, b_lenT, b_lenL, b_lenR, b_listT, b_listL, b_listR, b_tupT, b_tupR, b_all, b_any, b_int, b_min, b_max, b_repr, b_ssetR, b_lsetT, b_sortR, b_rangeL1, x_ixT, x_ixR, x_ixL, x_set, m_append, m_extend, m_popAt, c_eq, c_ne, c_in, c_ni, c_lt, c_le, c_gt, c_ge, t_bl, t_ref, o_add, o_sub, o_mul, o_mod, o_div, o_pow, o_cat, n_new, i_tup, i_int, i_non, s_lT0, s_lL0, at_0, at_1, at_2]
      refine okR_mono (right_ok fuel (k + 3) T2 hr v hl hsm (wt := wt) (by omega) fun x hx => ?_) ?_
      · have := of_decide_eq_true (List.all_eq_true.mp hA x hx)
        rw [← same_closure hy v c] at this
        exact (mem_srt x _).mp this
      · rintro d T3 ⟨rfl, rfl⟩
        simp only [okR_some, okR_none, okS_nx, okS_rt, okS_bk, okS_ct, okR_ok, okR_ite, okS_ite, okS_nil, okR_and, okR_or, okR_chn, truth_bl, gc_app, gc_self, cmp_le, cmp_lt, e_var, e_cst, e_tup, e_lst, e_bin, e_neg, e_not, e_cmp, e_isN, e_ntN, e_ite, e_call, e_blt, e_isa, e_mth, e_ix, e_sl, e_lc, es_nil, es_cons, ts_nil', ts_one', lc_turn, it_seq, it_enm, it_zip, it_rng, rng_1, rng_2, okT_some, x_asg, x_par, x_sub, x_expr, x_ret, x_if, x_for, for_turn, x_while, wh_test, x_pass, x_brk, x_cnt, asg_nm, asg_tup, asg_cons, asg_nil, List.getElem?_cons_zero, List.getElem?_cons_succ, List.set_cons_zero, List.set_cons_succ, List.length_cons, List.length_nil, List.map_cons, List.map_nil, List.replicate, List.cons_append, List.nil_append, Option.bind_some, Option.map_some, Option.map_none, Nat.reduceAdd, Nat.reduceSub, Nat.reduceLT, ↓reduceIte, wipeE, ite_self, Option.join_some, Bool.not_true, Bool.not_false, Bool.false_eq_true, and_self, and_true, true_and, isNon, partD, okO_some, okO_none, ok_srcT, ok_srcL, ok_enmT, ok_enmL, seq_ref, lst_ref, b_lenT, b_lenL, b_lenR, b_listT, b_listL, b_listR, b_tupT, b_tupR, b_all, b_any, b_int, b_min, b_max, b_repr, b_ssetR, b_lsetT, b_sortR, b_rangeL1, x_ixT, x_ixR, x_ixL, x_set, m_append, m_extend, m_popAt, c_eq, c_ne, c_in, c_ni, c_lt, c_le, c_gt, c_ge, t_bl, t_ref, o_add, o_sub, o_mul, o_mod, o_div, o_pow, o_cat, n_new, i_tup, i_int, i_non, s_lT0, s_lL0, at_0, at_1, at_2]
        exact fin _ _ _ _ _ _ _ p5 k5
    · rw [if_neg hA] at hd2
      subst hd2
      rw [Bool.not_eq_true] at hA
      rw [hA]
      simp only [okR_some, okR_none, okS_nx, okS_rt, okS_bk, okS_ct, okR_ok, okR_ite, okS_ite, okS_nil, okR_and, okR_or, okR_chn, truth_bl, gc_app, gc_self, cmp_le, cmp_lt, e_var, e_cst, e_tup, e_lst, e_bin, e_neg, e_not, e_cmp, e_isN, e_ntN, e_ite, e_call, e_blt, e_isa, e_mth, e_ix, e_sl, e_lc, es_nil, es_cons, ts_nil', ts_one', lc_turn, it_seq, it_enm, it_zip, it_rng, rng_1, rng_2, okT_some, x_asg, x_par, x_sub, x_expr, x_ret, x_if, x_for, for_turn, x_while, wh_test, x_pass, x_brk, x_cnt, asg_nm, asg_tup, asg_cons, asg_nil, List.getElem?_cons_zero, List.getElem?_cons_succ, List.set_cons_zero, List.set_cons_succ, List.length_cons, List.length_nil, List.map_cons, List.map_nil, List.replicate, List.cons_append, List.nil_append, Option.bind_some, Option.map_some, Option.map_none, Nat.reduceAdd, Nat.reduceSub, Nat.reduceLT, ↓reduceIte, wipeE, ite_self, Option.join_some, Bool.not_true, Bool.not_false, Bool.false_eq_true, and_self, and_true, true_and, isNon, partD, okO_some, okO_none, ok_srcT, ok_srcL, ok_enmT, ok_enmL, seq_ref, lst_ref, b_lenT, b_lenL, b_lenR, b_listT, b_listL, b_listR, b_tupT, b_tupR, b_all, b_any, b_int, b_min, b_max, b_repr, b_ssetR, b_lsetT, b_sortR, b_rangeL1, x_ixT, x_ixR, x_ixL, x_set, m_append, m_extend, m_popAt, c_eq, c_ne, c_in, c_ni, c_lt, c_le, c_gt, c_ge, t_bl, t_ref, o_add, o_sub, o_mul, o_mod, o_div, o_pow, o_cat, n_new, i_tup, i_int, i_non, s_lT0, s_lL0, at_0, at_1, at_2]
      rw [eq_bl]
      simp only [okR_some, okR_none, okS_nx, okS_rt, okS_bk, okS_ct, okR_ok, okR_ite, okS_ite, okS_nil, okR_and, okR_or, okR_chn, truth_bl, gc_app, gc_self, cmp_le, cmp_lt, e_var, e_cst, e_tup, e_lst, e_bin, e_neg, e_not, e_cmp, e_isN, e_ntN, e_ite, e_call, e_blt, e_isa, e_mth, e_ix, e_sl, e_lc, es_nil, es_cons, ts_nil', ts_one', lc_turn, it_seq, it_enm, it_zip, it_rng, rng_1, rng_2, okT_some, x_asg, x_par, x_sub, x_expr, x_ret, x_if, x_for, for_turn, x_while, wh_test, x_pass, x_brk, x_cnt, asg_nm, asg_tup, asg_cons, asg_nil, List.getElem?_cons_zero, List.getElem?_cons_succ, List.set_cons_zero, List.set_cons_succ, List.length_cons, List.length_nil, List.map_cons, List.map_nil, List.replicate, List.cons_append, List.nil_append, Option.bind_some, Option.map_some, Option.map_none, Nat.reduceAdd, Nat.reduceSub, Nat.reduceLT, ↓reduceIte, wipeE, ite_self, Option.join_some, Bool.not_true, Bool.not_false, Bool.false_eq_true, and_self, and_true, true_and, isNon, partD, okO_some, okO_none, ok_srcT, ok_srcL, ok_enmT, ok_enmL, seq_ref, lst_ref, b_lenT, b_lenL, b_lenR, b_listT, b_listL, b_listR, b_tupT, b_tupR, b_all, b_any, b_int, b_min, b_max, b_repr, b_ssetR, b_lsetT, b_sortR, b_rangeL1, x_ixT, x_ixR, x_ixL, x_set, m_append, m_extend, m_popAt, c_eq, c_ne, c_in, c_ni, c_lt, c_le, c_gt, c_ge, t_bl, t_ref, o_add, o_sub, o_mul, o_mod, o_div, o_pow, o_cat, n_new, i_tup, i_int, i_non, s_lT0, s_lL0, at_0, at_1, at_2]
      rw [show (!(false == false)) = false from rfl]
      simp only [okR_some, okR_none, okS_nx, okS_rt, okS_bk, okS_ct, okR_ok, okR_ite, okS_ite, okS_nil, okR_and, okR_or, okR_chn, truth_bl, gc_app, gc_self, cmp_le, cmp_lt, e_var, e_cst, e_tup, e_lst, e_bin, e_neg, e_not, e_cmp, e_isN, e_ntN, e_ite, e_call, e_blt, e_isa, e_mth, e_ix, e_sl, e_lc, es_nil, es_cons, ts_nil', ts_one', lc_turn, it_seq, it_enm, it_zip, it_rng, rng_1, rng_2, okT_some, x_asg, x_par, x_sub, x_expr, x_ret, x_if, x_for, for_turn, x_while, wh_test, x_pass, x_brk, x_cnt, asg_nm, asg_tup, asg_cons, asg_nil, List.getElem?_cons_zero, List.getElem?_cons_succ, List.set_cons_zero, List.set_cons_succ, List.length_cons, List.length_nil, List.map_cons, List.map_nil, List.replicate, List.cons_append, List.nil_append, Option.bind_some, Option.map_some, Option.map_none, Nat.reduceAdd, Nat.reduceSub, Nat.reduceLT, ↓reduceIte, wipeE, ite_self, Option.join_some, Bool.not_true, Bool.not_false, Bool.false_eq_true, and_self, and_true, true_and, isNon, partD, okO_some, okO_none, ok_srcT, ok_srcL, ok_enmT, ok_enmL, seq_ref, lst_ref, b_lenT, b_lenL, b_lenR, b_listT, b_listL, b_listR, b_tupT, b_tupR, b_all, b_any, b_int, b_min, b_max, b_repr, b_ssetR, b_lsetT, b_sortR, b_rangeL1, x_ixT, x_ixR, x_ixL, x_set, m_append, m_extend, m_popAt, c_eq, c_ne, c_in, c_ni, c_lt, c_le, c_gt, c_ge, t_bl, t_ref, o_add, o_sub, o_mul, o_mod, o_div, o_pow, o_cat, n_new, i_tup, i_int, i_non, s_lT0, s_lL0, at_0, at_1, at_2]
      rw [List.append_assoc, gc_if, okS_cons]
      simp only [okR_some, okR_none, okS_nx, okS_rt, okS_bk, okS_ct, okR_ok, okR_ite, okS_ite, okS_nil, okR_and, okR_or, okR_chn, truth_bl, gc_app, gc_self, cmp_le, cmp_lt, e_var, e_cst, e_tup, e_lst, e_bin, e_neg, e_not, e_cmp, e_isN, e_ntN, e_ite, e_call, e_blt, e_isa, e_mth, e_ix, e_sl, e_lc, es_nil, es_cons, ts_nil', ts_one', lc_turn, it_seq, it_enm, it_zip, it_rng, rng_1, rng_2, okT_some, x_asg, x_par, x_sub, x_expr, x_ret, x_if, x_for, for_turn, x_while, wh_test, x_pass, x_brk, x_cnt, asg_nm, asg_tup, asg_cons, asg_nil, List.getElem?_cons_zero, List.getElem?_cons_succ, List.set_cons_zero, List.set_cons_succ, List.length_cons, List.length_nil, List.map_cons, List.map_nil, List.replicate, List.cons_append, List.nil_append, Option.bind_some, Option.map_some, Option.map_none, Nat.reduceAdd, Nat.reduceSub, Nat.reduceLT, ↓reduceIte, wipeE, ite_self, Option.join_some, Bool.not_true, Bool.not_false, Bool.false_eq_true, and_self, and_true, true_and, isNon, partD, okO_some, okO_none, ok_srcT, ok_srcL, ok_enmT, ok_enmL, seq_ref, lst_ref, b_lenT, b_lenL, b_lenR, b_listT, b_listL, b_listR, b_tupT, b_tupR, b_all, b_any, b_int, b_min, b_max, b_repr, b_ssetR, b_lsetT, b_sortR, b_rangeL1, x_ixT, x_ixR, x_ixL, x_set, m_append, m_extend, m_popAt, c_eq, c_ne, c_in, c_ni, c_lt, c_le, c_gt, c_ge, t_bl, t_ref, o_add, o_sub, o_mul, o_mod, o_div, o_pow, o_cat, n_new, i_tup, i_int, i_non, s_lT0, s_lL0, at_0, at_1, at_2]
      exact fin _ _ _ _ _ _ _ p5 k5
end K03

namespace K03
open PySem Mir
theorem law_ok (fuel k : Nat) (hf : 8 ≤ fuel) {ns : List Int} (hz : ns.length ≤ 63) : okR ((L fuel (k + 6)).fn "law" [.rol (ns.map D.int)] []) Fin := by
  rw [fn_law]
  refine okR_fnD ?_
  unfold c_law
  rw [okS_cons]
  simp only [okR_some, okR_none, okS_nx, okS_rt, okS_bk, okS_ct, okR_ok, okR_ite, okS_ite, okS_nil, okR_and, okR_or, okR_chn, truth_bl, gc_app, gc_self, cmp_le, cmp_lt, e_var, e_cst, e_tup, e_lst, e_bin, e_neg, e_not, e_cmp, e_isN, e_ntN, e_ite, e_call, e_blt, e_isa, e_mth, e_ix, e_sl, e_lc, es_nil, es_cons, ts_nil', ts_one', lc_turn, it_seq, it_enm, it_zip, it_rng, rng_1, rng_2, okT_some, x_asg, x_par, x_sub, x_expr, x_ret, x_if, x_for, for_turn, x_while, wh_test, x_pass, x_brk, x_cnt, asg_nm, asg_tup, asg_cons, asg_nil, List.getElem?_cons_zero, List.getElem?_cons_succ, List.set_cons_zero, List.set_cons_succ, List.length_cons, List.length_nil, List.map_cons, List.map_nil, List.replicate, List.cons_append, List.nil_append, Option.bind_some, Option.map_some, Option.map_none, Nat.reduceAdd, Nat.reduceSub, Nat.reduceLT, ↓reduceIte, wipeE, ite_self, Option.join_some, Bool.not_true, Bool.not_false, Bool.false_eq_true, and_self, and_true, true_and, isNon, partD, okO_some, okO_none, ok_srcT, ok_srcL, ok_enmT, ok_enmL, seq_ref, lst_ref, b_lenT, b_lenL, b_lenR, b_listT, b_listL, b_listR, b_tupT, b_tupR, b_all, b_any, b_int, b_min, b_max, b_repr, b_ssetR, b_lsetT, b_sortR, b_rangeL1, x_ixT, x_ixR, x_ixL, x_set, m_append, m_extend, m_popAt, c_eq, c_ne, c_in, c_ni, c_lt, c_le, c_gt, c_ge, t_bl, t_ref, o_add, o_sub, o_mul, o_mod, o_div, o_pow, o_cat, n_new, i_tup, i_int, i_non, s_lT0, s_lL0, at_0, at_1, at_2]
  refine okR_mono (pen_ok fuel (k + 4)) ?_
  rintro d S ⟨rfl, pS⟩
  rw [okS_cons]
  simp only [okR_some, okR_none, okS_nx, okS_rt, okS_bk, okS_ct, okR_ok, okR_ite, okS_ite, okS_nil, okR_and, okR_or, okR_chn, truth_bl, gc_app, gc_self, cmp_le, cmp_lt, e_var, e_cst, e_tup, e_lst, e_bin, e_neg, e_not, e_cmp, e_isN, e_ntN, e_ite, e_call, e_blt, e_isa, e_mth, e_ix, e_sl, e_lc, es_nil, es_cons, ts_nil', ts_one', lc_turn, it_seq, it_enm, it_zip, it_rng, rng_1, rng_2, okT_some, x_asg, x_par, x_sub, x_expr, x_ret, x_if, x_for, for_turn, x_while, wh_test, x_pass, x_brk, x_cnt, asg_nm, asg_tup, asg_cons, asg_nil, List.getElem?_cons_zero, List.getElem?_cons_succ, List.set_cons_zero, List.set_cons_succ, List.length_cons, List.length_nil, List.map_cons, List.map_nil, List.replicate, List.cons_append, List.nil_append, Option.bind_some, Option.map_some, Option.map_none, Nat.reduceAdd, Nat.reduceSub, Nat.reduceLT, ↓reduceIte, wipeE, ite_self, Option.join_some, Bool.not_true, Bool.not_false, Bool.false_eq_true, and_self, and_true, true_and, isNon, partD, okO_some, okO_none, ok_srcT, ok_srcL, ok_enmT, ok_enmL, seq_ref, lst_ref, b_lenT, b_lenL, b_lenR, b_listT, b_listL, b_listR, b_tupT, b_tupR, b_all, b_any, b_int, b_min, b_max, b_repr, b_ssetR, b_lsetT, b_sortR, b_rangeL1, x_ixT, x_ixR, x_ixL, x_set, m_append, m_extend, m_popAt, c_eq, c_ne, c_in, c_ni, c_lt, c_le, c_gt, c_ge, t_bl, t_ref, o_add, o_sub, o_mul, o_mod, o_div, o_pow, o_cat, n_new, i_tup, i_int, i_non, s_lT0, s_lL0, at_0, at_1, at_2]
  rw [List.length_map]
  rw [if_pos (by unfold inR; rw [Bool.and_eq_true, decide_eq_true_eq, decide_eq_true_eq]; split <;> split <;> constructor <;> omega)]
  refine okS_for0 (fun j e t => PenAt t ∧ ∃ a2 a3 a4 a5 a6 a7 a8 a9 a10 a11 a12, e = [some (.rol (ns.map D.int)), some (.ref 2), a2, a3, a4, a5, a6, a7, a8, a9, a10, a11, a12]) ⟨pS, _, _, _, _, _, _, _, _, _, _, _, rfl⟩ ?_ ?_
  · rintro j e t hj ⟨pt, a2, a3, a4, a5, a6, a7, a8, a9, a10, a11, a12, rfl⟩
    refine ⟨.int (0 + j), rfl, ?_⟩
    rw [for_turn]
    simp only [okR_some, okR_none, okS_nx, okS_rt, okS_bk, okS_ct, okR_ok, okR_ite, okS_ite, okS_nil, okR_and, okR_or, okR_chn, truth_bl, gc_app, gc_self, cmp_le, cmp_lt, e_var, e_cst, e_tup, e_lst, e_bin, e_neg, e_not, e_cmp, e_isN, e_ntN, e_ite, e_call, e_blt, e_isa, e_mth, e_ix, e_sl, e_lc, es_nil, es_cons, ts_nil', ts_one', lc_turn, it_seq, it_enm, it_zip, it_rng, rng_1, rng_2, okT_some, x_asg, x_par, x_sub, x_expr, x_ret, x_if, x_for, for_turn, x_while, wh_test, x_pass, x_brk, x_cnt, asg_nm, asg_tup, asg_cons, asg_nil, List.getElem?_cons_zero, List.getElem?_cons_succ, List.set_cons_zero, List.set_cons_succ, List.length_cons, List.length_nil, List.map_cons, List.map_nil, List.replicate, List.cons_append, List.nil_append, Option.bind_some, Option.map_some, Option.map_none, Nat.reduceAdd, Nat.reduceSub, Nat.reduceLT, ↓reduceIte, wipeE, ite_self, Option.join_some, Bool.not_true, Bool.not_false, Bool.false_eq_true, and_self, and_true, true_and, isNon, partD, okO_some, okO_none, ok_srcT, ok_srcL, ok_enmT, ok_enmL, seq_ref, lst_ref, b_lenT, b_lenL, b_lenR, b_listT, b_listL, b_listR, b_tupT, b_tupR, b_all, b_any, b_int, b_min, b_max, b_repr, b_ssetR, b_lsetT, b_sortR, b_rangeL1, x_ixT, x_ixR, x_ixL, x_set, m_append, m_extend, m_popAt, c_eq, c_ne, c_in, c_ni, c_lt, c_le, c_gt, c_ge, t_bl, t_ref, o_add, o_sub, o_mul, o_mod, o_div, o_pow, o_cat, n_new, i_tup, i_int, i_non, s_lT0, s_lL0, at_0, at_1, at_2]
    rw [okS_cons]
    simp only [okR_some, okR_none, okS_nx, okS_rt, okS_bk, okS_ct, okR_ok, okR_ite, okS_ite, okS_nil, okR_and, okR_or, okR_chn, truth_bl, gc_app, gc_self, cmp_le, cmp_lt, e_var, e_cst, e_tup, e_lst, e_bin, e_neg, e_not, e_cmp, e_isN, e_ntN, e_ite, e_call, e_blt, e_isa, e_mth, e_ix, e_sl, e_lc, es_nil, es_cons, ts_nil', ts_one', lc_turn, it_seq, it_enm, it_zip, it_rng, rng_1, rng_2, okT_some, x_asg, x_par, x_sub, x_expr, x_ret, x_if, x_for, for_turn, x_while, wh_test, x_pass, x_brk, x_cnt, asg_nm, asg_tup, asg_cons, asg_nil, List.getElem?_cons_zero, List.getElem?_cons_succ, List.set_cons_zero, List.set_cons_succ, List.length_cons, List.length_nil, List.map_cons, List.map_nil, List.replicate, List.cons_append, List.nil_append, Option.bind_some, Option.map_some, Option.map_none, Nat.reduceAdd, Nat.reduceSub, Nat.reduceLT, ↓reduceIte, wipeE, ite_self, Option.join_some, Bool.not_true, Bool.not_false, Bool.false_eq_true, and_self, and_true, true_and, isNon, partD, okO_some, okO_none, ok_srcT, ok_srcL, ok_enmT, ok_enmL, seq_ref, lst_ref, b_lenT, b_lenL, b_lenR, b_listT, b_listL, b_listR, b_tupT, b_tupR, b_all, b_any, b_int, b_min, b_max, b_repr, b_ssetR, b_lsetT, b_sortR, b_rangeL1, x_ixT, x_ixR, x_ixL, x_set, m_append, m_extend, m_popAt, c_eq, c_ne, c_in, c_ni, c_lt, c_le, c_gt, c_ge, t_bl, t_ref, o_add, o_sub, o_mul, o_mod, o_div, o_pow, o_cat, n_new, i_tup, i_int, i_non, s_lT0, s_lL0, at_0, at_1, at_2]
    refine okR_mono (query_ok fuel (k + 1) t pt) ?_
    rintro d S1 ⟨⟨hd, as, rfl, hq⟩, p1, e1⟩
    rw [okS_cons]
    simp only [okR_some, okR_none, okS_nx, okS_rt, okS_bk, okS_ct, okR_ok, okR_ite, okS_ite, okS_nil, okR_and, okR_or, okR_chn, truth_bl, gc_app, gc_self, cmp_le, cmp_lt, e_var, e_cst, e_tup, e_lst, e_bin, e_neg, e_not, e_cmp, e_isN, e_ntN, e_ite, e_call, e_blt, e_isa, e_mth, e_ix, e_sl, e_lc, es_nil, es_cons, ts_nil', ts_one', lc_turn, it_seq, it_enm, it_zip, it_rng, rng_1, rng_2, okT_some, x_asg, x_par, x_sub, x_expr, x_ret, x_if, x_for, for_turn, x_while, wh_test, x_pass, x_brk, x_cnt, asg_nm, asg_tup, asg_cons, asg_nil, List.getElem?_cons_zero, List.getElem?_cons_succ, List.set_cons_zero, List.set_cons_succ, List.length_cons, List.length_nil, List.map_cons, List.map_nil, List.replicate, List.cons_append, List.nil_append, Option.bind_some, Option.map_some, Option.map_none, Nat.reduceAdd, Nat.reduceSub, Nat.reduceLT, ↓reduceIte, wipeE, ite_self, Option.join_some, Bool.not_true, Bool.not_false, Bool.false_eq_true, and_self, and_true, true_and, isNon, partD, okO_some, okO_none, ok_srcT, ok_srcL, ok_enmT, ok_enmL, seq_ref, lst_ref, b_lenT, b_lenL, b_lenR, b_listT, b_listL, b_listR, b_tupT, b_tupR, b_all, b_any, b_int, b_min, b_max, b_repr, b_ssetR, b_lsetT, b_sortR, b_rangeL1, x_ixT, x_ixR, x_ixL, x_set, m_append, m_extend, m_popAt, c_eq, c_ne, c_in, c_ni, c_lt, c_le, c_gt, c_ge, t_bl, t_ref, o_add, o_sub, o_mul, o_mod, o_div, o_pow, o_cat, n_new, i_tup, i_int, i_non, s_lT0, s_lL0, at_0, at_1, at_2]
    refine okR_mono (rules_ok fuel k S1 p1 hq) ?_
    rintro d S2 ⟨⟨rs, rfl, hr⟩, p2, e2⟩
    have qa1 := hq.a1
    have hfl := flat_le as (m := 4) fun xs hx => (hq.a2 xs hx).2.1
    refine okR_mono (vars_ok fuel (k + 4) S2 (hd := tI hd) (as := as) (by omega)) ?_
    rintro d S3 ⟨n, u, rfl, hn, rfl, gn⟩
    have p3 : PenAt (S2 ++ u) := p2.app
    have h2 := p2.len
    generalize S2 ++ u = T at p3 gn
    have hkl : (srt as.flatten).length ≤ 20 := by
      have := srt_len_le as.flatten
      omega
    have hkm : ∀ x ∈ srt as.flatten, InR x := fun x hx => by
      obtain ⟨ys, hy, hx⟩ := List.mem_flatten.mp ((mem_srt x _).mp hx)
      exact (hq.a2 ys hy).2.2 x hx
    have hsh := shw_q hq hr
    rw [okS_cons]
    simp only [okR_some, okR_none, okS_nx, okS_rt, okS_bk, okS_ct, okR_ok, okR_ite, okS_ite, okS_nil, okR_and, okR_or, okR_chn, truth_bl, gc_app, gc_self, cmp_le, cmp_lt, e_var, e_cst, e_tup, e_lst, e_bin, e_neg, e_not, e_cmp, e_isN, e_ntN, e_ite, e_call, e_blt, e_isa, e_mth, e_ix, e_sl, e_lc, es_nil, es_cons, ts_nil', ts_one', lc_turn, it_seq, it_enm, it_zip, it_rng, rng_1, rng_2, okT_some, x_asg, x_par, x_sub, x_expr, x_ret, x_if, x_for, for_turn, x_while, wh_test, x_pass, x_brk, x_cnt, asg_nm, asg_tup, asg_cons, asg_nil, List.getElem?_cons_zero, List.getElem?_cons_succ, List.set_cons_zero, List.set_cons_succ, List.length_cons, List.length_nil, List.map_cons, List.map_nil, List.replicate, List.cons_append, List.nil_append, Option.bind_some, Option.map_some, Option.map_none, Nat.reduceAdd, Nat.reduceSub, Nat.reduceLT, ↓reduceIte, wipeE, ite_self, Option.join_some, Bool.not_true, Bool.not_false, Bool.false_eq_true, and_self, and_true, true_and, isNon, partD, okO_some, okO_none, ok_srcT, ok_srcL, ok_enmT, ok_enmL, seq_ref, lst_ref, b_lenT, b_lenL, b_lenR, b_listT, b_listL, b_listR, b_tupT, b_tupR, b_all, b_any, b_int, b_min, b_max, b_repr, b_ssetR, b_lsetT, b_sortR, b_rangeL1, x_ixT, x_ixR, x_ixL, x_set, m_append, m_extend, m_popAt, c_eq, c_ne, c_in, c_ni, c_lt, c_le, c_gt, c_ge, t_bl, t_ref, o_add, o_sub, o_mul, o_mod, o_div, o_pow, o_cat, n_new, i_tup, i_int, i_non, s_lT0, s_lL0, at_0, at_1, at_2, py_q]
    rw [if_pos hsh, okS_cons]
    simp only [okR_some, okR_none, okS_nx, okS_rt, okS_bk, okS_ct, okR_ok, okR_ite, okS_ite, okS_nil, okR_and, okR_or, okR_chn, truth_bl, gc_app, gc_self, cmp_le, cmp_lt, e_var, e_cst, e_tup, e_lst, e_bin, e_neg, e_not, e_cmp, e_isN, e_ntN, e_ite, e_call, e_blt, e_isa, e_mth, e_ix, e_sl, e_lc, es_nil, es_cons, ts_nil', ts_one', lc_turn, it_seq, it_enm, it_zip, it_rng, rng_1, rng_2, okT_some, x_asg, x_par, x_sub, x_expr, x_ret, x_if, x_for, for_turn, x_while, wh_test, x_pass, x_brk, x_cnt, asg_nm, asg_tup, asg_cons, asg_nil, List.getElem?_cons_zero, List.getElem?_cons_succ, List.set_cons_zero, List.set_cons_succ, List.length_cons, List.length_nil, List.map_cons, List.map_nil, List.replicate, List.cons_append, List.nil_append, Option.bind_some, Option.map_some, Option.map_none, Nat.reduceAdd, Nat.reduceSub, Nat.reduceLT, ↓reduceIte, wipeE, ite_self, Option.join_some, Bool.not_true, Bool.not_false, Bool.false_eq_true, and_self, and_true, true_and, isNon, partD, okO_some, okO_none, ok_srcT, ok_srcL, ok_enmT, ok_enmL, seq_ref, lst_ref, b_lenT, b_lenL, b_lenR, b_listT, b_listL, b_listR, b_tupT, b_tupR, b_all, b_any, b_int, b_min, b_max, b_repr, b_ssetR, b_lsetT, b_sortR, b_rangeL1, x_ixT, x_ixR, x_ixL, x_set, m_append, m_extend, m_popAt, c_eq, c_ne, c_in, c_ni, c_lt, c_le, c_gt, c_ge, t_bl, t_ref, o_add, o_sub, o_mul, o_mod, o_div, o_pow, o_cat, n_new, i_tup, i_int, i_non, s_lT0, s_lL0, at_0, at_1, at_2]
    rw [if_pos (by decide)]
    refine okS_for0 (fun i e t => PenAt t ∧ getL t n = some ((srt as.flatten).map D.int) ∧ ∃ a7 a8 a9 a10 a11 a12, e = [some (.rol (ns.map D.int)), some (.ref 2), some (.int (0 + j)), some (qD hd as), some (rsD rs), some (.ref n), some (.str (pQ hd as rs).shown), a7, a8, a9, a10, a11, a12]) ⟨p3, gn, _, _, _, _, _, _, rfl⟩ ?_ ?_
    · rintro i e t hi ⟨pt, gt, b7, b8, b9, b10, b11, b12, rfl⟩
      refine ⟨.int (0 + i), rfl, ?_⟩
      rw [for_turn]
      simp only [okR_some, okR_none, okS_nx, okS_rt, okS_bk, okS_ct, okR_ok, okR_ite, okS_ite, okS_nil, okR_and, okR_or, okR_chn, truth_bl, gc_app, gc_self, cmp_le, cmp_lt, e_var, e_cst, e_tup, e_lst, e_bin, e_neg, e_not, e_cmp, e_isN, e_ntN, e_ite, e_call, e_blt, e_isa, e_mth, e_ix, e_sl, e_lc, es_nil, es_cons, ts_nil', ts_one', lc_turn, it_seq, it_enm, it_zip, it_rng, rng_1, rng_2, okT_some, x_asg, x_par, x_sub, x_expr, x_ret, x_if, x_for, for_turn, x_while, wh_test, x_pass, x_brk, x_cnt, asg_nm, asg_tup, asg_cons, asg_nil, List.getElem?_cons_zero, List.getElem?_cons_succ, List.set_cons_zero, List.set_cons_succ, List.length_cons, List.length_nil, List.map_cons, List.map_nil, List.replicate, List.cons_append, List.nil_append, Option.bind_some, Option.map_some, Option.map_none, Nat.reduceAdd, Nat.reduceSub, Nat.reduceLT, ↓reduceIte, wipeE, ite_self, Option.join_some, Bool.not_true, Bool.not_false, Bool.false_eq_true, and_self, and_true, true_and, isNon, partD, okO_some, okO_none, ok_srcT, ok_srcL, ok_enmT, ok_enmL, seq_ref, lst_ref, b_lenT, b_lenL, b_lenR, b_listT, b_listL, b_listR, b_tupT, b_tupR, b_all, b_any, b_int, b_min, b_max, b_repr, b_ssetR, b_lsetT, b_sortR, b_rangeL1, x_ixT, x_ixR, x_ixL, x_set, m_append, m_extend, m_popAt, c_eq, c_ne, c_in, c_ni, c_lt, c_le, c_gt, c_ge, t_bl, t_ref, o_add, o_sub, o_mul, o_mod, o_div, o_pow, o_cat, n_new, i_tup, i_int, i_non, s_lT0, s_lL0, at_0, at_1, at_2]
      exact inner_ok fuel k hf (s0 := t) (q0 := .non) hq hr pt gt (by omega) hkl hkm fun _ _ _ _ _ _ t' pt' gt' => ⟨pt', gt', _, _, _, _, _, _, rfl⟩
    · rintro e t ⟨pt, gt, b7, b8, b9, b10, b11, b12, rfl⟩
      refine ⟨rfl, ?_⟩
      dsimp only
      rw [okS_cons]
      simp only [okR_some, okR_none, okS_nx, okS_rt, okS_bk, okS_ct, okR_ok, okR_ite, okS_ite, okS_nil, okR_and, okR_or, okR_chn, truth_bl, gc_app, gc_self, cmp_le, cmp_lt, e_var, e_cst, e_tup, e_lst, e_bin, e_neg, e_not, e_cmp, e_isN, e_ntN, e_ite, e_call, e_blt, e_isa, e_mth, e_ix, e_sl, e_lc, es_nil, es_cons, ts_nil', ts_one', lc_turn, it_seq, it_enm, it_zip, it_rng, rng_1, rng_2, okT_some, x_asg, x_par, x_sub, x_expr, x_ret, x_if, x_for, for_turn, x_while, wh_test, x_pass, x_brk, x_cnt, asg_nm, asg_tup, asg_cons, asg_nil, List.getElem?_cons_zero, List.getElem?_cons_succ, List.set_cons_zero, List.set_cons_succ, List.length_cons, List.length_nil, List.map_cons, List.map_nil, List.replicate, List.cons_append, List.nil_append, Option.bind_some, Option.map_some, Option.map_none, Nat.reduceAdd, Nat.reduceSub, Nat.reduceLT, ↓reduceIte, wipeE, ite_self, Option.join_some, Bool.not_true, Bool.not_false, Bool.false_eq_true, and_self, and_true, true_and, isNon, partD, okO_some, okO_none, ok_srcT, ok_srcL, ok_enmT, ok_enmL, seq_ref, lst_ref, b_lenT, b_lenL, b_lenR, b_listT, b_listL, b_listR, b_tupT, b_tupR, b_all, b_any, b_int, b_min, b_max, b_repr, b_ssetR, b_lsetT, b_sortR, b_rangeL1, x_ixT, x_ixR, x_ixL, x_set, m_append, m_extend, m_popAt, c_eq, c_ne, c_in, c_ni, c_lt, c_le, c_gt, c_ge, t_bl, t_ref, o_add, o_sub, o_mul, o_mod, o_div, o_pow, o_cat, n_new, i_tup, i_int, i_non, s_lT0, s_lL0, at_0, at_1, at_2, py_q]
      rw [if_pos hsh, eq_str]
      simp only [okR_some, okR_none, okS_nx, okS_rt, okS_bk, okS_ct, okR_ok, okR_ite, okS_ite, okS_nil, okR_and, okR_or, okR_chn, truth_bl, gc_app, gc_self, cmp_le, cmp_lt, e_var, e_cst, e_tup, e_lst, e_bin, e_neg, e_not, e_cmp, e_isN, e_ntN, e_ite, e_call, e_blt, e_isa, e_mth, e_ix, e_sl, e_lc, es_nil, es_cons, ts_nil', ts_one', lc_turn, it_seq, it_enm, it_zip, it_rng, rng_1, rng_2, okT_some, x_asg, x_par, x_sub, x_expr, x_ret, x_if, x_for, for_turn, x_while, wh_test, x_pass, x_brk, x_cnt, asg_nm, asg_tup, asg_cons, asg_nil, List.getElem?_cons_zero, List.getElem?_cons_succ, List.set_cons_zero, List.set_cons_succ, List.length_cons, List.length_nil, List.map_cons, List.map_nil, List.replicate, List.cons_append, List.nil_append, Option.bind_some, Option.map_some, Option.map_none, Nat.reduceAdd, Nat.reduceSub, Nat.reduceLT, ↓reduceIte, wipeE, ite_self, Option.join_some, Bool.not_true, Bool.not_false, Bool.false_eq_true, and_self, and_true, true_and, isNon, partD, okO_some, okO_none, ok_srcT, ok_srcL, ok_enmT, ok_enmL, seq_ref, lst_ref, b_lenT, b_lenL, b_lenR, b_listT, b_listL, b_listR, b_tupT, b_tupR, b_all, b_any, b_int, b_min, b_max, b_repr, b_ssetR, b_lsetT, b_sortR, b_rangeL1, x_ixT, x_ixR, x_ixL, x_set, m_append, m_extend, m_popAt, c_eq, c_ne, c_in, c_ni, c_lt, c_le, c_gt, c_ge, t_bl, t_ref, o_add, o_sub, o_mul, o_mod, o_div, o_pow, o_cat, n_new, i_tup, i_int, i_non, s_lT0, s_lL0, at_0, at_1, at_2]
      exact ⟨pt, _, _, _, _, _, _, _, _, _, _, _, rfl⟩
  · rintro e t ⟨pt, a2, a3, a4, a5, a6, a7, a8, a9, a10, a11, a12, rfl⟩
    refine ⟨rfl, ?_⟩
    dsimp only
    rw [okS_cons]
    simp only [okR_some, okR_none, okS_nx, okS_rt, okS_bk, okS_ct, okR_ok, okR_ite, okS_ite, okS_nil, okR_and, okR_or, okR_chn, truth_bl, gc_app, gc_self, cmp_le, cmp_lt, e_var, e_cst, e_tup, e_lst, e_bin, e_neg, e_not, e_cmp, e_isN, e_ntN, e_ite, e_call, e_blt, e_isa, e_mth, e_ix, e_sl, e_lc, es_nil, es_cons, ts_nil', ts_one', lc_turn, it_seq, it_enm, it_zip, it_rng, rng_1, rng_2, okT_some, x_asg, x_par, x_sub, x_expr, x_ret, x_if, x_for, for_turn, x_while, wh_test, x_pass, x_brk, x_cnt, asg_nm, asg_tup, asg_cons, asg_nil, List.getElem?_cons_zero, List.getElem?_cons_succ, List.set_cons_zero, List.set_cons_succ, List.length_cons, List.length_nil, List.map_cons, List.map_nil, List.replicate, List.cons_append, List.nil_append, Option.bind_some, Option.map_some, Option.map_none, Nat.reduceAdd, Nat.reduceSub, Nat.reduceLT, ↓reduceIte, wipeE, ite_self, Option.join_some, Bool.not_true, Bool.not_false, Bool.false_eq_true, and_self, and_true, true_and, isNon, partD, okO_some, okO_none, ok_srcT, ok_srcL, ok_enmT, ok_enmL, seq_ref, lst_ref, b_lenT, b_lenL, b_lenR, b_listT, b_listL, b_listR, b_tupT, b_tupR, b_all, b_any, b_int, b_min, b_max, b_repr, b_ssetR, b_lsetT, b_sortR, b_rangeL1, x_ixT, x_ixR, x_ixL, x_set, m_append, m_extend, m_popAt, c_eq, c_ne, c_in, c_ni, c_lt, c_le, c_gt, c_ge, t_bl, t_ref, o_add, o_sub, o_mul, o_mod, o_div, o_pow, o_cat, n_new, i_tup, i_int, i_non, s_lT0, s_lL0, at_0, at_1, at_2]
    exact gc_end (P := Fin) rfl (fun _ _ => rfl) (lev_same _ _ _)
theorem law_math (ns : List Int) (h : ns.length ≤ 63) : ∃ s', (Mir.lev K03.tbl 1000 30).fn "law" [.rol (ns.map Mir.D.int)] [] = .ok (.bl true) s' := by
  obtain ⟨d, s', e, rfl⟩ := okR_eq (law_ok 1000 24 (by decide) h)
  exact ⟨s', e⟩
end K03

open PySem PySem.W PyProof.Rows
set_option maxHeartbeats 0 in
theorem PySem.Challenge.cw_viewstrike_k03_closures_and_chains_holds : PySem.Challenge.rw_viewstrike_k03_closures_and_chains.Holds := by
  w_on; o_law; k_head; (case hw => w_witness2)
  k_fill
  refine Mir.walk_mir (l := PySem.Challenge.rw_viewstrike_k03_closures_and_chains) (n := 63) (k := 30) (x := "script") ((Mir.lev K03.tbl 1000 30).fn "law") rfl (by decide) rfl ⟨rfl, by decide, by decide⟩ (fun w h Y => PySem.W.kIn_of Y) ?F K03.law_math
  case F =>
    intro w mg fa h KX G hmg
    refine' K03.law_head (K03.of_walk KX G ?a0 ?l0 ?c0 ?k0 ?a1 ?l1 ?c1 ?k1 ?a2 ?l2 ?c2 ?k2 ?a3 ?l3 ?c3 ?k3 ?a4 ?l4 ?c4 ?k4 ?a5 ?l5 ?c5 ?k5 ?a6 ?l6 ?c6 ?k6 ?a7 ?l7 ?c7 ?k7 ?a8 ?l8 ?c8 ?k8 ?a9 ?l9 ?c9 ?k9 ?a10 ?l10 ?c10 ?k10 ?a11 ?l11 ?c11 ?k11 ?a12 ?l12 ?c12 ?k12 ?a13 ?l13 ?c13 ?k13 ?a14 ?l14 ?c14 ?k14 ?a15 ?l15 ?c15 ?k15 ?a16 ?l16 ?c16 ?k16 ?a17 ?l17 ?c17 ?k17 ?a18 ?l18 ?c18 ?k18 ?a19 ?l19 ?c19 ?k19 ?a20 ?l20 ?c20 ?k20 ?a21 ?l21 ?c21 ?k21 ?z0 ?z1 ?z2 ?z3 ?z4 ?z5 ?z6 ?z7 ?z8 ?z9 ?z10 ?z11 ?z12 ?z13 ?z14 ?z15 ?z16 ?z17 ?z18).1 _ _ hmg
    (case a0 => k_is); (case l0 => k_is); (case c0 => k_is); (case k0 => k_is); (case a1 => k_is); (case l1 => k_is); (case c1 => k_is); (case k1 => k_is); (case a2 => k_is); (case l2 => k_is); (case c2 => k_is); (case k2 => k_is); (case a3 => k_is); (case l3 => k_is); (case c3 => k_is); (case k3 => k_is); (case a4 => k_is); (case l4 => k_is); (case c4 => k_is); (case k4 => k_is); (case a5 => k_is); (case l5 => k_is); (case c5 => k_is); (case k5 => k_is); (case a6 => k_is); (case l6 => k_is); (case c6 => k_is); (case k6 => k_is); (case a7 => k_is); (case l7 => k_is); (case c7 => k_is); (case k7 => k_is); (case a8 => k_is); (case l8 => k_is); (case c8 => k_is); (case k8 => k_is); (case a9 => k_is); (case l9 => k_is); (case c9 => k_is); (case k9 => k_is); (case a10 => k_is); (case l10 => k_is); (case c10 => k_is); (case k10 => k_is); (case a11 => k_is); (case l11 => k_is); (case c11 => k_is); (case k11 => k_is); (case a12 => k_is); (case l12 => k_is); (case c12 => k_is); (case k12 => k_is); (case a13 => k_is); (case l13 => k_is); (case c13 => k_is); (case k13 => k_is); (case a14 => k_is); (case l14 => k_is); (case c14 => k_is); (case k14 => k_is); (case a15 => k_is); (case l15 => k_is); (case c15 => k_is); (case k15 => k_is); (case a16 => k_is); (case l16 => k_is); (case c16 => k_is); (case k16 => k_is); (case a17 => k_is); (case l17 => k_is); (case c17 => k_is); (case k17 => k_is); (case a18 => k_is); (case l18 => k_is); (case c18 => k_is); (case k18 => k_is); (case a19 => k_is); (case l19 => k_is); (case c19 => k_is); (case k19 => k_is); (case a20 => k_is); (case l20 => k_is); (case c20 => k_is); (case k20 => k_is); (case a21 => k_is); (case l21 => k_is); (case c21 => k_is); (case k21 => k_is); (case z0 => k_is); (case z1 => k_is); (case z2 => k_is); (case z3 => k_is); (case z4 => k_is); (case z5 => k_is); (case z6 => k_is); (case z7 => k_is); (case z8 => k_is); (case z9 => k_is); (case z10 => k_is); (case z11 => k_is); (case z12 => k_is); (case z13 => k_is); (case z14 => k_is); (case z15 => k_is); (case z16 => k_is); (case z17 => k_is); (case z18 => k_is)

