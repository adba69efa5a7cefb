import PyProof.Rows.All
import Wide.All
import OpenK.AllK
import Wide.FinOn
import HandS.ForMost
import HandS.Exc
import KE.SortKeyHeap
import HandS.TupAny
import HandS.TupMul
import HandS.Zip
import HandS.Deep
import HandS.Flow
import KE.DataEq
import KE.DataMinMax
import PyProof.ReprRoads
import PyProof.Rows.Digits
import PyProof.Rows.CallKwBuiltin
import PyProof.Rows.SeqMore
import HandS.Style
import HandS.SortInts
import HandS.SortKw
import KE.KDictZip
import HandS.Codes
import HandS.TryMany
import HandS.ExcOwn
import HandS.Ends
import PyProof.Rows.ReprOcc
import PySem.Challenge.RW_ridgespans_k12_spreads_and_gaps
set_option Elab.async false
set_option linter.all false
set_option maxRecDepth 100000
set_option maxHeartbeats 4000000
/-! RS1: a small language of my own for the subset of Python that the package and the laws use, and its evaluator over plain data. -/
namespace RS
open PySem

/-- a value: data that never changes, a cell of the store, a list just made that nobody holds -/
inductive Va where
  | dat (d : PyData)
  | ref (k : Nat)
  | new (xs : List Va)
/-- a cell of the store -/
inductive Cell where
  | lst (xs : List Va)
  | dead
abbrev Env := List (Option Va)
abbrev Sto := List Cell
/-- an error on its way: its class's name, the names of this class and of those it stands under, what it was given -/
structure Ex where
  cls : Str
  mro : List PyData
  val : Option PyData
inductive Res (α : Type) where
  | ok (a : α) (st : Sto)
  | exc (e : Ex) (st : Sto)
  | stuck
def Res.bind {α β : Type} (r : Res α) (k : α → Sto → Res β) : Res β := match r with
  | .ok a st => k a st
  | .exc e st => .exc e st
  | .stuck => .stuck
@[simp] theorem Res.bind_ok {α β : Type} (a : α) (st : Sto) (k : α → Sto → Res β) : (Res.ok a st).bind k = k a st := rfl
@[simp] theorem Res.bind_exc {α β : Type} (e : Ex) (st : Sto) (k : α → Sto → Res β) : (Res.exc e st : Res α).bind k = .exc e st := rfl
@[simp] theorem Res.bind_stuck {α β : Type} (k : α → Sto → Res β) : (Res.stuck : Res α).bind k = .stuck := rfl
def Res.of {α : Type} (o : Option α) (st : Sto) : Res α := match o with
  | some a => .ok a st
  | none => .stuck
@[simp] theorem Res.of_some {α : Type} (a : α) (st : Sto) : Res.of (some a) st = .ok a st := rfl
@[simp] theorem Res.of_none {α : Type} (st : Sto) : (Res.of none st : Res α) = .stuck := rfl

/-! ### views of values -/
def undat : List Va → Option (List PyData)
  | [] => some []
  | .dat d :: r => (undat r).map (d :: ·)
  | _ :: _ => none
def cellItems : Option Cell → Option (List Va)
  | some (.lst xs) => some xs
  | _ => none
def view (st : Sto) : Va → Option PyData
  | .dat d => some d
  | .ref k => (cellItems st[k]?).bind fun xs => (undat xs).map .list
  | .new xs => (undat xs).map .list
/-- .. that stands still -/
def viewN : Va → Option PyData
  | .dat d => some d
  | .ref _ => none
  | .new xs => (undat xs).map .list
/-- what a loop walks -/
def itemsOf (st : Sto) : Va → Option (List Va)
  | .dat (.list ds) => some (ds.map .dat)
  | .dat (.tuple ds) => some (ds.map .dat)
  | .new xs => some xs
  | .ref k => cellItems st[k]?
  | _ => none
def Va.low (n : Nat) : Va → Bool
  | .dat _ => true
  | .ref k => decide (k < n)
  | .new _ => false
def isInts : List PyData → Option (List Int)
  | [] => some []
  | .int i :: r => (isInts r).map (i :: ·)
  | _ :: _ => none
def isBools : List PyData → Option (List Bool)
  | [] => some []
  | .bool b :: r => (isBools r).map (b :: ·)
  | _ :: _ => none
/-- data without dicts, of a depth -/
def flatD : Nat → PyData → Bool
  | _, .none => true
  | _, .bool _ => true
  | _, .int _ => true
  | _, .str _ => true
  | n + 1, .list xs => xs.all (flatD n)
  | n + 1, .tuple xs => xs.all (flatD n)
  | _, _ => false

/-! ### operators -/
inductive BinO where
  | add | sub | mul | fdiv | mod | pow
  deriving DecidableEq
inductive CmpO where
  | eq | ne | lt | le | gt | ge | isN | notN | inn | nin
  deriving DecidableEq
def big : Int := 18446744073709551616
def arith : BinO → Int → Int → Option Int
  | .add, i, j => some (i + j)
  | .sub, i, j => some (i - j)
  | .mul, i, j => if (-big < i ∧ i < big) ∨ (-big < j ∧ j < big) then some (i * j) else none
  | .fdiv, i, j => if j ≠ 0 ∧ j.natAbs < 1073741824 then some (i.fdiv j) else none
  | .mod, i, j => if j ≠ 0 then some (i.fmod j) else none
  | .pow, i, j => if 0 ≤ j ∧ ((j ≤ 1000000 ∧ i.natAbs < 18446744073709551616) ∨ (j ≤ 1000 ∧ i.natAbs.log2 < 60000)) then some (i ^ j.toNat) else none
def opSeq : BinO → PyData → PyData → Option Va
  | .add, .list xs, .list ys => if xs.length + ys.length ≤ 16777216 then some (.new ((xs ++ ys).map .dat)) else none
  | .add, .tuple xs, .tuple ys => if xs.length + ys.length ≤ 16777216 then some (.dat (.tuple (xs ++ ys))) else none
  | .mul, .list xs, .int k => if 0 ≤ k ∧ k ≤ 1000 ∧ xs.length ≤ 1000 then some (.new ((List.replicate k.toNat xs).flatten.map .dat)) else none
  | .mul, .tuple xs, .int k => if 0 ≤ k ∧ k ≤ 1000 ∧ xs.length ≤ 1000 then some (.dat (.tuple (List.replicate k.toNat xs).flatten)) else none
  | _, _, _ => none
def opBin (o : BinO) (a b : PyData) : Option Va := match a, b with
  | .int i, .int j => (arith o i j).map fun k => .dat (.int k)
  | a, b => opSeq o a b
def opCmp : CmpO → PyData → PyData → Option Bool
  | .eq, a, b => if flatD 60 a = true ∧ flatD 60 b = true then some (PyData.eqv a b) else none
  | .ne, a, b => if flatD 60 a = true ∧ flatD 60 b = true then some (!PyData.eqv a b) else none
  | .lt, .int i, .int j => some (decide (i < j))
  | .le, .int i, .int j => some (decide (i ≤ j))
  | .gt, .int i, .int j => some (decide (j < i))
  | .ge, .int i, .int j => some (decide (j ≤ i))
  | .isN, .none, .none => some true
  | .isN, _, .none => some false
  | .notN, .none, .none => some false
  | .notN, _, .none => some true
  | .inn, a, .list xs => if flatD 60 a = true ∧ flatD 60 (.list xs) = true then some (xs.any fun z => PyData.eqv z a) else none
  | .inn, a, .tuple xs => if flatD 60 a = true ∧ flatD 60 (.tuple xs) = true then some (xs.any fun z => PyData.eqv z a) else none
  | .nin, a, .list xs => if flatD 60 a = true ∧ flatD 60 (.list xs) = true then some (!xs.any fun z => PyData.eqv z a) else none
  | .nin, a, .tuple xs => if flatD 60 a = true ∧ flatD 60 (.tuple xs) = true then some (!xs.any fun z => PyData.eqv z a) else none
  | _, _, _ => none
inductive Bi where
  | len | abs | sum | maxN | all | any | int | repr | tuple | list | minL | maxL | sorted
  deriving DecidableEq
inductive Bi2 where
  | min | max
  deriving DecidableEq
def bi2F : Bi2 → PyData → PyData → Option PyData
  | .min, .int i, .int j => some (.int (if j < i then j else i))
  | .max, .int i, .int j => some (.int (if j > i then j else i))
  | _, _, _ => none
/-- whole numbers in order -/
def sortI (ns : List Int) : List Int := ns.mergeSort fun a b => decide (a ≤ b)
mutual
/-- what the text of data weighs, at most -/
def wt : PyData → Nat
  | .none => 4
  | .bool _ => 5
  | .int i => if i.natAbs.log2 < 12900 then i.natAbs.log2 + 3 else 16777216
  | .str x => (reprText x).length
  | .list xs => wts xs + 3
  | .tuple xs => wts xs + 3
  | .dict _ => 16777216
def wts : List PyData → Nat
  | [] => 0
  | x :: r => wt x + 2 + wts r
end
def biF : Bi → PyData → Option Va
  | .len, .list xs => some (.dat (.int xs.length))
  | .len, .tuple xs => some (.dat (.int xs.length))
  | .abs, .int i => some (.dat (.int (if i < 0 then -i else i)))
  | .sum, .list xs => (isInts xs).map fun ns => .dat (.int ns.sum)
  | .maxN, .list xs => (isInts xs).map fun ns => match ns with
      | [] => .dat .none
      | n :: r => .dat (.int (r.foldl max n))
  | .all, .list xs => (isBools xs).map fun bs => .dat (.bool (bs.all id))
  | .any, .list xs => (isBools xs).map fun bs => .dat (.bool (bs.any id))
  | .int, .int i => some (.dat (.int i))
  | .int, .bool b => some (.dat (.int (if b then 1 else 0)))
  | .repr, d => if flatD 60 d = true ∧ wt d ≤ 16000000 then some (.dat (.str (PyData.shown d))) else none
  | .tuple, .list xs => some (.dat (.tuple xs))
  | .tuple, .tuple xs => some (.dat (.tuple xs))
  | .list, .list xs => some (.new (xs.map .dat))
  | .list, .tuple xs => some (.new (xs.map .dat))
  | .minL, .list xs => (isInts xs).bind fun ns => match ns with
      | [] => none
      | n :: r => some (.dat (.int (r.foldl min n)))
  | .maxL, .list xs => (isInts xs).bind fun ns => match ns with
      | [] => none
      | n :: r => some (.dat (.int (r.foldl max n)))
  | .sorted, .list xs => (isInts xs).map fun ns => .new ((sortI ns).map fun n => .dat (.int n))
  | _, _ => none

/-! ### the language -/
/-- a target of a loop -/
inductive G where
  | v (i : Nat)
  | t (is : List Nat)
/-- expressions, argument lists (anil, acons), what a loop walks (is ..) -/
inductive T where
  | var (i : Nat)
  | lit (d : PyData)
  | glob (x : Str) (d : PyData)
  | bin (o : BinO) (a b : T)
  | neg (a : T)
  | cmp (o : CmpO) (a b : T)
  | and (a b : T)
  | or (a b : T)
  | last (a : T)
  | not (a : T)
  | ife (c a b : T)
  | tup (as : T)
  | lst (as : T)
  | lc (own : List (Str × Nat)) (g : G) (it c e : T)
  | call (f : Nat) (as : T)
  | callk (f : Nat) (as : T) (ks : List Str) (perm : List Nat) (ws : T)
  | bi (b : Bi) (a : T)
  | bi2 (b : Bi2) (a c : T)
  | chain (o p : CmpO) (a b c : T)
  | rev (a : T)
  | sortk (f : Nat) (a : T)
  | idx (a i : T)
  | slc (a lo hi : T)
  | app (a x : T)
  | popAt (a i : T)
  | mut (a : T)
  | frz (a : T)
  | yes
  | nopart
  | anil
  | acons (a r : T)
  | iseq (a : T)
  | irange1 (a : T)
  | irange2 (a b : T)
  | izip (a b : T)

def setEnv (ρ : Env) (i : Nat) (v : Va) : Env := ρ.set i (some v)
def setAll : List Nat → List PyData → Env → Option Env
  | [], [], ρ => some ρ
  | i :: is, d :: ds, ρ => setAll is ds (setEnv ρ i (.dat d))
  | _, _, _ => none
def asgG : G → Va → Env → Option Env
  | .v i, x, ρ => match x with
    | .new _ => none
    | x => some (setEnv ρ i x)
  | .t is, .dat (.tuple ds), ρ => if ds.length = is.length then setAll is ds ρ else none
  | _, _, _ => none
/-- the block's own places are forgotten -/
def wipeE (ρ : Env) : List (Str × Nat) → Env
  | [] => ρ
  | p :: r => (wipeE ρ r).set p.2 none
/-- a loop's source: the items, the cell that must stand still -/
structure Src where
  items : List Va
  still : Option (Nat × List Va)
/-- two lists, or two tuples, side by side -/
def zipD : Option PyData → Option PyData → Option (List Va)
  | some (.list xs), some (.list ys) => some ((List.zipWith (fun x y => PyData.tuple [x, y]) xs ys).map .dat)
  | some (.tuple xs), some (.tuple ys) => some ((List.zipWith (fun x y => PyData.tuple [x, y]) xs ys).map .dat)
  | _, _ => none
def upto (lo : Int) : Nat → List Va
  | 0 => []
  | n + 1 => .dat (.int lo) :: upto (lo + 1) n
/-- no error leaves a comprehension -/
def Res.calm {α : Type} : Res α → Res α
  | .ok a st => .ok a st
  | _ => .stuck
@[simp] theorem Res.calm_ok {α : Type} (a : α) (st : Sto) : (Res.ok a st).calm = .ok a st := rfl
/-- a comprehension's items -/
def lcL (f : Va → Sto → Res (Option Va)) : List Va → Sto → Res (List Va)
  | [], st => .ok [] st
  | x :: xs, st => (f x st).calm.bind fun o st1 => (lcL f xs st1).bind fun r st2 => .ok (match o with | some v => v :: r | none => r) st2
def cut {α : Type} (xs : List α) (lo hi : Option Int) : List α := (xs.drop (HT.sIx xs.length 0 lo)).take (HT.sIx xs.length xs.length hi - HT.sIx xs.length 0 lo)
def partOf : PyData → Option (Option Int)
  | .none => some none
  | .int i => some (some i)
  | _ => none
def partV : Va → Option (Option Int)
  | .dat d => partOf d
  | _ => none
def opIdx (st : Sto) (a : Va) (d : PyData) : Option Va := match d with
  | .int i => (itemsOf st a).bind fun xs => L2.atI xs i
  | _ => none
def opSlc (st : Sto) (a : Va) (lo hi : Option Int) : Option Va := match a with
  | .dat (.tuple xs) => some (.dat (.tuple (cut xs lo hi)))
  | a => (itemsOf st a).map fun xs => .new (cut xs lo hi)
def frzV (v : Va) (st : Sto) : Res Va := match v with
  | .dat d => .ok (.dat d) st
  | .new xs => match undat xs with
    | some ds => .ok (.dat (.list ds)) st
    | none => .stuck
  | .ref k => match st[k]? with
    | some (.lst xs) => match undat xs with
      | some ds => .ok (.dat (.list ds)) (st.set k .dead)
      | none => .stuck
    | _ => .stuck
def mutV (v : Va) (st : Sto) : Res Va := match v with
  | .new xs => if xs.all (·.low st.length) = true then .ok (.ref st.length) (st ++ [.lst xs]) else .stuck
  | _ => .stuck
def appV (a x : Va) (st : Sto) : Res Va := match a with
  | .ref k => match st[k]? with
    | some (.lst xs) => if x.low k = true ∧ xs.length < 16777216 then .ok (.dat .none) (st.set k (.lst (xs ++ [x]))) else .stuck
    | _ => .stuck
  | _ => .stuck
def popV (a : Va) (d : PyData) (st : Sto) : Res Va := match a, d with
  | .ref k, .int i => match st[k]? with
    | some (.lst xs) => if 0 ≤ i ∧ i < 9223372036854775808 then match xs[i.toNat]? with
        | some x => .ok x (st.set k (.lst (xs.eraseIdx i.toNat)))
        | none => .stuck
      else .stuck
    | _ => .stuck
  | _, _ => .stuck
def setV (a : Va) (d : PyData) (x : Va) (st : Sto) : Res Unit := match a, d with
  | .ref k, .int i => match st[k]? with
    | some (.lst xs) => if x.low k = true ∧ 0 ≤ i ∧ i.toNat < xs.length then .ok () (st.set k (.lst (xs.set i.toNat x))) else .stuck
    | _ => .stuck
  | _, _ => .stuck
def isLst (st : Sto) : Va → Bool
  | .ref k => (cellItems st[k]?).isSome
  | _ => false
def isLstV : Va → Bool
  | .dat (.tuple _) => false
  | _ => true
def tupV : Va → Option (List PyData)
  | .dat (.tuple ds) => some ds
  | _ => none
def asBool : Va → Option Bool
  | .dat (.bool b) => some b
  | _ => none
def isOut : Va → Option Va
  | .new _ => none
  | v => some v

/-- some of a list, by their places -/
def pick (xs : List Va) : List Nat → Option (List Va)
  | [] => some []
  | i :: r => match xs[i]? with
    | some x => (pick xs r).map (x :: ·)
    | none => none

/-- the items by the order of their keys -/
def sortK (ds ks : List PyData) : List PyData := ((ds.zip ks).mergeSort (PySem.W.dataLe false Prod.snd)).map Prod.fst
def tupNe : PyData → Bool
  | .tuple (_ :: _) => true
  | _ => false
def noTup : PyData → Bool
  | .none => false
  | .tuple _ => false
  | _ => true
/-- keys that can be compared -/
def keysOk (ks : List PyData) : Bool := ks.all (fun k => ks.all fun k' => PySem.W.alike k k') && (ks.all tupNe || ks.all noTup) && ks.all fun k => decide (k.depth ≤ 60)
/-- a key for each item -/
def keysL (g : List Va → Sto → Res Va) : List PyData → Sto → Res (List PyData)
  | [], st => .ok [] st
  | d :: ds, st => (g [.dat d] st).calm.bind fun v st1 => match v with
    | .dat k => (keysL g ds st1).bind fun ks st2 => .ok (k :: ks) st2
    | _ => .stuck

section
variable (φ : Nat → List Va → Sto → Res Va)
mutual
/-- an expression's value -/
def evE : T → Env → Sto → Res Va
  | .var i, ρ, st => .of (ρ[i]?.bind id) st
  | .lit d, _, st => .ok (.dat d) st
  | .glob _ d, _, st => .ok (.dat d) st
  | .bin o a b, ρ, st => (evE a ρ st).bind fun x st1 => (evE b ρ st1).bind fun y st2 => match view st2 x, view st2 y with
      | some d, some e => .of (opBin o d e) st2
      | _, _ => .stuck
  | .neg a, ρ, st => (evE a ρ st).bind fun x st1 => match x with
      | .dat (.int i) => .ok (.dat (.int (-i))) st1
      | _ => .stuck
  | .cmp o a b, ρ, st => (evE a ρ st).bind fun x st1 => (evE b ρ st1).bind fun y st2 => match view st2 x, view st2 y with
      | some d, some e => .of ((opCmp o d e).map fun c => .dat (.bool c)) st2
      | _, _ => .stuck
  | .and a b, ρ, st => (evE a ρ st).bind fun x st1 => match asBool x with
      | some true => evE b ρ st1
      | some false => .ok (.dat (.bool false)) st1
      | none => .stuck
  | .or a b, ρ, st => (evE a ρ st).bind fun x st1 => match asBool x with
      | some true => .ok (.dat (.bool true)) st1
      | some false => evE b ρ st1
      | none => .stuck
  | .last a, ρ, st => evE a ρ st
  | .not a, ρ, st => (evE a ρ st).bind fun x st1 => match asBool x with
      | some c => .ok (.dat (.bool (!c))) st1
      | none => .stuck
  | .ife c a b, ρ, st => (evT c ρ st).bind fun t st1 => match t with
      | true => evE a ρ st1
      | false => evE b ρ st1
  | .tup as, ρ, st => (evA as ρ st).bind fun xs st1 => match undat xs with
      | some ds => .ok (.dat (.tuple ds)) st1
      | none => .stuck
  | .lst as, ρ, st => (evA as ρ st).bind fun xs st1 => .ok (.new xs) st1
  | .lc own g it c e, ρ, st => (evI it ρ st).bind fun src st1 => match src.still with
      | some _ => .stuck
      | none => if src.items.length ≤ 16777216 then (lcL (fun x s => match asgG g x (wipeE ρ own) with
          | none => .stuck
          | some ρ1 => (evT c ρ1 s).bind fun t s1 => match t with
            | true => (evE e ρ1 s1).bind fun v s2 => match isOut v with
              | some v => .ok (some v) s2
              | none => .stuck
            | false => .ok none s1) src.items st1).bind fun xs st2 => .ok (.new xs) st2
        else .stuck
  | .call f as, ρ, st => (evA as ρ st).bind fun xs st1 => φ f xs st1
  | .callk f as _ perm ws, ρ, st => (evA as ρ st).bind fun xs st1 => (evA ws ρ st1).bind fun ys st2 => match pick (xs ++ ys) perm with
      | some args => φ f args st2
      | none => .stuck
  | .bi b a, ρ, st => (evE a ρ st).bind fun x st1 => match view st1 x with
      | some d => .of (biF b d) st1
      | none => .stuck
  | .bi2 b a c, ρ, st => (evE a ρ st).bind fun x st1 => (evE c ρ st1).bind fun y st2 => match x, y with
      | .dat d, .dat e => .of ((bi2F b d e).map .dat) st2
      | _, _ => .stuck
  | .chain o p a b c, ρ, st => (evE a ρ st).bind fun x st1 => (evE b ρ st1).bind fun y st2 => match view st2 x, view st2 y with
      | some d, some e => match opCmp o d e with
        | some true => (evE c ρ st2).bind fun z st3 => match view st3 y, view st3 z with
          | some e, some g => .of ((opCmp p e g).map fun k => .dat (.bool k)) st3
          | _, _ => .stuck
        | some false => .ok (.dat (.bool false)) st2
        | none => .stuck
      | _, _ => .stuck
  | .rev a, ρ, st => (evE a ρ st).bind fun x st1 => match isLstV x with
      | true => match itemsOf st1 x with
        | some xs => .ok (.new xs.reverse) st1
        | none => .stuck
      | false => match tupV x with
        | some ds => .ok (.dat (.tuple ds.reverse)) st1
        | none => .stuck
  | .sortk f a, ρ, st => (evE a ρ st).bind fun x st1 => match view st1 x with
      | some (.list ds) => (keysL (fun xs s => φ f xs s) ds st1).bind fun ks st2 => if keysOk ks = true then .ok (.new ((sortK ds ks).map .dat)) st2 else .stuck
      | _ => .stuck
  | .idx a i, ρ, st => (evE a ρ st).bind fun x st1 => (evE i ρ st1).bind fun y st2 => match y with
      | .dat d => .of (opIdx st2 x d) st2
      | _ => .stuck
  | .slc a lo hi, ρ, st => (evE a ρ st).bind fun x st1 => (evE lo ρ st1).bind fun y st2 => match partV y with
      | some l => (evE hi ρ st2).bind fun z st3 => match partV z with
        | some h => .of (opSlc st3 x l h) st3
        | none => .stuck
      | none => .stuck
  | .app a x, ρ, st => (evE a ρ st).bind fun l st1 => if isLst st1 l = true then (evE x ρ st1).bind fun v st2 => appV l v st2 else .stuck
  | .popAt a i, ρ, st => (evE a ρ st).bind fun l st1 => if isLst st1 l = true then (evE i ρ st1).bind fun v st2 => match v with
      | .dat d => popV l d st2
      | _ => .stuck
    else .stuck
  | .mut a, ρ, st => (evE a ρ st).bind mutV
  | .frz a, ρ, st => (evE a ρ st).bind frzV
  | .nopart, _, st => .ok (.dat .none) st
  | _, _, _ => .stuck
/-- a test's answer -/
def evT : T → Env → Sto → Res Bool
  | .yes, _, st => .ok true st
  | .and a b, ρ, st => (evT a ρ st).bind fun c st1 => match c with
      | true => evT b ρ st1
      | false => .ok false st1
  | .or a b, ρ, st => (evT a ρ st).bind fun c st1 => match c with
      | true => .ok true st1
      | false => evT b ρ st1
  | .last a, ρ, st => evT a ρ st
  | .not a, ρ, st => (evT a ρ st).bind fun c st1 => .ok (!c) st1
  | .var i, ρ, st => match ρ[i]?.bind id with
      | some (.dat (.bool c)) => .ok c st
      | _ => .stuck
  | .cmp o a b, ρ, st => (evE a ρ st).bind fun x st1 => (evE b ρ st1).bind fun y st2 => match view st2 x, view st2 y with
      | some d, some e => .of (opCmp o d e) st2
      | _, _ => .stuck
  | .chain o p a b c, ρ, st => (evE a ρ st).bind fun x st1 => (evE b ρ st1).bind fun y st2 => match view st2 x, view st2 y with
      | some d, some e => match opCmp o d e with
        | some true => (evE c ρ st2).bind fun z st3 => match view st3 y, view st3 z with
          | some e, some g => .of (opCmp p e g) st3
          | _, _ => .stuck
        | some false => .ok false st2
        | none => .stuck
      | _, _ => .stuck
  | .call f as, ρ, st => (evA as ρ st).bind fun xs st1 => (φ f xs st1).bind fun v st2 => .of (asBool v) st2
  | .bi b a, ρ, st => (evE a ρ st).bind fun x st1 => match view st1 x with
      | some d => (Res.of (biF b d) st1).bind fun v st2 => .of (asBool v) st2
      | none => .stuck
  | _, _, _ => .stuck
/-- arguments from the left -/
def evA : T → Env → Sto → Res (List Va)
  | .anil, _, st => .ok [] st
  | .acons a r, ρ, st => (evE a ρ st).bind fun x st1 => match isOut x with
      | some x => (evA r ρ st1).bind fun xs st2 => .ok (x :: xs) st2
      | none => .stuck
  | _, _, _ => .stuck
/-- what a loop walks -/
def evI : T → Env → Sto → Res Src
  | .iseq a, ρ, st => (evE a ρ st).bind fun x st1 => match itemsOf st1 x with
      | some xs => .ok ⟨xs, match x with | .ref k => some (k, xs) | _ => none⟩ st1
      | none => .stuck
  | .irange1 a, ρ, st => (evE a ρ st).bind fun x st1 => match x with
      | .dat (.int n) => if n ≤ 16777216 ∧ -16777216 ≤ n then .ok ⟨upto 0 n.toNat, none⟩ st1 else .stuck
      | _ => .stuck
  | .irange2 a b, ρ, st => (evE a ρ st).bind fun x st1 => (evE b ρ st1).bind fun y st2 => match x, y with
      | .dat (.int m), .dat (.int n) => if n ≤ 8388608 ∧ -8388608 ≤ n ∧ m ≤ 8388608 ∧ -8388608 ≤ m then .ok ⟨upto m (n - m).toNat, none⟩ st2 else .stuck
      | _, _ => .stuck
  | .izip a b, ρ, st => (evE a ρ st).bind fun x st1 => (evE b ρ st1).bind fun y st2 => match zipD (viewN x) (viewN y) with
      | some zs => .ok ⟨zs, none⟩ st2
      | none => .stuck
  | _, _, _ => .stuck
end
end

/-- statements -/
inductive S where
  | nil
  | seq (a b : S)
  | pass
  | set (i : Nat) (e : T)
  | par (i j : Nat) (a b : T)
  | par3 (i j l : Nat) (a b c : T)
  | never
  | unpack (is : List Nat) (e : T)
  | expr (e : T)
  | ret (e : T)
  | ifs (c : T) (a b : S)
  | forS (g : G) (it : T) (b : S)
  | setIx (o i e : T)
  | brk
  | cnt
  | raise (x : Str) (ns : List PyData)
  | tryR (a : S) (x : Str) (e : T)
  | fz (a : S) (i : Nat)
inductive Fl where
  | nx (ρ : Env)
  | rt (v : Va)
  | bk (ρ : Env)
  | ct (ρ : Env)
def forL (b : Env → Sto → Res Fl) (g : G) : List Va → Env → Sto → Res Fl
  | [], ρ, st => .ok (.nx ρ) st
  | x :: xs, ρ, st => match asgG g x ρ with
    | none => .stuck
    | some ρ1 => (b ρ1 st).bind fun f st1 => match f with
      | .nx ρ2 => forL b g xs ρ2 st1
      | .ct ρ2 => forL b g xs ρ2 st1
      | .bk ρ2 => .ok (.nx ρ2) st1
      | .rt v => .ok (.rt v) st1
section
variable (φ : Nat → List Va → Sto → Res Va)
def evS : S → Env → Sto → Res Fl
  | .nil, ρ, st => .ok (.nx ρ) st
  | .seq a b, ρ, st => (evS a ρ st).bind fun f st1 => match f with
    | .nx ρ1 => evS b ρ1 st1
    | f => .ok f st1
  | .pass, ρ, st => .ok (.nx ρ) st
  | .set i e, ρ, st => (evE φ e ρ st).bind fun v st1 => match isOut v with
    | some v => .ok (.nx (setEnv ρ i v)) st1
    | none => .stuck
  | .par i j a b, ρ, st => (evE φ a ρ st).bind fun v st1 => match isOut v with
    | some v => (evE φ b ρ st1).bind fun w st2 => match isOut w with
      | some w => .ok (.nx (setEnv (setEnv ρ i v) j w)) st2
      | none => .stuck
    | none => .stuck
  | .par3 i j l a b c, ρ, st => (evE φ a ρ st).bind fun v st1 => match isOut v with
    | some v => (evE φ b ρ st1).bind fun w st2 => match isOut w with
      | some w => (evE φ c ρ st2).bind fun u st3 => match isOut u with
        | some u => .ok (.nx (setEnv (setEnv (setEnv ρ i v) j w) l u)) st3
        | none => .stuck
      | none => .stuck
    | none => .stuck
  | .never, _, _ => .stuck
  | .unpack is e, ρ, st => (evE φ e ρ st).bind fun v st1 => match v with
    | .dat (.tuple ds) => if ds.length = is.length then .of ((setAll is ds ρ).map .nx) st1 else .stuck
    | _ => .stuck
  | .expr e, ρ, st => (evE φ e ρ st).bind fun _ st1 => .ok (.nx ρ) st1
  | .ret e, ρ, st => (evE φ e ρ st).bind fun v st1 => match isOut v with
    | some v => .ok (.rt v) st1
    | none => .stuck
  | .ifs c a b, ρ, st => (evT φ c ρ st).bind fun t st1 => match t with
    | true => evS a ρ st1
    | false => evS b ρ st1
  | .forS g it b, ρ, st => (evI φ it ρ st).bind fun src st1 => match src.still with
    | some _ => .stuck
    | none => forL (fun ρ s => evS b ρ s) g src.items ρ st1
  | .setIx o i e, ρ, st => (evE φ e ρ st).bind fun v st1 => (evE φ o ρ st1).bind fun l st2 => (evE φ i ρ st2).bind fun y st3 => match y, isOut v with
    | .dat d, some v => (setV l d v st3).bind fun _ st4 => .ok (.nx ρ) st4
    | _, _ => .stuck
  | .raise x ns, _, st => .exc ⟨x, ns, none⟩ st
  | .tryR a x e, ρ, st => match evS a ρ st with
    | .ok f st1 => .ok f st1
    | .stuck => .stuck
    | .exc er st1 => if er.mro.any (fun z => PyData.eqv z (.str x)) = true then ((evE φ e (List.replicate ρ.length none) st1).bind fun v st2 => match isOut v with
        | some v => .ok (.rt v) st2
        | none => .stuck).calm
      else .exc er st1
  | .fz a i, ρ, st => (evS a ρ st).bind fun f st1 => match f with
    | .nx ρ1 => match ρ1[i]?.bind id with
      | some (.ref k) => (frzV (.ref k) st1).bind fun v st2 => .ok (.nx (setEnv ρ1 i v)) st2
      | _ => .stuck
    | _ => .stuck
  | .brk, ρ, st => .ok (.bk ρ) st
  | .cnt, ρ, st => .ok (.ct ρ) st
end

/-- a def -/
structure FnT where
  name : Str
  params : List Str
  names : List Str
  keep : Bool
  body : S
def fin (keep : Bool) (n : Nat) (v : Va) (st : Sto) : Res Va :=
  if keep = true then .ok v st else if v.low n = true then .ok v (st.take n) else .stuck
def runFn (φ : Nat → List Va → Sto → Res Va) (F : FnT) (args : List Va) (st : Sto) : Res Va :=
  if args.length = F.params.length then (evS φ F.body (args.map some ++ List.replicate (F.names.length - args.length) none) st).bind fun f st1 => match f with
    | .nx _ => fin F.keep st.length (.dat .none) st1
    | .rt v => fin F.keep st.length v st1
    | _ => .stuck
  else .stuck
def callF (tb : List FnT) : Nat → Nat → List Va → Sto → Res Va
  | 0, _, _, _ => .stuck
  | n + 1, f, args, st => match tb[f]? with
    | some F => runFn (callF tb n) F args st
    | none => .stuck
end RS

/-! RS2: how values of the evaluator stand in the abstract heap. -/
namespace RS
open PySem
open PySem.Spec
open L2

abbrev Loc := List (Option Addr)
/-- a list that nobody changes: one that is known, or the written part's own -/
def RoL (K : PySem.W.Frag) (H : Hp) (a : Addr) (xs : List V) : Prop := (∃ o, H a = some (.frz o (.lst xs))) ∨
  ∃ (o : Obj) (its : Array Value) (n : Nat), K.lookup a = some o ∧ o.cls = .type "list" ∧ o.dict = none ∧ o.data = .seq its n ∧ its.size ≤ sizeLine ∧ Vals xs its.toList
mutual
/-- data that stands for good -/
inductive Rp (K : PySem.W.Frag) (H : Hp) : V → PyData → Prop
  | non : Rp K H .non .none
  | bl (b : Bool) : Rp K H (.bl b) (.bool b)
  | int (i : Int) : Rp K H (.int i) (.int i)
  | str (x : Str) : Rp K H (.str x) (.str x)
  | lst {a : Addr} {xs : List V} {ds : List PyData} : RoL K H a xs → RpA K H xs ds → Rp K H (.ref a) (.list ds)
  | tup {a : Addr} {xs : List V} {ds : List PyData} : SqT K H a xs → RpA K H xs ds → Rp K H (.ref a) (.tuple ds)
inductive RpA (K : PySem.W.Frag) (H : Hp) : List V → List PyData → Prop
  | nil : RpA K H [] []
  | cons {v : V} {vs : List V} {d : PyData} {ds : List PyData} : Rp K H v d → RpA K H vs ds → RpA K H (v :: vs) (d :: ds)
end
/-- an item: data, or a cell -/
def VI (K : PySem.W.Frag) (H : Hp) (loc : Loc) (v : V) : Va → Prop
  | .dat d => Rp K H v d
  | .ref k => k < loc.length ∧ ∀ a, loc[k]? = some (some a) → v = .ref a
  | .new _ => False
abbrev VIs (K : PySem.W.Frag) (H : Hp) (loc : Loc) : List V → List Va → Prop := Paired (VI K H loc)
def VR (K : PySem.W.Frag) (H : Hp) (loc : Loc) (v : V) : Va → Prop
  | .dat d => Rp K H v d
  | .ref k => k < loc.length ∧ ∀ a, loc[k]? = some (some a) → v = .ref a
  | .new xs => ∃ a vs, v = .ref a ∧ H a = some (.lst vs) ∧ some a ∉ loc ∧ VIs K H loc vs xs
def CR (K : PySem.W.Frag) (H : Hp) (loc : Loc) (k : Nat) : Cell → Prop
  | .lst xs => ∃ a vs, loc[k]? = some (some a) ∧ H a = some (.lst vs) ∧ VIs K H loc vs xs ∧ xs.all (·.low k) = true
  | .dead => loc[k]? = some none
structure SR (K : PySem.W.Frag) (H : Hp) (loc : Loc) (st : Sto) : Prop where
  len : loc.length = st.length
  cell : ∀ (k : Nat) (c : Cell), st[k]? = some c → CR K H loc k c
  inj : ∀ (i j : Nat) (a : Addr), loc[i]? = some (some a) → loc[j]? = some (some a) → i = j
structure ER (K : PySem.W.Frag) (H : Hp) (loc : Loc) (ρ : Env) (σ : St) : Prop where
  len : ρ.length = σ.length
  get : ∀ (i : Nat) (a : Va), ρ[i]? = some (some a) → ∃ v, σ[i]? = some (some v) ∧ VI K H loc v a
/-- what a computation may do to the heap -/
structure Ext (loc : Loc) (H H' : Hp) (loc' : Loc) : Prop where
  frz : ∀ b o u, H b = some (.frz o u) → H' b = some (.frz o u)
  tup : ∀ b xs, H b = some (.tup xs) → H' b = some (.tup xs)
  oth : ∀ b u, H b = some u → some b ∉ loc → H' b = some u
  kept : ∀ b, H b ≠ none → H' b ≠ none
  sub : ∀ b, some b ∈ loc' → some b ∈ loc ∨ H b = none
  len : loc.length ≤ loc'.length
  pre : ∀ (k : Nat) (a : Addr), k < loc.length → loc'[k]? = some (some a) → loc[k]? = some (some a)
theorem Ext.refl {loc : Loc} {H : Hp} : Ext loc H H loc :=
  ⟨fun _ _ _ e => e, fun _ _ e => e, fun _ _ e _ => e, fun _ e => e, fun _ e => .inl e, Nat.le_refl _, fun _ _ _ e => e⟩
theorem Ext.trans {l0 l1 l2 : Loc} {H0 H1 H2 : Hp} (a : Ext l0 H0 H1 l1) (b : Ext l1 H1 H2 l2) : Ext l0 H0 H2 l2 where
  frz := fun c o u e => b.frz c o u (a.frz c o u e)
  tup := fun c xs e => b.tup c xs (a.tup c xs e)
  oth := fun c u e n => b.oth c u (a.oth c u e n) fun m => (a.sub c m).elim n fun z => by rw [e] at z; cases z
  kept := fun c e => b.kept c (a.kept c e)
  sub := fun c m => (b.sub c m).elim (a.sub c) fun z => .inr (Classical.byContradiction fun q => a.kept c q z)
  len := Nat.le_trans a.len b.len
  pre := fun k c h e => a.pre k c h (b.pre k c (Nat.lt_of_lt_of_le h a.len) e)
/-- a new object -/
theorem Ext.put {loc : Loc} {H : Hp} {p : Addr} {o : HO} (n : H p = none) : Ext loc H (upd H p o) loc where
  frz := fun b o u e => by rw [upd_ne (ne_of_none e n)]; exact e
  tup := fun b xs e => by rw [upd_ne (ne_of_none e n)]; exact e
  oth := fun b u e _ => by rw [upd_ne (ne_of_none e n)]; exact e
  kept := fun b e => by
    unfold upd
    split
    · intro z; cases z
    · exact e
  sub := fun b e => .inl e
  len := Nat.le_refl _
  pre := fun _ _ _ e => e
/-- a list that is a cell, or that was made behind H0, is changed or frozen -/
theorem Ext.chg {loc loc' : Loc} {H0 H : Hp} {p : Addr} {xs : List V} {o : HO} (x : Ext loc H0 H loc') (e : H p = some (.lst xs)) (h : some p ∈ loc ∨ H0 p = none) : Ext loc H0 (upd H p o) loc' where
  frz := fun b ob u q => by
    have q := x.frz b ob u q
    rw [upd_ne (ne_of q e (by intro z; cases z))]; exact q
  tup := fun b ys q => by
    have q := x.tup b ys q
    rw [upd_ne (ne_of q e (by intro z; cases z))]; exact q
  oth := fun b u q n => by
    rw [upd_ne ?_]
    · exact x.oth b u q n
    · rintro rfl
      rcases h with h | h
      · exact n h
      · rw [q] at h; cases h
  kept := fun b q => by
    unfold upd
    split
    · intro z; cases z
    · exact x.kept b q
  sub := x.sub
  len := x.len
  pre := x.pre

section
variable {K : PySem.W.Frag} {H H' : Hp} {loc loc' : Loc} {st : Sto}
theorem RoL.sq {a : Addr} {xs : List V} (h : RoL K H a xs) : SqL K H a xs := h.elim (fun ⟨o, e⟩ => .inl (.inr ⟨o, e⟩)) .inr
theorem RoL.mono {a : Addr} {xs : List V} (x : Ext loc H H' loc') (h : RoL K H a xs) : RoL K H' a xs := h.elim (fun ⟨o, e⟩ => .inl ⟨o, x.frz _ _ _ e⟩) .inr
theorem SqT.mono {a : Addr} {xs : List V} (x : Ext loc H H' loc') (h : SqT K H a xs) : SqT K H' a xs := by
  rcases h with (h | ⟨o, h⟩) | h
  · exact .inl (.inl (x.tup _ _ h))
  · exact .inl (.inr ⟨o, x.frz _ _ _ h⟩)
  · exact .inr h
mutual
theorem Rp.mono (x : Ext loc H H' loc') : ∀ {v : V} {d : PyData}, Rp K H v d → Rp K H' v d
  | _, _, .non => .non
  | _, _, .bl b => .bl b
  | _, _, .int i => .int i
  | _, _, .str z => .str z
  | _, _, .lst e r => .lst (e.mono x) (RpA.mono x r)
  | _, _, .tup e r => .tup (SqT.mono x e) (RpA.mono x r)
theorem RpA.mono (x : Ext loc H H' loc') : ∀ {vs : List V} {ds : List PyData}, RpA K H vs ds → RpA K H' vs ds
  | _, _, .nil => .nil
  | _, _, .cons a b => .cons (Rp.mono x a) (RpA.mono x b)
end
theorem VI.mono (x : Ext loc H H' loc') {v : V} : ∀ {a : Va}, VI K H loc v a → VI K H' loc' v a
  | .dat _, h => Rp.mono x h
  | .ref k, h => ⟨Nat.lt_of_lt_of_le h.1 x.len, fun a e => h.2 a (x.pre k a h.1 e)⟩
  | .new _, h => h
theorem VIs.mono (x : Ext loc H H' loc') {vs : List V} {as : List Va} (h : VIs K H loc vs as) : VIs K H' loc' vs as := Paired.mapP h fun _ _ q => q.mono x
theorem VR.mono (x : Ext loc H H' loc') {v : V} : ∀ {a : Va}, VR K H loc v a → VR K H' loc' v a
  | .dat _, h => Rp.mono x h
  | .ref k, h => ⟨Nat.lt_of_lt_of_le h.1 x.len, fun a e => h.2 a (x.pre k a h.1 e)⟩
  | .new _, ⟨a, vs, e, h, n, r⟩ => ⟨a, vs, e, x.oth a _ h n, fun m => (x.sub a m).elim n (fun z => nomatch (h.symm.trans z)), VIs.mono x r⟩
theorem VI.vr {v : V} : ∀ {a : Va}, VI K H loc v a → VR K H loc v a
  | .dat _, h => h
  | .ref _, h => h
  | .new _, h => h.elim
theorem VR.vi {v : V} : ∀ {a b : Va}, VR K H loc v a → isOut a = some b → VI K H loc v b
  | .dat _, _, h, e => by cases e; exact h
  | .ref _, _, h, e => by cases e; exact h
  | .new _, _, _, e => by cases e
theorem ER.mono (x : Ext loc H H' loc') {ρ : Env} {σ : St} (h : ER K H loc ρ σ) : ER K H' loc' ρ σ :=
  ⟨h.len, fun i a e => let ⟨v, e1, e2⟩ := h.get i a e; ⟨v, e1, e2.mono x⟩⟩
theorem ER.set {ρ : Env} {σ : St} {i : Nat} {v : V} {a : Va} (h : ER K H loc ρ σ) (r : VI K H loc v a) : ER K H loc (setEnv ρ i a) (σ.set i (some v)) := by
  refine ⟨by unfold setEnv; rw [List.length_set, List.length_set]; exact h.len, fun j b e => ?_⟩
  unfold setEnv at e
  by_cases hj : i = j
  · subst hj
    by_cases hi : i < ρ.length
    · rw [List.getElem?_set_self hi] at e
      cases e
      exact ⟨v, List.getElem?_set_self (by rw [← h.len]; exact hi), r⟩
    · rw [List.getElem?_eq_none (by rw [List.length_set]; omega)] at e
      cases e
  · rw [List.getElem?_set_ne hj] at e
    obtain ⟨w, e1, e2⟩ := h.get j b e
    exact ⟨w, by rw [List.getElem?_set_ne hj]; exact e1, e2⟩
theorem ER.none {ρ : Env} {σ : St} {i : Nat} {o : Option V} (h : ER K H loc ρ σ) : ER K H loc (ρ.set i none) (σ.set i o) := by
  refine ⟨by rw [List.length_set, List.length_set]; exact h.len, fun j b e => ?_⟩
  by_cases hj : i = j
  · subst hj
    by_cases hi : i < ρ.length
    · rw [List.getElem?_set_self hi] at e
      cases e
    · rw [List.getElem?_eq_none (by rw [List.length_set]; omega)] at e
      cases e
  · rw [List.getElem?_set_ne hj] at e
    obtain ⟨w, e1, e2⟩ := h.get j b e
    exact ⟨w, by rw [List.getElem?_set_ne hj]; exact e1, e2⟩
theorem ER.wipe {ρ : Env} {σ : St} (h : ER K H loc ρ σ) : ∀ own : List (Str × Nat), ER K H loc (wipeE ρ own) (wipe σ (own.map (·.2)))
  | [] => h
  | p :: r => (ER.wipe h r).none

/-! ### the store -/
theorem VI.wk {l l' : Loc} (x : Ext l H H' l') {v : V} : ∀ {a : Va}, VI K H loc v a → VI K H' loc v a
  | .dat _, h => Rp.mono x h
  | .ref _, h => h
  | .new _, h => h
/-- the cells where the heap's lists at them stand -/
theorem SR.keep {l l' : Loc} (h : SR K H loc st) (x : Ext l H H' l') (k : ∀ a vs, some a ∈ loc → H a = some (.lst vs) → H' a = some (.lst vs)) : SR K H' loc st := by
  refine ⟨h.len, fun i c e => ?_, h.inj⟩
  have q := h.cell i c e
  cases c with
  | lst xs =>
    obtain ⟨a, vs, e1, e2, r, l⟩ := q
    exact ⟨a, vs, e1, k a vs (List.mem_of_getElem? e1) e2, Paired.mapP r fun _ _ q => q.wk x, l⟩
  | dead => exact q
theorem SR.put {p : Addr} {o : HO} (h : SR K H loc st) (n : H p = none) : SR K (upd H p o) loc st :=
  h.keep (Ext.put (loc := loc) n) fun a vs _ e => by rw [upd_ne (ne_of_none e n)]; exact e
/-- a list that is no cell is changed -/
theorem SR.other {p : Addr} {xs : List V} {o : HO} (h : SR K H loc st) (e : H p = some (.lst xs)) (n : some p ∉ loc) : SR K (upd H p o) loc st :=
  h.keep (Ext.chg (loc := [some p]) (loc' := [some p]) Ext.refl e (.inl (by simp))) fun a vs m q => by
    rw [upd_ne (by rintro rfl; exact n m)]; exact q
/-- a cell's list is changed -/
theorem SR.write {k : Nat} {a : Addr} {vs ws : List V} {xs ys : List Va} (h : SR K H loc st) (e : st[k]? = some (.lst xs)) (ea : loc[k]? = some (some a)) (eh : H a = some (.lst vs))
    (r : VIs K H loc ws ys) (l : ys.all (·.low k) = true) : SR K (upd H a (.lst ws)) loc (st.set k (.lst ys)) := by
  have x : Ext loc H (upd H a (.lst ws)) loc := Ext.chg Ext.refl eh (.inl (List.mem_of_getElem? ea))
  refine ⟨by rw [List.length_set]; exact h.len, fun i c q => ?_, h.inj⟩
  have hk : k < st.length := (List.getElem?_eq_some_iff.mp e).1
  by_cases hi : k = i
  · subst hi
    rw [List.getElem?_set_self hk] at q
    cases q
    exact ⟨a, ws, ea, upd_same, VIs.mono x r, l⟩
  · rw [List.getElem?_set_ne hi] at q
    have q := h.cell i c q
    cases c with
    | lst zs =>
      obtain ⟨b, us, e1, e2, r', l'⟩ := q
      refine ⟨b, us, e1, ?_, VIs.mono x r', l'⟩
      rw [upd_ne (by rintro rfl; exact hi (h.inj _ _ _ ea e1))]; exact e2
    | dead => exact q
theorem Ext.drop {k : Nat} (x : Ext loc H H' loc') : Ext loc H H' (loc'.set k none) where
  frz := x.frz
  tup := x.tup
  oth := x.oth
  kept := x.kept
  sub := fun b m => x.sub b ((List.mem_or_eq_of_mem_set m).elim id fun z => by cases z)
  len := by rw [List.length_set]; exact x.len
  pre := fun i a hi e => x.pre i a hi (by
    by_cases hk : k = i
    · subst hk
      by_cases hl : k < loc'.length
      · rw [List.getElem?_set_self hl] at e; cases e
      · rw [List.getElem?_eq_none (by rw [List.length_set]; omega)] at e; cases e
    · rw [List.getElem?_set_ne hk] at e; exact e)
/-- a cell's list is frozen, the cell dead -/
theorem SR.die {k : Nat} {a : Addr} {o : Obj} {vs : List V} {xs : List Va} (h : SR K H loc st) (e : st[k]? = some (.lst xs)) (ea : loc[k]? = some (some a)) (eh : H a = some (.lst vs)) :
    SR K (upd H a (.frz o (.lst vs))) (loc.set k none) (st.set k .dead) := by
  have x0 : Ext loc H (upd H a (.frz o (.lst vs))) loc := Ext.chg Ext.refl eh (.inl (List.mem_of_getElem? ea))
  have x := x0.drop (k := k)
  have hk : k < st.length := (List.getElem?_eq_some_iff.mp e).1
  have get : ∀ {i : Nat} {b : Addr}, (loc.set k none)[i]? = some (some b) → i ≠ k ∧ loc[i]? = some (some b) := fun {i b} q => by
    by_cases hi : k = i
    · subst hi
      rw [List.getElem?_set_self (by rw [h.len]; exact hk)] at q; cases q
    · rw [List.getElem?_set_ne hi] at q
      exact ⟨fun z => hi z.symm, q⟩
  refine ⟨by rw [List.length_set, List.length_set]; exact h.len, fun i c q => ?_, fun i j b e1 e2 => h.inj i j b (get e1).2 (get e2).2⟩
  by_cases hi : k = i
  · subst hi
    rw [List.getElem?_set_self hk] at q
    cases q
    exact List.getElem?_set_self (by rw [h.len]; exact hk)
  · rw [List.getElem?_set_ne hi] at q
    have q := h.cell i c q
    cases c with
    | lst zs =>
      obtain ⟨b, us, e1, e2, r', l'⟩ := q
      refine ⟨b, us, by rw [List.getElem?_set_ne hi]; exact e1, ?_, VIs.mono x r', l'⟩
      rw [upd_ne (by rintro rfl; exact hi (h.inj _ _ _ ea e1))]; exact e2
    | dead =>
      show (loc.set k none)[i]? = some none
      rw [List.getElem?_set_ne hi]; exact q
/-- a new list becomes a cell -/
theorem Ext.add {loc0 : Loc} {H0 : Hp} {a : Addr} (x : Ext loc0 H0 H loc) (n : H0 a = none) : Ext loc0 H0 H (loc ++ [some a]) where
  frz := x.frz
  tup := x.tup
  oth := x.oth
  kept := x.kept
  sub := fun b m => by
    rcases List.mem_append.mp m with m | m
    · exact x.sub b m
    · simp at m; subst m; exact .inr n
  len := by rw [List.length_append]; exact Nat.le_trans x.len (Nat.le_add_right _ _)
  pre := fun i b hi e => x.pre i b hi (by
    rw [List.getElem?_append_left (Nat.lt_of_lt_of_le hi x.len)] at e; exact e)
theorem VI.add {a : Addr} {v : V} : ∀ {b : Va}, VI K H loc v b → VI K H (loc ++ [some a]) v b
  | .dat _, h => h
  | .ref k, h => ⟨by rw [List.length_append]; exact Nat.lt_of_lt_of_le h.1 (Nat.le_add_right _ _), fun c e => h.2 c (by
      rw [List.getElem?_append_left h.1] at e; exact e)⟩
  | .new _, h => h
theorem SR.add {a : Addr} {vs : List V} {xs : List Va} (h : SR K H loc st) (n : some a ∉ loc) (e : H a = some (.lst vs)) (r : VIs K H loc vs xs) (l : xs.all (·.low st.length) = true) :
    SR K H (loc ++ [some a]) (st ++ [.lst xs]) := by
  have get : ∀ {i : Nat} {b : Addr}, (loc ++ [some a])[i]? = some (some b) → (i < loc.length ∧ loc[i]? = some (some b)) ∨ (i = loc.length ∧ b = a) := fun {i b} q => by
    by_cases hi : i < loc.length
    · rw [List.getElem?_append_left hi] at q; exact .inl ⟨hi, q⟩
    · rw [List.getElem?_append_right (by omega)] at q
      by_cases h0 : i - loc.length = 0
      · rw [h0] at q; simp at q
        exact .inr ⟨by omega, q.symm⟩
      · rw [List.getElem?_eq_none (by simp; omega)] at q; cases q
  refine ⟨by rw [List.length_append, List.length_append, h.len]; rfl, fun i c q => ?_, fun i j b e1 e2 => ?_⟩
  · by_cases hi : i < st.length
    · rw [List.getElem?_append_left hi] at q
      have hl : i < loc.length := by rw [h.len]; exact hi
      have q := h.cell i c q
      cases c with
      | lst zs =>
        obtain ⟨b, us, e1, e2, r', l'⟩ := q
        exact ⟨b, us, by rw [List.getElem?_append_left hl]; exact e1, e2, Paired.mapP r' fun _ _ z => z.add, l'⟩
      | dead =>
        show (loc ++ [some a])[i]? = some none
        rw [List.getElem?_append_left hl]; exact q
    · rw [List.getElem?_append_right (by omega)] at q
      by_cases h0 : i - st.length = 0
      · rw [h0] at q
        have q : Cell.lst xs = c := by simpa using q
        subst q
        have hi' : i = loc.length := by rw [h.len]; omega
        have hs : i = st.length := by omega
        refine ⟨a, vs, ?_, e, Paired.mapP r fun _ _ z => z.add, by rw [hs]; exact l⟩
        rw [hi', List.getElem?_append_right (Nat.le_refl _), Nat.sub_self]; rfl
      · rw [List.getElem?_eq_none (by simp; omega)] at q; cases q
  · rcases get e1 with ⟨h1, q1⟩ | ⟨h1, rfl⟩
    · rcases get e2 with ⟨h2, q2⟩ | ⟨h2, rfl⟩
      · exact h.inj _ _ _ q1 q2
      · exact absurd (List.mem_of_getElem? q1) n
    · rcases get e2 with ⟨h2, q2⟩ | ⟨h2, _⟩
      · exact absurd (List.mem_of_getElem? q2) n
      · omega
/-- the cells behind a place are let go -/
theorem Ext.take {n : Nat} (x : Ext loc H H' loc') (h : loc.length ≤ n) (hn : n ≤ loc'.length) : Ext loc H H' (loc'.take n) where
  frz := x.frz
  tup := x.tup
  oth := x.oth
  kept := x.kept
  sub := fun b m => x.sub b (List.mem_of_mem_take m)
  len := by rw [List.length_take]; omega
  pre := fun i a hi e => x.pre i a hi (by rw [List.getElem?_take_of_lt (by omega)] at e; exact e)
theorem low_lt {n : Nat} {a : Va} {v : V} (h : VI K H loc v a) (l : a.low n = true) (hn : n ≤ loc.length) : VI K H (loc.take n) v a := by
  cases a with
  | dat d => exact h
  | ref k =>
    have l : decide (k < n) = true := l
    have l := of_decide_eq_true l
    exact ⟨by rw [List.length_take]; omega, fun b e => h.2 b (by rw [List.getElem?_take_of_lt l] at e; exact e)⟩
  | new _ => exact h
theorem lows_lt {n k : Nat} (hk : k ≤ n) (hn : n ≤ loc.length) : ∀ {vs : List V} {as : List Va}, VIs K H loc vs as → as.all (·.low k) = true → VIs K H (loc.take n) vs as
  | _, _, .nil, _ => .nil
  | _, _, .cons (b := b) r t, l => by
    rw [List.all_cons, Bool.and_eq_true] at l
    refine .cons (low_lt r ?_ hn) (lows_lt hk hn t l.2)
    cases b with
    | dat d => rfl
    | ref j =>
      have := of_decide_eq_true (show decide (j < k) = true from l.1)
      exact decide_eq_true (by omega)
    | new _ => exact r.elim
theorem SR.take {n : Nat} (h : SR K H loc st) (hn : n ≤ st.length) : SR K H (loc.take n) (st.take n) := by
  have hl : n ≤ loc.length := by rw [h.len]; exact hn
  refine ⟨by rw [List.length_take, List.length_take, h.len], fun i c q => ?_, fun i j b e1 e2 => ?_⟩
  · have hi : i < n := by
      have := (List.getElem?_eq_some_iff.mp q).1
      rw [List.length_take] at this; omega
    rw [List.getElem?_take_of_lt hi] at q
    have q := h.cell i c q
    cases c with
    | lst zs =>
      obtain ⟨b, us, e1, e2, r', l'⟩ := q
      exact ⟨b, us, by rw [List.getElem?_take_of_lt hi]; exact e1, e2, lows_lt (Nat.le_of_lt hi) hl r' l', l'⟩
    | dead =>
      show (loc.take n)[i]? = some none
      rw [List.getElem?_take_of_lt hi]; exact q
  · have lt : ∀ {i : Nat} {b : Addr}, (loc.take n)[i]? = some (some b) → loc[i]? = some (some b) := fun {i b} q => by
      have := (List.getElem?_eq_some_iff.mp q).1
      rw [List.length_take] at this
      rw [List.getElem?_take_of_lt (by omega)] at q; exact q
    exact h.inj i j b (lt e1) (lt e2)
/-- the store never loses a place -/
theorem SR.fresh {p : Addr} (h : SR K H loc st) (n : H p = none) : some p ∉ loc := fun m => by
  obtain ⟨k, hk, e⟩ := List.mem_iff_getElem.mp m
  have e : loc[k]? = some (some p) := by rw [List.getElem?_eq_getElem hk, e]
  have hs : k < st.length := by rw [← h.len]; exact hk
  have q := h.cell k st[k] (List.getElem?_eq_getElem hs)
  cases c : st[k] with
  | lst xs =>
    rw [c] at q
    obtain ⟨a, vs, e1, e2, _⟩ := q
    rw [e] at e1; cases e1
    rw [n] at e2; cases e2
  | dead =>
    rw [c] at q
    have q : loc[k]? = some none := q
    rw [e] at q; cases q
theorem SR.dat {v : V} {d : PyData} (h : Rp K H v d) : VI K H loc v (.dat d) := h

/-! ### views -/
mutual
theorem Rp.dp : ∀ {v : V} {d : PyData}, Rp K H v d → Dp K H v d
  | _, _, .non => .non
  | _, _, .bl b => .bl b
  | _, _, .int i => .int i
  | _, _, .str z => .str z
  | _, _, .lst e r => .lst e.sq (RpA.dp r)
  | _, _, .tup e r => .tup e (RpA.dp r)
theorem RpA.dp : ∀ {vs : List V} {ds : List PyData}, RpA K H vs ds → DpAll K H vs ds
  | _, _, .nil => .nil
  | _, _, .cons a b => .cons (Rp.dp a) (RpA.dp b)
end
theorem RpA.length : ∀ {vs : List V} {ds : List PyData}, RpA K H vs ds → vs.length = ds.length
  | _, _, .nil => rfl
  | _, _, .cons _ r => by rw [List.length_cons, List.length_cons, RpA.length r]
theorem RpA.vis : ∀ {vs : List V} {ds : List PyData}, RpA K H vs ds → VIs K H loc vs (ds.map .dat)
  | _, _, .nil => .nil
  | _, _, .cons a r => .cons a (RpA.vis r)
theorem undat_cons {a : Va} {xs : List Va} {ds : List PyData} (e : undat (a :: xs) = some ds) : ∃ d r, a = .dat d ∧ undat xs = some r ∧ ds = d :: r := by
  cases a with
  | dat d =>
    have e : (undat xs).map (d :: ·) = some ds := e
    cases q : undat xs with
    | none => rw [q] at e; cases e
    | some r => rw [q] at e; cases e; exact ⟨d, r, rfl, rfl, rfl⟩
  | ref k => cases e
  | new _ => cases e
theorem VIs.undat : ∀ {vs : List V} {xs : List Va} {ds : List PyData}, VIs K H loc vs xs → RS.undat xs = some ds → RpA K H vs ds
  | _, _, _, .nil, e => by cases e; exact .nil
  | _, _, _, .cons a r, e => by
    obtain ⟨d, t, rfl, e2, rfl⟩ := undat_cons e
    exact .cons a (VIs.undat r e2)
/-- a list that may be read: its items -/
theorem VR.items {v : V} {a : Va} {xs : List Va} (h : SR K H loc st) (r : VR K H loc v a) (e : itemsOf st a = some xs) :
    ∃ p vs, v = .ref p ∧ (SqL K H p vs ∨ (SqT K H p vs ∧ ∃ ds, a = .dat (.tuple ds))) ∧ VIs K H loc vs xs := by
  cases a with
  | dat d =>
    cases d with
    | list ds =>
      cases e
      cases r with
      | lst e r => exact ⟨_, _, rfl, .inl e.sq, r.vis⟩
    | tuple ds =>
      cases e
      cases r with
      | tup e r => exact ⟨_, _, rfl, .inr ⟨e, _, rfl⟩, r.vis⟩
    | none => cases e
    | bool _ => cases e
    | int _ => cases e
    | str _ => cases e
    | dict _ => cases e
  | new ys =>
    cases e
    obtain ⟨p, vs, e1, e2, n, q⟩ := r
    exact ⟨p, vs, e1, .inl (.inl (.inl e2)), q⟩
  | ref k =>
    have e : cellItems st[k]? = some xs := e
    cases q : st[k]? with
    | none => rw [q] at e; cases e
    | some c =>
      rw [q] at e
      have z := h.cell k c q
      cases c with
      | lst ys =>
        cases e
        obtain ⟨p, vs, e1, e2, w, _⟩ := z
        exact ⟨p, vs, r.2 p e1, .inl (.inl (.inl e2)), w⟩
      | dead => cases e
/-- what a value shows -/
theorem VR.shows {v : V} {a : Va} {d : PyData} (h : SR K H loc st) (r : VR K H loc v a) (e : view st a = some d) :
    Rp K H v d ∨ ∃ p vs ds, d = .list ds ∧ v = .ref p ∧ H p = some (.lst vs) ∧ RpA K H vs ds := by
  cases a with
  | dat d => cases e; exact .inl r
  | new xs =>
    obtain ⟨p, vs, e1, e2, n, q⟩ := r
    have e : (undat xs).map .list = some d := e
    cases z : undat xs with
    | none => rw [z] at e; cases e
    | some ds => rw [z] at e; cases e; exact .inr ⟨p, vs, ds, rfl, e1, e2, VIs.undat q z⟩
  | ref k =>
    have e : (cellItems st[k]?).bind (fun xs => (undat xs).map .list) = some d := e
    cases c : st[k]? with
    | none => rw [c] at e; cases e
    | some cc =>
      rw [c] at e
      have y := h.cell k cc c
      cases cc with
      | lst xs =>
        obtain ⟨p, vs, f1, f2, w, _⟩ := y
        have e : (undat xs).map .list = some d := e
        cases z : undat xs with
        | none => rw [z] at e; cases e
        | some ds =>
          rw [z] at e; cases e
          exact .inr ⟨p, vs, ds, rfl, r.2 p f1, f2, VIs.undat w z⟩
      | dead => cases e
/-- a list that shows -/
theorem VR.list {v : V} {a : Va} {ds : List PyData} (h : SR K H loc st) (r : VR K H loc v a) (e : view st a = some (.list ds)) :
    ∃ p vs, v = .ref p ∧ SqL K H p vs ∧ RpA K H vs ds := by
  rcases r.shows h e with q | ⟨p, vs, ds', e1, e2, e3, q⟩
  · cases q with
    | lst e q => exact ⟨_, _, rfl, e.sq, q⟩
  · cases e1; exact ⟨p, vs, e2, .inl (.inl e3), q⟩
theorem VR.tuple {v : V} {a : Va} {ds : List PyData} (h : SR K H loc st) (r : VR K H loc v a) (e : view st a = some (.tuple ds)) :
    ∃ p vs, v = .ref p ∧ SqT K H p vs ∧ RpA K H vs ds := by
  rcases r.shows h e with q | ⟨p, vs, ds', e1, _⟩
  · cases q with
    | tup e q => exact ⟨_, _, rfl, e, q⟩
  · cases e1
theorem VR.int {v : V} {a : Va} {i : Int} (h : SR K H loc st) (r : VR K H loc v a) (e : view st a = some (.int i)) : v = .int i := by
  rcases r.shows h e with q | ⟨p, vs, ds', e1, _⟩
  · cases q; rfl
  · cases e1
theorem VR.data {v : V} {a : Va} {d : PyData} (h : SR K H loc st) (r : VR K H loc v a) (e : view st a = some d) : Dp K H v d := by
  rcases r.shows h e with q | ⟨p, vs, ds', rfl, rfl, e3, q⟩
  · exact q.dp
  · exact .lst (.inl (.inl e3)) q.dp
end
end RS

/-! RS3: the checker: which of Python's trees a term of mine tells. -/
namespace RS
open PySem
open PySem.Spec
open L2

/-! ### looks at a tree -/
def plainE : Expr → Bool
  | .Set .. => false
  | .Starred .. => false
  | .Slice .. => false
  | _ => true
theorem star_plain {e : Expr} {es : List Expr} {env : PySem.Env} (h : plainE e = true) : starEach (e :: es) env = (false, eval e env) :: starEach es env := by
  cases e <;> first | rfl | cases h
theorem fold_plain {e : Expr} {env : PySem.Env} (h : plainE e = true) (x : Value) : foldedSetIterable e env x = pure x := by
  cases e <;> first | rfl | cases h
theorem ix_plain {e : Expr} (h : plainE e = true) : PlainIx e := by
  cases e <;> first | (intro _ _; rfl) | cases h
theorem mark_plain {e : Expr} {op : CmpOp} (h : plainE e = true) : behindInMarks op e = false := by
  cases e <;> first | rfl | cases h
def allPlain (es : List Expr) : Bool := es.all plainE
theorem back_plain {pos : Pos} {env : PySem.Env} : ∀ {es : List Expr}, allPlain es = true → (backTo pos (starEach es env)).any (·.1) = false
  | [], _ => rfl
  | e :: es, h => by
    have h : plainE e = true ∧ allPlain es = true := by simpa [allPlain] using h
    rw [star_plain h.1]
    show (false || (backTo pos (starEach es env)).any (·.1)) = false
    rw [back_plain h.2]; rfl
def notCall : Expr → Bool
  | .Call .. => false
  | _ => true
theorem base_plain {o : Expr} {n : Str} {env : PySem.Env} {w : Sem Value} (h : notCall o = true) : attributeBase o n env w = w := by
  cases o <;> first | rfl | cases h

def nameK (e : Expr) (k : Str → Bool) : Bool := match e with
  | .Name x _ => k x
  | _ => false
theorem nameK_inv {e : Expr} {k : Str → Bool} (h : nameK e k = true) : ∃ x p, e = .Name x p ∧ k x = true := by
  cases e <;> first | exact ⟨_, _, rfl, h⟩ | cases h
def constK (e : Expr) (k : Const → Bool) : Bool := match e with
  | .Constant c _ _ => k c
  | _ => false
theorem constK_inv {e : Expr} {k : Const → Bool} (h : constK e k = true) : ∃ c j p, e = .Constant c j p ∧ k c = true := by
  cases e <;> first | exact ⟨_, _, _, rfl, h⟩ | cases h
def binK (e : Expr) (k : Expr → Operator → Expr → Bool) : Bool := match e with
  | .BinOp l o r _ => k l o r
  | _ => false
theorem binK_inv {e : Expr} {k : Expr → Operator → Expr → Bool} (h : binK e k = true) : ∃ l o r p, e = .BinOp l o r p ∧ k l o r = true := by
  cases e <;> first | exact ⟨_, _, _, _, rfl, h⟩ | cases h
def unK (e : Expr) (k : UnaryOp → Expr → Bool) : Bool := match e with
  | .UnaryOp o a _ => k o a
  | _ => false
theorem unK_inv {e : Expr} {k : UnaryOp → Expr → Bool} (h : unK e k = true) : ∃ o a p, e = .UnaryOp o a p ∧ k o a = true := by
  cases e <;> first | exact ⟨_, _, _, rfl, h⟩ | cases h
def cmpK (e : Expr) (k : Expr → CmpOp → Expr → Bool) : Bool := match e with
  | .Compare l [o] [r] _ => k l o r
  | _ => false
theorem cmpK_inv {e : Expr} {k : Expr → CmpOp → Expr → Bool} (h : cmpK e k = true) : ∃ l o r p, e = .Compare l [o] [r] p ∧ k l o r = true := by
  unfold cmpK at h
  split at h
  · exact ⟨_, _, _, _, rfl, h⟩
  · cases h
def chainK (e : Expr) (k : Expr → CmpOp → Expr → CmpOp → Expr → Bool) : Bool := match e with
  | .Compare l [o, p] [a, b] _ => k l o a p b
  | _ => false
theorem chainK_inv {e : Expr} {k : Expr → CmpOp → Expr → CmpOp → Expr → Bool} (h : chainK e k = true) : ∃ l o a p b q, e = .Compare l [o, p] [a, b] q ∧ k l o a p b = true := by
  unfold chainK at h
  split at h
  · exact ⟨_, _, _, _, _, _, rfl, h⟩
  · cases h
theorem last_plain {op op' : CmpOp} {b c : Expr} (hb : plainE b = true) (h : plainE c = true) : lastMarks [op, op'] [b, c] = false := by
  cases c <;> first | rfl | (with_unfolding_all rfl) | cases h
def revK (e : Expr) (k : Expr → Bool) : Bool := match e with
  | .Subscript v (.Slice none none (some (.UnaryOp .USub (.Constant (.int 1) _ _) _)) _) _ => k v
  | _ => false
theorem revK_inv {e : Expr} {k : Expr → Bool} (h : revK e k = true) : ∃ v j p1 p2 p3 p, e = .Subscript v (.Slice none none (some (.UnaryOp .USub (.Constant (.int 1) j p1) p2)) p3) p ∧ k v = true := by
  unfold revK at h
  split at h
  · exact ⟨_, _, _, _, _, _, rfl, h⟩
  · cases h
/-- a written or, and of two or more: the first and the rest as one of them again -/
def boolK (e : Expr) (k : BoolOp → Expr → Expr → Bool) : Bool := match e with
  | .BoolOp o (a :: b :: r) p => k o a (.BoolOp o (b :: r) p)
  | _ => false
theorem boolK_inv {e : Expr} {k : BoolOp → Expr → Expr → Bool} (h : boolK e k = true) : ∃ o a b r p, e = .BoolOp o (a :: b :: r) p ∧ k o a (.BoolOp o (b :: r) p) = true := by
  unfold boolK at h
  split at h
  · exact ⟨_, _, _, _, _, rfl, h⟩
  · cases h
def lastK (e : Expr) (k : BoolOp → Expr → Bool) : Bool := match e with
  | .BoolOp o [a] _ => k o a
  | _ => false
theorem lastK_inv {e : Expr} {k : BoolOp → Expr → Bool} (h : lastK e k = true) : ∃ o a p, e = .BoolOp o [a] p ∧ k o a = true := by
  unfold lastK at h
  split at h
  · exact ⟨_, _, _, rfl, h⟩
  · cases h
def ifeK (e : Expr) (k : Expr → Expr → Expr → Bool) : Bool := match e with
  | .IfExp c a b _ => k c a b
  | _ => false
theorem ifeK_inv {e : Expr} {k : Expr → Expr → Expr → Bool} (h : ifeK e k = true) : ∃ c a b p, e = .IfExp c a b p ∧ k c a b = true := by
  cases e <;> first | exact ⟨_, _, _, _, rfl, h⟩ | cases h
def tupK (e : Expr) (k : List Expr → Bool) : Bool := match e with
  | .Tuple es _ _ => k es
  | _ => false
theorem tupK_inv {e : Expr} {k : List Expr → Bool} (h : tupK e k = true) : ∃ es j p, e = .Tuple es j p ∧ k es = true := by
  cases e <;> first | exact ⟨_, _, _, rfl, h⟩ | cases h
def lstK (e : Expr) (k : List Expr → Bool) : Bool := match e with
  | .List es _ => k es
  | _ => false
theorem lstK_inv {e : Expr} {k : List Expr → Bool} (h : lstK e k = true) : ∃ es p, e = .List es p ∧ k es = true := by
  cases e <;> first | exact ⟨_, _, rfl, h⟩ | cases h
def lcK (e : Expr) (k : Expr → Expr → Expr → List Expr → Scope → Bool) : Bool := match e with
  | .ListComp elt [⟨tg, iter, ifs, 0⟩] scope _ => k elt tg iter ifs scope
  | _ => false
theorem lcK_inv {e : Expr} {k : Expr → Expr → Expr → List Expr → Scope → Bool} (h : lcK e k = true) : ∃ elt tg iter ifs scope p, e = .ListComp elt [⟨tg, iter, ifs, 0⟩] scope p ∧ k elt tg iter ifs scope = true := by
  unfold lcK at h
  split at h
  · exact ⟨_, _, _, _, _, _, rfl, h⟩
  · cases h
def callK (e : Expr) (k : Expr → List Expr → List Keyword → Pos → Bool) : Bool := match e with
  | .Call f as ks p => k f as ks p
  | _ => false
theorem callK_inv {e : Expr} {k : Expr → List Expr → List Keyword → Pos → Bool} (h : callK e k = true) : ∃ f as ks p, e = .Call f as ks p ∧ k f as ks p = true := by
  cases e <;> first | exact ⟨_, _, _, _, rfl, h⟩ | cases h
def subK (e : Expr) (k : Expr → Expr → Bool) : Bool := match e with
  | .Subscript v s _ => k v s
  | _ => false
theorem subK_inv {e : Expr} {k : Expr → Expr → Bool} (h : subK e k = true) : ∃ v s p, e = .Subscript v s p ∧ k v s = true := by
  cases e <;> first | exact ⟨_, _, _, rfl, h⟩ | cases h
def sliceK (e : Expr) (k : Option Expr → Option Expr → Bool) : Bool := match e with
  | .Slice lo hi none _ => k lo hi
  | _ => false
theorem sliceK_inv {e : Expr} {k : Option Expr → Option Expr → Bool} (h : sliceK e k = true) : ∃ lo hi p, e = .Slice lo hi none p ∧ k lo hi = true := by
  unfold sliceK at h
  split at h
  · exact ⟨_, _, _, rfl, h⟩
  · cases h
def attrK (e : Expr) (k : Expr → Str → Pos → Bool) : Bool := match e with
  | .Attribute o n p => k o n p
  | _ => false
theorem attrK_inv {e : Expr} {k : Expr → Str → Pos → Bool} (h : attrK e k = true) : ∃ o n p, e = .Attribute o n p ∧ k o n p = true := by
  cases e <;> first | exact ⟨_, _, _, rfl, h⟩ | cases h
def oneK {α : Type} (l : List α) (k : α → Bool) : Bool := match l with
  | [a] => k a
  | _ => false
theorem oneK_inv {α : Type} {l : List α} {k : α → Bool} (h : oneK l k = true) : ∃ a, l = [a] ∧ k a = true := by
  unfold oneK at h
  split at h
  · exact ⟨_, rfl, h⟩
  · cases h
def consK {α : Type} (l : List α) (k : α → List α → Bool) : Bool := match l with
  | a :: r => k a r
  | _ => false
theorem consK_inv {α : Type} {l : List α} {k : α → List α → Bool} (h : consK l k = true) : ∃ a r, l = a :: r ∧ k a r = true := by
  cases l with
  | nil => cases h
  | cons a r => exact ⟨a, r, rfl, h⟩

/-! ### names -/
def visB (sc : Scope) (x : Str) : Bool := match sc.names.lookup x with
  | some .local => true
  | some .cell => true
  | some .free => true
  | _ => false
theorem visB_inv {sc : Scope} {x : Str} (h : visB sc x = true) : Vis sc x := by
  unfold visB at h
  split at h
  · rename_i q; exact .inl q
  · rename_i q; exact .inr (.inl q)
  · rename_i q; exact .inr (.inr q)
  · cases h
def locB (sc : Scope) (x : Str) : Bool := match sc.names.lookup x with
  | some .local => true
  | some .cell => true
  | _ => false
theorem locB_inv {sc : Scope} {x : Str} (h : locB sc x = true) : L2.Loc sc x := by
  unfold locB at h
  split at h
  · rename_i q; exact .inl q
  · rename_i q; exact .inr q
  · cases h
def fnB (bs : Option Scope) (x : Str) : Bool := match bs with
  | none => true
  | some s => s.names.lookup x == some .cell
def glB (sc : Scope) (x : Str) : Bool := decide (sc.names.lookup x = some .globalImplicit) && !(x == ("__debug__" : Str))
def placeB (N : List Str) (sc : Scope) (bs : Option Scope) (i : Nat) (x : Str) : Bool :=
  decide (N[i]? = some x) && locB sc x && (fnB bs x || decide (sc.names.lookup x = some .local))

def litB : PyData → Const → Bool
  | .none, .none => true
  | .bool a, .bool b => decide (a = b)
  | .int a, .int b => decide (a = b)
  | .str a, .str b => decide (a = b)
  | _, _ => false
def sameB : PyData → PyData → Bool
  | .none, .none => true
  | .bool a, .bool b => decide (a = b)
  | .int a, .int b => decide (a = b)
  | .str a, .str b => decide (a = b)
  | _, _ => false
def binB : BinO → Operator → Bool
  | .add, .Add => true
  | .sub, .Sub => true
  | .mul, .Mult => true
  | .fdiv, .FloorDiv => true
  | .mod, .Mod => true
  | .pow, .Pow => true
  | _, _ => false
def cmpB : CmpO → CmpOp → Bool
  | .eq, .Eq => true
  | .ne, .NotEq => true
  | .lt, .Lt => true
  | .le, .LtE => true
  | .gt, .Gt => true
  | .ge, .GtE => true
  | .isN, .Is => true
  | .notN, .IsNot => true
  | .inn, .In => true
  | .nin, .NotIn => true
  | _, _ => false
def Bi.name : Bi → Str
  | .len => "len"
  | .abs => "abs"
  | .sum => "sum"
  | .maxN => "max"
  | .all => "all"
  | .any => "any"
  | .int => "int"
  | .repr => "repr"
  | .tuple => "tuple"
  | .list => "list"
  | .minL => "min"
  | .maxL => "max"
  | .sorted => "sorted"
def Bi2.name : Bi2 → Str
  | .min => "min"
  | .max => "max"
def kwNone : List Keyword → Bool
  | [⟨some n, .Constant .none _ _, _⟩] => decide (n = ("default" : Str))
  | _ => false
def Bi.kws : Bi → List Keyword → Bool
  | .maxN, ks => kwNone ks
  | _, ks => ks.isEmpty
def kwKey : List Keyword → (Str → Bool) → Bool
  | [⟨some n, .Name y _, _⟩], q => decide (n = ("key" : Str)) && q y
  | _, _ => false
def isYes : T → Bool
  | .yes => true
  | _ => false
def isNopart : T → Bool
  | .nopart => true
  | _ => false
def targets (N : List Str) (sc : Scope) (bs : Option Scope) : List Nat → List Expr → Bool
  | [], [] => true
  | i :: is, e :: es => nameK e (placeB N sc bs i) && targets N sc bs is es
  | _, _ => false
def chkG (N : List Str) (sc : Scope) (bs : Option Scope) : G → Expr → Bool
  | .v i, e => nameK e (placeB N sc bs i)
  | .t is, e => tupK e (targets N sc bs is)
def G.slots : G → List Nat
  | .v i => [i]
  | .t is => is
def zipTg : Expr → Bool
  | .List .. => false
  | _ => true

/-- a call's arguments by place and by name, as the parameters stand -/
def kOk (ps : List Str) (n : Nat) (ks : List Str) (perm : List Nat) : Bool :=
  decide (n ≤ ps.length) && ks.all (fun k => ps.contains k) && decide ((ps.take n ++ ks).Nodup) && decide (perm.map (fun i => (ps.take n ++ ks)[i]?) = ps.map some)
section
variable (N : List Str) (fs : List FnT) (gl : List (Str × PyData))
mutual
def chkE : T → Scope → Option Scope → Expr → Bool
  | .var i, sc, _, e => nameK e fun x => decide (N[i]? = some x) && visB sc x && !(x == ("__debug__" : Str)) && !(x == ("__classdict__" : Str))
  | .lit d, _, _, e => constK e (litB d)
  | .glob x d, sc, _, e => nameK e fun y => decide (y = x) && glB sc y && (gl.lookup y).any (sameB d)
  | .bin o a b, sc, bs, e => binK e fun l op r => binB o op && chkE a sc bs l && chkE b sc bs r
  | .neg a, sc, bs, e => unK e fun o x => decide (o = .USub) && chkE a sc bs x
  | .cmp o a b, sc, bs, e => cmpK e fun l op r => cmpB o op && plainE r && chkE a sc bs l && chkE b sc bs r
  | .and a b, sc, bs, e => boolK e fun o l r => decide (o = .And) && chkE a sc bs l && chkE1 b sc bs r
  | .or a b, sc, bs, e => boolK e fun o l r => decide (o = .Or) && chkE a sc bs l && chkE1 b sc bs r
  | .not a, sc, bs, e => unK e fun o x => decide (o = .Not) && chkE a sc bs x
  | .ife c a b, sc, bs, e => ifeK e fun t x y => chkE c sc bs t && chkE a sc bs x && chkE b sc bs y
  | .tup as, sc, bs, e => tupK e fun es => decide (es.length ≤ 1000) && chkA as sc bs es
  | .lst as, sc, bs, e => lstK e fun es => decide (es.length ≤ 1000) && chkA as sc bs es
  | .lc own g it c t, sc, bs, e => lcK e fun elt tg iter ifs scope => blkC N sc scope own && g.slots.all (fun i => (own.map (·.2)).contains i) && chkG N (relS scope sc) (some scope) g tg &&
      plainE iter && chkI it sc bs (zipTg tg) iter && ((isYes c && ifs.isEmpty) || oneK ifs (fun q => chkE c (relS scope sc) (some scope) q)) && chkE t (relS scope sc) (some scope) elt
  | .call f as, sc, bs, e => callK e fun fn es ks _ => (fs[f]?).any (fun F => nameK fn (fun x => decide (x = F.name) && glB sc x)) && (fs[f]?).any (fun F => kOk F.params es.length [] (List.range es.length)) && ks.isEmpty && allPlain es && chkA as sc bs es
  | .callk f as ns perm ws, sc, bs, e => callK e fun fn es ks _ => (fs[f]?).any (fun F => nameK fn (fun x => decide (x = F.name) && glB sc x)) && (fs[f]?).any (fun F => kOk F.params es.length ns perm) && allPlain es && chkA as sc bs es &&
      decide (ks.map (·.arg) = ns.map some) && chkA ws sc bs (ks.map (·.value))
  | .bi b a, sc, bs, e => callK e fun fn es ks _ => nameK fn (fun x => decide (x = b.name) && glB sc x) && b.kws ks && oneK es (fun x => plainE x && chkE a sc bs x)
  | .bi2 b a x, sc, bs, e => callK e fun fn es ks _ => nameK fn (fun y => decide (y = b.name) && glB sc y) && ks.isEmpty && consK es fun y r => oneK r fun z => plainE y && plainE z && chkE a sc bs y && chkE x sc bs z
  | .chain o p a b c, sc, bs, e => chainK e fun l op x op' y => cmpB o op && cmpB p op' && plainE x && plainE y && chkE a sc bs l && chkE b sc bs x && chkE c sc bs y
  | .rev a, sc, bs, e => revK e fun v => chkE a sc bs v
  | .sortk f a, sc, bs, e => callK e fun fn es ks _ => nameK fn (fun x => decide (x = ("sorted" : Str)) && glB sc x) && kwKey ks (fun y => (fs[f]?).any (fun F => decide (y = F.name) && kOk F.params 1 [] (List.range 1)) && glB sc y) && oneK es (fun x => plainE x && chkE a sc bs x)
  | .idx a i, sc, bs, e => subK e fun v s => plainE s && chkE a sc bs v && chkE i sc bs s
  | .slc a lo hi, sc, bs, e => subK e fun v s => chkE a sc bs v && sliceK s fun l h => ((isNopart lo && l.isNone) || l.any (fun x => chkE lo sc bs x)) && ((isNopart hi && h.isNone) || h.any (fun x => chkE hi sc bs x))
  | .app a x, sc, bs, e => callK e fun fn es ks p => attrK fn (fun o n q => decide (n = ("append" : Str)) && decide (q.endLine = p.line) && notCall o && chkE a sc bs o) && ks.isEmpty && oneK es (fun y => plainE y && chkE x sc bs y)
  | .popAt a x, sc, bs, e => callK e fun fn es ks p => attrK fn (fun o n q => decide (n = ("pop" : Str)) && decide (q.endLine = p.line) && notCall o && chkE a sc bs o) && ks.isEmpty && oneK es (fun y => plainE y && chkE x sc bs y)
  | .mut a, sc, bs, e => chkE a sc bs e
  | .frz a, sc, bs, e => chkE a sc bs e
  | _, _, _, _ => false
/-- the rest of a written and, or: one left, or more -/
def chkE1 : T → Scope → Option Scope → Expr → Bool
  | .and a b, sc, bs, e => boolK e fun o l r => decide (o = .And) && chkE a sc bs l && chkE1 b sc bs r
  | .or a b, sc, bs, e => boolK e fun o l r => decide (o = .Or) && chkE a sc bs l && chkE1 b sc bs r
  | .last a, sc, bs, e => lastK e fun _ x => chkE a sc bs x
  | _, _, _, _ => false
def chkA : T → Scope → Option Scope → List Expr → Bool
  | .anil, _, _, es => es.isEmpty
  | .acons a r, sc, bs, es => consK es fun e t => plainE e && chkE a sc bs e && chkA r sc bs t
  | _, _, _, _ => false
def chkI : T → Scope → Option Scope → Bool → Expr → Bool
  | .iseq a, sc, bs, _, e => chkE a sc bs e
  | .irange1 a, sc, bs, _, e => callK e fun fn es ks _ => nameK fn (fun x => decide (x = ("range" : Str)) && glB sc x) && ks.isEmpty && oneK es (fun x => plainE x && chkE a sc bs x)
  | .irange2 a b, sc, bs, _, e => callK e fun fn es ks _ => nameK fn (fun x => decide (x = ("range" : Str)) && glB sc x) && ks.isEmpty && consK es fun x r => oneK r fun y => plainE x && plainE y && chkE a sc bs x && chkE b sc bs y
  | .izip a b, sc, bs, t, e => t && callK e fun fn es ks _ => nameK fn (fun x => decide (x = ("zip" : Str)) && glB sc x) && ks.isEmpty && consK es fun x r => oneK r fun y => plainE x && plainE y && chkE a sc bs x && chkE b sc bs y
  | _, _, _, _, _ => false
end
end
end RS

/-! RS4: what a computation of the evaluator promises of the model; the rules for expressions. -/
namespace RS
open PySem
open PySem.Spec
open L2

/-! ### promises -/
/-- how the model's answer stands to the evaluator's: the heap ahead, behind, the places behind -/
abbrev Rel (α β : Type) := Hp → Hp → Loc → β → α → Prop
def VE (K : PySem.W.Frag) : Rel Va V := fun H H' loc' v a => VR K H' loc' v a ∧ ∀ xs, a = .new xs → ∀ p, v = .ref p → H p = none
def BE : Rel Bool Bool := fun _ _ _ c b => c = b
def AE (K : PySem.W.Frag) : Rel (List Va) (List V) := fun _ H' loc' vs xs => VIs K H' loc' vs xs
section
variable (XR : Ex → Value → Option Addr → Hp → Prop) (K : PySem.W.Frag)
def Post {α β : Type} (Rl : Rel α β) (E : XK) (loc : Loc) (H : Hp) (r : Res α) (Q : β → Hp → Prop) : Prop := match r with
  | .ok a st' => ∀ b H' loc', Ext loc H H' loc' → SR K H' loc' st' → Rl H H' loc' b a → Q b H'
  | .exc e st' => ∀ cls od H' loc', Ext loc H H' loc' → SR K H' loc' st' → XR e cls od H' → E cls od H'
  | .stuck => False
end
/-- the relation asks less of an elder heap -/
def Old {α β : Type} (Rl : Rel α β) : Prop := ∀ H0 H1 H' loc' b a, (∀ p, H0 p ≠ none → H1 p ≠ none) → Rl H1 H' loc' b a → Rl H0 H' loc' b a
theorem old_VE {K : PySem.W.Frag} : Old (VE K) := fun H0 H1 H' loc' b a k h => ⟨h.1, fun xs e p q => Classical.byContradiction fun z => k p z (h.2 xs e p q)⟩
theorem old_BE : Old BE := fun _ _ _ _ _ _ _ h => h
theorem old_AE {K : PySem.W.Frag} : Old (AE K) := fun _ _ _ _ _ _ _ h => h
section
variable {XR : Ex → Value → Option Addr → Hp → Prop} {K : PySem.W.Frag} {α β γ δ : Type} {Rl : Rel α β} {Rk : Rel γ δ} {E : XK} {loc : Loc} {H : Hp} {r : Res α} {Q : β → Hp → Prop}
theorem Post.imp {Q' : β → Hp → Prop} (h : Post XR K Rl E loc H r Q) (q : ∀ b H', Q b H' → Q' b H') : Post XR K Rl E loc H r Q' := by
  cases r with
  | ok a st => exact fun b H' loc' x s l => q _ _ (h b H' loc' x s l)
  | exc e st => exact h
  | stuck => exact h
theorem Post.shift {H1 : Hp} {loc1 : Loc} (o : Old Rl) (x : Ext loc H H1 loc1) (h : Post XR K Rl E loc H r Q) : Post XR K Rl E loc1 H1 r Q := by
  cases r with
  | ok a st => exact fun b H' loc' x' s l => h b H' loc' (x.trans x') s (o _ _ _ _ _ _ x.kept l)
  | exc e st => exact fun c od H' loc' x' s l => h c od H' loc' (x.trans x') s l
  | stuck => exact h
/-- what stands behind the first part of two -/
def Then (XR : Ex → Value → Option Addr → Hp → Prop) (K : PySem.W.Frag) (Rl : Rel α β) (Rk : Rel γ δ) (E : XK) (loc : Loc) (H : Hp) (r : Res α) (k : α → Sto → Res γ) (Q : δ → Hp → Prop) (b : β) (H1 : Hp) : Prop :=
  ∃ loc1 a st1, r = .ok a st1 ∧ Ext loc H H1 loc1 ∧ SR K H1 loc1 st1 ∧ Rl H H1 loc1 b a ∧ Post XR K Rk E loc1 H1 (k a st1) Q
theorem Post.bind {k : α → Sto → Res γ} {Q : δ → Hp → Prop} (o : Old Rk) (h : Post XR K Rk E loc H (r.bind k) Q) : Post XR K Rl E loc H r (Then XR K Rl Rk E loc H r k Q) := by
  cases r with
  | ok a st => exact fun b H' loc' x s l => ⟨loc', a, st, rfl, x, s, l, Post.shift o x h⟩
  | exc e st => exact h
  | stuck => exact h
theorem Post.here {a : α} {st : Sto} {b : β} (h : Post XR K Rl E loc H (.ok a st) Q) (s : SR K H loc st) (l : Rl H H loc b a) : Q b H := h b H loc Ext.refl s l
theorem Post.new {a : α} {st : Sto} {b : β} {p : Addr} {o : HO} (h : Post XR K Rl E loc H (.ok a st) Q) (n : H p = none) (s : SR K H loc st) (l : Rl H (upd H p o) loc b a) : Q b (upd H p o) :=
  h b _ loc (Ext.put n) (s.put n) l
end

/-! ### readings -/
section
variable (XR : Ex → Value → Option Addr → Hp → Prop) (K : PySem.W.Frag) (φ : Nat → List Va → Sto → Res Va) (E : XK)
/-- a reading of any kind by the evaluator -/
def At {α β : Type} (Rl : Rel α β) (ev : RS.Env → Sto → Res α) : L2.St → Hp → (β → Hp → Prop) → Prop := fun σ H Q =>
  ∃ loc ρ st, SR K H loc st ∧ ER K H loc ρ σ ∧ Post XR K Rl E loc H (ev ρ st) Q
def tE (t : T) : TE := At XR K E (VE K) (evE φ t)
def tT (t : T) : TT := At XR K E BE (evT φ t)
def tA (t : T) : TA := At XR K E (AE K) (evA φ t)
end
theorem pe_imp {X : Cx} {e : Expr} {t t' : TE} (h : PE X e t) (q : ∀ σ H Q, t' σ H Q → t σ H Q) : PE X e t' := ⟨fun pins s σ H Q I w => h.run pins s σ H Q I (q _ _ _ w)⟩
theorem pt_imp {X : Cx} {e : Expr} {t t' : TT} (h : PT X e t) (q : ∀ σ H Q, t' σ H Q → t σ H Q) : PT X e t' := ⟨fun pins s σ H Q I w => h.run pins s σ H Q I (q _ _ _ w)⟩
theorem pw_imp {X : Cx} {e : Expr} {t t' : TT} (h : PW X e t) (q : ∀ σ H Q, t' σ H Q → t σ H Q) : PW X e t' := ⟨fun wh pins s σ H Q I w => h.run wh pins s σ H Q I (q _ _ _ w)⟩
theorem pa_imp {X : Cx} {e : List Expr} {t t' : TA} (h : PA X e t) (q : ∀ σ H Q, t' σ H Q → t σ H Q) : PA X e t' := ⟨fun p pins s σ H Q I w => h.run p pins s σ H Q I (q _ _ _ w)⟩
/-- a step of the reckoning alone: a list that nobody changes again is known for good -/
theorem pe_ghost {X : Cx} {e : Expr} {t : TE} (h : PE X e t) : PE X e (fun σ H Q => t σ H fun v H1 => Q v H1 ∨ ∃ a vs, H1 a = some (.lst vs) ∧ ∀ o, Q v (upd H1 a (.frz o (.lst vs)))) := by
  refine ⟨fun pins s σ H Q I w => thn (h.run pins s σ H _ I w) fun u s1 ⟨v, H1, I1, r1, q1⟩ => ?_⟩
  rcases q1 with q | ⟨a, vs, e1, q⟩
  · exact ⟨v, H1, I1, r1, q⟩
  · obtain ⟨z, its, n, rv, eo⟩ := I1.hok a _ e1
    refine ⟨v, _, ?_, r1, q { cls := .type "list", data := .seq its.toArray n }⟩
    have I2 := I1.write (x := a) (e := a) (o := .frz { cls := .type "list", data := .seq its.toArray n } (.lst vs)) (h' := s1.heap) (t' := s1.toks) (by rw [e1]; trivial) (.inl rfl) (fun _ _ _ q => q) ⟨_, eo⟩ ⟨eo, z, its, n, rv, eo⟩
    exact I2
end RS

/-! RS5: rules that the hand layer lacks. -/
namespace RS
open PySem
open PySem.Spec
open L2
open PyProof.Rows (envOfC)
open AutoSeq1 (wpAny_loadPart')

/-! ### repr of data whose ints are wide -/
theorem digits_ok {a : Int} {M : Model} {A : Around} {E : Value → Shared → Prop} {s : Shared} {Q : Option Nat → Shared → Prop} (hn : s.heap.NoDigits) (ha : a.natAbs.log2 < 12900) (h : Q none s) : wpAny M A (Builtin.overDigitLimit? a) Q E s :=
  PyProof.Rows.overDigitLimit_any hn (fun _ => h) fun hge => absurd (PyProof.Rows.lt_of_log2 ha) (Nat.not_lt.mpr (Nat.le_trans PyProof.Rows.pow_lo hge))
theorem lt10 {a : Int} (ha : a.natAbs.log2 < 12900) : a.natAbs < 10 ^ 4300 := Nat.lt_of_lt_of_le (PyProof.Rows.lt_of_log2 ha) PyProof.Rows.pow_lo
theorem meets_int_repr {a : Int} {t : Tok} (ha : a.natAbs.log2 < 12900) :
    Meets (Builtin.«int.__repr__» ⟨[.int a t], []⟩) (fun _ R s => s.heap.NoDigits ∧ R (.ok (.ret (.str (toString a) s.toks))) { s with toks := s.toks + 1 }) :=
  .of_wp fun prog w A R s h => by
    obtain ⟨hn, h⟩ := h
    unfold Builtin.«int.__repr__»
    show wpAny _ _ (do let r ← Builtin.overDigitLimit? a; _) _ _ s
    refine wpAny_bind (digits_ok hn ha ?_)
    exact wpAny_bind (wpAny_mkStr (wpAny_pure ⟨_, rfl, h⟩) (int_text_fits10 (lt10 ha)))
section
variable {prog : Program} {w : World}
theorem reprObj_int {A : Around} {E : Value → Shared → Prop} {s : Shared} {a : Int} {t : Tok} {Q : Value → Shared → Prop} (hu : A.units < cLine) (hn : s.heap.NoDigits) (ha : a.natAbs.log2 < 12900)
    (h : Q (.str (toString a) s.toks) { s with toks := s.toks + 1 }) : wpAny (model prog w) A (pyReprObj (.int a t)) Q E s :=
  wpAny_pyReprObj_slot hu (typeIs_int s a t) F.slot_int_repr.toG (call_meets F.slot_int_repr (typeIs_int s a t) F.entry_int_repr (F.args_int_repr_1 _) (meets_int_repr ha) ⟨hn, _, _, rfl, h⟩)
theorem reprK_int {h₀ : Heap} {a : Int} (t : Tok) (hn : h₀.NoDigits) (ha : a.natAbs.log2 < 12900) (as : List Addr) (d : Nat) : ReprK prog w as h₀ d (.int a t) (toString a) := by
  intro base hb A g E s Q hg _ hu hk hQ
  have hb' : base ≤ sizeLine := by omega
  rw [pyReprUnder_leaf (v := .int a t) hb' (fun _ e => nomatch e)]
  unfold pyRepr
  exact wpAny_bind (reprObj_int (by omega) (hn.keeps hk) ha (wpAny_pure (hQ s.heap _ fun _ _ e => e)))
end
section
variable {prog : Program} {w : World} {h₀ : Heap}
mutual
theorem shown_wt : ∀ d : PyData, wt d < 16777216 → d.shown.length ≤ wt d
  | .none, _ => by simp only [PyData.shown, wt]; decide
  | .bool b, _ => by simp only [PyData.shown, wt]; cases b <;> decide
  | .int i, h => by
    simp only [wt] at h ⊢
    by_cases q : i.natAbs.log2 < 12900
    · rw [if_pos q]
      have e := int_text_length_le (a := i) (k := i.natAbs.log2 + 1) (by omega) (by omega)
      simp only [PyData.shown]
      show (Str.ofString (toString i)).length ≤ _
      rw [ofString_length]
      omega
    · rw [if_neg q] at h; omega
  | .str x, _ => by simp only [PyData.shown, wt]; exact Nat.le_refl _
  | .list xs, h => by
    simp only [PyData.shown, wt] at h ⊢
    have e := shown_wts xs (by omega)
    have q := listText_len_le (PyData.shownAll xs)
    omega
  | .tuple xs, h => by
    simp only [PyData.shown, wt] at h ⊢
    have e := shown_wts xs (by omega)
    have q := tupleText_len_le (PyData.shownAll xs)
    omega
  | .dict _, h => by simp only [wt] at h; omega
theorem shown_wts : ∀ xs : List PyData, wts xs < 16777216 → ((PyData.shownAll xs).map (·.length)).sum + 2 * (PyData.shownAll xs).length ≤ wts xs
  | [], _ => by simp only [PyData.shownAll, wts]; decide
  | x :: r, h => by
    simp only [PyData.shownAll, wts] at h ⊢
    have e1 := shown_wt x (by omega)
    have e2 := shown_wts r (by omega)
    rw [List.map_cons, List.sum_cons, List.length_cons]
    omega
end
theorem wts_mem : ∀ {xs : List PyData} {x : PyData}, x ∈ xs → wt x ≤ wts xs
  | y :: r, x, h => by
    simp only [wts]
    rcases List.mem_cons.mp h with rfl | h
    · omega
    · have := wts_mem h; omega
theorem shownAll_mem : ∀ {xs : List PyData} {t : Str}, t ∈ PyData.shownAll xs → ∃ x ∈ xs, t = x.shown
  | [], _, h => by simp only [PyData.shownAll] at h; exact absurd h (by simp)
  | y :: r, t, h => by
    simp only [PyData.shownAll] at h
    rcases List.mem_cons.mp h with rfl | h
    · exact ⟨y, List.mem_cons_self, rfl⟩
    · obtain ⟨x, m, e⟩ := shownAll_mem h
      exact ⟨x, List.mem_cons_of_mem _ m, e⟩
theorem size_of_wt {n : Nat} (h : n < 16777216) : n ≤ sizeLine := by rw [sizeLine_eq]; omega
mutual
theorem wideK (hn : h₀.NoDigits) : ∀ {v : Value} {d : PyData} {as : List Addr}, Reads h₀ v d as → wt d < 16777216 → ∃ bs, ReadAtMost h₀ d.depth bs ∧ ReprK prog w bs h₀ d.depth v d.shown
  | _, _, _, .none, _ => ⟨[], (fun _ h => nomatch h), by simp only [PyData.shown]; exact .of_is ReprIs.none _ _ _⟩
  | _, _, _, .bool b, _ => ⟨[], (fun _ h => nomatch h), by simp only [PyData.shown]; exact .of_is (ReprIs.bool b) _ _ _⟩
  | _, _, _, .int i t, h => ⟨[], (fun _ h => nomatch h), by
      simp only [PyData.shown]
      refine reprK_int t hn ?_ _ _
      simp only [wt] at h
      by_cases q : i.natAbs.log2 < 12900
      · exact q
      · rw [if_neg q] at h; omega⟩
  | _, _, _, .str x t, h => ⟨[], (fun _ h => nomatch h), by
      simp only [PyData.shown]
      simp only [wt] at h
      exact .of_is (ReprIs.str x t (size_of_wt h)) _ _ _⟩
  | _, _, _, .list (a := a) (vs := vs) (xs := xs) h1 h2 h3 h4, h => by
    have r : Reads h₀ (.ref a) (.list xs) _ := .list h1 h2 h3 h4
    simp only [wt] at h
    obtain ⟨bs, hb, hk⟩ := wideAllK hn h4 (by omega)
    have hna : a ∉ bs := not_mem_of_deeper r (by simp only [PyData.depth]; omega) hb
    refine ⟨a :: bs, ReadAtMost.cons r (by simp only [PyData.depth]; omega) hb, ?_⟩
    simp only [PyData.depth, PyData.shown]
    obtain ⟨l⟩ := vs
    cases l with
    | nil =>
      have z : ReadsAll h₀ [] xs _ := h4
      cases z
      simp only [PyData.shownAll, listText_nil]
      exact ReprK.listEmpty h1 h2 h3
    | cons x l =>
      refine ReprK.list h1 h2 h3 hna (by simpa using hk.length_eq) (fun i y e => hk.item i y ?_)
      simpa using e
  | _, _, _, .tuple (a := a) (xs := xs) h1 h2 h3 h4, h => by
    have r : Reads h₀ (.ref a) (.tuple xs) _ := .tuple h1 h2 h3 h4
    simp only [wt] at h
    obtain ⟨bs, hb, hk⟩ := wideAllK hn h4 (by omega)
    have hna : a ∉ bs := not_mem_of_deeper r (by simp only [PyData.depth]; omega) hb
    refine ⟨a :: bs, ReadAtMost.cons r (by simp only [PyData.depth]; omega) hb, ?_⟩
    simp only [PyData.depth, PyData.shown]
    exact ReprK.tuple h1 h2 h3 hna hk
  | _, _, _, .dict _ _ _ _ _, h => by simp only [wt] at h; omega
theorem wideAllK (hn : h₀.NoDigits) : ∀ {vs : List Value} {ds : List PyData} {as : List Addr}, ReadsAll h₀ vs ds as → wts ds < 16777216 →
    ∃ bs, ReadAtMost h₀ (PyData.depthAll ds) bs ∧ ReprAllK prog w bs h₀ (PyData.depthAll ds) vs (PyData.shownAll ds)
  | _, _, _, .nil, _ => ⟨[], (fun _ h => nomatch h), by simp only [PyData.shownAll]; exact .nil⟩
  | _, _, _, .cons (d := d) (ds := ds) r rs, h => by
    simp only [wts] at h
    obtain ⟨b1, hb1, k1⟩ := wideK hn r (by omega)
    obtain ⟨b2, hb2, k2⟩ := wideAllK hn rs (by omega)
    refine ⟨b1 ++ b2, fun b hm => ?_, ?_⟩
    · simp only [PyData.depthAll]
      rcases List.mem_append.mp hm with hm | hm
      · obtain ⟨d', as', r', hd'⟩ := hb1 b hm
        exact ⟨d', as', r', Nat.le_trans hd' (Nat.le_max_left _ _)⟩
      · obtain ⟨d', as', r', hd'⟩ := hb2 b hm
        exact ⟨d', as', r', Nat.le_trans hd' (Nat.le_max_right _ _)⟩
    · simp only [PyData.depthAll, PyData.shownAll]
      refine .cons ((k1.more fun b hb => List.mem_append_left _ hb).level_le (Nat.le_max_left _ _)) ?_
      exact k2.more_le (fun b hb => List.mem_append_right _ hb) (Nat.le_max_right _ _)
end
theorem flatD_depth : ∀ (n : Nat) (d : PyData), flatD n d = true → d.depth ≤ n
  | n, .none, _ => by simp only [PyData.depth]; omega
  | n, .bool _, _ => by simp only [PyData.depth]; omega
  | n, .int _, _ => by simp only [PyData.depth]; omega
  | n, .str _, _ => by simp only [PyData.depth]; omega
  | n + 1, .list xs, h => by
    have h : xs.all (flatD n) = true := h
    simp only [PyData.depth]
    have : ∀ ys : List PyData, (∀ y ∈ ys, y.depth ≤ n) → PyData.depthAll ys ≤ n := fun ys => by
      induction ys with
      | nil => intro _; simp only [PyData.depthAll]; omega
      | cons y r ih =>
        intro q
        simp only [PyData.depthAll]
        exact Nat.max_le.mpr ⟨q y List.mem_cons_self, ih fun z hz => q z (List.mem_cons_of_mem _ hz)⟩
    have e := this xs fun y hy => flatD_depth n y (List.all_eq_true.mp h y hy)
    omega
  | n + 1, .tuple xs, h => by
    have h : xs.all (flatD n) = true := h
    simp only [PyData.depth]
    have : ∀ ys : List PyData, (∀ y ∈ ys, y.depth ≤ n) → PyData.depthAll ys ≤ n := fun ys => by
      induction ys with
      | nil => intro _; simp only [PyData.depthAll]; omega
      | cons y r ih =>
        intro q
        simp only [PyData.depthAll]
        exact Nat.max_le.mpr ⟨q y List.mem_cons_self, ih fun z hz => q z (List.mem_cons_of_mem _ hz)⟩
    have e := this xs fun y hy => flatD_depth n y (List.all_eq_true.mp h y hy)
    omega
  | 0, .list _, h => by cases h
  | 0, .tuple _, h => by cases h
  | 0, .dict _, h => by cases h
  | n + 1, .dict _, h => by cases h
theorem flatD_plain : ∀ (n : Nat) (d : PyData), flatD n d = true → d.plain = true
  | n, .none, _ => rfl
  | n, .bool _, _ => rfl
  | n, .int _, _ => rfl
  | n, .str _, _ => rfl
  | n + 1, .list xs, h => by
    have h : xs.all (flatD n) = true := h
    have : ∀ ys : List PyData, (∀ y ∈ ys, y.plain = true) → PyData.plainAll ys = true := fun ys => by
      induction ys with
      | nil => intro _; rfl
      | cons y r ih =>
        intro q
        simp only [PyData.plainAll, q y List.mem_cons_self, ih fun z hz => q z (List.mem_cons_of_mem _ hz), Bool.and_self]
    simp only [PyData.plain]
    exact this xs fun y hy => flatD_plain n y (List.all_eq_true.mp h y hy)
  | n + 1, .tuple xs, h => by
    have h : xs.all (flatD n) = true := h
    have : ∀ ys : List PyData, (∀ y ∈ ys, y.plain = true) → PyData.plainAll ys = true := fun ys => by
      induction ys with
      | nil => intro _; rfl
      | cons y r ih =>
        intro q
        simp only [PyData.plainAll, q y List.mem_cons_self, ih fun z hz => q z (List.mem_cons_of_mem _ hz), Bool.and_self]
    simp only [PyData.plain]
    exact this xs fun y hy => flatD_plain n y (List.all_eq_true.mp h y hy)
  | 0, .list _, h => by cases h
  | 0, .tuple _, h => by cases h
  | 0, .dict _, h => by cases h
  | n + 1, .dict _, h => by cases h
/-- repr of data -/
theorem repr_data {A : Around} {E : Value → Shared → Prop} {s : Shared} {v : Value} {d : PyData} {as : List Addr} {Q : Value → Shared → Prop} (hn : s.heap.NoDigits) (r : Reads s.heap v d as) (hw : wt d < 16777216) (hp : d.plain = true)
    (hg : A.guards = some []) (hu : A.units + (d.depth + 1) < cLine)
    (hQ : ∀ h' u tk, (∀ b o, s.heap.get? b = some o → h'.get? b = some o) → Q (.str d.shown u) { s with heap := h', toks := tk }) : wpAny (model prog w) A (call (.builtin "repr") [v]) Q E s := by
  have hz := shown_wt d hw
  cases r with
  | none => exact P.repr_of_none (by simpa only [PyData.shown] using hQ s.heap _ _ fun _ _ e => e)
  | bool b => exact P.repr_of_bool (by simpa only [PyData.shown] using hQ s.heap _ _ fun _ _ e => e)
  | str x t => exact P.repr_of_str (by simpa only [PyData.shown] using hQ s.heap _ _ fun _ _ e => e) (by simp only [PyData.shown] at hz; exact size_of_wt (Nat.lt_of_le_of_lt hz hw))
  | int i t =>
    have ha : i.natAbs.log2 < 12900 := by
      simp only [wt] at hw
      by_cases q : i.natAbs.log2 < 12900
      · exact q
      · rw [if_neg q] at hw; omega
    refine call_repr_slot (by omega) (typeIs_int s i t) F.slot_int_repr.toG (call_meets F.slot_int_repr (typeIs_int s i t) F.entry_int_repr (F.args_int_repr_1 _) (meets_int_repr ha) ⟨hn, _, _, rfl, ?_⟩)
    simp only [PyData.shown] at hQ
    exact hQ s.heap _ _ fun _ _ e => e
  | list h1 h2 h3 h4 =>
    rename_i a o vs n xs bs₀
    have r : Reads s.heap (.ref a) (.list xs) _ := .list h1 h2 h3 h4
    simp only [PyData.depth] at hu
    have hw' := hw
    simp only [wt] at hw'
    obtain ⟨bs, hb, hk⟩ := wideAllK (prog := prog) (w := w) hn h4 (by omega)
    have hna : a ∉ bs := not_mem_of_deeper r (by simp only [PyData.depth]; omega) hb
    simp only [PyData.shown] at hQ hz
    refine call_repr_slot (by omega) ⟨o, h1, h2⟩ F.slot_list_repr.toG ?_
    obtain ⟨l⟩ := vs
    cases l with
    | nil =>
      have z : ReadsAll s.heap [] xs _ := h4
      cases z
      simp only [PyData.shownAll, listText_nil] at hQ
      exact call_list_repr_empty ⟨o, h1, h2⟩ h1 h3 ⟨_, _, rfl, hQ s.heap _ _ fun _ _ e => e⟩
    | cons x l =>
      exact call_list_reprK h1 h2 h3 hna (by simpa using hk.length_eq) (fun i y e => hk.item i y (by simpa using e)) hg (fun b _ => Clear.nil b) (by show A.units + 1 + (PyData.depthAll xs + 1) < cLine; omega) (fun _ _ e => e)
        (fun h' u tk hk' => ⟨_, _, rfl, hQ h' u tk hk'⟩) (size_of_wt (Nat.lt_of_le_of_lt hz hw))
  | tuple h1 h2 h3 h4 =>
    rename_i a o vs n xs
    have r : Reads s.heap (.ref a) (.tuple xs) _ := .tuple h1 h2 h3 h4
    simp only [PyData.depth] at hu
    have hw' := hw
    simp only [wt] at hw'
    obtain ⟨bs, hb, hk⟩ := wideAllK (prog := prog) (w := w) hn h4 (by omega)
    have hna : a ∉ bs := not_mem_of_deeper r (by simp only [PyData.depth]; omega) hb
    simp only [PyData.shown] at hQ hz
    refine call_repr_slot (by omega) ⟨o, h1, h2⟩ F.slot_tuple_repr ?_
    exact call_tuple_reprK h1 h2 h3 hna hk hg (fun b _ => Clear.nil b) (by show A.units + 1 + (PyData.depthAll xs + 1) < cLine; omega) (fun _ _ e => e)
        (fun h' u tk hk' => ⟨_, _, rfl, hQ h' u tk hk'⟩) (size_of_wt (Nat.lt_of_le_of_lt hz hw))
  | dict _ _ _ _ _ => cases hp
end

/-! ### operators -/
section
variable {X : Cx}
/-- two lists, one behind the other -/
def rCatR (K : PySem.W.Frag) : R2 := fun x y H Q => ∃ l b xs zs, x = .ref l ∧ y = .ref b ∧ SqL K H l xs ∧ SqL K H b zs ∧ xs.length + zs.length ≤ sizeLine ∧ ∀ p, H p = none → Q (.ref p) (upd H p (.lst (xs ++ zs)))
theorem op_catR : OpR X (binaryOp .Add) (rCatR X.K) := by
  intro pins s σ H x y v u Q I rx ry h
  obtain ⟨l, b, xs, zs, rfl, rfl, hl, hb, hz, q⟩ := h
  cases rx
  cases ry
  obtain ⟨its, r, ⟨⟨c1, d1, da1, sl1⟩, n, ho, hc, hdd, hd⟩, _⟩ := I.list hl
  obtain ⟨its2, r2, ⟨⟨c2, d2, da2, sl2⟩, n2, ho2, hc2, hdd2, hd2⟩, _⟩ := I.list hb
  simp only at hc hd hc2 hd2
  subst hc hd hc2 hd2
  have l1 := r.length
  have l2 := r2.length
  refine concat_meets ⟨_, ho, rfl⟩ ⟨_, ho2, rfl⟩ noFill_list_add seq_list_add PySem.F.slot_list_add PySem.F.entry_list_add (PySem.F.args_list_add_2 _ _) (PyProof.Rows.list_addW l b its.toArray its2.toArray n n2 d1 d2 sl1 sl2 (by simp only [List.size_toArray]; omega)) ⟨ho, ho2, ?_⟩
  rw [show its.toArray ++ its2.toArray = (its ++ its2).toArray by simp]
  exact ⟨.ref _, _, I.lnew (t' := s.toks) (r.append r2) (by rw [List.length_append]; omega), rfl, q _ I.fresh⟩
theorem int_rmul_listG (a : Int) (t : Tok) (l : Addr) (items : Array Value) (n : Nat) (dd : Option Addr) (sl : Array (Option Value)) :
    Meets (Builtin.«int.__rmul__» ⟨[.int a t, .ref l], []⟩) (fun _ R s => s.heap.get? l = some { cls := .type "list", dict := dd, data := .seq items n, slots := sl } ∧ R (.ok (.ret Value.notImplemented)) s) :=
  .of_wp fun prog w A R s h => by obtain ⟨hp, g, d, tk, os⟩ := s; obtain ⟨hl, h⟩ := h; wp_walk using wpAny_loadPart' hl; exact ⟨_, rfl, h⟩
theorem list_mulG (l : Addr) (items : Array Value) (n : Nat) (dd : Option Addr) (sl : Array (Option Value)) (x : Int) (u : Tok) (hc0 : ¬(!Builtin.List.listFitsIndex x) = true) (hc1 : ¬items.size * x.toNat > (2 ^ 63 - 1) / 8) (hc2 : ¬Builtin.List.listTooLong (items.size * x.toNat) = true) :
    Meets (Builtin.«list.__mul__» ⟨[.ref l, .int x u], []⟩) (fun _ R s => s.heap.get? l = some { cls := .type "list", dict := dd, data := .seq items n, slots := sl } ∧ R (.ok (.ret (Value.ref s.heap.objs.size))) { s with heap := s.heap.push { cls := Value.type "list", data := Data.seq (List.foldl (fun x1 x2 => x1 ++ x2) #[] (List.replicate (if items.isEmpty = true then 0 else x.toNat) items)) }, toks := s.toks }) :=
  .of_wp fun prog w A R s h => by
    obtain ⟨hp, g, d, tk, os⟩ := s; obtain ⟨hl, h⟩ := h
    have f1 := AutoSeq1.idx_int
    have hsz := AutoListH.joined_fits hc2
    wp_walk using wpAny_loadPart' hl
    refine wpAny_ite_false (decide_eq_false (Nat.not_lt.mpr hsz)) ?_
    wp_walk using wpAny_loadPart' hl
    exact ⟨_, rfl, h⟩
/-- a list some times -/
def rRepR (K : PySem.W.Frag) : R2 := fun x y H Q => ∃ l k xs, x = .ref l ∧ y = .int k ∧ SqL K H l xs ∧ 0 ≤ k ∧ k ≤ 1000 ∧ xs.length ≤ 1000 ∧ ∀ p, H p = none → Q (.ref p) (upd H p (.lst (List.replicate k.toNat xs).flatten))
theorem op_repR : OpR X (binaryOp .Mult) (rRepR X.K) := by
  intro pins s σ H x y v u Q I rx ry h
  obtain ⟨l, k, xs, rfl, rfl, hl, h1, h2, hz, q⟩ := h
  cases rx
  obtain ⟨t, rfl⟩ := ry
  obtain ⟨its, r, ⟨⟨c1, d1, da1, sl1⟩, n, e, hc, hdd, hd⟩, _⟩ := I.list hl
  simp only at hc hd
  subst hc hd
  have l1 := r.length
  have a1 : k.toNat * xs.length ≤ 1000 * 1000 := Nat.mul_le_mul (by omega) hz
  have hlen : its.toArray.size * k.toNat ≤ sizeLine := by
    rw [List.size_toArray, ← l1, Nat.mul_comm, sizeLine_eq]; omega
  have hcap : ¬ its.toArray.size * k.toNat > (2 ^ 63 - 1) / 8 := by
    have : (sizeLine : Nat) ≤ (2 ^ 63 - 1) / 8 := by decide
    omega
  have hfit : ¬ (!Builtin.List.listFitsIndex k) = true := by
    rw [fitsIndex_both (by omega) (by omega)]
    exact Bool.false_ne_true
  have hlong : ¬ Builtin.List.listTooLong (its.toArray.size * k.toNat) = true := by
    rw [notLongL hlen]
    exact Bool.false_ne_true
  have hnew : List.foldl (fun x1 x2 => x1 ++ x2) #[] (List.replicate (if its.toArray.isEmpty = true then 0 else k.toNat) its.toArray) = (List.replicate k.toNat its).flatten.toArray := by
    cases its with
    | nil => simp
    | cons a r' => rw [if_neg (by simp)]; exact size_rep (a :: r') k.toNat
  refine wpAny_binaryOp_repeat_ref (T := "list") (U := "int") (by decide) ⟨_, e, rfl⟩ (fun s' => typeIs_int s' k t) noFill_list_mul F.fills_int_mul F.slot_int_rmul repeat_list F.slot_int_index.lookup
    (call_meets F.slot_int_rmul (typeIs_int s k t) F.entry_int_rmul (F.args_int_rmul_2 _ _) (int_rmul_listG k t l its.toArray n d1 sl1) ⟨e, rfl, ⟨_, e, rfl⟩, ?_⟩)
  refine call_meets F.slot_list_mul ⟨_, e, rfl⟩ F.entry_list_mul (F.args_list_mul_2 _ _) (list_mulG l its.toArray n d1 sl1 k t hfit hcap hlong) ⟨e, ?_⟩
  rw [hnew]
  exact ⟨.ref _, _, I.lnew (t' := s.toks) (r.rep k.toNat) (by rw [PyProof.Rows.lm_len_rep_flat, sizeLine_eq]; omega), rfl, q _ I.fresh⟩

theorem tuple_mul_same (l : Addr) (items : Array Value) (n : Nat) (dd : Option Addr) (sl : Array (Option Value)) (x : Int) (u : Tok) (c0 : (decide (x < -(2 ^ 63)) || decide (x ≥ 2 ^ 63)) = false) (c1 : (items.isEmpty || x == 1) = true) :
    Meets (Builtin.«tuple.__mul__» ⟨[.ref l, .int x u], []⟩) (fun _ R s => s.heap.get? l = some { cls := .type "tuple", dict := dd, data := .seq items n, slots := sl } ∧ R (.ok (.ret (Value.ref l))) s) :=
  .of_wp fun prog w A R s h => by
    obtain ⟨hp, g, d, tk, os⟩ := s
    obtain ⟨hl, h⟩ := h
    have f1 := AutoSeq1.idx_int
    wp_walk using wpAny_loadPart' hl
    refine wpAny_ite_false (decide_eq_false (by rw [c0]; exact Bool.false_ne_true)) ?_
    wp_walk using wpAny_loadPart' hl
    exact ⟨_, rfl, h⟩
theorem tuple_mul_zero (l : Addr) (items : Array Value) (n : Nat) (dd : Option Addr) (sl : Array (Option Value)) (x : Int) (u : Tok) (c0 : (decide (x < -(2 ^ 63)) || decide (x ≥ 2 ^ 63)) = false) (c1 : (items.isEmpty || x == 1) = false)
    (c2 : (decide (x ≤ 0) || items.isEmpty) = true) :
    Meets (Builtin.«tuple.__mul__» ⟨[.ref l, .int x u], []⟩) (fun _ R s => s.heap.get? l = some { cls := .type "tuple", dict := dd, data := .seq items n, slots := sl } ∧
      R (.ok (.ret (Value.ref s.heap.objs.size))) { s with heap := s.heap.push { cls := Value.type "tuple", data := Data.seq #[] }, toks := s.toks }) :=
  .of_wp fun prog w A R s h => by
    obtain ⟨hp, g, d, tk, os⟩ := s
    obtain ⟨hl, h⟩ := h
    have f1 := AutoSeq1.idx_int
    wp_walk using wpAny_loadPart' hl
    repeat (first
      | (refine wpAny_ite_false (decide_eq_false (by rw [c0]; exact Bool.false_ne_true)) ?_; wp_walk using wpAny_loadPart' hl)
      | (refine wpAny_ite_false (decide_eq_false (by rw [c1]; exact Bool.false_ne_true)) ?_; wp_walk using wpAny_loadPart' hl))
    exact ⟨_, rfl, h⟩
/-- a tuple some times -/
def rRepA (K : PySem.W.Frag) : R2 := fun x y H Q => ∃ l k xs, x = .ref l ∧ y = .int k ∧ SqT K H l xs ∧ 0 ≤ k ∧ k ≤ 1000 ∧ xs.length ≤ 1000 ∧
  ((k = 1 ∨ xs = []) → Q (.ref l) H) ∧ (∀ p, H p = none → Q (.ref p) (upd H p (.tup (List.replicate k.toNat xs).flatten)))
theorem op_repA : OpR X (binaryOp .Mult) (rRepA X.K) := by
  intro pins s σ H x y v u Q I rx ry h
  obtain ⟨l, k, xs, rfl, rfl, hT, h1, h2, hz, q1, q2⟩ := h
  by_cases hb : xs ≠ [] ∧ 2 ≤ k
  · exact op_repT pins s σ H _ _ v u Q I rx ry ⟨l, k, xs, rfl, rfl, hT, hb.1, hb.2, h2, hz, q2⟩
  cases rx
  obtain ⟨t, rfl⟩ := ry
  obtain ⟨its, r, ⟨⟨cls, dd, data, sl⟩, ho, hc, n, hd⟩, hs⟩ := I.tuple hT
  simp only at hc hd
  subst hc hd
  have hle : its.length = xs.length := r.length.symm
  have he : its.toArray.isEmpty = true ↔ xs = [] := by
    cases its with
    | nil => exact ⟨fun _ => List.eq_nil_of_length_eq_zero hle.symm, fun _ => rfl⟩
    | cons a b =>
      refine ⟨fun z => by simp at z, fun z => ?_⟩
      subst z; simp at hle
  have c0 : (decide (k < -(2 ^ 63)) || decide (k ≥ 2 ^ 63)) = false := by
    rw [decide_eq_false (by omega), decide_eq_false (by omega)] <;> rfl
  by_cases h3 : k = 1 ∨ xs = []
  · have c1 : (its.toArray.isEmpty || k == 1) = true := by
      rcases h3 with h3 | h3
      · subst h3; simp
      · rw [he.mpr h3]; rfl
    refine wpAny_binaryOp_repeat_ref (T := "tuple") (U := "int") (by decide) ⟨_, ho, rfl⟩ (fun s' => typeIs_int s' k t) noFill_tuple_mul F.fills_int_mul F.slot_int_rmul repeat_tuple F.slot_int_index.lookup
      (call_meets F.slot_int_rmul (typeIs_int s k t) F.entry_int_rmul (F.args_int_rmul_2 _ _) (int_rmul_tuple k t l its.toArray n dd sl) ⟨ho, rfl, ⟨_, ho, rfl⟩, ?_⟩)
    refine call_meets F.slot_tuple_mul ⟨_, ho, rfl⟩ F.entry_tuple_mul (F.args_tuple_mul_2 _ _) (tuple_mul_same l its.toArray n dd sl k t c0 c1) ⟨ho, ?_⟩
    exact ⟨.ref l, H, I, rfl, q1 h3⟩
  · have hk : k = 0 := by
      by_cases z : 2 ≤ k
      · exact absurd ⟨fun e => h3 (.inr e), z⟩ hb
      · have : k ≠ 1 := fun e => h3 (.inl e)
        omega
    have hn : its.toArray.isEmpty = false := by
      cases z : its.toArray.isEmpty with
      | false => rfl
      | true => exact absurd (.inr (he.mp z)) h3
    have c1 : (its.toArray.isEmpty || k == 1) = false := by rw [hn, hk]; rfl
    have c2 : (decide (k ≤ 0) || its.toArray.isEmpty) = true := by rw [hk]; rfl
    refine wpAny_binaryOp_repeat_ref (T := "tuple") (U := "int") (by decide) ⟨_, ho, rfl⟩ (fun s' => typeIs_int s' k t) noFill_tuple_mul F.fills_int_mul F.slot_int_rmul repeat_tuple F.slot_int_index.lookup
      (call_meets F.slot_int_rmul (typeIs_int s k t) F.entry_int_rmul (F.args_int_rmul_2 _ _) (int_rmul_tuple k t l its.toArray n dd sl) ⟨ho, rfl, ⟨_, ho, rfl⟩, ?_⟩)
    refine call_meets F.slot_tuple_mul ⟨_, ho, rfl⟩ F.entry_tuple_mul (F.args_tuple_mul_2 _ _) (tuple_mul_zero l its.toArray n dd sl k t c0 c1 c2) ⟨ho, ?_⟩
    refine ⟨.ref s.heap.objs.size, _, I.laid (t' := s.toks) (o := .tup []) (fun b ob q => Heap.get?_push_of_some _ q) (Nat.le_refl _) ?_, rfl, ?_⟩
    · exact ⟨Nat.zero_le _, [], .nil, PyProof.Rows.IsTup.new _ _⟩
    · have := q2 _ (I.hok.fresh (Nat.le_refl _))
      rw [hk] at this
      exact this

/-! ### max with a default -/
theorem alike_ints (ns : List Int) : W.AlikeAll (ns.map PyData.int) := by
  refine ⟨fun x hx y hy => ?_, fun x hx => ?_⟩
  · obtain ⟨i, _, rfl⟩ := List.mem_map.mp hx
    obtain ⟨j, _, rfl⟩ := List.mem_map.mp hy
    rfl
  · obtain ⟨i, _, rfl⟩ := List.mem_map.mp hx
    intro z; cases z
theorem depth_ints : ∀ ns : List Int, PyData.depthAll (ns.map PyData.int) = 0
  | [] => rfl
  | n :: r => by
    rw [List.map_cons, PyData.depthAll, depth_ints r]; rfl
theorem reads_ints {h : Heap} : ∀ {us : List Value} {ns : List Int}, Vals (ns.map V.int) us → ∃ as, ReadsAll h us (ns.map PyData.int) as
  | _, [], r => by cases r; exact ⟨_, .nil⟩
  | _, n :: ns, r => by
    cases r with
    | cons a b =>
      obtain ⟨t, rfl⟩ := a
      obtain ⟨as, q⟩ := reads_ints (h := h) b
      exact ⟨_, .cons (.int n t) q⟩
def maxOf : List Int → V
  | [] => .non
  | n :: r => .int (r.foldl max n)
def rMaxN (K : PySem.W.Frag) : List V → Hp → VK → Prop := fun vs H Q => ∃ l ns, vs = [V.ref l] ∧ SqL K H l (ns.map V.int) ∧ Q (maxOf ns) H
theorem pe_maxN {a : Expr} {ta : TE} {p pos q kp : Pos} {j : Nat} (hc : X.calm = true) (hu : X.A.units + 64 < cLine) (hg : Gl X "max") (hm : X.mg "max" = none) (hp : plainE a = true) (ha : PE X a ta) :
    PE X (.Call (.Name "max" p) [a] [⟨some "default", .Constant .none j q, kp⟩] pos) (tCB (rMaxN X.K) (tCons ta tNil)) := by
  refine ⟨fun pins s σ H Q I h => ?_⟩
  refine wpAny_Call_Name_kw (ld_blt I hg hm PyProof.Rows.Boot.«max» ?_)
  have e1 : starEach [a] X.env = (false, eval a X.env) :: starEach [] X.env := star_plain hp
  refine PyProof.Rows.callWith_kw ?_ (by rw [e1]; rfl) (by rw [e1]; rfl) (by rfl) (by rfl)
  refine thn ((pa_cons ha pa_nil e1).run pos pins s σ H _ I h) fun us s1 ⟨vs, H1, I1, r1, l, ns, e, hs, q1⟩ => ?_
  subst e
  refine PyProof.Rows.kws_cons (PyProof.Rows.Constant_none (PyProof.Rows.kws_nil ?_))
  cases r1 with
  | cons r rr =>
    cases rr
    cases r
    obtain ⟨its, rv, hl, _⟩ := I1.list hs
    obtain ⟨as, hr⟩ := reads_ints (h := s1.heap) rv
    show wpAny _ _ (call (.builtin "max") [.ref l] [(Str.ofString "default", .none)]) _ _ _
    refine W.max_list_default (I.ok.hd hc) hl.isList (by simpa using hr) (alike_ints ns) (by rw [depth_ints]; omega) (fun z h' tk hk => ?_) fun y ys i v h' tk bs e1 _ rd hk => ?_
    · have z : ns = [] := by simpa using z
      subst z
      exact ⟨.non, H1, I1.kept hk, rfl, q1⟩
    · cases ns with
      | nil => cases e1
      | cons n r =>
        rw [List.map_cons] at e1
        obtain ⟨rfl, rfl⟩ := List.cons.inj e1
        rw [W.maxD_ints] at rd
        cases rd
        exact ⟨.int _, H1, I1.kept hk, ⟨_, rfl⟩, q1⟩
/-- repr, where nothing is being shown -/
def rRepr (K : PySem.W.Frag) : List V → Hp → VK → Prop := fun vs H Q => ∃ v d, vs = [v] ∧ Dp K H v d ∧ flatD 60 d = true ∧ wt d < 16777216 ∧ Q (.str d.shown) H
theorem cr_repr (hn : X.base.NoDigits) (hg : X.A.guards = some []) (hu : X.A.units + 64 < cLine) : CallR X (.builtin "repr") (rRepr X.K) := by
  intro pins s σ H vs us Q I r h
  obtain ⟨v, d, rfl, hd, hf, hw, q⟩ := h
  cases r with
  | cons r rr =>
    cases rr
    obtain ⟨as, rd⟩ := Dp.reads I d v _ hd r
    have h1 := flatD_depth _ _ hf
    exact repr_data (hn.keeps I.bk) rd hw (flatD_plain _ _ hf) hg (by omega) fun h' u tk hk => ⟨.str _, H, I.kept hk, ⟨_, rfl⟩, q⟩
end

/-! ### defs, called where nothing is being shown -/
/-- FnOk with that premise -/
structure FnG (P : Program) (w : World) (K : PySem.W.Frag) (mg : Str → Option Value) (base : Heap) (CX : CXT) (k : Nat) (f : Addr) (fd : FuncData) (ps : List Str) (sp : Sp) : Prop where
  len : ∀ vs H Q E, sp vs H Q E → vs.length = ps.length
  run : ∀ (A : Around) (outer : List PySem.Env) (s : Shared) (H : Hp) (args : Args) (us : List Value) (vs : List V) (Q : VK) (E : XK), A.guards = some [] → Room k A → Env0 P w K mg base A outer s H →
    BindsTo s fd args (ps.zip us) → Vals vs us → sp vs H Q E → codeAny (model P w) A (.call (.ref f) args) (L2.CR CX outer P w H s Q E) s
section
variable {X : Cx} {CX : CXT} {k : Nat} {f : Addr} {fd : FuncData} {ps : List Str} {sp : Sp} {E : XK}
theorem run_g {pins : List (Addr × Obj)} {σ : L2.St} {H : Hp} {s : Shared} {Q : VK} {us bs : List Value} {vs : List V} {kw : List (Str × Value)} (F : FnG X.prog X.w X.K X.mg X.base CX k f fd ps sp) (hg : X.A.guards = some []) (hr : Room k X.A)
    (hb : BindsTo s fd ⟨us, kw⟩ (ps.zip bs)) (hx : Passes CX X E) (I : Inv X pins σ H s) (r : Vals vs bs) (h : sp vs H Q E) : wpAny (model X.prog X.w) X.A (call (.ref f) us kw) (EP X pins σ Q) X.xe s := by
  refine wpAny_call (codeAny_mono (F.run X.A X.stack s H ⟨us, kw⟩ bs vs Q E hg hr I.env0 hb r h) fun r s' hq => ?_)
  cases r with
  | error e => exact hx pins σ H s e s' I hq
  | ok fl =>
    cases fl with
    | ret u => exact I.after hq
    | next => exact hq.elim
    | brk => exact hq.elim
    | cont => exact hq.elim
end

/-- a def by its body, entered where nothing is being shown -/
theorem fn_g {CX : CXT} {P : Program} {w : World} {K : PySem.W.Frag} {mg : Str → Option Value} {base : Heap} {k : Nat} {f : Addr} {name qual : Str} {params : Arguments} {body : List Stmt} {scope : Scope} {dV kV doc pm cdv ct oc : Value}
    {an od : Option Addr} {osl : Array (Option Value)} {N ps : List Str} {sp : Sp}
    (lk : K.lookup f = some ⟨oc, od, .func (PySem.W.fnOf name qual params body scope dV kV doc pm an cdv ct), osl⟩)
    (hcd : PySem.W.codeIn K cdv qual = true) (S : FnScope N ps scope) (len : ∀ vs H Q E, sp vs H Q E → vs.length = ps.length)
    (hbody : ∀ (A : Around) (outer : List PySem.Env) (s : Shared) (H : Hp) (vs : List V) (Q : VK) (E : XK), A.guards = some [] → Room k (A.deeper (envOfC qual scope s.heap.objs.size f cdv)) → (A.deeper (envOfC qual scope s.heap.objs.size f cdv)).units + 16 * k + 210 < cLine → sp vs H Q E →
      ∃ t, PSs (cxOf CX P w K mg base N qual scope f cdv A outer s H E) body t ∧ t { nx := fun _ H' => Q .non H', rt := Q } (start N vs) H) :
    FnG P w K mg base CX (k + 1) f (PySem.W.fnOf name qual params body scope dV kV doc pm an cdv ct) ps sp := by
  refine ⟨len, fun A outer s H args us vs Q E hgu hr e0 hb r hsp => ?_⟩
  have hl := len _ _ _ _ hsp
  have keep : ∀ b o, base.get? b = some o → s.heap.get? b = some o := fun b o e => (e0.bs b o e).1
  have KX : K.In s.heap := e0.mod.kin.keeps keep
  have lim : s.heap.NoLimit := e0.mod.nolimit.keeps keep
  have hkind : ∀ y ∈ ps.zip us, scope.names.lookup y.1 = some .local ∨ (scope.names.lookup y.1 = some .cell ∧ ((cellsFrom (s.heap.objs.size + 1) scope.names []).lookup y.1).isSome = true) := fun ⟨n, v⟩ hy =>
    (S.par n (List.of_mem_zip hy).1).elim .inl fun q => .inr ⟨q, PySem.W.cellsFrom_some _ _ _ (.inl q)⟩
  refine codeAny_call_function hr.depth (KX _ _ lk) rfl S.co S.gen rfl (PySem.W.codeRec_of KX hcd) (hb _ _ _ _ ?_)
  refine wpAny_newFunctionEnv_cells S.kind hkind fun env he s1 x => ?_
  subst he
  refine ⟨lim.keeps x.toInCall.keep, codeAny_func ?_⟩
  obtain ⟨t, ht, hq⟩ := hbody A outer s H vs Q E hgu (hr.deeper _) (by have := hr.un; show A.units + 3 + 16 * k + 210 < cLine; omega) hsp
  have I := inv_start (CX := CX) (E := E) S hr.hd e0 hl r x
  refine wpAny_mono (ht.run [] s1 (start N vs) H _ I hq) (fun fl s' hs => ?_) fun _ _ z => z
  cases fl with
  | ret u =>
    obtain ⟨v, σ', H', J, rv, q⟩ := hs
    exact ⟨v, H', J.os, J.bare, J.base, J.hok, rv, q⟩
  | next =>
    obtain ⟨σ', H', J, q⟩ := hs
    exact ⟨.non, H', J.os, J.bare, J.base, J.hok, rfl, q⟩
  | brk => exact hs.choose_spec.choose_spec.2.elim
  | cont => exact hs.choose_spec.choose_spec.2.elim

/-! ### how arguments bind -/
/-- a written def without defaults: its parameters by name -/
def plainArgs (a : Arguments) : Option (List Str) := match a with
  | ⟨[], as, none, [], [], none, []⟩ => some (as.map (·.arg))
  | _ => none
end RS

namespace RS
open PySem
open PySem.Spec
open L2
theorem lookup_zip_some {ps : List Str} {us : List Value} {n : Str} (h : ps.length = us.length) (m : n ∈ ps) : ((ps.zip us).lookup n).isSome = true := by
  induction ps generalizing us with
  | nil => cases m
  | cons p ps ih =>
    cases us with
    | nil => cases h
    | cons u us =>
      rw [List.zip_cons_cons, List.lookup_cons]
      cases e : n == p with
      | true => rfl
      | false =>
        refine ih (by simpa using h) ?_
        rcases List.mem_cons.mp m with rfl | m
        · simp at e
        · exact m
theorem lookup_app {κ : Type} [BEq κ] {β : Type} (l m : List (κ × β)) (k : κ) : (l ++ m).lookup k = (l.lookup k).or (m.lookup k) := by
  induction l with
  | nil => simp
  | cons p r ih =>
    obtain ⟨a, b⟩ := p
    rw [List.cons_append, List.lookup_cons, List.lookup_cons]
    cases k == a with
    | true => simp
    | false => exact ih
theorem forIn_kw {normal : List Str} {β : Type} (f : Str × Value → (List (Str × Value) × β) → Sem (ForInStep (List (Str × Value) × β)))
    (hf : ∀ x s, normal.contains x.1 = true → (s.1.lookup x.1).isSome = false → f x s = pure (.yield (s.1 ++ [(x.1, x.2)], s.2))) :
    ∀ (kv : List (Str × Value)) (s : List (Str × Value) × β), (∀ x ∈ kv, normal.contains x.1 = true) → (kv.map (·.1)).Nodup → (∀ x ∈ kv, (s.1.lookup x.1).isSome = false) → forIn kv s f = pure (s.1 ++ kv, s.2)
  | [], s, _, _, _ => by rw [List.forIn_nil, List.append_nil]
  | x :: r, s, h1, h2, h3 => by
    rw [List.forIn_cons, hf x s (h1 x List.mem_cons_self) (h3 x List.mem_cons_self), pure_bind]
    rw [List.map_cons, List.nodup_cons] at h2
    show forIn r (s.1 ++ [(x.1, x.2)], s.2) f = _
    rw [forIn_kw f hf r _ (fun y m => h1 y (List.mem_cons_of_mem _ m)) h2.2 fun y m => ?_]
    · simp
    · show ((s.1 ++ [(x.1, x.2)]).lookup y.1).isSome = false
      rw [lookup_app]
      have e1 := h3 y (List.mem_cons_of_mem _ m)
      have e2 : (y.1 == x.1) = false := by
        refine beq_eq_false_iff_ne.mpr fun e => h2.1 ?_
        rw [← e]
        exact List.mem_map.mpr ⟨y, m, rfl⟩
      rw [List.lookup_cons, e2]
      simp only [List.lookup_nil, Option.or_none]
      exact e1
/-- a call's slots: the positional ones, then the keywords -/
def slotsK {β : Type} (ps : List Str) (us : List β) (ks : List Str) (ws : List β) : List (Str × β) := ps.zip us ++ ks.zip ws
def argsK {β : Type} (ps : List Str) (us : List β) (ks : List Str) (ws : List β) : List (Option β) := ps.map fun n => (slotsK ps us ks ws).lookup n
theorem binds_kw {fd : FuncData} {ps : List Str} (hp : plainArgs fd.params = some ps) (hd : fd.defaults = .none) (us : List Value) (kv : List (Str × Value)) (hl : us.length ≤ ps.length)
    (h1 : ∀ x ∈ kv, ps.contains x.1 = true) (h2 : (kv.map (·.1)).Nodup) (h3 : ∀ x ∈ kv, ((ps.zip us).lookup x.1).isSome = false) (h4 : ∀ n ∈ ps, ((ps.zip us ++ kv).lookup n).isSome = true) :
    bindArgs fd ⟨us, kv⟩ = pure (ps.filterMap fun n => ((ps.zip us ++ kv).lookup n).map (n, ·)) := by
  obtain ⟨⟨po, as, va, ko, kd, kw, ds⟩, hpar⟩ : ∃ p, fd.params = p := ⟨_, rfl⟩
  rw [hpar] at hp
  unfold plainArgs at hp
  split at hp
  · rename_i e
    cases e
    cases hp
    unfold bindArgs
    rw [hpar, hd]
    simp only [List.map_nil, List.nil_append, List.append_nil, List.forIn_nil, seqItems?, notAStandIn, pure_bind, bind_pure_comp]
    rw [forIn_kw (normal := as.map (·.arg)) _ (fun x s a b => ?_) kv _ h1 h2 h3]
    · have e1 : ¬ us.length > (as.map (·.arg)).length := by omega
      have e2 : ((as.map (·.arg)).filter fun n => (((as.map (·.arg)).zip us ++ kv).lookup n).isNone) = [] := by
        rw [List.filter_eq_nil_iff]
        intro n m z
        have := h4 n m
        rw [Option.isNone_iff_eq_none] at z
        rw [z] at this; cases this
      simp only [pure_bind, map_pure, Option.getD_none, List.length_nil, List.drop_nil, Nat.sub_zero, List.take_length, e2, decide_eq_false e1, Bool.false_and, Bool.false_eq_true, if_false, List.isEmpty_nil, Bool.not_true, List.zip_nil_right, List.forIn_nil]
    · simp only [a, b, Bool.true_or, if_true, Bool.false_eq_true, if_false]
  · cases hp
theorem bind_all {β : Type} {l : List (Str × β)} : ∀ {ps : List Str} {bs : List β}, ps.map (fun n => l.lookup n) = bs.map some → (ps.filterMap fun n => (l.lookup n).map (n, ·)) = ps.zip bs
  | [], [], _ => rfl
  | [], _ :: _, h => by cases h
  | _ :: _, [], h => by cases h
  | p :: ps, b :: bs, h => by
    rw [List.map_cons, List.map_cons] at h
    obtain ⟨e1, e2⟩ := List.cons.inj h
    rw [List.filterMap_cons, e1, List.zip_cons_cons, ← bind_all e2]
    rfl
theorem lookup_at {β : Type} : ∀ {keys : List Str} {vals : List β} {i : Nat} {p : Str}, keys.Nodup → keys[i]? = some p → vals.length = keys.length → (keys.zip vals).lookup p = vals[i]?
  | [], _, _, _, _, h, _ => by simp at h
  | _ :: _, [], _, _, _, _, h => by simp at h
  | k :: ks, v :: vs, 0, p, _, h, _ => by
    have e : k = p := by simpa using h
    rw [List.zip_cons_cons, List.lookup_cons, e]; simp
  | k :: ks, v :: vs, i + 1, p, nd, h, hl => by
    rw [List.nodup_cons] at nd
    have h : ks[i]? = some p := by simpa using h
    have e : (p == k) = false := beq_eq_false_iff_ne.mpr fun e => nd.1 (e ▸ List.mem_of_getElem? h)
    rw [List.zip_cons_cons, List.lookup_cons, e]
    simpa using lookup_at nd.2 h (by simpa using hl)
theorem zip_take {β : Type} : ∀ (ps : List Str) (us : List β), ps.zip us = (ps.take us.length).zip us
  | [], us => by simp
  | p :: ps, [] => by simp
  | p :: ps, u :: us => by
    rw [List.zip_cons_cons, List.length_cons, List.take_succ_cons, List.zip_cons_cons, ← zip_take ps us]
theorem slots_zip {β : Type} {ps ks : List Str} {us ws : List β} (h1 : us.length ≤ ps.length) : slotsK ps us ks ws = (ps.take us.length ++ ks).zip (us ++ ws) := by
  unfold slotsK
  rw [zip_take, List.zip_append (by rw [List.length_take]; omega)]
theorem args_perm {β : Type} {ps ks : List Str} {us ws : List β} {perm : List Nat} (h : kOk ps us.length ks perm = true) (hw : ws.length = ks.length) : argsK ps us ks ws = perm.map fun i => (us ++ ws)[i]? := by
  unfold kOk at h
  simp only [Bool.and_eq_true, decide_eq_true_eq] at h
  obtain ⟨⟨⟨h1, h2⟩, h3⟩, h4⟩ := h
  unfold argsK
  rw [slots_zip h1]
  have hl : (us ++ ws).length = (ps.take us.length ++ ks).length := by rw [List.length_append, List.length_append, List.length_take, hw]; omega
  have key : ∀ (perm : List Nat) (qs : List Str), perm.map (fun i => (ps.take us.length ++ ks)[i]?) = qs.map some → qs.map (fun n => ((ps.take us.length ++ ks).zip (us ++ ws)).lookup n) = perm.map fun i => (us ++ ws)[i]? := by
    intro perm
    induction perm with
    | nil => intro qs e; cases qs with
      | nil => rfl
      | cons => cases e
    | cons i r ih =>
      intro qs e
      cases qs with
      | nil => cases e
      | cons q qs =>
        rw [List.map_cons, List.map_cons] at e
        obtain ⟨e1, e2⟩ := List.cons.inj e
        rw [List.map_cons, List.map_cons, ih qs e2, lookup_at h3 e1 hl]
  exact key perm ps h4
/-- a call's arguments reach their parameters -/
theorem binds_g {s : Shared} {fd : FuncData} {ps ks : List Str} {us ws bs : List Value} {perm : List Nat} (hp : plainArgs fd.params = some ps) (hd : fd.defaults = .none) (h : kOk ps us.length ks perm = true) (hw : ws.length = ks.length)
    (hb : perm.map (fun i => (us ++ ws)[i]?) = bs.map some) : BindsTo s fd ⟨us, ks.zip ws⟩ (ps.zip bs) := by
  have e := args_perm h hw
  rw [hb] at e
  unfold kOk at h
  simp only [Bool.and_eq_true, decide_eq_true_eq] at h
  obtain ⟨⟨⟨h1, h2⟩, h3⟩, h4⟩ := h
  have q1 : ∀ x ∈ ks.zip ws, ps.contains x.1 = true := fun ⟨k, v⟩ m => List.all_eq_true.mp h2 _ (List.of_mem_zip m).1
  have q2 : ((ks.zip ws).map (·.1)).Nodup := by
    have z : ((ks.zip ws).map (·.1)) = ks := by
      have := List.map_fst_zip (l₁ := ks) (l₂ := ws) (by omega)
      simpa using this
    rw [z]; exact (List.nodup_append.mp h3).2.1
  have q3 : ∀ x ∈ ks.zip ws, ((ps.zip us).lookup x.1).isSome = false := fun ⟨k, v⟩ m => by
    have z : k ∉ ps.take us.length := fun q => (List.nodup_append.mp h3).2.2 _ q _ (List.of_mem_zip m).1 rfl
    rw [zip_take]
    cases q : ((ps.take us.length).zip us).lookup k with
    | none => rfl
    | some v => exact absurd (List.of_mem_zip (PySem.mem_of_lookup q)).1 z
  have q4 : ∀ n ∈ ps, ((ps.zip us ++ ks.zip ws).lookup n).isSome = true := fun n m => by
    have m2 : (slotsK ps us ks ws).lookup n ∈ argsK ps us ks ws := List.mem_map.mpr ⟨n, m, rfl⟩
    rw [e] at m2
    obtain ⟨b, _, e⟩ := List.mem_map.mp m2
    show ((slotsK ps us ks ws).lookup n).isSome = true
    rw [← e]; rfl
  have b := binds_kw hp hd us (ks.zip ws) h1 q1 q2 q3 q4
  rw [bind_all (l := ps.zip us ++ ks.zip ws) (show ps.map (fun n => (ps.zip us ++ ks.zip ws).lookup n) = bs.map some from e)] at b
  exact .of_eq b
theorem range_some {β : Type} : ∀ (us : List β), (List.range us.length).map (fun i => (us ++ [])[i]?) = us.map some := fun us => by
  refine List.ext_getElem? fun i => ?_
  rw [List.getElem?_map, List.getElem?_map, List.append_nil]
  by_cases h : i < us.length
  · rw [List.getElem?_range h, List.getElem?_eq_getElem h]; simp [h]
  · rw [List.getElem?_eq_none (by simpa using h), List.getElem?_eq_none (by simpa using h)]; rfl
end RS

/-! RS7: expressions: what the evaluator computes, the model does. -/
namespace RS
open PySem
open PySem.Spec
open L2
open PyProof.Rows (envOfC)

def scalV : PyData → Option V
  | .none => some .non
  | .bool b => some (.bl b)
  | .int i => some (.int i)
  | .str x => some (.str x)
  | _ => none
theorem scalV_rp {K : PySem.W.Frag} {H : Hp} {d : PyData} {v : V} (h : scalV d = some v) : Rp K H v d := by
  cases d with
  | none => cases h; exact .non
  | bool b => cases h; exact .bl b
  | int i => cases h; exact .int i
  | str x => cases h; exact .str x
  | list _ => cases h
  | tuple _ => cases h
  | dict _ => cases h
/-- a def's promise: what the evaluator gives for it -/
def spF (XR : Ex → Value → Option Addr → Hp → Prop) (K : PySem.W.Frag) (φ : Nat → List Va → Sto → Res Va) (f ar : Nat) : Sp := fun vs H Q E => vs.length = ar ∧
  ∃ loc st args, SR K H loc st ∧ VIs K H loc vs args ∧ Post XR K (VE K) E loc H (φ f args st) Q
def EF : XK := fun _ _ _ => False

theorem cx_EF {P : Program} {w : World} {outer : List PySem.Env} {H : Hp} {s : Shared} {e : Value} {s' : Shared} (h : L2.CX P w outer H s EF e s') : False := by
  obtain ⟨_, _, _, _, _, _, _, _, _, _, _, _, h⟩ := h
  exact h
/-- where a body of the text runs -/
structure Cg (XR : Ex → Value → Option Addr → Hp → Prop) (fs : List FnT) (gl : List (Str × PyData)) (φ : Nat → List Va → Sto → Res Va) (n : Nat) (E : XK) (bs : Option Scope) (X : Cx) : Prop where
  calm : X.calm = true
  nd : X.N.Nodup
  fn : ∀ x, X.fn x = fnB bs x
  room : Room n X.A
  room2 : X.A.units + 16 * n + 210 < cLine
  gu : X.A.guards = some []
  dg : X.base.NoDigits
  fns : ∀ f F, fs[f]? = some F → ∃ CX a fd, X.mg F.name = some (.ref a) ∧ PySem.W.keepIn X.K (.ref a) = true ∧ FnG X.prog X.w X.K X.mg X.base CX n a fd F.params (spF XR X.K φ f F.params.length) ∧
    plainArgs fd.params = some F.params ∧ fd.defaults = .none ∧ Passes CX X E ∧ CX = L2.CX X.prog X.w
  bi : ∀ b : Bi, X.mg b.name = none
  rng : X.mg "range" = none
  zip : X.mg "zip" = none
  gls : ∀ x d v, gl.lookup x = some d → scalV d = some v → ∃ u, X.mg x = some u ∧ RelV v u
theorem Cg.blk {XR : Ex → Value → Option Addr → Hp → Prop} {fs : List FnT} {gl : List (Str × PyData)} {φ : Nat → List Va → Sto → Res Va} {n : Nat} {E : XK} {bs : Option Scope} {X : Cx} (c : Cg XR fs gl φ n E bs X)
    (s : Shared) (H : Hp) (scope : Scope) (cenv : PySem.Env) (fp : List Addr) : Cg XR fs gl φ n EF (some scope) (X.blk s H scope cenv fp) where
  calm := c.calm
  nd := c.nd
  fn := fun _ => rfl
  room := c.room
  room2 := c.room2
  gu := c.gu
  dg := c.dg
  fns := fun f F e => by
    obtain ⟨CX, a, fd, h1, h2, h3, h4, h5, h6, h7⟩ := c.fns f F e
    subst h7
    exact ⟨_, a, fd, h1, h2, h3, h4, h5, fun _ _ _ _ _ _ _ z => (cx_EF z).elim, rfl⟩
  bi := c.bi
  rng := c.rng
  zip := c.zip
  gls := c.gls

section
variable {XR : Ex → Value → Option Addr → Hp → Prop} {fs : List FnT} {gl : List (Str × PyData)} {φ : Nat → List Va → Sto → Res Va} {n : Nat} {E : XK} {bs : Option Scope} {X : Cx}
theorem glB_inv {sc : Scope} {x : Str} (h : glB sc x = true) : sc.names.lookup x = some .globalImplicit ∧ (x == ("__debug__" : Str)) = false := by
  unfold glB at h
  simpa using h
theorem VE.of {K : PySem.W.Frag} {H H' : Hp} {loc : Loc} {v : V} {a : Va} (h : VI K H' loc v a) : VE K H H' loc v a := ⟨h.vr, fun xs e => by subst e; exact h.elim⟩
theorem VE.dat {K : PySem.W.Frag} {H H' : Hp} {loc : Loc} {v : V} {d : PyData} (h : Rp K H' v d) : VE K H H' loc v (.dat d) := ⟨h, fun xs e => by cases e⟩

/-! ### names, constants -/
theorem e_var {i : Nat} {x : Str} {p : Pos} (hN : X.N[i]? = some x) (hv : Vis X.env.scope x) (hd : (x == ("__debug__" : Str)) = false) (hcd : (x == ("__classdict__" : Str)) = false) : PE X (.Name x p) (tE XR X.K φ E (.var i)) := by
  refine pe_imp (pe_var hN hv hd hcd) fun σ H Q ⟨loc, ρ, st, sr, er, post⟩ => ?_
  rw [evE] at post
  cases e : ρ[i]? with
  | none => rw [e] at post; exact post.elim
  | some o =>
    cases o with
    | none => rw [e] at post; exact post.elim
    | some a =>
      rw [e] at post
      obtain ⟨v, e1, r⟩ := er.get i a e
      exact ⟨v, e1, Post.here (a := a) post sr (VE.of r)⟩
theorem e_lit {d : PyData} {c : Const} {j : Nat} {p : Pos} (h : litB d c = true) : PE X (.Constant c j p) (tE XR X.K φ E (.lit d)) := by
  have go : ∀ (v : V), scalV d = some v → PE X (.Constant c j p) (tC v) → PE X (.Constant c j p) (tE XR X.K φ E (.lit d)) := fun v e q => by
    refine pe_imp q fun σ H Q ⟨loc, ρ, st, sr, er, post⟩ => ?_
    rw [evE] at post
    exact Post.here (a := Va.dat d) post sr (VE.dat (scalV_rp e))
  cases d with
  | none => cases c <;> first | exact go .non rfl pe_non | cases h
  | bool b =>
    cases c <;> first | cases h | skip
    rename_i b'
    obtain rfl : b = b' := of_decide_eq_true h
    exact go (.bl b) rfl pe_bl
  | int i =>
    cases c <;> first | cases h | skip
    rename_i b'
    obtain rfl : i = b' := of_decide_eq_true h
    exact go (.int i) rfl pe_int
  | str i =>
    cases c <;> first | cases h | skip
    rename_i b'
    obtain rfl : i = b' := of_decide_eq_true h
    exact go (.str i) rfl pe_str
  | list _ => cases h
  | tuple _ => cases h
  | dict _ => cases h
theorem sameB_eq {d e : PyData} (h : sameB d e = true) : d = e := by
  cases d <;> cases e <;> first | rfl | cases h | skip
  all_goals (rename_i a b; obtain rfl : a = b := of_decide_eq_true h; rfl)
theorem sameB_scal {d e : PyData} (h : sameB d e = true) : ∃ v, scalV d = some v := by
  cases d <;> first | exact ⟨_, rfl⟩ | (cases e <;> cases h)
theorem e_glob (c : Cg XR fs gl φ n E bs X) {x : Str} {d : PyData} {p : Pos} (hg : glB X.env.scope x = true) (h : (gl.lookup x).any (sameB d) = true) : PE X (.Name x p) (tE XR X.K φ E (.glob x d)) := by
  obtain ⟨g1, g2⟩ := glB_inv hg
  cases e : gl.lookup x with
  | none => rw [e] at h; cases h
  | some d' =>
    rw [e] at h
    obtain ⟨v, s⟩ := sameB_scal (show sameB d d' = true from h)
    obtain rfl := sameB_eq (show sameB d d' = true from h)
    obtain ⟨u, m, r⟩ := c.gls x d v e s
    refine pe_imp (pe_glob g1 m r g2) fun σ H Q ⟨loc, ρ, st, sr, er, post⟩ => ?_
    rw [evE] at post
    exact Post.here (a := Va.dat d) post sr (VE.dat (scalV_rp s))

/-! ### operators -/
/-- two expressions, then what both give -/
theorem two {ta tb : T} {l r : Expr} {σ : L2.St} {H : Hp} {Q : VK} {k : Va → Va → Sto → Res Va} {R : R2} {loc : Loc} {ρ : RS.Env} {st : Sto} (sr : SR X.K H loc st) (er : ER X.K H loc ρ σ)
    (post : Post XR X.K (VE X.K) E loc H ((evE φ ta ρ st).bind fun x st1 => (evE φ tb ρ st1).bind fun y st2 => k x y st2) Q)
    (h : ∀ loc2 H2 x y xa ya st2, SR X.K H2 loc2 st2 → VR X.K H2 loc2 x xa → VR X.K H2 loc2 y ya → Post XR X.K (VE X.K) E loc2 H2 (k xa ya st2) Q → R x y H2 Q) :
    tOp R (tE XR X.K φ E ta) (tE XR X.K φ E tb) σ H Q := by
  refine ⟨loc, ρ, st, sr, er, Post.imp (Post.bind (Rl := VE X.K) old_VE post) fun x H1 ⟨loc1, xa, st1, _, x1, s1, r1, p1⟩ => ?_⟩
  refine ⟨loc1, ρ, st1, s1, er.mono x1, Post.imp (Post.bind (Rl := VE X.K) old_VE p1) fun y H2 ⟨loc2, ya, st2, _, x2, s2, r2, p2⟩ => ?_⟩
  exact h loc2 H2 x y xa ya st2 s2 (r1.1.mono x2) r2.1 p2
theorem big_eq {i : Int} (h : -big < i ∧ i < big) : -(2 ^ 64) < i ∧ i < 2 ^ 64 := by
  unfold big at h; omega
def rArith (o : BinO) : R2 := fun x y H Q => ∃ i j k, x = .int i ∧ y = .int j ∧ arith o i j = some k ∧ Q (.int k) H
theorem op_arith {o : BinO} {op : Operator} (h : binB o op = true) : OpR X (binaryOp op) (rArith o) := by
  intro pins s σ H x y v u Q I rx ry ⟨i, j, k, e1, e2, e3, q⟩
  cases o <;> cases op <;> first | cases h | skip
  · cases e3; exact op_add pins s σ H x y v u Q I rx ry ⟨i, j, e1, e2, q⟩
  · cases e3; exact op_sub pins s σ H x y v u Q I rx ry ⟨i, j, e1, e2, q⟩
  · have e3 : (if (-big < i ∧ i < big) ∨ (-big < j ∧ j < big) then some (i * j) else none) = some k := e3
    split at e3
    · rename_i c
      cases e3
      exact op_mul pins s σ H x y v u Q I rx ry ⟨i, j, e1, e2, c.imp big_eq big_eq, q⟩
    · cases e3
  · have e3 : (if j ≠ 0 ∧ j.natAbs < 1073741824 then some (i.fdiv j) else none) = some k := e3
    split at e3
    · rename_i c
      cases e3
      exact op_fdivN pins s σ H x y v u Q I rx ry ⟨i, j, e1, e2, c, q⟩
    · cases e3
  · have e3 : (if j ≠ 0 then some (i.fmod j) else none) = some k := e3
    split at e3
    · rename_i c
      cases e3
      exact op_modN pins s σ H x y v u Q I rx ry ⟨i, j, e1, e2, c, q⟩
    · cases e3
  · have e3 : (if 0 ≤ j ∧ ((j ≤ 1000000 ∧ i.natAbs < 18446744073709551616) ∨ (j ≤ 1000 ∧ i.natAbs.log2 < 60000)) then some (i ^ j.toNat) else none) = some k := e3
    split at e3
    · rename_i c
      cases e3
      rcases c.2 with c2 | c2
      · exact op_pow pins s σ H x y v u Q I rx ry ⟨i, j, e1, e2, ⟨c.1, c2.1, by have := c2.2; omega⟩, q⟩
      · subst e1 e2
        obtain ⟨t, rfl⟩ := rx
        obtain ⟨t', rfl⟩ := ry
        refine PyProof.Rows.pow_int c.1 ?_ ⟨.int _, H, I.tok _, ⟨_, rfl⟩, q⟩
        have hb : Builtin.Int.intBits i ≤ 60000 := by
          unfold Builtin.Int.intBits
          split
          · exact Nat.zero_le _
          · exact c2.2
        have h0 := c.1
        have h1 : (Builtin.Int.intBits i : Int) * j ≤ 60000 * j := Int.mul_le_mul_of_nonneg_right (by omega) h0
        have h2 := c2.1
        omega
    · cases e3
def rSeq (K : PySem.W.Frag) : BinO → R2
  | .add => fun x y H Q => rCatR K x y H Q ∨ rCatA K x y H Q
  | .mul => fun x y H Q => rRepR K x y H Q ∨ rRepA K x y H Q
  | _ => fun _ _ _ _ => False
theorem op_seq {o : BinO} {op : Operator} (h : binB o op = true) : OpR X (binaryOp op) (rSeq X.K o) := by
  cases o <;> cases op <;> first | cases h | skip
  · exact OpR.or op_catR op_catA
  · exact fun _ _ _ _ _ _ _ _ _ _ _ _ z => z.elim
  · exact OpR.or op_repR op_repA
  · exact fun _ _ _ _ _ _ _ _ _ _ _ _ z => z.elim
  · exact fun _ _ _ _ _ _ _ _ _ _ _ _ z => z.elim
  · exact fun _ _ _ _ _ _ _ _ _ _ _ _ z => z.elim
theorem view_two {xa ya : Va} {st : Sto} {loc : Loc} {H : Hp} {Q : VK} {f : PyData → PyData → Option Va} (h : Post XR X.K (VE X.K) E loc H (match view st xa, view st ya with
      | some d, some e => Res.of (f d e) st
      | _, _ => .stuck) Q) : ∃ d e a, view st xa = some d ∧ view st ya = some e ∧ f d e = some a ∧ Post XR X.K (VE X.K) E loc H (.ok a st) Q := by
  cases e1 : view st xa with
  | none => rw [e1] at h; exact h.elim
  | some d =>
    cases e2 : view st ya with
    | none => rw [e1, e2] at h; exact h.elim
    | some e =>
      rw [e1, e2] at h
      cases e3 : f d e with
      | none => simp only [e3] at h; exact h.elim
      | some a => simp only [e3] at h; exact ⟨d, e, a, rfl, rfl, e3, h⟩
theorem RpA.app {K : PySem.W.Frag} {H : Hp} : ∀ {vs ws : List V} {ds es : List PyData}, RpA K H vs ds → RpA K H ws es → RpA K H (vs ++ ws) (ds ++ es)
  | _, _, _, _, .nil, b => b
  | _, _, _, _, .cons a r, b => .cons a (RpA.app r b)
theorem RpA.rep {K : PySem.W.Frag} {H : Hp} {vs : List V} {ds : List PyData} (h : RpA K H vs ds) : ∀ n, RpA K H (List.replicate n vs).flatten (List.replicate n ds).flatten
  | 0 => .nil
  | n + 1 => by rw [List.replicate_succ, List.replicate_succ, List.flatten_cons, List.flatten_cons]; exact h.app (RpA.rep h n)
theorem RpA.put {K : PySem.W.Frag} {H : Hp} {p : Addr} {o : HO} {vs : List V} {ds : List PyData} (n : H p = none) (h : RpA K H vs ds) : RpA K (upd H p o) vs ds := RpA.mono (loc := []) (loc' := []) (Ext.put n) h
/-- a new list -/
theorem VE.list {K : PySem.W.Frag} {H : Hp} {loc : Loc} {st : Sto} {p : Addr} {vs : List V} {ds : List PyData} (sr : SR K H loc st) (n : H p = none) (h : RpA K H vs ds) : VE K H (upd H p (.lst vs)) loc (.ref p) (.new (ds.map .dat)) :=
  ⟨⟨p, vs, rfl, upd_same, SR.fresh sr n, (h.put n).vis⟩, fun xs _ q e => by cases e; exact n⟩
theorem VE.tuple {K : PySem.W.Frag} {H : Hp} {loc : Loc} {p : Addr} {vs : List V} {ds : List PyData} (n : H p = none) (h : RpA K H vs ds) : VE K H (upd H p (.tup vs)) loc (.ref p) (.dat (.tuple ds)) :=
  VE.dat (.tup (.inl (.inl upd_same)) (h.put n))
theorem opBin_inv {o : BinO} {d e : PyData} {a : Va} (h : opBin o d e = some a) : (∃ i j k, d = .int i ∧ e = .int j ∧ arith o i j = some k ∧ a = .dat (.int k)) ∨ opSeq o d e = some a := by
  unfold opBin at h
  split at h
  · rename_i i j
    cases q : arith o i j with
    | none => rw [q] at h; cases h
    | some k => rw [q] at h; cases h; exact .inl ⟨i, j, k, rfl, rfl, q, rfl⟩
  · exact .inr h
theorem opSeq_inv {o : BinO} {d e : PyData} {a : Va} (h : opSeq o d e = some a) :
    (∃ xs ys, o = .add ∧ d = .list xs ∧ e = .list ys ∧ xs.length + ys.length ≤ 16777216 ∧ a = .new ((xs ++ ys).map .dat)) ∨
    (∃ xs ys, o = .add ∧ d = .tuple xs ∧ e = .tuple ys ∧ xs.length + ys.length ≤ 16777216 ∧ a = .dat (.tuple (xs ++ ys))) ∨
    (∃ xs k, o = .mul ∧ d = .list xs ∧ e = .int k ∧ (0 ≤ k ∧ k ≤ 1000 ∧ xs.length ≤ 1000) ∧ a = .new ((List.replicate k.toNat xs).flatten.map .dat)) ∨
    (∃ xs k, o = .mul ∧ d = .tuple xs ∧ e = .int k ∧ (0 ≤ k ∧ k ≤ 1000 ∧ xs.length ≤ 1000) ∧ a = .dat (.tuple (List.replicate k.toNat xs).flatten)) := by
  unfold opSeq at h
  split at h
  · split at h
    · cases h; exact .inl ⟨_, _, rfl, rfl, rfl, by assumption, rfl⟩
    · cases h
  · split at h
    · cases h; exact .inr (.inl ⟨_, _, rfl, rfl, rfl, by assumption, rfl⟩)
    · cases h
  · split at h
    · cases h; exact .inr (.inr (.inl ⟨_, _, rfl, rfl, rfl, by assumption, rfl⟩))
    · cases h
  · split at h
    · cases h; exact .inr (.inr (.inr ⟨_, _, rfl, rfl, rfl, by assumption, rfl⟩))
    · cases h
  · cases h
theorem rep_nil {α : Type} (n : Nat) : (List.replicate n ([] : List α)).flatten = [] := by
  induction n with
  | zero => rfl
  | succ n ih => rw [List.replicate_succ, List.flatten_cons, ih]; rfl
theorem sl_eq : sizeLine = 16777216 := sizeLine_eq
theorem len0 {α β : Type} {xs : List α} {ys : List β} (h : ys.length = xs.length) (e : ys = []) : xs = [] := List.eq_nil_of_length_eq_zero (by rw [← h, e]; rfl)
theorem e_bin {o : BinO} {op : Operator} {ta tb : T} {l r : Expr} {p : Pos} (ho : binB o op = true) (ha : PE X l (tE XR X.K φ E ta)) (hb : PE X r (tE XR X.K φ E tb)) : PE X (.BinOp l op r p) (tE XR X.K φ E (.bin o ta tb)) := by
  refine pe_imp (pe_op (OpR.or (op_arith ho) (op_seq ho)) ha hb) fun σ H Q ⟨loc, ρ, st, sr, er, post⟩ => ?_
  rw [evE] at post
  refine two (l := l) (r := r) sr er post fun loc2 H2 x y xa ya st2 s2 r1 r2 p2 => ?_
  obtain ⟨d, e, a, v1, v2, w, p2⟩ := view_two p2
  rcases opBin_inv w with ⟨i, j, k, rfl, rfl, w1, rfl⟩ | w
  · exact .inl ⟨i, j, k, r1.int s2 v1, r2.int s2 v2, w1, Post.here p2 s2 (VE.dat (.int k))⟩
  · refine .inr ?_
    rcases opSeq_inv w with ⟨xs, ys, rfl, rfl, rfl, hz, rfl⟩ | ⟨xs, ys, rfl, rfl, rfl, hz, rfl⟩ | ⟨xs, k, rfl, rfl, rfl, hz, rfl⟩ | ⟨xs, k, rfl, rfl, rfl, hz, rfl⟩
    · obtain ⟨p1, vs, rfl, q1, e1⟩ := r1.list s2 v1
      obtain ⟨p2', ws, rfl, q2, e2⟩ := r2.list s2 v2
      have l1 := e1.length
      have l2 := e2.length
      exact .inl ⟨p1, p2', vs, ws, rfl, rfl, q1, q2, by rw [sl_eq]; omega, fun p n => Post.new p2 n s2 (VE.list s2 n (e1.app e2))⟩
    · obtain ⟨p1, vs, rfl, q1, e1⟩ := r1.tuple s2 v1
      obtain ⟨p2', ws, rfl, q2, e2⟩ := r2.tuple s2 v2
      have l1 := e1.length
      have l2 := e2.length
      refine .inr ⟨p1, p2', vs, ws, rfl, rfl, q1, q2, by rw [sl_eq]; omega, fun z => ?_, fun _ z => ?_, fun _ _ p n => ?_⟩
      · rw [len0 l1 z] at p2
        exact Post.here p2 s2 (VE.dat (.tup q2 e2))
      · rw [len0 l2 z, List.append_nil] at p2
        exact Post.here p2 s2 (VE.dat (.tup q1 e1))
      · exact Post.new p2 n s2 (VE.tuple n (e1.app e2))
    · obtain ⟨p1, vs, rfl, q1, e1⟩ := r1.list s2 v1
      have l1 := e1.length
      exact .inl ⟨p1, k, vs, rfl, r2.int s2 v2, q1, hz.1, hz.2.1, by omega, fun p n => Post.new p2 n s2 (VE.list s2 n (e1.rep _))⟩
    · obtain ⟨p1, vs, rfl, q1, e1⟩ := r1.tuple s2 v1
      have l1 := e1.length
      refine .inr ⟨p1, k, vs, rfl, r2.int s2 v2, q1, hz.1, hz.2.1, by omega, fun z => ?_, fun p n => Post.new p2 n s2 (VE.tuple n (e1.rep _))⟩
      have e : (List.replicate k.toNat xs).flatten = xs := by
        rcases z with rfl | z
        · show (List.replicate 1 xs).flatten = xs
          simp
        · rw [len0 l1 z]; exact rep_nil _
      rw [e] at p2
      exact Post.here p2 s2 (VE.dat (.tup q1 e1))
theorem e_neg {ta : T} {a : Expr} {p : Pos} (ha : PE X a (tE XR X.K φ E ta)) : PE X (.UnaryOp .USub a p) (tE XR X.K φ E (.neg ta)) := by
  refine pe_imp (pe_un un_neg ha) fun σ H Q ⟨loc, ρ, st, sr, er, post⟩ => ?_
  rw [evE] at post
  refine ⟨loc, ρ, st, sr, er, Post.imp (Post.bind (Rl := VE X.K) old_VE post) fun x H1 ⟨loc1, xa, st1, _, x1, s1, r1, p1⟩ => ?_⟩
  dsimp only at p1
  split at p1
  · rename_i i
    have z := r1.1
    cases z
    exact ⟨_, rfl, Post.here p1 s1 (VE.dat (.int _))⟩
  · exact p1.elim

/-! ### comparisons -/
theorem Dp.int_inv {K : PySem.W.Frag} {H : Hp} {x : V} {i : Int} (h : Dp K H x (.int i)) : x = .int i := by cases h; rfl
theorem Dp.none_inv {K : PySem.W.Frag} {H : Hp} {x : V} (h : Dp K H x .none) : x = .non := by cases h; rfl
theorem Dp.none_iff {K : PySem.W.Frag} {H : Hp} {x : V} {d : PyData} (h : Dp K H x d) (hd : d ≠ .none) : x ≠ .non := by
  cases h <;> first | exact absurd rfl hd | (intro z; cases z)
def rCmp (K : PySem.W.Frag) (o : CmpO) : R2 := fun x y H Q => ∃ d e c, Dp K H x d ∧ Dp K H y e ∧ opCmp o d e = some c ∧ Q (.bl c) H
theorem op_cmpIn (hr : Room n X.A) : OpR X (compareOp .In) (rCmp X.K .inn) := by
  intro pins s σ H x y v u Q I rx ry ⟨d, e, c, hd, he, h, q⟩
  have hu : X.A.units + 64 < cLine := by have := hr.un; omega
  obtain ⟨as, r1⟩ := Dp.reads I d x v hd rx
  obtain ⟨bs, r2⟩ := Dp.reads I e y u he ry
  cases e <;> first | (cases d <;> cases h) | skip
  · rename_i xs
    have h : (if flatD 60 d = true ∧ flatD 60 (.list xs) = true then some (xs.any fun z => PyData.eqv z d) else none) = some c := by cases d <;> exact h
    split at h
    · rename_i f
      cases h
      have z := flatD_depth _ _ f.1
      exact SeqAt.in_list_data r2 r1 (flatD_plain _ _ f.2) (flatD_plain _ _ f.1) (by omega) ⟨.bl _, H, I, rfl, q⟩
    · cases h
  · rename_i xs
    have h : (if flatD 60 d = true ∧ flatD 60 (.tuple xs) = true then some (xs.any fun z => PyData.eqv z d) else none) = some c := by cases d <;> exact h
    split at h
    · rename_i f
      cases h
      have z := flatD_depth _ _ f.1
      exact SeqAt.in_tuple_data r2 r1 (flatD_plain _ _ f.2) (flatD_plain _ _ f.1) (by omega) ⟨.bl _, H, I, rfl, q⟩
    · cases h
theorem op_cmpNin (hr : Room n X.A) : OpR X (compareOp .NotIn) (rCmp X.K .nin) := by
  intro pins s σ H x y v u Q I rx ry ⟨d, e, c, hd, he, h, q⟩
  have hu : X.A.units + 64 < cLine := by have := hr.un; omega
  obtain ⟨as, r1⟩ := Dp.reads I d x v hd rx
  obtain ⟨bs, r2⟩ := Dp.reads I e y u he ry
  cases e <;> first | (cases d <;> cases h) | skip
  · rename_i xs
    have h : (if flatD 60 d = true ∧ flatD 60 (.list xs) = true then some (!xs.any fun z => PyData.eqv z d) else none) = some c := by cases d <;> exact h
    split at h
    · rename_i f
      cases h
      have z := flatD_depth _ _ f.1
      exact SeqAt.notIn_list_data r2 r1 (flatD_plain _ _ f.2) (flatD_plain _ _ f.1) (by omega) ⟨.bl _, H, I, rfl, q⟩
    · cases h
  · rename_i xs
    have h : (if flatD 60 d = true ∧ flatD 60 (.tuple xs) = true then some (!xs.any fun z => PyData.eqv z d) else none) = some c := by cases d <;> exact h
    split at h
    · rename_i f
      cases h
      have z := flatD_depth _ _ f.1
      exact SeqAt.notIn_tuple_data r2 r1 (flatD_plain _ _ f.2) (flatD_plain _ _ f.1) (by omega) ⟨.bl _, H, I, rfl, q⟩
    · cases h
theorem op_cmp {o : CmpO} {op : CmpOp} (hr : Room n X.A) (ho : cmpB o op = true) : OpR X (compareOp op) (rCmp X.K o) := by
  by_cases n1 : o = .inn
  · subst n1
    cases op <;> first | exact op_cmpIn hr | cases ho
  by_cases n2 : o = .nin
  · subst n2
    cases op <;> first | exact op_cmpNin hr | cases ho
  intro pins s σ H x y v u Q I rx ry ⟨d, e, c, hd, he, h, q⟩
  have hu : X.A.units + 64 < cLine := by have := hr.un; omega
  cases o <;> cases op <;> first | exact absurd rfl n1 | exact absurd rfl n2 | (exact absurd ho Bool.false_ne_true) | skip
  · have h : (if flatD 60 d = true ∧ flatD 60 e = true then some (PyData.eqv d e) else none) = some c := h
    split at h
    · rename_i f
      cases h
      obtain ⟨as, r1⟩ := Dp.reads I d x v hd rx
      obtain ⟨bs, r2⟩ := Dp.reads I e y u he ry
      have z := flatD_depth _ _ f.1
      exact SeqAt.eq_plain r1 r2 (flatD_plain _ _ f.1) (flatD_plain _ _ f.2) (by omega) ⟨.bl _, H, I, rfl, q⟩
    · cases h
  · have h : (if flatD 60 d = true ∧ flatD 60 e = true then some (!PyData.eqv d e) else none) = some c := h
    split at h
    · rename_i f
      cases h
      obtain ⟨as, r1⟩ := Dp.reads I d x v hd rx
      obtain ⟨bs, r2⟩ := Dp.reads I e y u he ry
      have z := flatD_depth _ _ f.1
      exact SeqAt.ne_plain r1 r2 (flatD_plain _ _ f.1) (flatD_plain _ _ f.2) (by omega) ⟨.bl _, H, I, rfl, q⟩
    · cases h
  all_goals (cases e <;> first | cases h | skip)
  all_goals try (cases d <;> first | cases h | skip)
  all_goals first
    | exact op_lt pins s σ H x y v u Q I rx ry ⟨_, _, Dp.int_inv hd, Dp.int_inv he, q⟩
    | exact op_le pins s σ H x y v u Q I rx ry ⟨_, _, Dp.int_inv hd, Dp.int_inv he, q⟩
    | exact op_gt pins s σ H x y v u Q I rx ry ⟨_, _, Dp.int_inv hd, Dp.int_inv he, q⟩
    | exact op_ge pins s σ H x y v u Q I rx ry ⟨_, _, Dp.int_inv hd, Dp.int_inv he, q⟩
    | exact op_isN pins s σ H x y v u Q I rx ry ⟨Dp.none_inv he, by rw [Dp.none_inv hd]; exact q⟩
    | exact op_isN pins s σ H x y v u Q I rx ry ⟨Dp.none_inv he, by rw [decide_eq_false (Dp.none_iff hd (by intro z; cases z))]; exact q⟩
    | exact op_notN pins s σ H x y v u Q I rx ry ⟨Dp.none_inv he, by rw [Dp.none_inv hd]; exact q⟩
    | exact op_notN pins s σ H x y v u Q I rx ry ⟨Dp.none_inv he, by rw [decide_eq_false (Dp.none_iff hd (by intro z; cases z))]; exact q⟩
theorem view_twoB {xa ya : Va} {st : Sto} {α β : Type} {Rl : Rel α β} {loc : Loc} {H : Hp} {Q : β → Hp → Prop} {f : PyData → PyData → Option α} (h : Post XR X.K Rl E loc H (match view st xa, view st ya with
      | some d, some e => Res.of (f d e) st
      | _, _ => .stuck) Q) : ∃ d e a, view st xa = some d ∧ view st ya = some e ∧ f d e = some a ∧ Post XR X.K Rl E loc H (.ok a st) Q := by
  cases e1 : view st xa with
  | none => rw [e1] at h; exact h.elim
  | some d =>
    cases e2 : view st ya with
    | none => rw [e1, e2] at h; exact h.elim
    | some e =>
      rw [e1, e2] at h
      cases e3 : f d e with
      | none => simp only [e3] at h; exact h.elim
      | some a => simp only [e3] at h; exact ⟨d, e, a, rfl, rfl, e3, h⟩
theorem pc_op {op : CmpOp} {r : R2} {l e : Expr} {ta tb : TE} (ho : OpR X (compareOp op) r) (ha : PE X l ta) (hb : PE X e tb) : PC X op l e (tOp r ta tb) :=
  ⟨fun pins s σ H Q I h => binT ha hb I h fun v u s2 x y H2 I2 rx ry q => ho pins s2 σ H2 x y v u Q I2 rx ry q⟩
theorem e_cmp {o : CmpO} {op : CmpOp} {ta tb : T} {l r : Expr} {p : Pos} (hr : Room n X.A) (ho : cmpB o op = true) (hp : plainE r = true) (ha : PE X l (tE XR X.K φ E ta)) (hb : PE X r (tE XR X.K φ E tb)) : PE X (.Compare l [op] [r] p) (tE XR X.K φ E (.cmp o ta tb)) := by
  refine pe_imp (pe_cmp (pc_op (op_cmp hr ho) ha hb) (mark_plain hp)) fun σ H Q ⟨loc, ρ, st, sr, er, post⟩ => ?_
  rw [evE] at post
  refine two (l := l) (r := r) sr er post fun loc2 H2 x y xa ya st2 s2 r1 r2 p2 => ?_
  obtain ⟨d, e, a, v1, v2, w, p2⟩ := view_two p2
  cases q : opCmp o d e with
  | none => rw [q] at w; cases w
  | some c =>
    rw [q] at w
    cases w
    exact ⟨d, e, c, r1.data s2 v1, r2.data s2 v2, q, Post.here p2 s2 (VE.dat (.bl c))⟩
theorem t_cmp {o : CmpO} {op : CmpOp} {ta tb : T} {l r : Expr} {p : Pos} (hr : Room n X.A) (ho : cmpB o op = true) (hp : plainE r = true) (ha : PE X l (tE XR X.K φ E ta)) (hb : PE X r (tE XR X.K φ E tb)) : PT X (.Compare l [op] [r] p) (tT XR X.K φ E (.cmp o ta tb)) := by
  refine pt_imp (pt_cmp (pc_op (op_cmp hr ho) ha hb) (mark_plain hp)) fun σ H Q ⟨loc, ρ, st, sr, er, post⟩ => ?_
  rw [evT] at post
  refine ⟨loc, ρ, st, sr, er, Post.imp (Post.bind (Rl := VE X.K) old_BE post) fun x H1 ⟨loc1, xa, st1, _, x1, s1, r1, p1⟩ => ?_⟩
  refine ⟨loc1, ρ, st1, s1, er.mono x1, Post.imp (Post.bind (Rl := VE X.K) old_BE p1) fun y H2 ⟨loc2, ya, st2, _, x2, s2, r2, p2⟩ => ?_⟩
  obtain ⟨d, e, c, v1, v2, w, p2⟩ := view_twoB p2
  exact ⟨d, e, c, (r1.1.mono x2).data s2 v1, r2.1.data s2 v2, w, c, rfl, Post.here p2 s2 rfl⟩

/-! ### and, or, not -/
theorem bool_inv {H : Hp} {loc : Loc} {H0 : Hp} {x : V} {a : Va} {c : Bool} (r : VE X.K H0 H loc x a) (e : asBool a = some c) : x = .bl c ∧ a = .dat (.bool c) := by
  unfold asBool at e
  split at e
  · cases e
    have z := r.1
    cases z
    exact ⟨rfl, rfl⟩
  · cases e
theorem e_and {ta tb : T} {a b : Expr} {rest : List Expr} {p : Pos} (ha : PE X a (tE XR X.K φ E ta)) (hb : PE X (.BoolOp .And (b :: rest) p) (tE XR X.K φ E tb)) : PE X (.BoolOp .And (a :: b :: rest) p) (tE XR X.K φ E (.and ta tb)) := by
  refine pe_imp (pe_and ha hb) fun σ H Q ⟨loc, ρ, st, sr, er, post⟩ => ?_
  rw [evE] at post
  refine ⟨loc, ρ, st, sr, er, Post.imp (Post.bind (Rl := VE X.K) old_VE post) fun x H1 ⟨loc1, xa, st1, _, x1, s1, r1, p1⟩ => ?_⟩
  dsimp only at p1
  cases e : asBool xa with
  | none => rw [e] at p1; exact p1.elim
  | some c =>
    obtain ⟨rfl, rfl⟩ := bool_inv r1 e
    rw [e] at p1
    refine ⟨c, rfl, ?_⟩
    cases c with
    | true => rw [if_pos rfl]; exact ⟨loc1, ρ, st1, s1, er.mono x1, p1⟩
    | false => rw [if_neg Bool.false_ne_true]; exact Post.here p1 s1 (VE.dat (.bl false))
theorem e_or {ta tb : T} {a b : Expr} {rest : List Expr} {p : Pos} (ha : PE X a (tE XR X.K φ E ta)) (hb : PE X (.BoolOp .Or (b :: rest) p) (tE XR X.K φ E tb)) : PE X (.BoolOp .Or (a :: b :: rest) p) (tE XR X.K φ E (.or ta tb)) := by
  refine pe_imp (pe_or ha hb) fun σ H Q ⟨loc, ρ, st, sr, er, post⟩ => ?_
  rw [evE] at post
  refine ⟨loc, ρ, st, sr, er, Post.imp (Post.bind (Rl := VE X.K) old_VE post) fun x H1 ⟨loc1, xa, st1, _, x1, s1, r1, p1⟩ => ?_⟩
  dsimp only at p1
  cases e : asBool xa with
  | none => rw [e] at p1; exact p1.elim
  | some c =>
    obtain ⟨rfl, rfl⟩ := bool_inv r1 e
    rw [e] at p1
    refine ⟨c, rfl, ?_⟩
    cases c with
    | true => rw [if_pos rfl]; exact Post.here p1 s1 (VE.dat (.bl true))
    | false => rw [if_neg Bool.false_ne_true]; exact ⟨loc1, ρ, st1, s1, er.mono x1, p1⟩
theorem e_last {ta : T} {op : BoolOp} {a : Expr} {p : Pos} (ha : PE X a (tE XR X.K φ E ta)) : PE X (.BoolOp op [a] p) (tE XR X.K φ E (.last ta)) := by
  refine pe_imp (pe_one ha) fun σ H Q ⟨loc, ρ, st, sr, er, post⟩ => ?_
  rw [evE] at post
  exact ⟨loc, ρ, st, sr, er, post⟩
theorem e_not {ta : T} {a : Expr} {p : Pos} (ha : PE X a (tE XR X.K φ E ta)) : PE X (.UnaryOp .Not a p) (tE XR X.K φ E (.not ta)) := by
  refine pe_imp (pe_not ha) fun σ H Q ⟨loc, ρ, st, sr, er, post⟩ => ?_
  rw [evE] at post
  refine ⟨loc, ρ, st, sr, er, Post.imp (Post.bind (Rl := VE X.K) old_VE post) fun x H1 ⟨loc1, xa, st1, _, x1, s1, r1, p1⟩ => ?_⟩
  dsimp only at p1
  cases e : asBool xa with
  | none => rw [e] at p1; exact p1.elim
  | some c =>
    obtain ⟨rfl, rfl⟩ := bool_inv r1 e
    rw [e] at p1
    exact ⟨c, rfl, Post.here p1 s1 (VE.dat (.bl _))⟩
theorem e_ife {tc ta tb : T} {c a b : Expr} {p : Pos} (hc : PT X c (tT XR X.K φ E tc)) (ha : PE X a (tE XR X.K φ E ta)) (hb : PE X b (tE XR X.K φ E tb)) : PE X (.IfExp c a b p) (tE XR X.K φ E (.ife tc ta tb)) := by
  refine pe_imp (pe_ifExp hc ha hb) fun σ H Q ⟨loc, ρ, st, sr, er, post⟩ => ?_
  rw [evE] at post
  refine ⟨loc, ρ, st, sr, er, Post.imp (Post.bind (Rl := BE) old_VE post) fun x H1 ⟨loc1, xa, st1, _, x1, s1, r1, p1⟩ => ?_⟩
  have r1 : x = xa := r1
  subst r1
  cases x with
  | true => rw [if_pos rfl]; exact ⟨loc1, ρ, st1, s1, er.mono x1, p1⟩
  | false => rw [if_neg Bool.false_ne_true]; exact ⟨loc1, ρ, st1, s1, er.mono x1, p1⟩
/-! ### tests -/
theorem t_and {ta tb : T} {a b : Expr} {rest : List Expr} {p : Pos} (ha : PT X a (tT XR X.K φ E ta)) (hb : PW X (.BoolOp .And (b :: rest) p) (tT XR X.K φ E tb)) : PW X (.BoolOp .And (a :: b :: rest) p) (tT XR X.K φ E (.and ta tb)) := by
  refine pw_imp (pw_and ha hb) fun σ H Q ⟨loc, ρ, st, sr, er, post⟩ => ?_
  rw [evT] at post
  refine ⟨loc, ρ, st, sr, er, Post.imp (Post.bind (Rl := BE) old_BE post) fun x H1 ⟨loc1, xa, st1, _, x1, s1, r1, p1⟩ => ?_⟩
  have r1 : x = xa := r1
  subst r1
  cases x with
  | true => rw [if_pos rfl]; exact ⟨loc1, ρ, st1, s1, er.mono x1, p1⟩
  | false => rw [if_neg Bool.false_ne_true]; exact Post.here p1 s1 rfl
theorem t_or {ta tb : T} {a b : Expr} {rest : List Expr} {p : Pos} (ha : PT X a (tT XR X.K φ E ta)) (hb : PW X (.BoolOp .Or (b :: rest) p) (tT XR X.K φ E tb)) : PW X (.BoolOp .Or (a :: b :: rest) p) (tT XR X.K φ E (.or ta tb)) := by
  refine pw_imp (pw_or ha hb) fun σ H Q ⟨loc, ρ, st, sr, er, post⟩ => ?_
  rw [evT] at post
  refine ⟨loc, ρ, st, sr, er, Post.imp (Post.bind (Rl := BE) old_BE post) fun x H1 ⟨loc1, xa, st1, _, x1, s1, r1, p1⟩ => ?_⟩
  have r1 : x = xa := r1
  subst r1
  cases x with
  | true => rw [if_pos rfl]; exact Post.here p1 s1 rfl
  | false => rw [if_neg Bool.false_ne_true]; exact ⟨loc1, ρ, st1, s1, er.mono x1, p1⟩
theorem t_last {op : BoolOp} {ta : T} {a : Expr} {p : Pos} (ha : PT X a (tT XR X.K φ E ta)) : PW X (.BoolOp op [a] p) (tT XR X.K φ E (.last ta)) := by
  have go : ∀ σ H Q, tT XR X.K φ E (.last ta) σ H Q → tT XR X.K φ E ta σ H Q := fun σ H Q ⟨loc, ρ, st, sr, er, post⟩ => by
    rw [evT] at post
    exact ⟨loc, ρ, st, sr, er, post⟩
  cases op with
  | And => exact pw_imp (pw_and1 ha) go
  | Or => exact pw_imp (pw_or1 ha) go
theorem t_not {ta : T} {a : Expr} {p : Pos} (ha : PT X a (tT XR X.K φ E ta)) : PT X (.UnaryOp .Not a p) (tT XR X.K φ E (.not ta)) := by
  refine pt_imp (pt_not ha) fun σ H Q ⟨loc, ρ, st, sr, er, post⟩ => ?_
  rw [evT] at post
  refine ⟨loc, ρ, st, sr, er, Post.imp (Post.bind (Rl := BE) old_BE post) fun x H1 ⟨loc1, xa, st1, _, x1, s1, r1, p1⟩ => ?_⟩
  have r1 : x = xa := r1
  subst r1
  exact Post.here p1 s1 rfl

/-! ### displays -/
theorem VIs.len {K : PySem.W.Frag} {H : Hp} {loc : Loc} : ∀ {vs : List V} {as : List Va}, VIs K H loc vs as → vs.length = as.length
  | _, _, .nil => rfl
  | _, _, .cons _ r => by rw [List.length_cons, List.length_cons, VIs.len r]
theorem VIs.put {K : PySem.W.Frag} {H : Hp} {loc : Loc} {p : Addr} {o : HO} {vs : List V} {as : List Va} (n : H p = none) (h : VIs K H loc vs as) : VIs K (upd H p o) loc vs as := VIs.mono (Ext.put n) h
end
end RS

/-! RS8: calls, builtins, places, methods. -/
namespace RS
open PySem
open PySem.Spec
open L2
open PyProof.Rows (envOfC)
section
variable {XR : Ex → Value → Option Addr → Hp → Prop} {fs : List FnT} {gl : List (Str × PyData)} {φ : Nat → List Va → Sto → Res Va} {n : Nat} {E : XK} {bs : Option Scope} {X : Cx}

/-! ### argument lists, displays -/
theorem a_nil : PA X [] (tA XR X.K φ E .anil) := pa_imp pa_nil fun σ H Q ⟨loc, ρ, st, sr, er, post⟩ => by
  rw [evA] at post
  exact Post.here (b := ([] : List V)) post sr Paired.nil
theorem a_cons {a r : T} {e : Expr} {es : List Expr} (hp : plainE e = true) (ha : PE X e (tE XR X.K φ E a)) (hr : PA X es (tA XR X.K φ E r)) : PA X (e :: es) (tA XR X.K φ E (.acons a r)) := by
  refine pa_imp (pa_cons ha hr (star_plain hp)) fun σ H Q ⟨loc, ρ, st, sr, er, post⟩ => ?_
  rw [evA] at post
  refine ⟨loc, ρ, st, sr, er, Post.imp (Post.bind (Rl := VE X.K) old_AE post) fun x H1 ⟨loc1, xa, st1, _, x1, s1, r1, p1⟩ => ?_⟩
  dsimp only at p1
  cases e1 : isOut xa with
  | none => rw [e1] at p1; exact p1.elim
  | some xb =>
    rw [e1] at p1
    have v1 := r1.1.vi e1
    refine ⟨loc1, ρ, st1, s1, er.mono x1, Post.imp (Post.bind (Rl := AE X.K) old_AE p1) fun xs H2 ⟨loc2, xsa, st2, _, x2, s2, r2, p2⟩ => ?_⟩
    exact Post.here p2 s2 (.cons (v1.mono x2) r2)
theorem k_nil : PK X [] (tA XR X.K φ E .anil) := ⟨fun pos pins s σ H Q I ⟨loc, ρ, st, sr, er, post⟩ => by
  rw [evA] at post
  exact pk_nil.run pos pins s σ H Q I (Post.here (b := ([] : List V)) post sr Paired.nil)⟩
theorem k_cons {a r : T} {e : Expr} {nm : Option Str} {kp : Pos} {ks : List Keyword} (ha : PE X e (tE XR X.K φ E a)) (hr : PK X ks (tA XR X.K φ E r)) : PK X (⟨nm, e, kp⟩ :: ks) (tA XR X.K φ E (.acons a r)) := by
  refine ⟨fun pos pins s σ H Q I ⟨loc, ρ, st, sr, er, post⟩ => (pk_cons ha hr).run pos pins s σ H Q I ?_⟩
  rw [evA] at post
  refine ⟨loc, ρ, st, sr, er, Post.imp (Post.bind (Rl := VE X.K) old_AE post) fun x H1 ⟨loc1, xa, st1, _, x1, s1, r1, p1⟩ => ?_⟩
  dsimp only at p1
  cases e1 : isOut xa with
  | none => rw [e1] at p1; exact p1.elim
  | some xb =>
    rw [e1] at p1
    have v1 := r1.1.vi e1
    refine ⟨loc1, ρ, st1, s1, er.mono x1, Post.imp (Post.bind (Rl := AE X.K) old_AE p1) fun xs H2 ⟨loc2, xsa, st2, _, x2, s2, r2, p2⟩ => ?_⟩
    exact Post.here p2 s2 (.cons (v1.mono x2) r2)
/-- how many an argument list gives -/
def T.args : T → Nat
  | .acons _ r => r.args + 1
  | _ => 0
theorem evA_len : ∀ (as : T) (ρ : Env) (st : Sto) (xs : List Va) (st' : Sto), evA φ as ρ st = .ok xs st' → xs.length = as.args
  | .anil, _, _, _, _, h => by rw [evA] at h; cases h; rfl
  | .acons a r, ρ, st, xs, st', h => by
    rw [evA] at h
    cases e1 : evE φ a ρ st with
    | ok x st1 =>
      rw [e1] at h
      simp only [Res.bind_ok] at h
      cases e2 : isOut x with
      | none => rw [e2] at h; cases h
      | some y =>
        rw [e2] at h
        simp only at h
        cases e3 : evA φ r ρ st1 with
        | ok ys st2 =>
          rw [e3] at h
          cases h
          rw [List.length_cons, evA_len r _ _ _ _ e3]; rfl
        | exc _ _ => rw [e3] at h; cases h
        | stuck => rw [e3] at h; cases h
    | exc _ _ => rw [e1] at h; cases h
    | stuck => rw [e1] at h; cases h
  | .var _, _, _, _, _, h => by rw [evA] at h <;> first | cases h | (intros; intro z; cases z)
  | .lit _, _, _, _, _, h => by rw [evA] at h <;> first | cases h | (intros; intro z; cases z)
  | .glob _ _, _, _, _, _, h => by rw [evA] at h <;> first | cases h | (intros; intro z; cases z)
  | .bin _ _ _, _, _, _, _, h => by rw [evA] at h <;> first | cases h | (intros; intro z; cases z)
  | .neg _, _, _, _, _, h => by rw [evA] at h <;> first | cases h | (intros; intro z; cases z)
  | .cmp _ _ _, _, _, _, _, h => by rw [evA] at h <;> first | cases h | (intros; intro z; cases z)
  | .and _ _, _, _, _, _, h => by rw [evA] at h <;> first | cases h | (intros; intro z; cases z)
  | .or _ _, _, _, _, _, h => by rw [evA] at h <;> first | cases h | (intros; intro z; cases z)
  | .last _, _, _, _, _, h => by rw [evA] at h <;> first | cases h | (intros; intro z; cases z)
  | .not _, _, _, _, _, h => by rw [evA] at h <;> first | cases h | (intros; intro z; cases z)
  | .ife _ _ _, _, _, _, _, h => by rw [evA] at h <;> first | cases h | (intros; intro z; cases z)
  | .tup _, _, _, _, _, h => by rw [evA] at h <;> first | cases h | (intros; intro z; cases z)
  | .lst _, _, _, _, _, h => by rw [evA] at h <;> first | cases h | (intros; intro z; cases z)
  | .lc _ _ _ _ _, _, _, _, _, h => by rw [evA] at h <;> first | cases h | (intros; intro z; cases z)
  | .call _ _, _, _, _, _, h => by rw [evA] at h <;> first | cases h | (intros; intro z; cases z)
  | .callk _ _ _ _ _, _, _, _, _, h => by rw [evA] at h <;> first | cases h | (intros; intro z; cases z)
  | .bi _ _, _, _, _, _, h => by rw [evA] at h <;> first | cases h | (intros; intro z; cases z)
  | .idx _ _, _, _, _, _, h => by rw [evA] at h <;> first | cases h | (intros; intro z; cases z)
  | .slc _ _ _, _, _, _, _, h => by rw [evA] at h <;> first | cases h | (intros; intro z; cases z)
  | .app _ _, _, _, _, _, h => by rw [evA] at h <;> first | cases h | (intros; intro z; cases z)
  | .popAt _ _, _, _, _, _, h => by rw [evA] at h <;> first | cases h | (intros; intro z; cases z)
  | .mut _, _, _, _, _, h => by rw [evA] at h <;> first | cases h | (intros; intro z; cases z)
  | .frz _, _, _, _, _, h => by rw [evA] at h <;> first | cases h | (intros; intro z; cases z)
  | .yes, _, _, _, _, h => by rw [evA] at h <;> first | cases h | (intros; intro z; cases z)
  | .nopart, _, _, _, _, h => by rw [evA] at h <;> first | cases h | (intros; intro z; cases z)
  | .iseq _, _, _, _, _, h => by rw [evA] at h <;> first | cases h | (intros; intro z; cases z)
  | .irange1 _, _, _, _, _, h => by rw [evA] at h <;> first | cases h | (intros; intro z; cases z)
  | .irange2 _ _, _, _, _, _, h => by rw [evA] at h <;> first | cases h | (intros; intro z; cases z)
  | .izip _ _, _, _, _, _, h => by rw [evA] at h <;> first | cases h | (intros; intro z; cases z)
theorem e_tup {as : T} {es : List Expr} {j : Nat} {p : Pos} (hz : as.args ≤ 1000) (ha : PA X es (tA XR X.K φ E as)) : PE X (.Tuple es j p) (tE XR X.K φ E (.tup as)) := by
  refine pe_imp (pe_tup ha) fun σ H Q ⟨loc, ρ, st, sr, er, post⟩ => ?_
  rw [evE] at post
  refine ⟨loc, ρ, st, sr, er, Post.imp (Post.bind (Rl := AE X.K) old_VE post) fun vs H1 ⟨loc1, xs, st1, e1, x1, s1, r1, p1⟩ => ?_⟩
  dsimp only at p1
  cases e : undat xs with
  | none => rw [e] at p1; exact p1.elim
  | some ds =>
    rw [e] at p1
    have l1 := evA_len _ _ _ _ _ e1
    have l2 := VIs.len r1
    exact ⟨by rw [sl_eq]; omega, fun p nn => Post.new p1 nn s1 (VE.tuple nn (VIs.undat r1 e))⟩
theorem e_lst {as : T} {es : List Expr} {p : Pos} (hz : as.args ≤ 1000) (ha : PA X es (tA XR X.K φ E as)) : PE X (.List es p) (tE XR X.K φ E (.lst as)) := by
  refine pe_imp (pe_lst ha) fun σ H Q ⟨loc, ρ, st, sr, er, post⟩ => ?_
  rw [evE] at post
  refine ⟨loc, ρ, st, sr, er, Post.imp (Post.bind (Rl := AE X.K) old_VE post) fun vs H1 ⟨loc1, xs, st1, e1, x1, s1, r1, p1⟩ => ?_⟩
  have l1 := evA_len _ _ _ _ _ e1
  have l2 := VIs.len r1
  refine ⟨by rw [sl_eq]; omega, fun p nn => Post.new p1 nn s1 ⟨⟨p, vs, rfl, upd_same, SR.fresh s1 nn, VIs.put nn r1⟩, fun ys _ q e => by cases e; exact nn⟩⟩

/-! ### calls -/
theorem Paired.app {α β : Type} {F : α → β → Prop} : ∀ {l₁ m₁ : List α} {l₂ m₂ : List β}, Paired F l₁ l₂ → Paired F m₁ m₂ → Paired F (l₁ ++ m₁) (l₂ ++ m₂)
  | _, _, _, _, .nil, h => h
  | _, _, _, _, .cons r t, h => .cons r (Paired.app t h)
theorem pick_vi {K : PySem.W.Frag} {H : Hp} {loc : Loc} {vs : List V} {xs : List Va} (h : VIs K H loc vs xs) : ∀ {perm : List Nat} {args : List Va}, pick xs perm = some args → ∃ avs, perm.map (fun i => vs[i]?) = avs.map some ∧ VIs K H loc avs args
  | [], _, e => by cases e; exact ⟨[], rfl, .nil⟩
  | i :: r, args, e => by
    rw [pick] at e
    cases q : xs[i]? with
    | none => rw [q] at e; cases e
    | some x =>
      rw [q] at e
      cases q2 : pick xs r with
      | none => rw [q2] at e; cases e
      | some ys =>
        rw [q2] at e
        cases e
        obtain ⟨avs, e1, e2⟩ := pick_vi h q2
        have hi : i < vs.length := by rw [VIs.len h]; exact (List.getElem?_eq_some_iff.mp q).1
        refine ⟨vs[i] :: avs, by rw [List.map_cons, List.map_cons, e1, List.getElem?_eq_getElem hi], .cons ?_ e2⟩
        have : ∀ {vs : List V} {xs : List Va} (h : VIs K H loc vs xs) (i : Nat) (hi : i < vs.length) (x : Va), xs[i]? = some x → VI K H loc vs[i] x := by
          intro vs xs h
          induction h with
          | nil => intro i hi; cases hi
          | cons a r ih =>
            intro i hi x e
            cases i with
            | zero =>
              cases e; exact a
            | succ i => exact ih i (by simpa using hi) x (by simpa using e)
        exact this h i hi x q
theorem pick_vals {vs : List V} {us : List Value} (h : Vals vs us) : ∀ {perm : List Nat} {avs : List V}, perm.map (fun i => vs[i]?) = avs.map some → ∃ bs, perm.map (fun i => us[i]?) = bs.map some ∧ Vals avs bs
  | [], [], _ => ⟨[], rfl, .nil⟩
  | [], _ :: _, e => by cases e
  | _ :: _, [], e => by cases e
  | i :: r, a :: avs, e => by
    rw [List.map_cons, List.map_cons] at e
    obtain ⟨e1, e2⟩ := List.cons.inj e
    obtain ⟨bs, f1, f2⟩ := pick_vals h e2
    obtain ⟨u, q1, q2⟩ := h.get e1
    exact ⟨u :: bs, by rw [List.map_cons, List.map_cons, f1, q1], .cons q2 f2⟩
theorem kw_names {pos : Pos} {env : PySem.Env} : ∀ (ks : List Keyword), (backToKw pos (keywordEach ks env)).map (·.1) = ks.map (·.arg)
  | [] => rfl
  | ⟨nm, e, p⟩ :: r => by
    show nm :: (backToKw pos (keywordEach r env)).map (·.1) = nm :: r.map (·.arg)
    rw [kw_names r]
theorem all_some {α β : Type} {l : List (Option α × β)} {ns : List α} (h : l.map (·.1) = ns.map some) : l.all (·.1.isSome) = true ∧ l.filterMap (·.1) = ns ∧ l.any (·.1.isNone) = false := by
  induction l generalizing ns with
  | nil => cases ns with
    | nil => exact ⟨rfl, rfl, rfl⟩
    | cons => cases h
  | cons a l ih =>
    cases ns with
    | nil => cases h
    | cons m ns =>
      rw [List.map_cons, List.map_cons] at h
      obtain ⟨e1, e2⟩ := List.cons.inj h
      obtain ⟨i1, i2, i3⟩ := ih e2
      refine ⟨?_, ?_, ?_⟩
      · rw [List.all_cons, e1, i1]; rfl
      · rw [List.filterMap_cons, e1, i2]
      · rw [List.any_cons, e1, i3]; rfl
theorem call_core (c : Cg XR fs gl φ n E bs X) {f : Nat} {F : FnT} {x : Str} {p pos : Pos} {es : List Expr} {kws : List Keyword} {ns : List Str} {perm : List Nat} {t1 t2 : TA} (hF : fs[f]? = some F) (hx : x = F.name) (hg : glB X.env.scope x = true)
    (hk : kOk F.params es.length ns perm = true) (hpl : allPlain es = true) (ha : PA X es t1) (hw : PK X kws t2) (hns : kws.map (·.arg) = ns.map some) :
    PE X (.Call (.Name x p) es kws pos) (fun σ H Q => t1 σ H fun vs H1 => t2 σ H1 fun zs H2 => vs.length = es.length ∧ zs.length = ns.length ∧ ∃ avs, perm.map (fun i => (vs ++ zs)[i]?) = avs.map some ∧ spF XR X.K φ f F.params.length avs H2 Q E) := by
  subst hx
  obtain ⟨g1, g2⟩ := glB_inv hg
  obtain ⟨CX, a, fd, hm, hkp, hfn, hpa, hdf, hps, _⟩ := c.fns f F hF
  have hall : ∀ env, (backToKw pos (keywordEach kws env)).all (·.1.isSome) = true ∧ (backToKw pos (keywordEach kws env)).filterMap (·.1) = ns ∧ (backToKw pos (keywordEach kws env)).any (·.1.isNone) = false := fun env => all_some (by rw [kw_names, hns])
  obtain ⟨k1, k2, k3⟩ := hall X.env
  refine ⟨fun pins s σ H Q I h => ?_⟩
  refine wpAny_Call_Name_kw (ld_glob I g1 hm ?_ g2)
  have last : ∀ (vs zs : List V) (us ws : List Value) (H2 : Hp) (s2 : Shared), Inv X pins σ H2 s2 → Vals vs us → Vals zs ws → vs.length = es.length → zs.length = ns.length →
      (∃ avs, perm.map (fun i => (vs ++ zs)[i]?) = avs.map some ∧ spF XR X.K φ f F.params.length avs H2 Q E) → wpAny (model X.prog X.w) X.A (call (.ref a) ([] ++ us) (ns.zip ws)) (EP X pins σ Q) X.xe s2 := by
    intro vs zs us ws H2 s2 I2 r1 r2 l1 l2 ⟨avs, e1, q⟩
    obtain ⟨bs', e2, r3⟩ := pick_vals (r1.append r2) e1
    have hb : BindsTo s2 fd ⟨us, ns.zip ws⟩ (F.params.zip bs') := binds_g hpa hdf (by rw [← r1.length, l1]; exact hk) (by rw [← r2.length, l2]) e2
    exact run_g hfn c.gu c.room hb hps I2 r3 q
  cases es with
  | cons e es =>
    have hpe : plainE e = true ∧ allPlain es = true := by simpa [allPlain] using hpl
    have hst := star_plain (env := X.env) (es := es) hpe.1
    refine PySem.W.callWith_KW (h₀ := X.base) I.ok.mod.kin hkp k1 (thn (ha.run pos pins s σ H _ I h) fun us s1 ⟨vs, H1, I1, r1, q1⟩ => ?_) ?_ hst
    · refine thn (hw.run pos pins s1 σ H1 _ I1 q1) fun ws s2 ⟨zs, H2, I2, r2, l1, l2, q2⟩ => ⟨I2.kIn, ?_⟩
      rw [k2]
      exact last vs zs us ws H2 s2 I2 r1 r2 l1 l2 q2
    · rw [k3, back_plain hpl]; rfl
  | nil =>
    have e0 : starEach [] X.env = [] := rfl
    refine PySem.W.callWith_KW0 (h₀ := X.base) I.ok.mod.kin hkp k1 ?_ ?_
    · have z := ha.run pos pins s σ H _ I h
      have z : wpAny (model X.prog X.w) X.A (pure ([] : List Value)) (AP X pins σ (fun vs H1 => t2 σ H1 fun zs H2 => vs.length = ([] : List Expr).length ∧ zs.length = ns.length ∧ ∃ avs, perm.map (fun i => (vs ++ zs)[i]?) = avs.map some ∧ spF XR X.K φ f F.params.length avs H2 Q E)) X.xe s := by
        simpa [spliced, backTo, e0] using z
      refine fun Γ pp hΓ => ?_
      have z1 := z Γ pp hΓ
      rw [Sem.wp_pure'] at z1
      obtain ⟨vs, H1, I1, r1, q1⟩ := z1
      cases r1
      refine (thn (hw.run pos pins s σ H1 _ I1 q1) fun ws s2 ⟨zs, H2, I2, r2, l1, l2, q2⟩ => ⟨I2.kIn, ?_⟩) Γ pp hΓ
      rw [k2]
      exact last [] zs [] ws H2 s2 I2 .nil r2 l1 l2 q2
    · rw [k3]; rfl
/-- f(e, ..) -/
theorem e_call (c : Cg XR fs gl φ n E bs X) {f : Nat} {F : FnT} {x : Str} {p pos : Pos} {es : List Expr} {as : T} (hF : fs[f]? = some F) (hx : x = F.name) (hg : glB X.env.scope x = true)
    (hk : kOk F.params es.length [] (List.range es.length) = true) (hpl : allPlain es = true) (hl : as.args = es.length) (ha : PA X es (tA XR X.K φ E as)) : PE X (.Call (.Name x p) es [] pos) (tE XR X.K φ E (.call f as)) := by
  refine pe_imp (call_core c hF hx hg hk hpl ha pk_nil rfl) fun σ H Q ⟨loc, ρ, st, sr, er, post⟩ => ?_
  rw [evE] at post
  refine ⟨loc, ρ, st, sr, er, Post.imp (Post.bind (Rl := AE X.K) old_VE post) fun vs H1 ⟨loc1, xs, st1, e1, x1, s1, r1, p1⟩ => ?_⟩
  have l1 := evA_len _ _ _ _ _ e1
  have l2 := VIs.len r1
  have lp : vs.length = F.params.length := by
    unfold kOk at hk
    simp only [Bool.and_eq_true, decide_eq_true_eq] at hk
    have := congrArg List.length hk.2
    rw [List.length_map, List.length_map, List.length_range] at this
    omega
  refine ⟨by omega, rfl, vs, ?_, lp, loc1, st1, xs, s1, r1, p1⟩
  rw [show es.length = vs.length by omega]
  exact range_some vs
/-- f(e, .., k = v, ..) -/
theorem e_callk (c : Cg XR fs gl φ n E bs X) {f : Nat} {F : FnT} {x : Str} {p pos : Pos} {es : List Expr} {kws : List Keyword} {ns : List Str} {perm : List Nat} {as ws : T} (hF : fs[f]? = some F) (hx : x = F.name) (hg : glB X.env.scope x = true)
    (hk : kOk F.params es.length ns perm = true) (hpl : allPlain es = true) (hl : as.args = es.length) (ha : PA X es (tA XR X.K φ E as)) (hw : PK X kws (tA XR X.K φ E ws)) (hl2 : ws.args = kws.length) (hns : kws.map (·.arg) = ns.map some) :
    PE X (.Call (.Name x p) es kws pos) (tE XR X.K φ E (.callk f as ns perm ws)) := by
  refine pe_imp (call_core c hF hx hg hk hpl ha hw hns) fun σ H Q ⟨loc, ρ, st, sr, er, post⟩ => ?_
  rw [evE] at post
  refine ⟨loc, ρ, st, sr, er, Post.imp (Post.bind (Rl := AE X.K) old_VE post) fun vs H1 ⟨loc1, xs, st1, e1, x1, s1, r1, p1⟩ => ?_⟩
  refine ⟨loc1, ρ, st1, s1, er.mono x1, Post.imp (Post.bind (Rl := AE X.K) old_VE p1) fun zs H2 ⟨loc2, ys, st2, e2, x2, s2, r2, p2⟩ => ?_⟩
  have l1 := evA_len _ _ _ _ _ e1
  have l2 := VIs.len r1
  have l3 := evA_len _ _ _ _ _ e2
  have l4 := VIs.len r2
  have ln : ns.length = kws.length := by have := congrArg List.length hns; simpa using this.symm
  dsimp only at p2
  cases q : pick (xs ++ ys) perm with
  | none => rw [q] at p2; exact p2.elim
  | some args =>
    rw [q] at p2
    have rr : VIs X.K H2 loc2 (vs ++ zs) (xs ++ ys) := Paired.app (VIs.mono x2 r1) r2
    obtain ⟨avs, q1, q2⟩ := pick_vi rr q
    have lp : avs.length = F.params.length := by
      unfold kOk at hk
      simp only [Bool.and_eq_true, decide_eq_true_eq] at hk
      have a1 := congrArg List.length hk.2
      have a2 := congrArg List.length q1
      rw [List.length_map, List.length_map] at a1 a2
      omega
    exact ⟨by omega, by omega, avs, q1, lp, loc2, st2, args, s2, q2, p2⟩
end
end RS

/-! RSR: t[::-1] of a tuple. -/
namespace RS
open PySem
open PySem.Spec
open PyProof.Rows
open L2
open HT
theorem places_rev (n : Nat) : Builtin.Slice.slicePlaces ((n : Int) - 1) (-1) (-1) = n := by
  unfold Builtin.Slice.slicePlaces
  have h1 : ¬ ((-1 : Int) > 0) := by omega
  simp only [h1, if_false]
  by_cases h : (n : Int) - 1 > -1
  · have e : ((n : Int) - 1 - -1 - 1) / (- -1) = (n : Int) - 1 := by
      rw [show (- -1 : Int) = 1 by decide, Int.ediv_one]
      omega
    simp only [h, if_true, e]
    omega
  · have e : n = 0 := by omega
    subst e
    simp
theorem fm_congr {α β : Type} {f g : α → Option β} : ∀ {l : List α}, (∀ x ∈ l, f x = g x) → l.filterMap f = l.filterMap g
  | [], _ => rfl
  | x :: l, h => by
    rw [List.filterMap_cons, List.filterMap_cons, h x (by simp), fm_congr (l := l) fun y hy => h y (by simp [hy])]
theorem pick_rev (xs : Array Value) : ((List.range xs.size).filterMap fun (m : Nat) => xs[(((xs.size : Int) - 1) + (m : Int) * (-1)).toNat]?).toArray = xs.toList.reverse.toArray := by
  have e : ((List.range xs.size).filterMap fun (m : Nat) => xs[(((xs.size : Int) - 1) + (m : Int) * (-1)).toNat]?) = ((List.range xs.size).map fun k => xs.size - 1 - k).filterMap (xs[·]?) := by
    rw [List.filterMap_map]
    refine fm_congr fun m hm => ?_
    have hm := List.mem_range.mp hm
    have : (((xs.size : Int) - 1) + (m : Int) * (-1)).toNat = xs.size - 1 - m := by omega
    show xs[(((xs.size : Int) - 1) + (m : Int) * (-1)).toNat]? = xs[xs.size - 1 - m]?
    rw [this]
  rw [e, PySem.W.krv_range, List.filterMap_reverse, PySem.W.krv_all]
section
variable {prog : Program} {w : World} {A : Around} {E : Value → Shared → Prop} {s : Shared}
theorem sliceApplied_rev {sl : Addr} {vl vu vs : Value} {n : Nat} {Q : Int × Int × Nat → Shared → Prop} (hs : s.heap.IsSliceOf sl vl vu vs) (pl : IsPart vl none) (pu : IsPart vu none) (ps : IsPart vs (some (-1)))
    (h : Q ((n : Int) - 1, -1, n) s) : wpAny (model prog w) A (Builtin.Slice.sliceApplied (.ref sl) (pure (n : Int))) Q E s := by
  obtain ⟨os, hos, hcs, hds⟩ := id hs
  unfold Builtin.Slice.sliceApplied Builtin.Slice.sliceFields
  refine wpAny_bind (wpAny_bind (wpAny_field hos hds (x := vl) rfl (wpAny_bind (wpAny_field hos hds (x := vu) rfl (wpAny_bind (wpAny_field hos hds (x := vs) rfl (wpAny_pure ?_)))))))
  refine wpAny_bind (slicePart_ ps ?_)
  show wpAny _ _ (if ((-1 : Int) == 0) = true then _ else _) _ _ s
  rw [if_neg (by decide)]
  refine wpAny_bind (slicePart_ pl (wpAny_bind (slicePart_ pu (wpAny_bind (wpAny_pure ?_)))))
  show wpAny _ _ (pure ((n : Int) - 1, (-1 : Int), Builtin.Slice.slicePlaces ((n : Int) - 1) (-1) (-1))) _ _ s
  rw [places_rev]
  exact wpAny_pure h
theorem getItem_tuple_rev {t sl : Addr} {items : Array Value} {vl vu vs : Value} {Q : Value → Shared → Prop} (ht : IsTup s.heap t items) (hs : s.heap.IsSliceOf sl vl vu vs) (pl : IsPart vl none) (pu : IsPart vu none) (ps : IsPart vs (some (-1)))
    (h : Q (.ref s.heap.objs.size) { s with heap := s.heap.push { cls := .type "tuple", data := .seq items.toList.reverse.toArray } })
    (hsz : items.size ≤ sizeLine) : wpAny (model prog w) A (getItem (.ref t) (.ref sl)) Q E s := by
  have htake : sizeOk (.seq items.toList.reverse.toArray) := by
    show (items.toList.reverse.toArray).size ≤ sizeLine
    rw [List.size_toArray, List.length_reverse, Array.length_toList]
    exact hsz
  obtain ⟨os, hos, hcs, hds⟩ := id hs
  have hTs : s.TypeIs (.ref sl) "slice" := ⟨os, hos, hcs⟩
  unfold getItem
  try with_reducible refine wpAny_holding ?_
  first | refine wpAny_bind (wpAny_pure ?_) | skip
  refine wpAny_bind (wpAny_sequenceKey ht.typeIs (by decide) ?_)
  refine wpAny_bind (wpAny_callSpecial?_slot (name := Str.ofString "__getitem__") ht.typeIs PyProof.Rows.slot_tuple_getitem
    (wpAny_call_entry PyProof.Rows.slot_tuple_getitem ht.typeIs entry_tuple_getitem ?_ (args_tuple_getitem _ _)))
  show wpAny _ _ (Builtin.Tuple.tupleItemsOf (.ref t) >>= _) _ _ s
  refine wpAny_bind (tupleItemsOf_ ht ?_)
  refine wpAny_bind (wpAny_typeOf hTs ?_)
  rw [if_pos (by decide)]
  refine wpAny_bind (sliceApplied_rev hs pl pu ps ?_)
  show wpAny _ _ (if ((((items.size : Int) - 1) == 0 && (-1 : Int) == 1 && items.size == items.size) = true) then _ else _) _ _ s
  have hno : ¬ ((((items.size : Int) - 1) == 0 && (-1 : Int) == 1 && items.size == items.size) = true) := by
    intro q
    rw [Bool.and_eq_true, Bool.and_eq_true] at q
    exact absurd q.1.2 (by decide)
  rw [if_neg hno, pick_rev]
  first
    | exact wpAny_bind (m := Builtin.Tuple.tupleExact _) (wpAny_newObj_type (wpAny_pure ⟨_, rfl, wpAny_pure h⟩) htake)
    | exact wpAny_bind (m := Builtin.Tuple.tupleExact _) (wpAny_newObj_type (wpAny_bind (wpAny_pure (wpAny_pure ⟨_, rfl, wpAny_pure h⟩))) htake)
    | exact wpAny_bind (wpAny_bind (m := Builtin.Tuple.tupleExact _) (wpAny_newObj_type (wpAny_pure (wpAny_pure ⟨_, rfl, wpAny_pure h⟩)) htake))
    | exact wpAny_bind (wpAny_bind (m := Builtin.Tuple.tupleExact _) (wpAny_newObj_type (wpAny_pure ⟨_, rfl, wpAny_pure h⟩) htake))
end
section
variable {X : Cx}
/-- x[::-1]: a list's or a tuple's -/
def tRevA (K : PySem.W.Frag) (te : TE) : TE := fun σ H Q => te σ H fun x H1 => ∃ a xs, x = .ref a ∧
  ((SqL K H1 a xs ∧ ∀ p, H1 p = none → Q (.ref p) (upd H1 p (.lst xs.reverse))) ∨ (SqT K H1 a xs ∧ ∀ p, H1 p = none → Q (.ref p) (upd H1 p (.tup xs.reverse))))
theorem pe_revA {e : Expr} {te : TE} {k : Nat} {p1 p2 p3 pos : Pos} (he : PE X e te) : PE X (.Subscript e (.Slice none none (some (.UnaryOp .USub (.Constant (.int 1) k p1) p2)) p3) pos) (tRevA X.K te) := by
  refine ⟨fun pins s σ H Q I h => ?_⟩
  refine Subscript_ (thn (he.run pins s σ H _ I h) fun v s1 ⟨x, H1, I1, r1, q1⟩ => ?_)
  obtain ⟨a, xs, ex, q⟩ := q1
  subst ex
  cases r1
  have hst : PO X (some (.UnaryOp .USub (.Constant (.int 1) k p1) p2)) (tPart (tUn (rU fun i => .int (-i)) (tC (.int 1)))) := po_some (pe_un un_neg pe_int)
  refine wpAny_Slice (thn (po_none.run pins s1 σ H1 (fun o H2 => o = none ∧ H2 = H1) I1 ⟨rfl, rfl⟩) fun vl s2 ⟨l, H2, I2, pl, el, e2⟩ => ?_)
  subst el e2
  refine thn (po_none.run pins s2 σ H2 (fun o H3 => o = none ∧ H3 = H2) I2 ⟨rfl, rfl⟩) fun vu s3 ⟨u, H3, I3, pu, eu, e3⟩ => ?_
  subst eu e3
  refine thn (hst.run pins s3 σ H3 (fun o H4 => o = some (-1) ∧ H4 = H3) I3 ⟨1, rfl, -1, rfl, rfl, rfl⟩) fun vs s4 ⟨o, H4, I4, ps, eo, e4⟩ => ?_
  subst eo e4
  have I5 : Inv X pins σ H4 { s4 with heap := s4.heap.push { cls := .type "slice", data := .fields #[vl, vu, vs] } } := I4.kept (t' := s4.toks) fun b ob q => Heap.get?_push_of_some _ q
  show wpAny (model X.prog X.w) X.A (subscriptTail e (.Slice none none (some (.UnaryOp .USub (.Constant (.int 1) k p1) p2)) p3) (.ref a) (.ref s4.heap.objs.size)) (EP X pins σ Q) X.xe { s4 with heap := s4.heap.push { cls := .type "slice", data := .fields #[vl, vu, vs] } }
  rcases q with ⟨hx, q⟩ | ⟨hx, q⟩
  · obtain ⟨its, r, ht, hz⟩ := I5.list hx
    have hlen := r.length
    refine tail_any (ops := [.ref a, .ref s4.heap.objs.size]) ht.isList.typeIs (PySem.slot_list_getitem.lookup) ?_ (by with_unfolding_all rfl)
    refine wpAny_getItem_list_slice ht.isList (Heap.IsSliceOf.new _ vl vu vs) pl pu ps (by decide) ?_ (by rw [List.size_toArray]; omega)
    rw [PySem.W.krv_pick]
    refine ⟨.ref _, _, I5.laid (t' := s4.toks) (o := .lst xs.reverse) (fun b ob q => Heap.get?_push_of_some _ q) (Nat.le_refl _) ?_, rfl, q _ (I5.hok.fresh (Nat.le_refl _))⟩
    exact ⟨by rw [List.length_reverse]; exact hz, _, 0, r.reverse, Heap.get?_push_size _ rfl⟩
  · obtain ⟨its, r, ht, hz⟩ := I5.tuple hx
    have hlen := r.length
    refine tail_any (ops := [.ref a, .ref s4.heap.objs.size]) ht.typeIs (PyProof.Rows.slot_tuple_getitem.lookup) ?_ (by with_unfolding_all rfl)
    refine getItem_tuple_rev ht (Heap.IsSliceOf.new _ vl vu vs) pl pu ps ?_ (by rw [List.size_toArray]; omega)
    refine ⟨.ref _, _, I5.laid (t' := s4.toks) (o := .tup xs.reverse) (fun b ob q => Heap.get?_push_of_some _ q) (Nat.le_refl _) ?_, rfl, q _ (I5.hok.fresh (Nat.le_refl _))⟩
    exact ⟨by rw [List.length_reverse]; exact hz, _, r.reverse, IsTup.new _ _⟩
end
end RS

/-! RS9: builtins, places, methods, tests. -/
namespace RS
open PySem
open PySem.Spec
open L2
open PyProof.Rows (envOfC)
theorem RpA.ints {K : PySem.W.Frag} {H : Hp} : ∀ {vs : List V} {ds : List PyData} {ns : List Int}, RpA K H vs ds → isInts ds = some ns → vs = ns.map V.int
  | _, _, _, .nil, e => by cases e; rfl
  | _, _, _, .cons (d := d) (ds := ds) a r, e => by
    cases d <;> first | cases e | skip
    rename_i i
    have e : (isInts ds).map (i :: ·) = some _ := e
    cases q : isInts ds with
    | none => rw [q] at e; cases e
    | some ns =>
      rw [q] at e; cases e
      cases a
      rw [List.map_cons, ← RpA.ints r q]
theorem RpA.bools {K : PySem.W.Frag} {H : Hp} : ∀ {vs : List V} {ds : List PyData} {ns : List Bool}, RpA K H vs ds → isBools ds = some ns → vs = ns.map V.bl
  | _, _, _, .nil, e => by cases e; rfl
  | _, _, _, .cons (d := d) (ds := ds) a r, e => by
    cases d <;> first | cases e | skip
    rename_i i
    have e : (isBools ds).map (i :: ·) = some _ := e
    cases q : isBools ds with
    | none => rw [q] at e; cases e
    | some ns =>
      rw [q] at e; cases e
      cases a
      rw [List.map_cons, ← RpA.bools r q]
theorem foldl_min_eq : ∀ (r : List Int) (n m : Int), m ∈ n :: r → (∀ y ∈ n :: r, m ≤ y) → r.foldl min n = m
  | [], n, m, h, _ => by rcases List.mem_cons.mp h with e | e <;> first | exact e.symm | cases e
  | a :: r, n, m, h, l => by
    refine foldl_min_eq r (min n a) m ?_ fun y hy => ?_
    · have l1 := l n List.mem_cons_self
      have l2 := l a (List.mem_cons_of_mem _ List.mem_cons_self)
      rcases List.mem_cons.mp h with e | h
      · exact List.mem_cons.mpr (.inl (by omega))
      · rcases List.mem_cons.mp h with e | h
        · exact List.mem_cons.mpr (.inl (by omega))
        · exact List.mem_cons_of_mem _ h
    · rcases List.mem_cons.mp hy with e | h
      · have l1 := l n List.mem_cons_self
        have l2 := l a (List.mem_cons_of_mem _ List.mem_cons_self)
        omega
      · exact l y (List.mem_cons_of_mem _ (List.mem_cons_of_mem _ h))
theorem foldl_max_eq : ∀ (r : List Int) (n m : Int), m ∈ n :: r → (∀ y ∈ n :: r, y ≤ m) → r.foldl max n = m
  | [], n, m, h, _ => by rcases List.mem_cons.mp h with e | e <;> first | exact e.symm | cases e
  | a :: r, n, m, h, l => by
    refine foldl_max_eq r (max n a) m ?_ fun y hy => ?_
    · have l1 := l n List.mem_cons_self
      have l2 := l a (List.mem_cons_of_mem _ List.mem_cons_self)
      rcases List.mem_cons.mp h with e | h
      · exact List.mem_cons.mpr (.inl (by omega))
      · rcases List.mem_cons.mp h with e | h
        · exact List.mem_cons.mpr (.inl (by omega))
        · exact List.mem_cons_of_mem _ h
    · rcases List.mem_cons.mp hy with e | h
      · have l1 := l n List.mem_cons_self
        have l2 := l a (List.mem_cons_of_mem _ List.mem_cons_self)
        omega
      · exact l y (List.mem_cons_of_mem _ (List.mem_cons_of_mem _ h))
theorem sortI_eq {ns ns' : List Int} (p : ns'.Perm ns) (s : ns'.Pairwise (· ≤ ·)) : ns' = sortI ns := by
  refine List.Perm.eq_of_pairwise (le := (· ≤ ·)) (fun a b _ _ h1 h2 => by omega) s ?_ (p.trans (List.mergeSort_perm ns _).symm)
  have := List.pairwise_mergeSort (le := fun a b : Int => decide (a ≤ b)) (fun a b c h1 h2 => by simp only [decide_eq_true_eq] at *; omega) (fun a b => by simp only [Bool.or_eq_true, decide_eq_true_eq]; omega) ns
  exact this.imp fun h => of_decide_eq_true h
theorem RpA.ofI {K : PySem.W.Frag} {H : Hp} : ∀ ns : List Int, RpA K H (ns.map V.int) (ns.map PyData.int)
  | [] => .nil
  | n :: r => .cons (.int n) (RpA.ofI r)
def Bi.val : Bi → Value
  | .len => .builtin "len"
  | .abs => .builtin "abs"
  | .sum => .builtin "sum"
  | .maxN => .builtin "max"
  | .all => .builtin "all"
  | .any => .builtin "any"
  | .int => .type "int"
  | .repr => .builtin "repr"
  | .tuple => .type "tuple"
  | .list => .type "list"
  | .minL => .builtin "min"
  | .maxL => .builtin "max"
  | .sorted => .builtin "sorted"
theorem Bi.boot : ∀ b : Bi, bootBuiltins b.name = some b.val := by
  intro b; cases b <;> decide +kernel
section
variable {XR : Ex → Value → Option Addr → Hp → Prop} {fs : List FnT} {gl : List (Str × PyData)} {φ : Nat → List Va → Sto → Res Va} {n : Nat} {E : XK} {bs : Option Scope} {X : Cx}
theorem bi_wrap {b : Bi} {ta : T} {e : Expr} {r : List V → Hp → VK → Prop} (h : PE X e (tCB r (tCons (tE XR X.K φ E ta) tNil)))
    (hr : ∀ loc1 H1 x xa st1 d v Q, SR X.K H1 loc1 st1 → VR X.K H1 loc1 x xa → view st1 xa = some d → biF b d = some v → Post XR X.K (VE X.K) E loc1 H1 (.ok v st1) Q → r [x] H1 Q) : PE X e (tE XR X.K φ E (.bi b ta)) := by
  refine pe_imp h fun σ H Q ⟨loc, ρ, st, sr, er, post⟩ => ?_
  rw [evE] at post
  refine ⟨loc, ρ, st, sr, er, Post.imp (Post.bind (Rl := VE X.K) old_VE post) fun x H1 ⟨loc1, xa, st1, _, x1, s1, r1, p1⟩ => ?_⟩
  dsimp only at p1
  cases e1 : view st1 xa with
  | none => rw [e1] at p1; exact p1.elim
  | some d =>
    rw [e1] at p1
    dsimp only at p1
    cases e2 : biF b d with
    | none => rw [e2] at p1; exact p1.elim
    | some v =>
      rw [e2] at p1
      exact hr loc1 H1 x xa st1 d v Q s1 r1.1 e1 e2 p1
theorem e_bi (c : Cg XR fs gl φ n E bs X) {b : Bi} {x : Str} {p pos : Pos} {a : Expr} {kws : List Keyword} {ta : T} (hx : x = b.name) (hg : glB X.env.scope x = true) (hk : b.kws kws = true) (hp : plainE a = true) (ha : PE X a (tE XR X.K φ E ta)) :
    PE X (.Call (.Name x p) [a] kws pos) (tE XR X.K φ E (.bi b ta)) := by
  subst hx
  obtain ⟨g1, g2⟩ := glB_inv hg
  have hst := star_plain (es := []) (env := X.env) hp
  have pa : PA X [a] (tCons (tE XR X.K φ E ta) tNil) := pa_cons ha pa_nil hst
  have hm := c.bi b
  have hv := b.boot
  by_cases hb : b = .maxN
  · subst hb
    have hk : kwNone kws = true := hk
    unfold kwNone at hk
    split at hk
    · rename_i nm j q kp
      obtain rfl := of_decide_eq_true hk
      refine bi_wrap (pe_maxN c.calm c.room.units g1 hm hp ha) fun loc1 H1 y ya st1 d v Q s1 r1 e1 e2 p1 => ?_
      cases d <;> first | cases e2 | skip
      rename_i xs
      obtain ⟨p1', vs, rfl, q1, w⟩ := r1.list s1 e1
      have e2 : (isInts xs).map (fun ns => match ns with
        | [] => Va.dat .none
        | n :: r => .dat (.int (r.foldl max n))) = some v := e2
      cases q : isInts xs with
      | none => rw [q] at e2; cases e2
      | some ns =>
        rw [q] at e2
        cases e2
        refine ⟨p1', ns, rfl, by rw [← w.ints q]; exact q1, ?_⟩
        cases ns with
        | nil => exact Post.here p1 s1 (VE.dat .non)
        | cons m ns => exact Post.here p1 s1 (VE.dat (.int _))
    · cases hk
  · have hk : kws = [] := by
      cases b <;> first | exact absurd rfl hb | (exact List.isEmpty_iff.mp hk)
    subst hk
    have cb : ∀ {id : String} {r : List V → Hp → VK → Prop}, b.val = .builtin id → CallR X (.builtin id) r → PE X (.Call (.Name b.name p) [a] [] pos) (tCB r (tCons (tE XR X.K φ E ta) tNil)) := fun {id r} e hc =>
      pe_callB hc g1 hm (hv.trans (congrArg some e)) pa (by cases b <;> decide) g2 hst rfl
    have ct : ∀ {id : String} {r : List V → Hp → VK → Prop}, b.val = .type id → CallR X (.type id) r → PE X (.Call (.Name b.name p) [a] [] pos) (tCB r (tCons (tE XR X.K φ E ta) tNil)) := fun {id r} e hc =>
      pe_callTy hc g1 hm (hv.trans (congrArg some e)) pa (by cases b <;> decide) g2 hst rfl
    cases b with
    | len =>
      refine bi_wrap (cb rfl call_len_seq) fun loc1 H1 y ya st1 d v Q s1 r1 e1 e2 p1 => ?_
      cases d <;> first | cases e2 | skip
      · obtain ⟨p1', vs, rfl, q1, w⟩ := r1.list s1 e1
        exact ⟨p1', vs, rfl, .inl q1, by rw [w.length]; exact Post.here p1 s1 (VE.dat (.int _))⟩
      · obtain ⟨p1', vs, rfl, q1, w⟩ := r1.tuple s1 e1
        exact ⟨p1', vs, rfl, .inr q1, by rw [w.length]; exact Post.here p1 s1 (VE.dat (.int _))⟩
    | abs =>
      refine bi_wrap (cb rfl call_abs) fun loc1 H1 y ya st1 d v Q s1 r1 e1 e2 p1 => ?_
      cases d <;> first | cases e2 | skip
      exact ⟨_, by rw [r1.int s1 e1], Post.here p1 s1 (VE.dat (.int _))⟩
    | sum =>
      refine bi_wrap (cb rfl (cr_sum c.calm)) fun loc1 H1 y ya st1 d v Q s1 r1 e1 e2 p1 => ?_
      cases d <;> first | cases e2 | skip
      rename_i xs
      obtain ⟨p1', vs, rfl, q1, w⟩ := r1.list s1 e1
      have e2 : (isInts xs).map (fun ns => Va.dat (.int ns.sum)) = some v := e2
      cases q : isInts xs with
      | none => rw [q] at e2; cases e2
      | some ns =>
        rw [q] at e2
        cases e2
        exact ⟨p1', ns, rfl, by rw [← w.ints q]; exact q1, Post.here p1 s1 (VE.dat (.int _))⟩
    | maxN => exact absurd rfl hb
    | all =>
      refine bi_wrap (cb rfl (cr_all c.calm)) fun loc1 H1 y ya st1 d v Q s1 r1 e1 e2 p1 => ?_
      cases d <;> first | cases e2 | skip
      rename_i xs
      obtain ⟨p1', vs, rfl, q1, w⟩ := r1.list s1 e1
      have e2 : (isBools xs).map (fun ns => Va.dat (.bool (ns.all id))) = some v := e2
      cases q : isBools xs with
      | none => rw [q] at e2; cases e2
      | some ns =>
        rw [q] at e2
        cases e2
        exact ⟨p1', ns, rfl, by rw [← w.bools q]; exact q1, Post.here p1 s1 (VE.dat (.bl _))⟩
    | any =>
      refine bi_wrap (cb rfl (cr_any c.calm)) fun loc1 H1 y ya st1 d v Q s1 r1 e1 e2 p1 => ?_
      cases d <;> first | cases e2 | skip
      rename_i xs
      obtain ⟨p1', vs, rfl, q1, w⟩ := r1.list s1 e1
      have e2 : (isBools xs).map (fun ns => Va.dat (.bool (ns.any id))) = some v := e2
      cases q : isBools xs with
      | none => rw [q] at e2; cases e2
      | some ns =>
        rw [q] at e2
        cases e2
        exact ⟨p1', ns, rfl, by rw [← w.bools q]; exact q1, Post.here p1 s1 (VE.dat (.bl _))⟩
    | int =>
      refine bi_wrap (ct rfl call_int1) fun loc1 H1 y ya st1 d v Q s1 r1 e1 e2 p1 => ?_
      cases d <;> first | cases e2 | skip
      · have z := r1.data s1 e1
        cases z
        exact .inr ⟨_, rfl, Post.here p1 s1 (VE.dat (.int _))⟩
      · exact .inl ⟨_, by rw [r1.int s1 e1], Post.here p1 s1 (VE.dat (.int _))⟩
    | repr =>
      refine bi_wrap (cb rfl (cr_repr c.dg c.gu c.room.units)) fun loc1 H1 y ya st1 d v Q s1 r1 e1 e2 p1 => ?_
      have e2 : (if flatD 60 d = true ∧ wt d ≤ 16000000 then some (Va.dat (.str (PyData.shown d))) else none) = some v := by
        cases d <;> exact e2
      split at e2
      · rename_i z
        cases e2
        exact ⟨y, d, rfl, r1.data s1 e1, z.1, by omega, Post.here p1 s1 (VE.dat (.str _))⟩
      · cases e2
    | tuple =>
      refine bi_wrap (ct rfl call_tuple_of) fun loc1 H1 y ya st1 d v Q s1 r1 e1 e2 p1 => ?_
      cases d <;> first | cases e2 | skip
      · obtain ⟨p1', vs, rfl, q1, w⟩ := r1.list s1 e1
        exact ⟨p1', vs, rfl, .inl ⟨q1, fun l nn => Post.new p1 nn s1 (VE.tuple nn w)⟩⟩
      · obtain ⟨p1', vs, rfl, q1, w⟩ := r1.tuple s1 e1
        exact ⟨p1', vs, rfl, .inr ⟨q1, Post.here p1 s1 (VE.dat (.tup q1 w))⟩⟩
    | list =>
      refine bi_wrap (ct rfl call_list_of) fun loc1 H1 y ya st1 d v Q s1 r1 e1 e2 p1 => ?_
      cases d <;> first | cases e2 | skip
      · obtain ⟨p1', vs, rfl, q1, w⟩ := r1.list s1 e1
        exact ⟨p1', vs, rfl, .inl q1, fun l nn => Post.new p1 nn s1 (VE.list s1 nn w)⟩
      · obtain ⟨p1', vs, rfl, q1, w⟩ := r1.tuple s1 e1
        exact ⟨p1', vs, rfl, .inr q1, fun l nn => Post.new p1 nn s1 (VE.list s1 nn w)⟩
    | minL =>
      refine bi_wrap (cb rfl (cr_min c.calm)) fun loc1 H1 y ya st1 d v Q s1 r1 e1 e2 p1 => ?_
      cases d <;> first | cases e2 | skip
      rename_i xs
      obtain ⟨p1', vs, rfl, q1, w⟩ := r1.list s1 e1
      have e2 : (isInts xs).bind (fun ns => match ns with
        | [] => none
        | n :: r => some (Va.dat (.int (r.foldl min n)))) = some v := e2
      cases q : isInts xs with
      | none => rw [q] at e2; cases e2
      | some ns =>
        rw [q] at e2
        cases ns with
        | nil => cases e2
        | cons m ns =>
          cases e2
          refine ⟨p1', m :: ns, rfl, by rw [← w.ints q]; exact q1, Nat.succ_pos _, fun k hk hl => ?_⟩
          rw [foldl_min_eq ns m k hk hl] at p1
          exact Post.here p1 s1 (VE.dat (.int _))
    | maxL =>
      refine bi_wrap (cb rfl (cr_max c.calm)) fun loc1 H1 y ya st1 d v Q s1 r1 e1 e2 p1 => ?_
      cases d <;> first | cases e2 | skip
      rename_i xs
      obtain ⟨p1', vs, rfl, q1, w⟩ := r1.list s1 e1
      have e2 : (isInts xs).bind (fun ns => match ns with
        | [] => none
        | n :: r => some (Va.dat (.int (r.foldl max n)))) = some v := e2
      cases q : isInts xs with
      | none => rw [q] at e2; cases e2
      | some ns =>
        rw [q] at e2
        cases ns with
        | nil => cases e2
        | cons m ns =>
          cases e2
          refine ⟨p1', m :: ns, rfl, by rw [← w.ints q]; exact q1, Nat.succ_pos _, fun k hk hl => ?_⟩
          rw [foldl_max_eq ns m k hk hl] at p1
          exact Post.here p1 s1 (VE.dat (.int _))
    | sorted =>
      refine bi_wrap (cb rfl cr_sortedI) fun loc1 H1 y ya st1 d v Q s1 r1 e1 e2 p1 => ?_
      cases d <;> first | cases e2 | skip
      rename_i xs
      obtain ⟨p1', vs, rfl, q1, w⟩ := r1.list s1 e1
      have e2 : (isInts xs).map (fun ns => Va.new ((sortI ns).map fun n => .dat (.int n))) = some v := e2
      cases q : isInts xs with
      | none => rw [q] at e2; cases e2
      | some ns =>
        rw [q] at e2
        cases e2
        refine ⟨p1', ns, rfl, by rw [← w.ints q]; exact q1, fun ns' l pm pw nn => ?_⟩
        dsimp only at p1
        rw [← sortI_eq pm pw] at p1
        have z := VE.list s1 nn (RpA.ofI (K := X.K) (H := H1) ns')
        rw [List.map_map] at z
        exact Post.new p1 nn s1 z
theorem e_bi2 (c : Cg XR fs gl φ n E bs X) {b : Bi2} {x : Str} {p pos : Pos} {a a2 : Expr} {ta tb : T} (hx : x = b.name) (hg : glB X.env.scope x = true) (hp : plainE a = true) (hp2 : plainE a2 = true) (ha : PE X a (tE XR X.K φ E ta)) (hb : PE X a2 (tE XR X.K φ E tb)) :
    PE X (.Call (.Name x p) [a, a2] [] pos) (tE XR X.K φ E (.bi2 b ta tb)) := by
  subst hx
  obtain ⟨g1, g2⟩ := glB_inv hg
  have hst2 := star_plain (es := []) (env := X.env) hp2
  have hst := star_plain (es := [a2]) (env := X.env) hp
  have pa : PA X [a, a2] (tCons (tE XR X.K φ E ta) (tCons (tE XR X.K φ E tb) tNil)) := pa_cons ha (pa_cons hb pa_nil hst2) hst
  have back : (backTo pos (starEach [a2] X.env)).any (·.1) = false := back_plain (es := [a2]) (by simpa [allPlain] using hp2)
  have fin : ∀ {r : List V → Hp → VK → Prop}, PE X (.Call (.Name b.name p) [a, a2] [] pos) (tCB r (tCons (tE XR X.K φ E ta) (tCons (tE XR X.K φ E tb) tNil))) →
      (∀ i j k H Q, bi2F b (.int i) (.int j) = some (.int k) → Q (.int k) H → r [.int i, .int j] H Q) → PE X (.Call (.Name b.name p) [a, a2] [] pos) (tE XR X.K φ E (.bi2 b ta tb)) := fun {r} h hr => by
    refine pe_imp h fun σ H Q ⟨loc, ρ, st, sr, er, post⟩ => ?_
    rw [evE] at post
    refine ⟨loc, ρ, st, sr, er, Post.imp (Post.bind (Rl := VE X.K) old_VE post) fun x H1 ⟨loc1, xa, st1, _, x1, s1, r1, p1⟩ => ?_⟩
    refine ⟨loc1, ρ, st1, s1, er.mono x1, Post.imp (Post.bind (Rl := VE X.K) old_VE p1) fun y H2 ⟨loc2, ya, st2, _, x2, s2, r2, p2⟩ => ?_⟩
    have r1' := r1.1.mono x2
    cases xa with
    | ref _ => exact p2.elim
    | new _ => exact p2.elim
    | dat d =>
      cases ya with
      | ref _ => exact p2.elim
      | new _ => exact p2.elim
      | dat e =>
        dsimp only at p2
        have key : ∀ g, bi2F b d e = some g → ∃ i j k, d = .int i ∧ e = .int j ∧ g = .int k := fun g h => by
          cases b <;> cases d <;> cases e <;> first | (cases h; exact ⟨_, _, _, rfl, rfl, rfl⟩) | cases h
        cases q : bi2F b d e with
        | none => rw [q] at p2; exact p2.elim
        | some g =>
          rw [q] at p2
          obtain ⟨i, j, k, rfl, rfl, rfl⟩ := key g q
          have z1 : Rp X.K H2 x (.int i) := r1'
          have z2 : Rp X.K H2 y (.int j) := r2.1
          cases z1
          cases z2
          exact hr i j k H2 Q q (Post.here p2 s2 (VE.dat (.int k)))
  cases b with
  | min =>
    refine fin (pe_callB (call_min2 c.calm) g1 (c.bi .minL) PyProof.Rows.Boot.«min» pa (by decide) g2 hst back) fun i j k H Q e q => ⟨i, j, rfl, ?_⟩
    cases e
    exact q
  | max =>
    refine fin (pe_callB (call_max2 c.calm) g1 (c.bi .maxL) PyProof.Rows.Boot.«max» pa (by decide) g2 hst back) fun i j k H Q e q => ⟨i, j, rfl, ?_⟩
    cases e
    exact q
/-- a < b < c -/
theorem chain_to {o p : CmpO} {ta tb tc : T} {σ : L2.St} {H : Hp} {Q : VK} {l r z : Expr} (h : tE XR X.K φ E (.chain o p ta tb tc) σ H Q) : tChain (rCmp X.K o) (rCmp X.K p) (tE XR X.K φ E ta) (tE XR X.K φ E tb) (tE XR X.K φ E tc) σ H Q := by
  obtain ⟨loc, ρ, st, sr, er, post⟩ := h
  rw [evE] at post
  refine ⟨loc, ρ, st, sr, er, Post.imp (Post.bind (Rl := VE X.K) old_VE post) fun x H1 ⟨loc1, xa, st1, _, x1, s1, r1, p1⟩ => ?_⟩
  refine ⟨loc1, ρ, st1, s1, er.mono x1, Post.imp (Post.bind (Rl := VE X.K) old_VE p1) fun y H2 ⟨loc2, ya, st2, _, x2, s2, r2, p2⟩ => ?_⟩
  dsimp only at p2
  cases e1 : view st2 xa with
  | none => rw [e1] at p2; exact p2.elim
  | some d =>
    cases e2 : view st2 ya with
    | none => rw [e1, e2] at p2; exact p2.elim
    | some e =>
      rw [e1, e2] at p2
      dsimp only at p2
      cases q : opCmp o d e with
      | none => rw [q] at p2; exact p2.elim
      | some k =>
        rw [q] at p2
        refine ⟨d, e, k, (r1.1.mono x2).data s2 e1, r2.1.data s2 e2, q, k, rfl, ?_⟩
        cases k with
        | false => rw [if_neg Bool.false_ne_true]; exact Post.here p2 s2 (VE.dat (.bl _))
        | true =>
          rw [if_pos rfl]
          dsimp only at p2
          refine ⟨loc2, ρ, st2, s2, (er.mono x1).mono x2, Post.imp (Post.bind (Rl := VE X.K) old_VE p2) fun z H3 ⟨loc3, za, st3, _, x3, s3, r3, p3⟩ => ?_⟩
          obtain ⟨d3, e3, a3, v1, v2, w, p3⟩ := view_two p3
          cases q3 : opCmp p d3 e3 with
          | none => rw [q3] at w; cases w
          | some k3 =>
            rw [q3] at w
            cases w
            exact ⟨d3, e3, k3, (r2.1.mono x3).data s3 v1, r3.1.data s3 v2, q3, Post.here p3 s3 (VE.dat (.bl k3))⟩
theorem e_chain {o p : CmpO} {op op' : CmpOp} {ta tb tc : T} {l x y : Expr} {ps : Pos} (hr : Room n X.A) (h1 : cmpB o op = true) (h2 : cmpB p op' = true) (hx : plainE x = true) (hy : plainE y = true) (ha : PE X l (tE XR X.K φ E ta)) (hb : PE X x (tE XR X.K φ E tb))
    (hc : PE X y (tE XR X.K φ E tc)) : PE X (.Compare l [op, op'] [x, y] ps) (tE XR X.K φ E (.chain o p ta tb tc)) :=
  pe_imp (pe_chain (op_cmp hr h1) (op_cmp hr h2) ha hb hc (last_plain hx hy)) fun σ H Q h => chain_to (l := l) (r := x) (z := y) h
theorem t_chain {o p : CmpO} {op op' : CmpOp} {ta tb tc : T} {l x y : Expr} {ps : Pos} (hr : Room n X.A) (h1 : cmpB o op = true) (h2 : cmpB p op' = true) (hx : plainE x = true) (hy : plainE y = true) (ha : PE X l (tE XR X.K φ E ta)) (hb : PE X x (tE XR X.K φ E tb))
    (hc : PE X y (tE XR X.K φ E tc)) : PT X (.Compare l [op, op'] [x, y] ps) (tT XR X.K φ E (.chain o p ta tb tc)) := by
  refine pt_imp (pt_chain (op_cmp hr h1) (op_cmp hr h2) ha hb hc (last_plain hx hy)) fun σ H Q ⟨loc, ρ, st, sr, er, post⟩ => ?_
  refine chain_to (l := l) (r := x) (z := y) ⟨loc, ρ, st, sr, er, ?_⟩
  rw [evT] at post
  rw [evE]
  cases q1 : evE φ ta ρ st with
  | exc e s => rw [q1] at post; exact post
  | stuck => rw [q1] at post; exact post.elim
  | ok xa st1 =>
    rw [q1] at post
    simp only [Res.bind_ok] at post ⊢
    cases q2 : evE φ tb ρ st1 with
    | exc e s => rw [q2] at post; exact post
    | stuck => rw [q2] at post; exact post.elim
    | ok ya st2 =>
      rw [q2] at post
      simp only [Res.bind_ok] at post ⊢
      cases e1 : view st2 xa with
      | none => rw [e1] at post; exact post.elim
      | some d =>
        cases e2 : view st2 ya with
        | none => rw [e1, e2] at post; exact post.elim
        | some e =>
          rw [e1, e2] at post
          simp only at post ⊢
          cases q : opCmp o d e with
          | none => rw [q] at post; exact post.elim
          | some k =>
            rw [q] at post
            cases k with
            | false =>
              simp only at post ⊢
              intro b H' loc' x' s' r'
              have z : Rp X.K H' b (.bool false) := r'.1
              cases z
              exact ⟨false, rfl, post false H' loc' x' s' rfl⟩
            | true =>
              simp only at post ⊢
              cases q3 : evE φ tc ρ st2 with
              | exc e s => rw [q3] at post; exact post
              | stuck => rw [q3] at post; exact post.elim
              | ok za st3 =>
                rw [q3] at post
                simp only [Res.bind_ok] at post ⊢
                cases e3 : view st3 ya with
                | none => rw [e3] at post; exact post.elim
                | some d3 =>
                  cases e4 : view st3 za with
                  | none => rw [e3, e4] at post; exact post.elim
                  | some g3 =>
                    rw [e3, e4] at post
                    simp only at post ⊢
                    cases q5 : opCmp p d3 g3 with
                    | none => rw [q5] at post; exact post.elim
                    | some k5 =>
                      rw [q5] at post
                      intro b H' loc' x' s' r'
                      have z : Rp X.K H' b (.bool k5) := r'.1
                      cases z
                      exact ⟨k5, rfl, post k5 H' loc' x' s' rfl⟩
theorem VIs.rev {K : PySem.W.Frag} {H : Hp} {loc : Loc} {vs : List V} {xs : List Va} (h : VIs K H loc vs xs) : VIs K H loc vs.reverse xs.reverse := by
  have app : ∀ {vs : List V} {xs : List Va} {ws : List V} {ys : List Va}, VIs K H loc vs xs → VIs K H loc ws ys → VIs K H loc (vs ++ ws) (xs ++ ys) := by
    intro vs xs ws ys h1 h2
    induction h1 with
    | nil => exact h2
    | cons a r ih => exact .cons a ih
  induction h with
  | nil => exact .nil
  | cons a r ih => rw [List.reverse_cons, List.reverse_cons]; exact app ih (.cons a .nil)
/-! ### places -/
theorem VIs.get {K : PySem.W.Frag} {H : Hp} {loc : Loc} : ∀ {vs : List V} {xs : List Va}, VIs K H loc vs xs → ∀ (i : Nat) (x : Va), xs[i]? = some x → ∃ v, vs[i]? = some v ∧ VI K H loc v x
  | _, _, .nil, i, x, e => by simp at e
  | _, _, .cons (a := a) r t, 0, x, e => by cases e; exact ⟨a, rfl, r⟩
  | _, _, .cons r t, i + 1, x, e => by
    obtain ⟨v, q1, q2⟩ := VIs.get t i x (by simpa using e)
    exact ⟨v, by simpa using q1, q2⟩
theorem VIs.atI {K : PySem.W.Frag} {H : Hp} {loc : Loc} {vs : List V} {xs : List Va} (h : VIs K H loc vs xs) {i : Int} {x : Va} (e : L2.atI xs i = some x) : ∃ v, L2.atI vs i = some v ∧ VI K H loc v x := by
  unfold L2.atI at e ⊢
  rw [VIs.len h]
  cases q : ixN xs.length i with
  | none => rw [q] at e; cases e
  | some j => rw [q] at e; exact VIs.get h j x e
theorem VIs.cut {K : PySem.W.Frag} {H : Hp} {loc : Loc} {vs : List V} {xs : List Va} (h : VIs K H loc vs xs) (lo hi : Option Int) : VIs K H loc (cutV vs lo hi) (cut xs lo hi) := by
  have dr : ∀ {vs : List V} {xs : List Va} (n : Nat), VIs K H loc vs xs → VIs K H loc (vs.drop n) (xs.drop n) := by
    intro vs xs n h
    induction h generalizing n with
    | nil => cases n <;> exact .nil
    | cons a r ih => cases n with
      | zero => exact .cons a r
      | succ n => exact ih n
  have tk : ∀ {vs : List V} {xs : List Va} (n : Nat), VIs K H loc vs xs → VIs K H loc (vs.take n) (xs.take n) := by
    intro vs xs n h
    induction h generalizing n with
    | nil => cases n <;> exact .nil
    | cons a r ih => cases n with
      | zero => exact .nil
      | succ n => exact .cons a (ih n)
  unfold cutV RS.cut
  rw [VIs.len h]
  exact tk _ (dr _ h)
theorem e_idx {ta ti : T} {a i : Expr} {p : Pos} (hp : plainE i = true) (ha : PE X a (tE XR X.K φ E ta)) (hi : PE X i (tE XR X.K φ E ti)) : PE X (.Subscript a i p) (tE XR X.K φ E (.idx ta ti)) := by
  refine pe_imp (pe_ix ix_seq ha hi (ix_plain hp)) fun σ H Q ⟨loc, ρ, st, sr, er, post⟩ => ?_
  rw [evE] at post
  refine two (l := a) (r := i) sr er post fun loc2 H2 x y xa ya st2 s2 r1 r2 p2 => ?_
  cases ya with
  | dat d =>
    dsimp only at p2
    cases q : opIdx st2 xa d with
    | none => rw [q] at p2; exact p2.elim
    | some v =>
      rw [q] at p2
      unfold opIdx at q
      cases d <;> first | cases q | skip
      rename_i k
      have q : (itemsOf st2 xa).bind (fun xs => L2.atI xs k) = some v := q
      cases q2 : itemsOf st2 xa with
      | none => rw [q2] at q; cases q
      | some xs =>
        rw [q2] at q
        have q : L2.atI xs k = some v := q
        cases r2
        obtain ⟨p', vs, rfl, hq, w⟩ := r1.items s2 q2
        obtain ⟨u, f1, f2⟩ := VIs.atI w q
        have fin := Post.here p2 s2 (VE.of f2)
        rcases hq with hq | ⟨hq, _⟩
        · exact .inl ⟨p', vs, k, u, rfl, rfl, hq, f1, fin⟩
        · exact .inr (.inl ⟨p', vs, k, u, rfl, rfl, hq, f1, fin⟩)
  | ref _ => exact p2.elim
  | new _ => exact p2.elim
/-- a slice's part -/
def tPartN (t : TE) : TO := fun σ H Q => t σ H fun x H1 => (∃ i, x = .int i ∧ Q (some i) H1) ∨ (x = .non ∧ Q none H1)
theorem po_any {e : Expr} {te : TE} (h : PE X e te) : PO X (some e) (tPartN te) := by
  refine ⟨fun pins s σ H Q I hw => ?_⟩
  rw [evalPart_some]
  refine thn (h.run pins s σ H _ I hw) fun u s1 ⟨x, H1, I1, r1, q1⟩ => ?_
  rcases q1 with ⟨i, rfl, q⟩ | ⟨rfl, q⟩
  · obtain ⟨t, rfl⟩ := r1
    exact ⟨some i, H1, I1, .int i t, q⟩
  · cases r1
    exact ⟨none, H1, I1, .none, q⟩
/-- .. of a slice: left out, or written -/
def tPt (XR : Ex → Value → Option Addr → Hp → Prop) (K : PySem.W.Frag) (φ : Nat → List Va → Sto → Res Va) (E : XK) (t : T) : TO := fun σ H Q => ∃ loc ρ st, SR K H loc st ∧ ER K H loc ρ σ ∧ Post XR K (VE K) E loc H (evE φ t ρ st) fun x H1 => (∃ i, x = .int i ∧ Q (some i) H1) ∨ (x = .non ∧ Q none H1)
theorem po_t {t : T} {o : Option Expr} (h : (isNopart t = true ∧ o = none) ∨ ∃ e, o = some e ∧ PE X e (tE XR X.K φ E t)) : PO X o (tPt XR X.K φ E t) := by
  rcases h with ⟨h, rfl⟩ | ⟨e, rfl, h⟩
  · cases t <;> first | cases h | skip
    refine ⟨fun pins s σ H Q I ⟨loc, ρ, st, sr, er, post⟩ => po_none.run pins s σ H Q I ?_⟩
    rw [evE] at post
    have z := Post.here (b := V.non) post sr (VE.dat .non)
    rcases z with ⟨i, e, _⟩ | ⟨_, z⟩
    · cases e
    · exact z
  · exact po_any h
theorem part_inv {a : Va} {l : Option Int} {x : V} {K : PySem.W.Frag} {H0 H : Hp} {loc : Loc} (r : VE K H0 H loc x a) (e : partV a = some l) {Q : Option Int → Hp → Prop} (q : Q l H) : (∃ i, x = .int i ∧ Q (some i) H) ∨ (x = .non ∧ Q none H) := by
  cases a with
  | ref _ => cases e
  | new _ => cases e
  | dat d =>
  have r : Rp K H x d := r.1
  cases d <;> cases e
  · cases r; exact .inr ⟨rfl, q⟩
  · cases r; exact .inl ⟨_, rfl, q⟩
theorem cut_all {α : Type} {xs : List α} {lo hi : Option Int} (h : HT.sIx xs.length 0 lo = 0 ∧ HT.sIx xs.length xs.length hi = xs.length) : cut xs lo hi = xs := by
  unfold cut
  rw [h.1, h.2, List.drop_zero, Nat.sub_zero, List.take_length]
theorem map_cut {α β : Type} (f : α → β) (xs : List α) (lo hi : Option Int) : cut (xs.map f) lo hi = (cut xs lo hi).map f := by
  unfold cut
  rw [List.length_map, List.map_take, List.map_drop]
theorem RpA.of_vis {K : PySem.W.Frag} {H : Hp} {loc : Loc} : ∀ {vs : List V} {ds : List PyData}, VIs K H loc vs (ds.map .dat) → RpA K H vs ds
  | _, [], h => by cases h; exact .nil
  | _, d :: ds, h => by
    cases h with
    | cons a r => exact .cons a (RpA.of_vis r)
theorem e_rev {ta : T} {a : Expr} {j : Nat} {p p1 p2 p3 : Pos} (ha : PE X a (tE XR X.K φ E ta)) : PE X (.Subscript a (.Slice none none (some (.UnaryOp .USub (.Constant (.int 1) j p1) p2)) p3) p) (tE XR X.K φ E (.rev ta)) := by
  refine pe_imp (pe_revA ha) fun σ H Q ⟨loc, ρ, st, sr, er, post⟩ => ?_
  rw [evE] at post
  refine ⟨loc, ρ, st, sr, er, Post.imp (Post.bind (Rl := VE X.K) old_VE post) fun x H1 ⟨loc1, xa, st1, _, x1, s1, r1, p1⟩ => ?_⟩
  dsimp only at p1
  cases hl : isLstV xa with
  | false =>
    rw [hl] at p1
    dsimp only at p1
    cases q : tupV xa with
    | none => rw [q] at p1; exact p1.elim
    | some ds =>
      rw [q] at p1
      dsimp only at p1
      have ex : xa = .dat (.tuple ds) := by
        unfold tupV at q
        split at q
        · cases q; rfl
        · cases q
      subst ex
      obtain ⟨p', vs, rfl, hq, w⟩ := r1.1.tuple s1 (ds := ds) rfl
      have w2 : RpA X.K H1 vs.reverse ds.reverse := RpA.of_vis (loc := loc1) (by rw [List.map_reverse]; exact VIs.rev (w.vis (loc := loc1)))
      exact ⟨p', vs, rfl, .inr ⟨hq, fun pp nn => Post.new p1 nn s1 (VE.tuple nn w2)⟩⟩
  | true =>
    rw [hl] at p1
    dsimp only at p1
    cases q : itemsOf st1 xa with
    | none => rw [q] at p1; exact p1.elim
    | some xs =>
      rw [q] at p1
      dsimp only at p1
      obtain ⟨p', vs, rfl, hq, w⟩ := r1.1.items s1 q
      rcases hq with hq | ⟨_, ds, e⟩
      · exact ⟨p', vs, rfl, .inl ⟨hq, fun pp nn => Post.new p1 nn s1 ⟨⟨pp, _, rfl, upd_same, SR.fresh s1 nn, VIs.put nn (VIs.rev w)⟩, fun ys _ q e => by cases e; exact nn⟩⟩⟩
      · subst e; cases hl
theorem e_slc {ta tl th : T} {a : Expr} {lo hi : Option Expr} {p p2 : Pos} (ha : PE X a (tE XR X.K φ E ta)) (hl : (isNopart tl = true ∧ lo = none) ∨ ∃ e, lo = some e ∧ PE X e (tE XR X.K φ E tl))
    (hh : (isNopart th = true ∧ hi = none) ∨ ∃ e, hi = some e ∧ PE X e (tE XR X.K φ E th)) : PE X (.Subscript a (.Slice lo hi none p2) p) (tE XR X.K φ E (.slc ta tl th)) := by
  refine pe_imp (pe_slice (SlR.or sl_list sl_tupA) ha (po_t hl) (po_t hh)) fun σ H Q ⟨loc, ρ, st, sr, er, post⟩ => ?_
  rw [evE] at post
  refine ⟨loc, ρ, st, sr, er, Post.imp (Post.bind (Rl := VE X.K) old_VE post) fun x H1 ⟨loc1, xa, st1, _, x1, s1, r1, p1⟩ => ?_⟩
  refine ⟨loc1, ρ, st1, s1, er.mono x1, Post.imp (Post.bind (Rl := VE X.K) old_VE p1) fun y H2 ⟨loc2, ya, st2, _, x2, s2, r2, p2⟩ => ?_⟩
  dsimp only at p2
  cases e1 : partV ya with
  | none => rw [e1] at p2; exact p2.elim
  | some l =>
    rw [e1] at p2
    dsimp only at p2
    refine part_inv r2 e1 (Q := fun l H2 => tPt XR X.K φ E th σ H2 fun u H3 => rSlL X.K x l u H3 Q ∨ rSlA X.K x l u H3 Q) ?_
    refine ⟨loc2, ρ, st2, s2, (er.mono x1).mono x2, Post.imp (Post.bind (Rl := VE X.K) old_VE p2) fun z H3 ⟨loc3, za, st3, _, x3, s3, r3, p3⟩ => ?_⟩
    dsimp only at p3
    cases e2 : partV za with
    | none => rw [e2] at p3; exact p3.elim
    | some u =>
          rw [e2] at p3
          dsimp only at p3
          refine part_inv r3 e2 (Q := fun u H3 => rSlL X.K x l u H3 Q ∨ rSlA X.K x l u H3 Q) ?_
          have r1' := (r1.1.mono x2).mono x3
          cases q : opSlc st3 xa l u with
          | none => rw [q] at p3; exact p3.elim
          | some v =>
            rw [q] at p3
            have key : (∃ xs, xa = .dat (.tuple xs) ∧ v = .dat (.tuple (cut xs l u))) ∨ ∃ xs, (∀ ds, xa ≠ .dat (.tuple ds)) ∧ itemsOf st3 xa = some xs ∧ v = .new (cut xs l u) := by
              unfold opSlc at q
              split at q
              · cases q; exact .inl ⟨_, rfl, rfl⟩
              · rename_i nt
                cases q3 : itemsOf st3 xa with
                | none => rw [q3] at q; cases q
                | some xs => rw [q3] at q; cases q; exact .inr ⟨xs, nt, rfl, rfl⟩
            rcases key with ⟨xs, rfl, rfl⟩ | ⟨xs, nt, q3, rfl⟩
            · obtain ⟨p', vs, rfl, hq, w⟩ := r1'.tuple s3 rfl
              refine .inr ⟨p', vs, rfl, hq, fun all => ?_, fun _ pp nn => ?_⟩
              · rw [w.length] at all
                rw [cut_all all] at p3
                exact Post.here p3 s3 (VE.dat (.tup hq w))
              · have w2 := RpA.of_vis (ds := cut xs l u) (by rw [← map_cut]; exact VIs.cut (w.vis (loc := loc3)) l u)
                exact Post.new p3 nn s3 (VE.tuple nn w2)
            · obtain ⟨p', vs, rfl, hq, w⟩ := r1'.items s3 q3
              rcases hq with hq | ⟨_, ds, e⟩
              · refine .inl ⟨p', vs, rfl, hq, fun pp nn => Post.new p3 nn s3 ⟨⟨pp, _, rfl, upd_same, SR.fresh s3 nn, VIs.put nn (VIs.cut w l u)⟩, fun ys _ q e => by cases e; exact nn⟩⟩
              · exact absurd e (nt ds)
/-! ### methods -/
theorem isLst_inv {loc : Loc} {H H0 : Hp} {st : Sto} {x : V} {a : Va} (s : SR X.K H loc st) (r : VE X.K H0 H loc x a) (h : isLst st a = true) : tyV X.K "list" x H := by
  cases a with
  | dat _ => cases h
  | new _ => cases h
  | ref k =>
    have h : (cellItems st[k]?).isSome = true := h
    obtain ⟨xs, e⟩ := Option.isSome_iff_exists.mp h
    obtain ⟨p, vs, rfl, q, _⟩ := VR.items s r.1 (show itemsOf st (.ref k) = some xs from e)
    rcases q with q | ⟨_, ds, z⟩
    · exact .inl ⟨rfl, _, q⟩
    · cases z
theorem cell_inv {loc : Loc} {H : Hp} {st : Sto} {x : V} {k : Nat} {xs : List Va} (s : SR X.K H loc st) (r : VR X.K H loc x (.ref k)) (e : st[k]? = some (.lst xs)) : ∃ a vs, x = .ref a ∧ loc[k]? = some (some a) ∧ H a = some (.lst vs) ∧ VIs X.K H loc vs xs ∧ xs.all (·.low k) = true := by
  obtain ⟨a, vs, e1, e2, e3, e4⟩ := s.cell k _ e
  exact ⟨a, vs, r.2 a e1, e1, e2, e3, e4⟩
theorem e_app {ta tx : T} {o y : Expr} {apos pos : Pos} (ho : notCall o = true) (hl : apos.endLine = pos.line) (hp : plainE y = true) (ha : PE X o (tE XR X.K φ E ta)) (hx : PE X y (tE XR X.K φ E tx)) :
    PE X (.Call (.Attribute o "append" apos) [y] [] pos) (tE XR X.K φ E (.app ta tx)) := by
  have hst := star_plain (es := []) (env := X.env) hp
  refine pe_imp (pe_bm PySem.F.plainAttrs_list PySem.F.slot_list_append PySem.F.type_list_append mt_append ha (pa_cons hx pa_nil hst) (base_plain ho) (by rw [hst]; rfl) (by simpa using hl) hst rfl) fun σ H Q ⟨loc, ρ, st, sr, er, post⟩ => ?_
  rw [evE] at post
  refine ⟨loc, ρ, st, sr, er, Post.imp (Post.bind (Rl := VE X.K) old_VE post) fun x H1 ⟨loc1, xa, st1, _, x1, s1, r1, p1⟩ => ?_⟩
  dsimp only at p1
  split at p1
  · rename_i hi
    refine ⟨isLst_inv s1 r1 hi, loc1, ρ, st1, s1, er.mono x1, Post.imp (Post.bind (Rl := VE X.K) old_VE p1) fun z H2 ⟨loc2, za, st2, _, x2, s2, r2, p2⟩ => ?_⟩
    have r1' := r1.1.mono x2
    cases xa with
    | dat _ => cases hi
    | new _ => cases hi
    | ref k =>
      dsimp only at p2
      unfold appV at p2
      cases e : st2[k]? with
      | none => simp only [e] at p2; exact p2.elim
      | some cc =>
        cases cc with
        | dead => simp only [e] at p2; exact p2.elim
        | lst xs =>
          simp only [e] at p2
          split at p2
          · rename_i hz
            obtain ⟨a, vs, rfl, f1, f2, f3, f4⟩ := cell_inv s2 r1' e
            have l1 := VIs.len f3
            refine ⟨a, vs, z, rfl, rfl, f2, by rw [sl_eq]; omega, ?_⟩
            have vz : VI X.K H2 loc2 z za := by
              cases za with
              | dat d => exact r2.1
              | ref j => exact r2.1
              | new _ => cases hz.1
            have xx : Ext loc2 H2 (upd H2 a (.lst (vs ++ [z]))) loc2 := Ext.chg Ext.refl f2 (.inl (List.mem_of_getElem? f1))
            refine p2 .non _ loc2 xx (s2.write e f1 f2 (Paired.app f3 (.cons vz .nil)) ?_) (VE.dat .non)
            rw [List.all_append, f4, List.all_cons, hz.1]; rfl
          · exact p2.elim
  · exact p1.elim
theorem erase_vi {K : PySem.W.Frag} {H : Hp} {loc : Loc} : ∀ {vs : List V} {xs : List Va} (i : Nat), VIs K H loc vs xs → VIs K H loc (vs.eraseIdx i) (xs.eraseIdx i)
  | _, _, _, .nil => .nil
  | _, _, 0, .cons _ t => t
  | _, _, i + 1, .cons r t => .cons r (erase_vi i t)
theorem all_erase {xs : List Va} {k i : Nat} (h : xs.all (·.low k) = true) : (xs.eraseIdx i).all (·.low k) = true := List.all_eq_true.mpr fun x m => List.all_eq_true.mp h x (List.mem_of_mem_eraseIdx m)
theorem e_popAt {ta tx : T} {o y : Expr} {apos pos : Pos} (ho : notCall o = true) (hl : apos.endLine = pos.line) (hp : plainE y = true) (ha : PE X o (tE XR X.K φ E ta)) (hx : PE X y (tE XR X.K φ E tx)) :
    PE X (.Call (.Attribute o "pop" apos) [y] [] pos) (tE XR X.K φ E (.popAt ta tx)) := by
  have hst := star_plain (es := []) (env := X.env) hp
  refine pe_imp (pe_bm PySem.F.plainAttrs_list PySem.F.slot_list_pop PySem.F.type_list_pop mt_popAt ha (pa_cons hx pa_nil hst) (base_plain ho) (by rw [hst]; rfl) (by simpa using hl) hst rfl) fun σ H Q ⟨loc, ρ, st, sr, er, post⟩ => ?_
  rw [evE] at post
  refine ⟨loc, ρ, st, sr, er, Post.imp (Post.bind (Rl := VE X.K) old_VE post) fun x H1 ⟨loc1, xa, st1, _, x1, s1, r1, p1⟩ => ?_⟩
  dsimp only at p1
  split at p1
  · rename_i hi
    refine ⟨isLst_inv s1 r1 hi, loc1, ρ, st1, s1, er.mono x1, Post.imp (Post.bind (Rl := VE X.K) old_VE p1) fun z H2 ⟨loc2, za, st2, ev2, x2, s2, r2, p2⟩ => ?_⟩
    have r1' := r1.1.mono x2
    cases xa with
    | dat _ => cases hi
    | new _ => cases hi
    | ref k =>
      cases za with
      | ref _ => exact p2.elim
      | new _ => exact p2.elim
      | dat d =>
      replace r2 : Rp X.K H2 z d := r2.1
      dsimp only at p2
      unfold popV at p2
      clear ev2
      cases d <;> first | exact p2.elim | skip
      rename_i i
      cases r2
      cases e : st2[k]? with
      | none => simp only [e] at p2; exact p2.elim
      | some cc =>
        cases cc with
        | dead => simp only [e] at p2; exact p2.elim
        | lst xs =>
          simp only [e] at p2
          split at p2
          · rename_i hz
            cases e2 : xs[i.toNat]? with
            | none => simp only [e2] at p2; exact p2.elim
            | some w =>
              simp only [e2] at p2
              obtain ⟨a, vs, rfl, f1, f2, f3, f4⟩ := cell_inv s2 r1' e
              have l1 := VIs.len f3
              obtain ⟨u, g1, g2⟩ := VIs.get f3 _ _ e2
              have hlt : i.toNat < vs.length := (List.getElem?_eq_some_iff.mp g1).1
              have hsi : seqIndex? i vs.length = some i.toNat := by
                refine (ixN_seq ?_).1
                unfold ixN
                rw [if_pos hz.1, if_pos (by omega)]
              refine ⟨a, vs, i, i.toNat, u, rfl, rfl, f2, by omega, by omega, hsi, g1, ?_⟩
              have xx : Ext loc2 H2 (upd H2 a (.lst (vs.eraseIdx i.toNat))) loc2 := Ext.chg Ext.refl f2 (.inl (List.mem_of_getElem? f1))
              exact p2 u _ loc2 xx (s2.write e f1 f2 (erase_vi _ f3) (all_erase f4)) (VE.of (g2.mono xx))
          · exact p2.elim
  · exact p1.elim

/-! ### a list becomes a cell, or known for good -/
theorem e_mut {t : T} {e : Expr} (h : PE X e (tE XR X.K φ E t)) : PE X e (tE XR X.K φ E (.mut t)) := by
  refine pe_imp h fun σ H Q ⟨loc, ρ, st, sr, er, post⟩ => ?_
  rw [evE] at post
  refine ⟨loc, ρ, st, sr, er, ?_⟩
  cases q : evE φ t ρ st with
  | ok v st1 =>
    rw [q] at post
    intro b H' loc' x s l
    have post : Post XR X.K (VE X.K) E loc H (mutV v st1) Q := post
    cases v with
    | dat _ => exact post.elim
    | ref _ => exact post.elim
    | new xs =>
      unfold mutV at post
      dsimp only at post
      split at post
      · rename_i hl
        obtain ⟨⟨a, vs, rfl, ha, hn, r⟩, hf⟩ := l
        have h0 := hf xs rfl a rfl
        have hlen := s.len
        refine post (.ref a) H' (loc' ++ [some a]) (x.add h0) (s.add hn ha r hl) (VE.of ⟨by rw [List.length_append, hlen]; simp, fun c e => ?_⟩)
        rw [← hlen, List.getElem?_append_right (Nat.le_refl _), Nat.sub_self] at e
        cases e; rfl
      · exact post.elim
  | exc e st1 => rw [q] at post; exact post
  | stuck => rw [q] at post; exact post
theorem e_frz {t : T} {e : Expr} (h : PE X e (tE XR X.K φ E t)) : PE X e (tE XR X.K φ E (.frz t)) := by
  refine pe_imp (pe_ghost h) fun σ H Q ⟨loc, ρ, st, sr, er, post⟩ => ?_
  rw [evE] at post
  refine ⟨loc, ρ, st, sr, er, ?_⟩
  cases q : evE φ t ρ st with
  | ok v st1 =>
    rw [q] at post
    intro b H' loc' x s l
    have post : Post XR X.K (VE X.K) E loc H (frzV v st1) Q := post
    cases v with
    | dat d => exact .inl (post b H' loc' x s l)
    | new xs =>
      unfold frzV at post
      cases e1 : undat xs with
      | none => simp only [e1] at post; exact post.elim
      | some ds =>
        simp only [e1] at post
        obtain ⟨⟨a, vs, rfl, ha, hn, r⟩, hf⟩ := l
        refine .inr ⟨a, vs, ha, fun o => ?_⟩
        have xx : Ext loc H (upd H' a (.frz o (.lst vs))) loc' := Ext.chg x ha (.inr (hf xs rfl a rfl))
        have xy : Ext [some a] H' (upd H' a (.frz o (.lst vs))) [some a] := Ext.chg Ext.refl ha (.inl (by simp))
        exact post (.ref a) _ loc' xx (s.other ha hn) (VE.dat (.lst (.inl ⟨o, upd_same⟩) (RpA.mono xy (VIs.undat r e1))))
    | ref k =>
      unfold frzV at post
      cases e0 : st1[k]? with
      | none => simp only [e0] at post; exact post.elim
      | some cc =>
        cases cc with
        | dead => simp only [e0] at post; exact post.elim
        | lst xs =>
          simp only [e0] at post
          cases e1 : undat xs with
          | none => simp only [e1] at post; exact post.elim
          | some ds =>
            simp only [e1] at post
            obtain ⟨a, vs, rfl, f1, f2, f3, f4⟩ := cell_inv s l.1 e0
            refine .inr ⟨a, vs, f2, fun o => ?_⟩
            have mem := List.mem_of_getElem? f1
            have xx : Ext loc H (upd H' a (.frz o (.lst vs))) (loc'.set k none) := (Ext.chg x f2 (x.sub _ mem)).drop
            have xy : Ext loc' H' (upd H' a (.frz o (.lst vs))) loc' := Ext.chg Ext.refl f2 (.inl mem)
            exact post (.ref a) _ _ xx (s.die e0 f1 f2) (VE.dat (.lst (.inl ⟨o, upd_same⟩) (VIs.undat (VIs.mono xy f3) e1)))
  | exc e st1 => rw [q] at post; exact post
  | stuck => rw [q] at post; exact post

/-! ### tests of values -/
theorem t_val {t : T} {e : Expr} (h : PE X e (tE XR X.K φ E t)) (he : ∀ whole, isTrue e X.env whole = (do let v ← whole; standAt e.pos; holding [v] (truthy v))) (hv : ∀ ρ st, evT φ t ρ st = (evE φ t ρ st).bind fun v st1 => .of (asBool v) st1) : PT X e (tT XR X.K φ E t) := by
  refine pt_imp (pt_val h he) fun σ H Q ⟨loc, ρ, st, sr, er, post⟩ => ?_
  rw [hv] at post
  refine ⟨loc, ρ, st, sr, er, Post.imp (Post.bind (Rl := VE X.K) old_BE post) fun x H1 ⟨loc1, xa, st1, _, x1, s1, r1, p1⟩ => ?_⟩
  dsimp only at p1
  cases e : asBool xa with
  | none => rw [e] at p1; exact p1.elim
  | some c =>
    obtain ⟨rfl, rfl⟩ := bool_inv r1 e
    rw [e] at p1
    exact ⟨c, rfl, Post.here p1 s1 rfl⟩
end
end RS

/-! RSK: sorted(xs, key=f), f a def of the module. -/
namespace RS
open PySem
open PySem.Spec
open L2
open PyProof.Rows (ksk_tree ksk_rest ksk_end ksk_fold ksk_t1 ksk_s1 ksk_l1 listUpdate_at listItems_at seqEpoch_at get?_update_seq seqObj)
open PySem.W (keyH_end KeepsBut SortsAt EachIs AllAlike Sortable dataLe dataKind sorted_of_sort copyHeap copyHeap_at copyHeap_old sortingHeap sortingHeap_old keyedOut_each KeyedOut sortVals)
abbrev lsO (xs : Array Value) (e : Nat) : Obj := seqObj "list" xs e
abbrev lsT (xs : Array Value) : Obj := seqObj "tuple" xs 0
/-- an address of ours, beyond all that is known -/
structure Nw (X : Cx) (pins : List (Addr × Obj)) (p : Addr) : Prop where
  far : X.s_0.heap.objs.size ≤ p
  cel : ∀ x c, X.env.cells.lookup x = some c → c ≠ p
  pin : ∀ q ∈ X.pn ++ pins, q.1 ≠ p
  loc : p ≠ X.env.locals
  frs : p ∉ X.fs
section
variable {X : Cx} {pins : List (Addr × Obj)} {σ : L2.St} {H : Hp} {s : Shared}
theorem Nw.of (I : Inv X pins σ H s) {p : Addr} (h : s.heap.objs.size ≤ p) : Nw X pins p where
  far := Nat.le_trans I.sz h
  cel := fun x c e z => by
    obtain ⟨v, o, ho, _⟩ := I.cell x c e
    subst z
    exact absurd (Nat.lt_of_lt_of_le (Heap.lt_size ho) h) (Nat.lt_irrefl _)
  pin := fun q hq z => by
    have := Heap.lt_size (I.pin q hq).1
    rw [z] at this
    exact absurd (Nat.lt_of_lt_of_le this h) (Nat.lt_irrefl _)
  loc := fun z => by
    have := I.lt
    rw [← z] at this
    exact absurd (Nat.lt_of_lt_of_le this h) (Nat.lt_irrefl _)
  frs := I.nofs h
theorem list_nocell (xs : Array Value) (e : Nat) : ∀ v, (lsO xs e).data ≠ .cell v := fun v z => by cases z
/-- an object that is pinned is put anew -/
theorem Inv.repin {p : Addr} {o o' : Obj} {t' : Nat} {h' : Heap} (I : Inv X ((p, o) :: pins) σ H s) (nw : Nw X pins p) (sb : Heap.SameBut p s.heap h') (e : h'.get? p = some o') (hd : ∀ v, o'.data ≠ .cell v) :
    Inv X ((p, o') :: pins) σ H { s with heap := h', toks := t' } := by
  have top := I.pin (p, o) (List.mem_append_right _ List.mem_cons_self)
  have rest : ∀ q ∈ pins, s.heap.get? q.1 = some q.2 ∧ H q.1 = none ∧ q.1 ≠ X.env.locals ∧ q.1 ∉ X.fs ∧ ∀ v, q.2.data ≠ .cell v := fun q hq => I.pin q (List.mem_append_right _ (List.mem_cons_of_mem _ hq))
  have I0 : Inv X pins σ H s := I.pins_of rest
  have I1 : Inv X pins σ H { s with heap := h', toks := t' } := I0.turned (fun b ob hb eb => (sb.2 b hb).trans eb) top.2.1 nw.loc (.inr nw.far) nw.cel nw.pin
  refine I1.pins_of fun q hq => ?_
  rcases List.mem_cons.mp hq with rfl | hq
  · exact ⟨e, top.2.1, nw.loc, nw.frs, hd⟩
  · exact I1.pin q (List.mem_append_right _ hq)
theorem Inv.swap {p q : Addr × Obj} (I : Inv X (p :: q :: pins) σ H s) : Inv X (q :: p :: pins) σ H s :=
  I.pins_of fun r hr => I.pin r (List.mem_append_right _ (by simp only [List.mem_cons] at hr ⊢; rcases hr with h | h | h <;> simp [h]))
/-- one key: what the call of f gives, the rest known as ahead -/
def TurnK (X : Cx) (J : Nat → Hp → Prop) (f : Value) (xs : List V) (ks : List PyData) : Prop := ∀ i v u k, xs[i]? = some v → ks[i]? = some k → RelV v u → ∀ pins σ H s, Inv X pins σ H s → J i H →
  wpAny (model X.prog X.w) X.A.in1.in1 (call f [u]) (EP X pins σ fun kv H2 => J (i + 1) H2 ∧ Rp X.K H2 kv k ∧ ∀ v d, Rp X.K H v d → Rp X.K H2 v d) (fun _ _ => False) s
/-- behind i keys -/
def SK (X : Cx) (pins : List (Addr × Obj)) (σ : L2.St) (J : Nat → Hp → Prop) (ks : List PyData) (kS a : Addr) (e1 i : Nat) (s : Shared) : Prop :=
  ∃ H kA e kvs, Inv X ((kS, lsO kA e) :: (a, lsO #[] e1) :: pins) σ H s ∧ J i H ∧ Vals kvs kA.toList ∧ RpA X.K H kvs (ks.take i)
theorem RpA.gr {K : PySem.W.Frag} {H H2 : Hp} (g : ∀ v d, Rp K H v d → Rp K H2 v d) : ∀ {vs : List V} {ds : List PyData}, RpA K H vs ds → RpA K H2 vs ds
  | _, _, .nil => .nil
  | _, _, .cons a r => .cons (g _ _ a) (RpA.gr g r)
theorem RpA.snoc {K : PySem.W.Frag} {H : Hp} {v : V} {d : PyData} (a : Rp K H v d) : ∀ {vs : List V} {ds : List PyData}, RpA K H vs ds → RpA K H (vs ++ [v]) (ds ++ [d])
  | _, _, .nil => .cons a .nil
  | _, _, .cons b r => .cons b (RpA.snoc a r)
theorem RpA.lenV {K : PySem.W.Frag} {H : Hp} : ∀ {vs : List V} {ds : List PyData}, RpA K H vs ds → vs.length = ds.length
  | _, _, .nil => rfl
  | _, _, .cons _ r => by rw [List.length_cons, List.length_cons, RpA.lenV r]
theorem keys_read (I : Inv X pins σ H s) : ∀ {vs : List V} {us : List Value} {ds : List PyData}, Vals vs us → RpA X.K H vs ds → EachIs (fun v d => ∃ as, Reads s.heap v d as) us ds
  | _, _, _, .nil, .nil => .nil
  | _, _, _, .cons r rs, .cons d ds => .cons (Dp.reads I _ _ _ d.dp r) (keys_read I rs ds)
theorem get_back : ∀ {xs : List V} {us : List Value} {i : Nat} {u : Value}, Vals xs us → us[i]? = some u → ∃ v, xs[i]? = some v ∧ RelV v u
  | _, _, 0, _, .cons r _, e => by cases e; exact ⟨_, rfl, r⟩
  | _, _, i + 1, _, .cons _ t, e => by
    obtain ⟨v, h1, h2⟩ := get_back (i := i) t (by simpa using e)
    exact ⟨v, by simpa using h1, h2⟩
  | _, _, 0, _, .nil, e => by cases e
  | _, _, _ + 1, _, .nil, e => by cases e
/-- the items in the order of their keys -/
noncomputable def byKey (xs : List V) (ks : List PyData) : List V := ((xs.zip ks).mergeSort (dataLe false Prod.snd)).map Prod.fst
theorem zip_each : ∀ {xs : List V} {us : List Value} (ks : List PyData), Vals xs us → ks.length = xs.length → EachIs (fun u (b : V × PyData) => RelV b.1 u) us (xs.zip ks)
  | _, _, [], .nil, _ => .nil
  | _, _, k :: ks, .cons r t, h => .cons r (zip_each ks t (by simpa using h))
  | _, _, [], .cons _ _, h => by cases h
  | _, _, _ :: _, .nil, h => by cases h
theorem each_vals : ∀ {us : List Value} {bs : List (V × PyData)}, EachIs (fun u (b : V × PyData) => RelV b.1 u) us bs → Vals (bs.map Prod.fst) us
  | _, _, .nil => .nil
  | _, _, .cons r t => .cons r (each_vals t)
theorem zip_snd : ∀ (xs : List V) (ks : List PyData), ks.length = xs.length → (xs.zip ks).map Prod.snd = ks
  | [], [], _ => rfl
  | x :: xs, k :: ks, h => by
    show k :: (xs.zip ks).map Prod.snd = _
    rw [zip_snd xs ks (by simpa using h)]
  | [], _ :: _, h => by cases h
  | _ :: _, [], h => by cases h
/-- p's object is no more -/
def gone (h : Heap) (p : Addr) : Heap := h.update p fun o => { o with data := .freed }
theorem gone_at {h : Heap} {p : Addr} : (gone h p).get? p = none := by
  obtain ⟨objs, l⟩ := h
  show (match (objs.modify p fun o => { o with data := .freed })[p]? with
    | some ⟨_, _, .freed, _⟩ => none
    | o => o) = none
  rw [Array.getElem?_modify]
  rw [if_pos rfl]
  cases objs[p]? with
  | none => rfl
  | some o => rfl
theorem gone_ne {h : Heap} {p b : Addr} (hb : b ≠ p) : (gone h p).get? b = h.get? b := Heap.get?_update_ne _ _ _ _ hb
/-- all keys are there: the items are put in order -/
theorem keys_end {xs : List V} {ks : List PyData} {kA : Array Value} {e e1 : Nat} {kvs : List V} {vs : List Value} {kS a : Addr} {Q : VK} {E' : Value → Shared → Prop}
    (I : Inv X ((kS, lsO kA e) :: (a, lsO #[] e1) :: pins) σ H s) (nk : Nw X pins kS) (na : Nw X pins a) (hka : kS ≠ a) (rv : Vals xs vs) (hz : vs.length ≤ sizeLine) (hk : ks.length = xs.length) (rk : Vals kvs kA.toList) (rp : RpA X.K H kvs ks)
    (hal : AllAlike ks) (hsk : Sortable ks) (hd : ∀ d ∈ ks, d.depth ≤ 60) (hu : X.A.units + 64 < cLine) (q : Q (.ref a) (upd H a (.lst (byKey xs ks)))) :
    wpAny (model X.prog X.w) X.A.in1.in1 (ksk_end a false vs.toArray e1 (.ref kS) kA) (fun f s' => f = .done (.ret .none) ∧ EP X pins σ Q (.ref a) s') E' s := by
  have pk := I.pin (kS, lsO kA e) (List.mem_append_right _ List.mem_cons_self)
  have pa := I.pin (a, lsO #[] e1) (List.mem_append_right _ (List.mem_cons_of_mem _ List.mem_cons_self))
  have I0 : Inv X pins σ H s := I.pins_of fun r hr => I.pin r (List.mem_append_right _ (List.mem_cons_of_mem _ (List.mem_cons_of_mem _ hr)))
  have lv : vs.length = xs.length := rv.length.symm
  have lk : kA.toList.length = ks.length := by rw [← rk.length, rp.lenV]
  have er := keys_read I0 rk rp
  have S : SortsAt X.prog X.w X.A.in1.in1 s (dataKind s.heap ks) kA.toList := SortsAt.data er hal hsk fun d hm => by
    have := hd d hm
    show X.A.units + 1 + 1 + d.depth < cLine
    omega
  refine keyH_end (κ := dataKind s.heap ks) (h₁ := gone s.heap kS) (fun b o hb eb => ?_) gone_at pk.1 pa.1 hka S (by rw [← Array.length_toList, lk, hk, lv]) hz fun h' tk c kp ha => ⟨rfl, ?_⟩
  · by_cases hbk : b = kS
    · subst hbk
      rw [gone_at] at eb; cases eb
    · rwa [gone_ne hbk] at eb
  have ko : KeyedOut false ((xs.zip ks).map Prod.snd) vs (sortVals (dataKind s.heap ks) false kA.toList vs) := by
    rw [zip_snd xs ks hk]
    exact ⟨s.heap, kA.toList, hal, rfl, er⟩
  have ev := each_vals (keyedOut_each Prod.snd ko (zip_each ks rv hk))
  have keep : ∀ b o, b ≠ kS → b ≠ a → s.heap.get? b = some o → h'.get? b = some o := fun b o h1 h2 eb => kp b o h2 (by rw [gone_ne h1]; exact eb)
  have neH : ∀ b u, H b = some u → b ≠ kS ∧ b ≠ a := fun b u eb => by
    constructor
    · intro z; rw [z, pk.2.1] at eb; cases eb
    · intro z; rw [z, pa.2.1] at eb; cases eb
  have nch : ∀ {b : Addr}, b ∉ [kS, a] → b ≠ kS ∧ b ≠ a := fun {b} hb => ⟨fun z => hb (by simp [z]), fun z => hb (by simp [z])⟩
  refine ⟨.ref a, upd H a (.lst (byKey xs ks)), ?_, rfl, q⟩
  refine I0.step (g' := s.gens) (d' := s.drawn) (ch := [kS, a]) (fun b hb => ?_) (fun b o _ _ hc eb _ => keep b o (nch hc).1 (nch hc).2 eb) (fun b o _ _ hc eb _ => ⟨o.slots, keep b o (nch hc).1 (nch hc).2 eb⟩)
    (fun b o hc _ n => by rw [upd_ne (nch hc).2]; exact n) (fun b o hc eb => ⟨o, keep b o (nch hc).1 (nch hc).2 eb⟩)
    (fun b ys eb => by rw [upd_ne (neH b _ eb).2]; exact eb) (fun b o u eb => by rw [upd_ne (neH b _ eb).2]; exact eb) (fun b ps eb => ⟨#[], by rw [upd_ne (neH b _ eb).2, eb]; simp⟩) (fun m hm => ?_) (fun b u eb => ?_) I0.bare
  · rcases List.mem_cons.mp hb with rfl | hb
    · exact ⟨.inr nk.far, nk.loc, nk.cel, nk.pin⟩
    · rw [List.mem_singleton.mp hb]
      exact ⟨.inr na.far, na.loc, na.cel, na.pin⟩
  · obtain ⟨o, es, ep, ho, r⟩ := hm
    exact ⟨o, es, ep, keep _ o nk.loc.symm na.loc.symm ho, r⟩
  · by_cases hb : b = a
    · subst hb
      rw [upd_same] at eb
      cases eb
      refine ⟨?_, _, c, ev, ha⟩
      unfold byKey
      rw [List.length_map, List.length_mergeSort, List.length_zip]
      omega
    · rw [upd_ne hb] at eb
      have nb := neH b u eb
      refine (I0.hok b u eb).stay (fun c' v hc qc => keep c' v ?_ ?_ qc) (fun c' qc => ?_) fun c' u' qc => ?_
      · rcases hc with z | z
        · rw [z]; exact nb.1
        · exact (neH c' _ z).1
      · rcases hc with z | z
        · rw [z]; exact nb.2
        · exact (neH c' _ z).2
      · rw [upd_ne (neH c' _ qc).2]; exact qc
      · rw [upd_ne (neH c' _ qc).2]; exact qc
/-- the keys, one by one -/
theorem keys_rest {J : Nat → Hp → Prop} {f : Value} {xs : List V} {ks : List PyData} {e1 : Nat} {vs : List Value} {kS a : Addr} {P : PySem.Fin → Shared → Prop} {E' : Value → Shared → Prop}
    (nk : Nw X pins kS) (na : Nw X pins a) (hka : kS ≠ a) (rv : Vals xs vs) (hz : vs.length ≤ sizeLine) (hk : ks.length = xs.length) (turn : TurnK X J f xs ks) (h0 : SK X pins σ J ks kS a e1 0 s)
    (fin : ∀ s' H kA e kvs, Inv X ((kS, lsO kA e) :: (a, lsO #[] e1) :: pins) σ H s' → J vs.length H → Vals kvs kA.toList → RpA X.K H kvs ks → wpAny (model X.prog X.w) X.A.in1.in1 (ksk_end a false vs.toArray e1 (.ref kS) kA) P E' s') :
    wpAny (model X.prog X.w) X.A.in1.in1 (ksk_rest a f false vs.toArray e1 (.ref kS)) P E' s := by
  unfold ksk_rest
  refine wpAny_bind (wpAny_rule ?_)
  rw [List.forIn_toArray]
  refine wpAny_bind (ksk_fold (fun i s' => SK X pins σ J ks kS a e1 i s') vs 0 s h0 (fun j x s1 hx h => ?_) fun s1 h => ?_)
  · obtain ⟨H1, kA, e, kvs, I, hJ, rk, rp⟩ := h
    rw [Nat.zero_add] at hJ rp ⊢
    obtain ⟨v, hv, rx⟩ := get_back rv hx
    have hj : j < ks.length := by
      have := (List.getElem?_eq_some_iff.mp hv).1
      omega
    have hkj : ks[j]? = some ks[j] := List.getElem?_eq_getElem hj
    refine wpAny_bind (wpAny_attempt (wpAny_mono (turn j v x _ hv hkj rx _ _ _ _ I hJ) (fun u s2 q => ?_) fun _ _ z => z.elim))
    obtain ⟨kv, H2, I2, ru, hJ2, r2, gr⟩ := q
    dsimp only
    have pk := (I2.pin (kS, lsO kA e) (List.mem_append_right _ List.mem_cons_self)).1
    have hl : kA.size ≤ vs.length := by
      have h1 : kvs.length = kA.toList.length := Vals.length rk
      have h2 : kvs.length = (ks.take j).length := RpA.lenV rp
      have h3 : xs.length = vs.length := Vals.length rv
      have h4 : kA.toList.length = kA.size := Array.length_toList
      rw [List.length_take] at h2
      omega
    have sb := Heap.SameBut.update s2.heap kS (Obj.mapSeq (·.push u))
    obtain ⟨e', he'⟩ : ∃ e', (s2.heap.update kS (Obj.mapSeq (·.push u))).get? kS = some (lsO (kA.push u) e') := ⟨_, get?_update_seq pk (·.push u)⟩
    refine wpAny_bind (listUpdate_at pk rfl ?_ (Nat.le_trans hl hz) (by rw [Array.size_push]; exact Nat.succ_le_succ (Nat.le_trans hl hz)))
    have nk' : Nw X ((a, lsO #[] e1) :: pins) kS := ⟨nk.far, nk.cel, fun q hq => (by
      rcases List.mem_append.mp hq with hq | hq
      · exact nk.pin q (List.mem_append_left _ hq)
      · rcases List.mem_cons.mp hq with rfl | hq
        · exact hka.symm
        · exact nk.pin q (List.mem_append_right _ hq)), nk.loc, nk.frs⟩
    refine wpAny_pure ⟨rfl, H2, kA.push u, e', kvs ++ [kv], Inv.repin (t' := s2.toks) I2 nk' sb he' (fun v z => by cases z), hJ2, ?_, ?_⟩
    · rw [Array.toList_push]
      exact rk.append (.cons ru .nil)
    · rw [List.take_add_one, hkj]
      exact RpA.snoc r2 (RpA.gr gr rp)
  · obtain ⟨H1, kA, e, kvs, I, hJ, rk, rp⟩ := h
    rw [Nat.zero_add] at hJ rp
    have lv : xs.length = vs.length := Vals.length rv
    rw [List.take_of_length_le (by omega)] at rp
    have pk := (I.pin (kS, lsO kA e) (List.mem_append_right _ List.mem_cons_self)).1
    refine wpAny_bind (listItems_at pk rfl ?_)
    exact fin s1 H1 kA e kvs I hJ rk rp
/-- sorted(xs, key=f) -/
theorem sorted_key_run {J : Nat → Hp → Prop} {f l : Addr} {xs : List V} {ks : List PyData} {vs : List Value} {Q : VK}
    (I : Inv X pins σ H s) (hl : s.heap.IsList l vs.toArray) (rv : Vals xs vs) (hz : vs.length ≤ sizeLine) (hk : ks.length = xs.length) (hal : AllAlike ks) (hsk : Sortable ks) (hd : ∀ d ∈ ks, d.depth ≤ 60) (hu : X.A.units + 64 < cLine)
    (hJ : J 0 H) (turn : TurnK X J (.ref f) xs ks) (q : ∀ H' p, J xs.length H' → H' p = none → Q (.ref p) (upd H' p (.lst (byKey xs ks)))) :
    wpAny (model X.prog X.w) X.A (call (.builtin "sorted") [.ref l] [(Str.ofString "key", .ref f)]) (EP X pins σ Q) X.xe s := by
  refine sorted_of_sort hl hz (ksk_s1 _ _) (fun _ => ksk_l1 _ _) fun E' => ?_
  rw [ksk_t1]
  generalize hA : s.heap.objs.size + 1 = a
  have na : Nw X pins a := Nw.of I (by omega)
  have at0 : (copyHeap s.heap vs).get? a = some (lsO vs.toArray 0) := by rw [← hA]; exact copyHeap_at s.heap vs
  obtain ⟨e1, at1⟩ : ∃ e1, ((copyHeap s.heap vs).update a (Obj.mapSeq fun _ => (#[] : Array Value))).get? a = some (lsO #[] e1) := ⟨_, get?_update_seq at0 fun _ => #[]⟩
  unfold ksk_tree
  refine wpAny_bind (listItems_at (s := { s with heap := copyHeap s.heap vs }) at0 rfl ?_)
  refine wpAny_bind (listUpdate_at at0 rfl ?_ (by rw [List.size_toArray]; exact hz) (Nat.zero_le _))
  refine wpAny_bind (seqEpoch_at at1 rfl ?_)
  refine wpAny_bind (wpAny_newTuple ?_ (by show vs.length ≤ _; exact hz))
  refine wpAny_bind (wpAny_newList ?_ (Nat.zero_le _))
  refine wpAny_holding ?_
  have la : a < (copyHeap s.heap vs).objs.size := Heap.lt_size at0
  have hks : (((copyHeap s.heap vs).update a (Obj.mapSeq fun _ => (#[] : Array Value))).push (lsT vs.toArray)).objs.size = (copyHeap s.heap vs).objs.size + 1 := by
    rw [PyProof.Rows.size_push', Heap.size_update]
  generalize hkS : (((copyHeap s.heap vs).update a (Obj.mapSeq fun _ => (#[] : Array Value))).push (lsT vs.toArray)).objs.size = kS at hks
  have nk : Nw X pins kS := Nw.of I (by omega)
  have hka : kS ≠ a := by omega
  have I6 : Inv X pins σ H { s with heap := sortingHeap (copyHeap s.heap vs) a vs } := I.kept fun b u eb => by
    have lb : b < s.heap.objs.size := Heap.lt_size eb
    have hb : b ≠ a := Nat.ne_of_lt (Nat.lt_of_lt_of_le lb (by rw [← hA]; exact Nat.le_succ _))
    exact sortingHeap_old hb (copyHeap_old eb)
  have gk : (sortingHeap (copyHeap s.heap vs) a vs).get? kS = some (lsO #[] 0) := by
    rw [← hkS]
    exact Heap.get?_push_size _ rfl
  have ga : (sortingHeap (copyHeap s.heap vs) a vs).get? a = some (lsO #[] e1) := Heap.get?_push_of_some _ (Heap.get?_push_of_some _ at1)
  have I7 : Inv X ((kS, lsO #[] 0) :: (a, lsO #[] e1) :: pins) σ H { s with heap := sortingHeap (copyHeap s.heap vs) a vs } := I6.pins_of fun r hr => by
    rcases List.mem_cons.mp hr with rfl | hr
    · exact ⟨gk, I.hok.fresh (by show s.heap.objs.size ≤ kS; omega), nk.loc, nk.frs, fun v z => by cases z⟩
    · rcases List.mem_cons.mp hr with rfl | hr
      · exact ⟨ga, I.hok.fresh (by show s.heap.objs.size ≤ a; omega), na.loc, na.frs, fun v z => by cases z⟩
      · exact I6.pin r (List.mem_append_right _ hr)
  have lv : xs.length = vs.length := Vals.length rv
  have main := keys_rest (s := { s with heap := sortingHeap (copyHeap s.heap vs) a vs }) (P := fun f s' => f = .done (.ret .none) ∧ EP X pins σ Q (.ref a) s') (E' := E') nk na hka rv hz hk turn ⟨H, #[], 0, [], I7, hJ, .nil, by rw [List.take_zero]; exact .nil⟩ fun s' H' kA e kvs I' hJ' rk rp =>
    keys_end I' nk na hka rv hz hk rk rp hal hsk hd hu (q H' a (by rw [lv]; exact hJ') (I'.pin (a, lsO #[] e1) (List.mem_append_right _ (List.mem_cons_of_mem _ List.mem_cons_self))).2.1)
  exact main
end
end RS

/-! RSM: sorted(xs, key=f): what the evaluator computes, the model does. -/
namespace RS
open PySem
open PySem.Spec
open L2
open PySem.W (AllAlike Sortable dataLe alike)
theorem kwKey_inv {ks : List Keyword} {q : Str → Bool} (h : kwKey ks q = true) : ∃ y p2 p3, ks = [⟨some "key", .Name y p2, p3⟩] ∧ q y = true := by
  unfold kwKey at h
  split at h
  · rename_i y n p2 p3
    rw [Bool.and_eq_true, decide_eq_true_eq] at h
    obtain ⟨rfl, h⟩ := h
    exact ⟨_, _, _, rfl, h⟩
  · cases h
theorem keysOk_inv {ks : List PyData} (h : keysOk ks = true) : AllAlike ks ∧ Sortable ks ∧ ∀ d ∈ ks, d.depth ≤ 60 := by
  unfold keysOk at h
  simp only [Bool.and_eq_true, Bool.or_eq_true] at h
  obtain ⟨⟨h1, h2⟩, h3⟩ := h
  refine ⟨fun d hd d' hd' => List.all_eq_true.mp (List.all_eq_true.mp h1 d hd) d' hd', ?_, fun d hd => of_decide_eq_true (List.all_eq_true.mp h3 d hd)⟩
  rcases h2 with h2 | h2
  · refine .inl fun d hd => ?_
    have := List.all_eq_true.mp h2 d hd
    cases d with
    | tuple xs =>
      cases xs with
      | nil => cases this
      | cons x r => exact ⟨x, r, rfl⟩
    | _ => cases this
  · refine .inr fun d hd => ?_
    have := List.all_eq_true.mp h2 d hd
    constructor
    · rintro rfl; cases this
    · rintro xs rfl; cases this
/-- the states between the keys -/
theorem keysL_steps {g : List Va → Sto → Res Va} : ∀ {ds : List PyData} {st st2 : Sto} {ks : List PyData}, keysL g ds st = .ok ks st2 → ∃ S : Nat → Sto, S 0 = st ∧ S ds.length = st2 ∧ ks.length = ds.length ∧
    ∀ i d k, ds[i]? = some d → ks[i]? = some k → g [.dat d] (S i) = .ok (.dat k) (S (i + 1))
  | [], st, st2, ks, h => by
    cases h
    exact ⟨fun _ => st, rfl, rfl, rfl, fun i d k e => by simp at e⟩
  | d :: ds, st, st2, ks, h => by
    rw [keysL] at h
    cases e1 : g [.dat d] st with
    | exc _ _ => rw [e1] at h; cases h
    | stuck => rw [e1] at h; cases h
    | ok v st1 =>
      rw [e1] at h
      simp only [Res.calm_ok, Res.bind_ok] at h
      cases v with
      | ref _ => cases h
      | new _ => cases h
      | dat k =>
        dsimp only at h
        cases e2 : keysL g ds st1 with
        | exc _ _ => rw [e2] at h; cases h
        | stuck => rw [e2] at h; cases h
        | ok ks' st' =>
          rw [e2] at h
          cases h
          obtain ⟨S, s0, sl, l, q⟩ := keysL_steps e2
          refine ⟨fun i => match i with | 0 => st | i + 1 => S i, rfl, sl, by rw [List.length_cons, List.length_cons, l], fun i d' k' h1 h2 => ?_⟩
          cases i with
          | zero =>
            cases h1
            cases h2
            show g [.dat d] st = .ok (.dat k) (S 0)
            rw [s0]; exact e1
          | succ i => exact q i d' k' h1 h2
theorem keysL_ok {XR : Ex → Value → Option Addr → Hp → Prop} {K : PySem.W.Frag} {γ δ : Type} {Rl : Rel γ δ} {E : XK} {loc : Loc} {H : Hp} {Q : δ → Hp → Prop} {g : List Va → Sto → Res Va} {f : List PyData → Sto → Res γ} {ds : List PyData} {st : Sto} (h : Post XR K Rl E loc H ((keysL g ds st).bind f) Q) :
    ∃ ks st2, keysL g ds st = .ok ks st2 ∧ Post XR K Rl E loc H (f ks st2) Q := by
  have calm : ∀ (ds : List PyData) (st : Sto) e s, keysL g ds st ≠ .exc e s := by
    intro ds
    induction ds with
    | nil => intro st e s z; cases z
    | cons d ds ih =>
      intro st e s z
      rw [keysL] at z
      cases e1 : g [.dat d] st with
      | exc _ _ => rw [e1] at z; cases z
      | stuck => rw [e1] at z; cases z
      | ok v st1 =>
        rw [e1] at z
        simp only [Res.calm_ok, Res.bind_ok] at z
        cases v with
        | ref _ => cases z
        | new _ => cases z
        | dat k =>
          dsimp only at z
          cases e2 : keysL g ds st1 with
          | exc _ _ => exact ih _ _ _ e2
          | stuck => rw [e2] at z; cases z
          | ok ks' st' => rw [e2] at z; cases z
  cases e : keysL g ds st with
  | exc _ _ => exact absurd e (calm _ _ _ _)
  | stuck => rw [e] at h; exact h.elim
  | ok ks st2 => rw [e] at h; exact ⟨ks, st2, rfl, h⟩
theorem RpA.at {K : PySem.W.Frag} {H : Hp} : ∀ {vs : List V} {ds : List PyData} {i : Nat} {v : V}, RpA K H vs ds → vs[i]? = some v → ∃ d, ds[i]? = some d ∧ Rp K H v d
  | _, _, 0, _, .cons r _, e => by cases e; exact ⟨_, rfl, r⟩
  | _, _, i + 1, _, .cons _ t, e => by
    obtain ⟨d, h1, h2⟩ := RpA.at (i := i) t (by simpa using e)
    exact ⟨d, by simpa using h1, h2⟩
  | _, _, 0, _, .nil, e => by cases e
  | _, _, _ + 1, _, .nil, e => by cases e
theorem RpA.of_all {K : PySem.W.Frag} {H : Hp} : ∀ (cs : List ((V × PyData) × PyData)), (∀ c ∈ cs, Rp K H c.1.1 c.1.2) → RpA K H (cs.map fun c => c.1.1) (cs.map fun c => c.1.2)
  | [], _ => .nil
  | c :: cs, h => .cons (h c List.mem_cons_self) (RpA.of_all cs fun d hd => h d (List.mem_cons_of_mem _ hd))
theorem RpA.zipped {K : PySem.W.Frag} {H : Hp} : ∀ {vs : List V} {ds : List PyData} (ks : List PyData), RpA K H vs ds → ks.length = vs.length → ∃ cs : List ((V × PyData) × PyData), vs.zip ks = cs.map (fun c => (c.1.1, c.2)) ∧ ds.zip ks = cs.map (fun c => (c.1.2, c.2)) ∧ ∀ c ∈ cs, Rp K H c.1.1 c.1.2
  | _, _, [], .nil, _ => ⟨[], rfl, rfl, fun _ h => nomatch h⟩
  | v :: _, d :: _, k :: ks, .cons r t, h => by
    obtain ⟨cs, e1, e2, q⟩ := RpA.zipped ks t (by simpa using h)
    refine ⟨((v, d), k) :: cs, ?_, ?_, fun c hc => ?_⟩
    · rw [List.zip_cons_cons, e1]; rfl
    · rw [List.zip_cons_cons, e2]; rfl
    · rcases List.mem_cons.mp hc with rfl | hc
      · exact r
      · exact q c hc
  | _, _, [], .cons _ _, h => by cases h
  | _, _, _ :: _, .nil, h => by cases h
theorem byKey_rp {K : PySem.W.Frag} {H : Hp} {vs : List V} {ds ks : List PyData} (r : RpA K H vs ds) (l : ks.length = vs.length) : RpA K H (byKey vs ks) (sortK ds ks) := by
  obtain ⟨cs, e1, e2, q⟩ := r.zipped ks l
  have m1 : byKey vs ks = (cs.mergeSort (dataLe false Prod.snd)).map fun c => c.1.1 := by
    unfold byKey
    rw [e1, ← List.map_mergeSort (r := dataLe false Prod.snd) (s := dataLe false Prod.snd) (f := fun c : (V × PyData) × PyData => (c.1.1, c.2)) (fun a _ b _ => rfl), List.map_map]; rfl
  have m2 : sortK ds ks = (cs.mergeSort (dataLe false Prod.snd)).map fun c => c.1.2 := by
    unfold sortK
    rw [e2, ← List.map_mergeSort (r := dataLe false Prod.snd) (s := dataLe false Prod.snd) (f := fun c : (V × PyData) × PyData => (c.1.2, c.2)) (fun a _ b _ => rfl), List.map_map]; rfl
  rw [m1, m2]
  exact RpA.of_all _ fun c hc => q c ((List.mergeSort_perm cs _).mem_iff.mp hc)
/-- what sorted(xs, key=f) asks -/
def rSK (X : Cx) : List V → List V → Hp → VK → Prop := fun vs zs H Q => ∃ (l fa : Addr) (xs : List V) (ks : List PyData) (J : Nat → Hp → Prop), vs = [V.ref l] ∧ zs = [V.ref fa] ∧ SqL X.K H l xs ∧ ks.length = xs.length ∧ AllAlike ks ∧ Sortable ks ∧ (∀ d ∈ ks, d.depth ≤ 60) ∧
  J 0 H ∧ TurnK X J (.ref fa) xs ks ∧ ∀ H' p, J xs.length H' → H' p = none → Q (.ref p) (upd H' p (.lst (byKey xs ks)))
theorem cr_sortedFn {X : Cx} (hu : X.A.units + 64 < cLine) : CallRK X (.builtin "sorted") [Str.ofString "key"] (rSK X) := by
  intro pins s σ H vs zs us ws Q I r rz h
  obtain ⟨l, fa, xs, ks, J, rfl, rfl, hs, hk, hal, hsk, hd, hJ, turn, q⟩ := h
  obtain rfl := Vals.ref1 r
  obtain ⟨w1, rfl, e1⟩ := vals1 rz
  obtain rfl : w1 = Value.ref fa := e1
  obtain ⟨its, rv, hl, hz⟩ := I.list hs
  exact sorted_key_run I hl.isList rv (by rw [← Vals.length rv]; exact hz) hk hal hsk hd hu hJ turn q
section
variable {XR : Ex → Value → Option Addr → Hp → Prop} {fs : List FnT} {gl : List (Str × PyData)} {φ : Nat → List Va → Sto → Res Va} {n : Nat} {E : XK} {bs : Option Scope} {X : Cx}
theorem turn_of (c : Cg XR fs gl φ n E bs X) {f : Nat} {F : FnT} {fa : Addr} {CX : CXT} {fd : FuncData} (hfn : FnG X.prog X.w X.K X.mg X.base CX n fa fd F.params (spF XR X.K φ f F.params.length)) (hpa : plainArgs fd.params = some F.params) (hdf : fd.defaults = .none) (hcx : CX = L2.CX X.prog X.w)
    (hk : kOk F.params 1 [] (List.range 1) = true) {loc1 : Loc} {H1 : Hp} {xs : List V} {ds ks : List PyData} (rx : RpA X.K H1 xs ds) (S : Nat → Sto) (hS : ∀ i d k, ds[i]? = some d → ks[i]? = some k → φ f [.dat d] (S i) = .ok (.dat k) (S (i + 1))) :
    TurnK X (fun i H' => ∃ loc', SR X.K H' loc' (S i) ∧ Ext loc1 H1 H' loc') (.ref fa) xs ks := by
  intro i v u k hv hkk ru pins σ H s I ⟨loc, sr, ext⟩
  obtain ⟨d, hd, rd⟩ := rx.at hv
  have rd' := Rp.mono ext rd
  subst hcx
  have ha : F.params.length = 1 := by
    unfold kOk at hk
    simp only [Bool.and_eq_true, decide_eq_true_eq] at hk
    have := congrArg List.length hk.2
    simpa using this.symm
  have hb : BindsTo s fd ⟨[u], []⟩ (F.params.zip [u]) := binds_g (ps := F.params) (ks := []) (us := [u]) (ws := []) (bs := [u]) (perm := List.range 1) hpa hdf hk rfl (range_some [u])
  have rm : Room n X.A.in1.in1 := ⟨c.room.hd, c.room.dp, by have := c.room2; show X.A.units + 1 + 1 + 16 * n + 200 < cLine; omega⟩
  refine wpAny_call (codeAny_mono (hfn.run X.A.in1.in1 X.stack s H ⟨[u], []⟩ [u] [v] (fun kv H2 => (∃ loc', SR X.K H2 loc' (S (i + 1)) ∧ Ext loc1 H1 H2 loc') ∧ Rp X.K H2 kv k ∧ ∀ v d, Rp X.K H v d → Rp X.K H2 v d) EF c.gu rm I.env0.in1.in1 hb (.cons ru .nil)
    ⟨by rw [ha]; rfl, loc, S i, [.dat d], sr, .cons rd' .nil, ?_⟩) fun r s' hq => ?_)
  · rw [hS i d k hd hkk]
    intro b H2 loc2 x2 s2 r2
    exact ⟨⟨loc2, s2, ext.trans x2⟩, r2.1, fun w e z => Rp.mono x2 z⟩
  · cases r with
    | error e => exact (cx_EF hq).elim
    | ok fl =>
      cases fl with
      | ret u => exact I.after hq
      | next => exact hq.elim
      | brk => exact hq.elim
      | cont => exact hq.elim
theorem e_sortk (c : Cg XR fs gl φ n E bs X) {f : Nat} {F : FnT} {x y : Str} {p p2 p3 pos : Pos} {e : Expr} {ta : T} (hF : fs[f]? = some F) (hx : x = "sorted") (hg : glB X.env.scope x = true) (hy : y = F.name) (hg2 : glB X.env.scope y = true) (hk : kOk F.params 1 [] (List.range 1) = true) (hp : plainE e = true)
    (ha : PE X e (tE XR X.K φ E ta)) : PE X (.Call (.Name x p) [e] [⟨some "key", .Name y p2, p3⟩] pos) (tE XR X.K φ E (.sortk f ta)) := by
  subst hx hy
  obtain ⟨g1, g2⟩ := glB_inv hg
  obtain ⟨k1, k2⟩ := glB_inv hg2
  obtain ⟨CX, fa, fd, hm, hkp, hfn, hpa, hdf, hps, hcx⟩ := c.fns f F hF
  have hst := star_plain (es := []) (env := X.env) hp
  have pa : PA X [e] (tCons (tE XR X.K φ E ta) tNil) := pa_cons ha pa_nil hst
  have pn : PE X (.Name F.name p2) (tC (.ref fa)) := pe_glob k1 hm rfl k2
  have pk : PK X [⟨some "key", .Name F.name p2, p3⟩] (tCons (tC (.ref fa)) tNil) := pk_cons pn pk_nil
  refine pe_imp (pe_callBK (cr_sortedFn c.room.units) g1 (c.bi .sorted) (Bi.boot .sorted) pa pk (by decide) g2 (by rw [hst]; rfl) (back_plain (es := [e]) (by simpa [allPlain] using hp))) fun σ H Q ⟨loc, ρ, st, sr, er, post⟩ => ?_
  rw [evE] at post
  refine ⟨loc, ρ, st, sr, er, Post.imp (Post.bind (Rl := VE X.K) old_VE post) fun v H1 ⟨loc1, xa, st1, _, x1, s1, r1, p1⟩ => ?_⟩
  show rSK X [v] [.ref fa] H1 Q
  dsimp only at p1
  cases e1 : view st1 xa with
  | none => rw [e1] at p1; exact p1.elim
  | some d =>
    rw [e1] at p1
    cases d with
    | none => exact p1.elim
    | bool _ => exact p1.elim
    | int _ => exact p1.elim
    | str _ => exact p1.elim
    | tuple _ => exact p1.elim
    | dict _ => exact p1.elim
    | list ds =>
      dsimp only at p1
      obtain ⟨ks, st2, ek, p2⟩ := keysL_ok p1
      split at p2
      · rename_i hok
        obtain ⟨hal, hsk, hd⟩ := keysOk_inv hok
        obtain ⟨S, s0, sl, lk, hS⟩ := keysL_steps ek
        obtain ⟨l, vs, rfl, q1, w⟩ := r1.1.list s1 e1
        have lw := w.lenV
        refine ⟨l, fa, vs, ks, _, rfl, rfl, q1, by rw [lk, lw], hal, hsk, hd, ⟨loc1, by rw [s0]; exact s1, Ext.refl⟩, turn_of c hfn hpa hdf hcx hk w S hS, fun H' a' ⟨loc', sr', x'⟩ na => ?_⟩
        rw [lw, sl] at sr'
        have rr := byKey_rp (RpA.mono x' w) (ks := ks) (by rw [lk, lw])
        refine p2 (.ref a') _ loc' (x'.trans (Ext.put na)) (sr'.put na) ?_
        have z := VE.list sr' na rr
        exact ⟨z.1, fun ys hy q e0 => by
          cases e0
          exact Classical.byContradiction fun nn => x'.kept _ nn na⟩
      · exact p2.elim
end
end RS

/-! RSZ: zip, walked with a plain name as its target. -/
namespace RS
open PySem
open PySem.Spec
open L2
open RZ
/-- the zip object, whatever it has handed out -/
abbrev IsZ (h : Heap) (z TI TO : Addr) (v : Value) (f : Bool) : Prop :=
  h.get? z = some { cls := .type "zip", dict := none, data := .fields #[v, .bool f, .bool false, .ref TI, .ref TO], slots := #[] }
/-- nothing handed out, or a tuple -/
def Out (v : Value) : Prop := v = .none ∨ ∃ T : Addr, v = rawInt T
section
variable {prog : Program} {w : World} {A : Around} {E : Value → Shared → Prop} {s : Shared}
theorem alive_any {a : Addr} {Q : Option Obj → Shared → Prop} (h : Q (s.heap.get? a) s) : wpAny (model prog w) A (loadIfAlive a) Q E s := fun _ _ _ => h
theorem own_free {z TI TO : Addr} {v : Value} {f : Bool} {Q : Bool → Shared → Prop} (hz : IsZ s.heap z TI TO v f) (hv : Out v) (h1 : Q true s) (h2 : ∀ h', IsZ h' z TI TO v true → Heap.SameBut z s.heap h' → Q false { s with heap := h' }) :
    wpAny (model prog w) A (Builtin.SmallTypes.ownedTupleIsFree (.ref z)) Q E s := by
  unfold Builtin.SmallTypes.ownedTupleIsFree
  rcases hv with rfl | ⟨T, rfl⟩
  · exact wpAny_bind (wpAny_field hz rfl (x := .none) rfl (wpAny_pure h1))
  · refine wpAny_bind (wpAny_field hz rfl (x := rawInt T) rfl ?_)
    show wpAny _ _ (loadIfAlive ((T : Int).toNat) >>= _) _ _ _
    rw [Int.toNat_natCast]
    refine wpAny_bind (alive_any ?_)
    cases hT : s.heap.get? T with
    | none =>
      simp only [Option.isNone_none, if_true]
      exact wpAny_pure h1
    | some o =>
      simp only [Option.isNone_some, Bool.false_eq_true, if_false]
      refine wpAny_bind (wpAny_field hz rfl (x := .bool f) rfl ?_)
      cases f with
      | true =>
        rw [if_neg (show ¬ ((Value.bool true != Value.bool true) = true) from Bool.false_ne_true)]
        exact wpAny_pure (h2 s.heap hz (Heap.SameBut.refl _ _))
      | false =>
        rw [if_pos (show (Value.bool false != Value.bool true) = true from rfl)]
        exact wpAny_bind (wpAny_setField_rec hz (by simp) fun h₁ hz₁ hs₁ => wpAny_pure (h2 h₁ hz₁ hs₁))

theorem znextL {z TI TO i1 i2 l1 l2 : Addr} {v : Value} {f : Bool} {k1 k2 : Nat} {xs ys : Array Value} {x y a b : Value} {Q : Value → Shared → Prop} (D : ZipApart z TI TO i1 i2 l1 l2)
    (hz : IsZ s.heap z TI TO v f) (hv : Out v) (hTI : IsPair s.heap TI (.ref i1) (.ref i2)) (hTO : IsPair s.heap TO a b)
    (h1 : s.heap.IsListIter i1 l1 k1) (h2 : s.heap.IsListIter i2 l2 k2) (hl1 : s.heap.IsList l1 xs) (hl2 : s.heap.IsList l2 ys) (hx : xs[k1]? = some x) (hy : ys[k2]? = some y)
    (hQ : ∀ h' v' f' a' b', Out v' → IsZ h' z TI TO v' f' → IsPair h' TO a' b' → h'.IsListIter i1 l1 (k1 + 1) → h'.IsListIter i2 l2 (k2 + 1) → IsPair h' s.heap.objs.size x y → h'.objs.size = s.heap.objs.size + 1 →
      (∀ c o, c ≠ z → c ≠ TO → c ≠ i1 → c ≠ i2 → s.heap.get? c = some o → h'.get? c = some o) → Q (.ref s.heap.objs.size) { s with heap := h' }) :
    wpAny (model prog w) A (Builtin.«zip.__next__» ⟨[.ref z], []⟩) (fun fin s' => ∃ v, fin = .done (.ret v) ∧ Q v s') E s := by
  show wpAny _ _ (field (.ref z) 2 >>= _) _ _ _
  refine wpAny_bind (wpAny_field hz rfl (x := .bool false) rfl ?_)
  show wpAny _ _ (field (.ref z) 3 >>= _) _ _ _
  refine wpAny_bind (wpAny_field hz rfl (x := .ref TI) rfl ?_)
  refine wpAny_bind (wpAny_seqItems hTI rfl ?_)
  show wpAny _ _ (Builtin.SmallTypes.ownedTupleIsFree (.ref z) >>= _) _ _ _
  refine wpAny_bind (own_free hz hv ?_ fun h₁ hz₁ hs₁ => ?_)
  · simp only [if_true]
    refine wpAny_bind (wpAny_rule ?_)
    refine wpAny_bind (wpAny_field hz rfl (x := .ref TO) rfl ?_)
    refine wpAny_bind (wpAny_setField_rec hz (by simp) fun h₁ hz₁ hs₁ => ?_)
    replace hz₁ : IsZ h₁ z TI TO .ellipsis f := hz₁
    refine wpAny_bind ?_
    simp only [List.zipIdx_cons, List.zipIdx_nil, List.forIn_cons, List.forIn_nil]
    refine wpAny_bind (wpAny_bind (wpAny_onRaise ?_))
    show wpAny _ _ (Builtin.SmallTypes.nextOf (.ref i1) >>= _) _ _ _
    refine wpAny_bind (wpAny_nextOf_list_item (h1.extBut hs₁.extBut D.i1z) (hl1.extBut hs₁.extBut D.l1z) hx fun h₂ h1₂ hs₂ => wpAny_pure ?_)
    have hTO₂ : IsPair h₂ TO a b := hs₂.extBut _ _ D.TOi1 (hs₁.extBut _ _ D.TOz hTO)
    refine wpAny_bind (wpAny_seqItems hTO₂ rfl ?_)
    refine wpAny_bind (wpAny_updateSeq_pair hTO₂ fun h₃ hTO₃ hs₃ => ?_)
    replace hTO₃ : IsPair h₃ TO x b := hTO₃
    refine wpAny_bind (wpAny_letGo (wpAny_pure ?_))
    refine wpAny_bind (wpAny_bind (wpAny_onRaise ?_))
    show wpAny _ _ (Builtin.SmallTypes.nextOf (.ref i2) >>= _) _ _ _
    refine wpAny_bind (wpAny_nextOf_list_item (((h2.extBut hs₁.extBut D.i2z).extBut hs₂.extBut D.i12.symm).extBut hs₃.extBut D.TOi2.symm)
      (((hl2.extBut hs₁.extBut D.l2z).extBut hs₂.extBut D.l2i1).extBut hs₃.extBut D.l2TO) hy fun h₄ h2₄ hs₄ => wpAny_pure ?_)
    have hTO₄ : IsPair h₄ TO x b := hs₄.extBut _ _ D.TOi2 hTO₃
    refine wpAny_bind (wpAny_seqItems hTO₄ rfl ?_)
    refine wpAny_bind (wpAny_updateSeq_pair hTO₄ fun h₅ hTO₅ hs₅ => ?_)
    replace hTO₅ : IsPair h₅ TO x y := hTO₅
    refine wpAny_bind (wpAny_letGo (wpAny_pure (wpAny_pure ?_)))
    refine wpAny_bind (wpAny_seqItems hTO₅ rfl ?_)
    refine wpAny_bind (wpAny_newTuple ?_)
    have hsz : h₅.objs.size = s.heap.objs.size := by rw [hs₅.1, hs₄.1, hs₃.1, hs₂.1, hs₁.1]
    have hz₅ : IsZ h₅ z TI TO .ellipsis f := hs₅.extBut _ _ D.TOz.symm (hs₄.extBut _ _ D.i2z.symm (hs₃.extBut _ _ D.TOz.symm (hs₂.extBut _ _ D.i1z.symm hz₁)))
    have hk₅ : ∀ c o, c ≠ z → c ≠ TO → c ≠ i1 → c ≠ i2 → s.heap.get? c = some o → h₅.get? c = some o := fun c o c1 c2 c3 c4 e =>
      hs₅.extBut _ _ c2 (hs₄.extBut _ _ c4 (hs₃.extBut _ _ c2 (hs₂.extBut _ _ c3 (hs₁.extBut _ _ c1 e))))
    have h1₅ : h₅.IsListIter i1 l1 (k1 + 1) := ((h1₂.extBut hs₃.extBut D.TOi1.symm).extBut hs₄.extBut D.i12).extBut hs₅.extBut D.TOi1.symm
    have h2₅ : h₅.IsListIter i2 l2 (k2 + 1) := h2₄.extBut hs₅.extBut D.TOi2.symm
    have hzlt : z < h₅.objs.size := Heap.lt_size hz₅
    show wpAny _ _ (Builtin.SmallTypes.ownedTupleHandOut (.ref z) (.ref h₅.objs.size) >>= _) _ _ _
    refine wpAny_bind ?_
    unfold Builtin.SmallTypes.ownedTupleHandOut
    have hz₆ : IsZ (h₅.push { cls := .type "tuple", data := .seq #[x, y] }) z TI TO .ellipsis f := Heap.get?_push_of_some _ hz₅
    refine wpAny_bind (wpAny_setField_rec hz₆ (by simp) fun h₇ hz₇ hs₇ => ?_)
    replace hz₇ : IsZ h₇ z TI TO (rawInt h₅.objs.size) f := hz₇
    refine wpAny_setField_rec hz₇ (by simp) fun h₈ hz₈ hs₈ => ?_
    replace hz₈ : IsZ h₈ z TI TO (rawInt h₅.objs.size) false := hz₈
    have up : ∀ c o, c ≠ z → h₅.get? c = some o → h₈.get? c = some o := fun c o c1 e => hs₈.extBut _ _ c1 (hs₇.extBut _ _ c1 (Heap.get?_push_of_some _ e))
    have hT₈ : IsPair h₈ h₅.objs.size x y := hs₈.extBut _ _ (Nat.ne_of_gt hzlt) (hs₇.extBut _ _ (Nat.ne_of_gt hzlt) (Heap.get?_push_size _ rfl))
    have hz8 : h₈.objs.size = h₅.objs.size + 1 := by rw [hs₈.1, hs₇.1, Heap.size_push]
    rw [hsz] at hz₈ hT₈ hz8
    refine wpAny_pure ⟨_, rfl, ?_⟩
    show Q (.ref h₅.objs.size) _
    rw [hsz]
    exact hQ h₈ _ _ _ _ (.inr ⟨_, rfl⟩) hz₈ (up _ _ D.TOz hTO₅) (h1₅.at fun o e => up _ o D.i1z e) (h2₅.at fun o e => up _ o D.i2z e) hT₈ hz8 fun c o c1 c2 c3 c4 e => up c o c1 (hk₅ c o c1 c2 c3 c4 e)
  · simp only [Bool.false_eq_true, if_false]
    refine wpAny_bind ?_
    rw [← Array.forIn_toList]
    simp only [List.forIn_cons, List.forIn_nil]
    refine wpAny_bind (wpAny_bind (wpAny_holding ?_))
    show wpAny _ _ (Builtin.SmallTypes.nextOf (.ref i1) >>= _) _ _ _
    refine wpAny_bind (wpAny_nextOf_list_item (s := { s with heap := h₁ }) (h1.extBut hs₁.extBut D.i1z) (hl1.extBut hs₁.extBut D.l1z) hx fun h₂ h1₂ hs₂ => wpAny_pure ?_)
    refine wpAny_pure ?_
    refine wpAny_bind (wpAny_bind (wpAny_holding ?_))
    show wpAny _ _ (Builtin.SmallTypes.nextOf (.ref i2) >>= _) _ _ _
    refine wpAny_bind (wpAny_nextOf_list_item (s := { s with heap := h₂ }) ((h2.extBut hs₁.extBut D.i2z).extBut hs₂.extBut D.i12.symm) ((hl2.extBut hs₁.extBut D.l2z).extBut hs₂.extBut D.l2i1) hy fun h₃ h2₃ hs₃ => wpAny_pure ?_)
    refine wpAny_pure (wpAny_pure ?_)
    show wpAny _ _ (newTuple [x, y] >>= _) _ _ _
    refine wpAny_bind (wpAny_newTuple ?_)
    have hsz : h₃.objs.size = s.heap.objs.size := by rw [hs₃.1, hs₂.1, hs₁.1]
    have hz₃ : IsZ h₃ z TI TO v true := hs₃.extBut _ _ D.i2z.symm (hs₂.extBut _ _ D.i1z.symm hz₁)
    have hk : ∀ c o, c ≠ z → c ≠ i1 → c ≠ i2 → s.heap.get? c = some o → h₃.get? c = some o := fun c o c1 c2 c3 e => hs₃.extBut _ _ c3 (hs₂.extBut _ _ c2 (hs₁.extBut _ _ c1 e))
    have h1₃ : h₃.IsListIter i1 l1 (k1 + 1) := h1₂.extBut hs₃.extBut D.i12
    have hTO₃ : IsPair h₃ TO a b := hk _ _ D.TOz D.TOi1 D.TOi2 hTO
    refine wpAny_pure ⟨_, rfl, ?_⟩
    show Q (.ref h₃.objs.size) _
    have hp : IsPair (h₃.push { cls := .type "tuple", data := .seq #[x, y] }) h₃.objs.size x y := Heap.get?_push_size _ rfl
    have hz4 : (h₃.push { cls := .type "tuple", data := .seq #[x, y] }).objs.size = h₃.objs.size + 1 := Heap.size_push ..
    rw [hsz] at hp hz4 ⊢
    exact hQ _ _ _ _ _ hv (Heap.get?_push_of_some _ hz₃) (Heap.get?_push_of_some _ hTO₃) (h1₃.at fun o e => Heap.get?_push_of_some _ e) (h2₃.at fun o e => Heap.get?_push_of_some _ e) hp hz4 fun c o c1 c2 c3 c4 e => Heap.get?_push_of_some _ (hk c o c1 c3 c4 e)

theorem zendL {z TI TO i1 i2 l1 l2 : Addr} {v : Value} {f : Bool} {k1 k2 : Nat} {xs ys : Array Value} {a b : Value} {Q : Fin → Shared → Prop} (hh : A.handled = none) (D : ZipApart z TI TO i1 i2 l1 l2)
    (hz : IsZ s.heap z TI TO v f) (hv : Out v) (hTI : IsPair s.heap TI (.ref i1) (.ref i2)) (hTO : IsPair s.heap TO a b)
    (h1 : s.heap.IsListIter i1 l1 k1) (h2 : s.heap.IsListIter i2 l2 k2) (hl1 : s.heap.IsList l1 xs) (hl2 : s.heap.IsList l2 ys) (hend : xs[k1]? = none ∨ ys[k2]? = none)
    (hE : ∀ h' e, (∀ c o, c ≠ z → c ≠ TO → c ≠ i1 → c ≠ i2 → s.heap.get? c = some o → h'.get? c = some o) → (∃ o, h'.get? e = some o ∧ o.cls = .type "StopIteration") → E (.ref e) { s with heap := h' }) :
    wpAny (model prog w) A (Builtin.«zip.__next__» ⟨[.ref z], []⟩) Q E s := by
  show wpAny _ _ (field (.ref z) 2 >>= _) _ _ _
  refine wpAny_bind (wpAny_field hz rfl (x := .bool false) rfl ?_)
  show wpAny _ _ (field (.ref z) 3 >>= _) _ _ _
  refine wpAny_bind (wpAny_field hz rfl (x := .ref TI) rfl ?_)
  refine wpAny_bind (wpAny_seqItems hTI rfl ?_)
  show wpAny _ _ (Builtin.SmallTypes.ownedTupleIsFree (.ref z) >>= _) _ _ _
  refine wpAny_bind (own_free hz hv ?_ fun h₁ hz₁ hs₁ => ?_)
  · simp only [if_true]
    refine wpAny_bind (wpAny_rule ?_)
    refine wpAny_bind (wpAny_field hz rfl (x := .ref TO) rfl ?_)
    refine wpAny_bind (wpAny_setField_rec hz (by simp) fun h₁ hz₁ hs₁ => ?_)
    replace hz₁ : IsZ h₁ z TI TO .ellipsis f := hz₁
    refine wpAny_bind ?_
    simp only [List.zipIdx_cons, List.zipIdx_nil, List.forIn_cons, List.forIn_nil]
    refine wpAny_bind (wpAny_bind (wpAny_onRaise ?_))
    show wpAny _ _ (Builtin.SmallTypes.nextOf (.ref i1) >>= _) _ _ _
    cases hx : xs[k1]? with
    | none =>
      refine wpAny_bind (wpAny_nextOf_list_end hh (h1.extBut hs₁.extBut D.i1z) (hl1.extBut hs₁.extBut D.l1z) hx fun h₂ e hs₂ he => ?_)
      obtain ⟨oe, hoe, hce⟩ := he
      have hz₂ : IsZ h₂ z TI TO .ellipsis f := hs₂ _ _ D.i1z.symm hz₁
      have hez : e ≠ z := fun x => by subst x; rw [hz₂] at hoe; cases hoe; simp at hce
      refine wpAny_setField_rec hz₂ (by simp) fun h₃ _ hs₃ => hE h₃ e (fun c o c1 _ c3 _ x => hs₃.extBut _ _ c1 (hs₂ _ _ c3 (hs₁.extBut _ _ c1 x))) ⟨oe, hs₃.extBut _ _ hez hoe, hce⟩
    | some x =>
      have hy : ys[k2]? = none := by rcases hend with h | h; rw [hx] at h; cases h; exact h
      refine wpAny_bind (wpAny_nextOf_list_item (h1.extBut hs₁.extBut D.i1z) (hl1.extBut hs₁.extBut D.l1z) hx fun h₂ h1₂ hs₂ => wpAny_pure ?_)
      have hTO₂ : IsPair h₂ TO a b := hs₂.extBut _ _ D.TOi1 (hs₁.extBut _ _ D.TOz hTO)
      refine wpAny_bind (wpAny_seqItems hTO₂ rfl ?_)
      refine wpAny_bind (wpAny_updateSeq_pair hTO₂ fun h₃ hTO₃ hs₃ => ?_)
      refine wpAny_bind (wpAny_letGo (wpAny_pure ?_))
      refine wpAny_bind (wpAny_bind (wpAny_onRaise ?_))
      show wpAny _ _ (Builtin.SmallTypes.nextOf (.ref i2) >>= _) _ _ _
      refine wpAny_bind (wpAny_nextOf_list_end hh (((h2.extBut hs₁.extBut D.i2z).extBut hs₂.extBut D.i12.symm).extBut hs₃.extBut D.TOi2.symm)
        (((hl2.extBut hs₁.extBut D.l2z).extBut hs₂.extBut D.l2i1).extBut hs₃.extBut D.l2TO) hy fun h₄ e hs₄ he => ?_)
      obtain ⟨oe, hoe, hce⟩ := he
      have hz₄ : IsZ h₄ z TI TO .ellipsis f := hs₄ _ _ D.i2z.symm (hs₃.extBut _ _ D.TOz.symm (hs₂.extBut _ _ D.i1z.symm hz₁))
      have hez : e ≠ z := fun x => by subst x; rw [hz₄] at hoe; cases hoe; simp at hce
      refine wpAny_setField_rec hz₄ (by simp) fun h₅ _ hs₅ => hE h₅ e (fun c o c1 c2 c3 c4 x => hs₅.extBut _ _ c1 (hs₄ _ _ c4 (hs₃.extBut _ _ c2 (hs₂.extBut _ _ c3 (hs₁.extBut _ _ c1 x))))) ⟨oe, hs₅.extBut _ _ hez hoe, hce⟩
  · simp only [Bool.false_eq_true, if_false]
    refine wpAny_bind ?_
    rw [← Array.forIn_toList]
    simp only [List.forIn_cons, List.forIn_nil]
    refine wpAny_bind (wpAny_bind (wpAny_holding ?_))
    show wpAny _ _ (Builtin.SmallTypes.nextOf (.ref i1) >>= _) _ _ _
    cases hx : xs[k1]? with
    | none =>
      refine wpAny_bind (wpAny_nextOf_list_end (s := { s with heap := h₁ }) hh (h1.extBut hs₁.extBut D.i1z) (hl1.extBut hs₁.extBut D.l1z) hx fun h₂ e hs₂ he => ?_)
      exact hE h₂ e (fun c o c1 _ c2 _ x => hs₂ _ _ c2 (hs₁.extBut _ _ c1 x)) he
    | some x =>
      have hy : ys[k2]? = none := by rcases hend with h | h; rw [hx] at h; cases h; exact h
      refine wpAny_bind (wpAny_nextOf_list_item (s := { s with heap := h₁ }) (h1.extBut hs₁.extBut D.i1z) (hl1.extBut hs₁.extBut D.l1z) hx fun h₂ h1₂ hs₂ => wpAny_pure ?_)
      refine wpAny_pure ?_
      refine wpAny_bind (wpAny_bind (wpAny_holding ?_))
      show wpAny _ _ (Builtin.SmallTypes.nextOf (.ref i2) >>= _) _ _ _
      refine wpAny_bind (wpAny_nextOf_list_end (s := { s with heap := h₂ }) hh ((h2.extBut hs₁.extBut D.i2z).extBut hs₂.extBut D.i12.symm) ((hl2.extBut hs₁.extBut D.l2z).extBut hs₂.extBut D.l2i1) hy fun h₃ e hs₃ he => ?_)
      exact hE h₃ e (fun c o c1 _ c2 c3 x => hs₃ _ _ c3 (hs₂.extBut _ _ c2 (hs₁.extBut _ _ c1 x))) he

theorem pyznextL {z TI TO i1 i2 l1 l2 : Addr} {v : Value} {f : Bool} {k1 k2 : Nat} {xs ys : Array Value} {x y a b : Value} {Q : Option Value → Shared → Prop} (D : ZipApart z TI TO i1 i2 l1 l2)
    (hz : IsZ s.heap z TI TO v f) (hv : Out v) (hTI : IsPair s.heap TI (.ref i1) (.ref i2)) (hTO : IsPair s.heap TO a b)
    (h1 : s.heap.IsListIter i1 l1 k1) (h2 : s.heap.IsListIter i2 l2 k2) (hl1 : s.heap.IsList l1 xs) (hl2 : s.heap.IsList l2 ys) (hx : xs[k1]? = some x) (hy : ys[k2]? = some y)
    (hQ : ∀ h' v' f' a' b', Out v' → IsZ h' z TI TO v' f' → IsPair h' TO a' b' → h'.IsListIter i1 l1 (k1 + 1) → h'.IsListIter i2 l2 (k2 + 1) → IsPair h' s.heap.objs.size x y → h'.objs.size = s.heap.objs.size + 1 →
      (∀ c o, c ≠ z → c ≠ TO → c ≠ i1 → c ≠ i2 → s.heap.get? c = some o → h'.get? c = some o) → Q (some (.ref s.heap.objs.size)) { s with heap := h' }) :
    wpAny (model prog w) A (pyNext (.ref z)) Q E s := by
  have hT : s.TypeIs (.ref z) "zip" := ⟨_, hz, rfl⟩
  unfold pyNext
  exact wpAny_bind (wpAny_attempt (wpAny_callSpecial?_slot (name := Str.ofString "__next__") hT F.slot_zip_next
    (wpAny_call_entry F.slot_zip_next hT F.entry_zip_next
      (znextL D hz hv hTI hTO h1 h2 hl1 hl2 hx hy fun h' v' f' a' b' c1 c2 c3 c4 c5 c6 c7 c8 => wpAny_pure (hQ h' v' f' a' b' c1 c2 c3 c4 c5 c6 c7 c8)) (F.args_zip_next_1 _))))
theorem pyzendL {z TI TO i1 i2 l1 l2 : Addr} {v : Value} {f : Bool} {k1 k2 : Nat} {xs ys : Array Value} {a b : Value} {Q : Option Value → Shared → Prop} (hh : A.handled = none) (D : ZipApart z TI TO i1 i2 l1 l2)
    (hz : IsZ s.heap z TI TO v f) (hv : Out v) (hTI : IsPair s.heap TI (.ref i1) (.ref i2)) (hTO : IsPair s.heap TO a b)
    (h1 : s.heap.IsListIter i1 l1 k1) (h2 : s.heap.IsListIter i2 l2 k2) (hl1 : s.heap.IsList l1 xs) (hl2 : s.heap.IsList l2 ys) (hend : xs[k1]? = none ∨ ys[k2]? = none)
    (hQ : ∀ h', (∀ c o, c ≠ z → c ≠ TO → c ≠ i1 → c ≠ i2 → s.heap.get? c = some o → h'.get? c = some o) → Q none { s with heap := h' }) : wpAny (model prog w) A (pyNext (.ref z)) Q E s := by
  have hT : s.TypeIs (.ref z) "zip" := ⟨_, hz, rfl⟩
  unfold pyNext
  refine wpAny_bind (wpAny_attempt (wpAny_callSpecial?_slot (name := Str.ofString "__next__") hT F.slot_zip_next
    (wpAny_call_entry F.slot_zip_next hT F.entry_zip_next (zendL hh D hz hv hTI hTO h1 h2 hl1 hl2 hend fun h' e hk he => ?_) (F.args_zip_next_1 _))))
  obtain ⟨o, ho, hc⟩ := he
  refine wpAny_bind (wpAny_isInstance (T := "StopIteration") (b := true) ⟨o, ho, hc⟩ isSubtype_stop ?_)
  exact wpAny_pure (hQ _ hk)

theorem znextT {z TI TO i1 i2 l1 l2 : Addr} {v : Value} {f : Bool} {k1 k2 : Nat} {xs ys : Array Value} {x y a b : Value} {Q : Value → Shared → Prop} (D : ZipApart z TI TO i1 i2 l1 l2)
    (hz : IsZ s.heap z TI TO v f) (hv : Out v) (hTI : IsPair s.heap TI (.ref i1) (.ref i2)) (hTO : IsPair s.heap TO a b)
    (h1 : s.heap.IsTupleIter i1 l1 k1) (h2 : s.heap.IsTupleIter i2 l2 k2) (hl1 : s.heap.IsTuple l1 xs) (hl2 : s.heap.IsTuple l2 ys) (hx : xs[k1]? = some x) (hy : ys[k2]? = some y)
    (hQ : ∀ h' v' f' a' b', Out v' → IsZ h' z TI TO v' f' → IsPair h' TO a' b' → h'.IsTupleIter i1 l1 (k1 + 1) → h'.IsTupleIter i2 l2 (k2 + 1) → IsPair h' s.heap.objs.size x y → h'.objs.size = s.heap.objs.size + 1 →
      (∀ c o, c ≠ z → c ≠ TO → c ≠ i1 → c ≠ i2 → s.heap.get? c = some o → h'.get? c = some o) → Q (.ref s.heap.objs.size) { s with heap := h' }) :
    wpAny (model prog w) A (Builtin.«zip.__next__» ⟨[.ref z], []⟩) (fun fin s' => ∃ v, fin = .done (.ret v) ∧ Q v s') E s := by
  show wpAny _ _ (field (.ref z) 2 >>= _) _ _ _
  refine wpAny_bind (wpAny_field hz rfl (x := .bool false) rfl ?_)
  show wpAny _ _ (field (.ref z) 3 >>= _) _ _ _
  refine wpAny_bind (wpAny_field hz rfl (x := .ref TI) rfl ?_)
  refine wpAny_bind (wpAny_seqItems hTI rfl ?_)
  show wpAny _ _ (Builtin.SmallTypes.ownedTupleIsFree (.ref z) >>= _) _ _ _
  refine wpAny_bind (own_free hz hv ?_ fun h₁ hz₁ hs₁ => ?_)
  · simp only [if_true]
    refine wpAny_bind (wpAny_rule ?_)
    refine wpAny_bind (wpAny_field hz rfl (x := .ref TO) rfl ?_)
    refine wpAny_bind (wpAny_setField_rec hz (by simp) fun h₁ hz₁ hs₁ => ?_)
    replace hz₁ : IsZ h₁ z TI TO .ellipsis f := hz₁
    refine wpAny_bind ?_
    simp only [List.zipIdx_cons, List.zipIdx_nil, List.forIn_cons, List.forIn_nil]
    refine wpAny_bind (wpAny_bind (wpAny_onRaise ?_))
    show wpAny _ _ (Builtin.SmallTypes.nextOf (.ref i1) >>= _) _ _ _
    refine wpAny_bind (nextOf_tuple_item (h1.extBut hs₁.extBut D.i1z) (hl1.extBut hs₁.extBut D.l1z) hx fun h₂ h1₂ hs₂ => wpAny_pure ?_)
    have hTO₂ : IsPair h₂ TO a b := hs₂.extBut _ _ D.TOi1 (hs₁.extBut _ _ D.TOz hTO)
    refine wpAny_bind (wpAny_seqItems hTO₂ rfl ?_)
    refine wpAny_bind (wpAny_updateSeq_pair hTO₂ fun h₃ hTO₃ hs₃ => ?_)
    replace hTO₃ : IsPair h₃ TO x b := hTO₃
    refine wpAny_bind (wpAny_letGo (wpAny_pure ?_))
    refine wpAny_bind (wpAny_bind (wpAny_onRaise ?_))
    show wpAny _ _ (Builtin.SmallTypes.nextOf (.ref i2) >>= _) _ _ _
    refine wpAny_bind (nextOf_tuple_item (((h2.extBut hs₁.extBut D.i2z).extBut hs₂.extBut D.i12.symm).extBut hs₃.extBut D.TOi2.symm)
      (((hl2.extBut hs₁.extBut D.l2z).extBut hs₂.extBut D.l2i1).extBut hs₃.extBut D.l2TO) hy fun h₄ h2₄ hs₄ => wpAny_pure ?_)
    have hTO₄ : IsPair h₄ TO x b := hs₄.extBut _ _ D.TOi2 hTO₃
    refine wpAny_bind (wpAny_seqItems hTO₄ rfl ?_)
    refine wpAny_bind (wpAny_updateSeq_pair hTO₄ fun h₅ hTO₅ hs₅ => ?_)
    replace hTO₅ : IsPair h₅ TO x y := hTO₅
    refine wpAny_bind (wpAny_letGo (wpAny_pure (wpAny_pure ?_)))
    refine wpAny_bind (wpAny_seqItems hTO₅ rfl ?_)
    refine wpAny_bind (wpAny_newTuple ?_)
    have hsz : h₅.objs.size = s.heap.objs.size := by rw [hs₅.1, hs₄.1, hs₃.1, hs₂.1, hs₁.1]
    have hz₅ : IsZ h₅ z TI TO .ellipsis f := hs₅.extBut _ _ D.TOz.symm (hs₄.extBut _ _ D.i2z.symm (hs₃.extBut _ _ D.TOz.symm (hs₂.extBut _ _ D.i1z.symm hz₁)))
    have hk₅ : ∀ c o, c ≠ z → c ≠ TO → c ≠ i1 → c ≠ i2 → s.heap.get? c = some o → h₅.get? c = some o := fun c o c1 c2 c3 c4 e =>
      hs₅.extBut _ _ c2 (hs₄.extBut _ _ c4 (hs₃.extBut _ _ c2 (hs₂.extBut _ _ c3 (hs₁.extBut _ _ c1 e))))
    have h1₅ : h₅.IsTupleIter i1 l1 (k1 + 1) := ((h1₂.extBut hs₃.extBut D.TOi1.symm).extBut hs₄.extBut D.i12).extBut hs₅.extBut D.TOi1.symm
    have h2₅ : h₅.IsTupleIter i2 l2 (k2 + 1) := h2₄.extBut hs₅.extBut D.TOi2.symm
    have hzlt : z < h₅.objs.size := Heap.lt_size hz₅
    show wpAny _ _ (Builtin.SmallTypes.ownedTupleHandOut (.ref z) (.ref h₅.objs.size) >>= _) _ _ _
    refine wpAny_bind ?_
    unfold Builtin.SmallTypes.ownedTupleHandOut
    have hz₆ : IsZ (h₅.push { cls := .type "tuple", data := .seq #[x, y] }) z TI TO .ellipsis f := Heap.get?_push_of_some _ hz₅
    refine wpAny_bind (wpAny_setField_rec hz₆ (by simp) fun h₇ hz₇ hs₇ => ?_)
    replace hz₇ : IsZ h₇ z TI TO (rawInt h₅.objs.size) f := hz₇
    refine wpAny_setField_rec hz₇ (by simp) fun h₈ hz₈ hs₈ => ?_
    replace hz₈ : IsZ h₈ z TI TO (rawInt h₅.objs.size) false := hz₈
    have up : ∀ c o, c ≠ z → h₅.get? c = some o → h₈.get? c = some o := fun c o c1 e => hs₈.extBut _ _ c1 (hs₇.extBut _ _ c1 (Heap.get?_push_of_some _ e))
    have hT₈ : IsPair h₈ h₅.objs.size x y := hs₈.extBut _ _ (Nat.ne_of_gt hzlt) (hs₇.extBut _ _ (Nat.ne_of_gt hzlt) (Heap.get?_push_size _ rfl))
    have hz8 : h₈.objs.size = h₅.objs.size + 1 := by rw [hs₈.1, hs₇.1, Heap.size_push]
    rw [hsz] at hz₈ hT₈ hz8
    refine wpAny_pure ⟨_, rfl, ?_⟩
    show Q (.ref h₅.objs.size) _
    rw [hsz]
    exact hQ h₈ _ _ _ _ (.inr ⟨_, rfl⟩) hz₈ (up _ _ D.TOz hTO₅) (h1₅.at fun o e => up _ o D.i1z e) (h2₅.at fun o e => up _ o D.i2z e) hT₈ hz8 fun c o c1 c2 c3 c4 e => up c o c1 (hk₅ c o c1 c2 c3 c4 e)
  · simp only [Bool.false_eq_true, if_false]
    refine wpAny_bind ?_
    rw [← Array.forIn_toList]
    simp only [List.forIn_cons, List.forIn_nil]
    refine wpAny_bind (wpAny_bind (wpAny_holding ?_))
    show wpAny _ _ (Builtin.SmallTypes.nextOf (.ref i1) >>= _) _ _ _
    refine wpAny_bind (nextOf_tuple_item (s := { s with heap := h₁ }) (h1.extBut hs₁.extBut D.i1z) (hl1.extBut hs₁.extBut D.l1z) hx fun h₂ h1₂ hs₂ => wpAny_pure ?_)
    refine wpAny_pure ?_
    refine wpAny_bind (wpAny_bind (wpAny_holding ?_))
    show wpAny _ _ (Builtin.SmallTypes.nextOf (.ref i2) >>= _) _ _ _
    refine wpAny_bind (nextOf_tuple_item (s := { s with heap := h₂ }) ((h2.extBut hs₁.extBut D.i2z).extBut hs₂.extBut D.i12.symm) ((hl2.extBut hs₁.extBut D.l2z).extBut hs₂.extBut D.l2i1) hy fun h₃ h2₃ hs₃ => wpAny_pure ?_)
    refine wpAny_pure (wpAny_pure ?_)
    show wpAny _ _ (newTuple [x, y] >>= _) _ _ _
    refine wpAny_bind (wpAny_newTuple ?_)
    have hsz : h₃.objs.size = s.heap.objs.size := by rw [hs₃.1, hs₂.1, hs₁.1]
    have hz₃ : IsZ h₃ z TI TO v true := hs₃.extBut _ _ D.i2z.symm (hs₂.extBut _ _ D.i1z.symm hz₁)
    have hk : ∀ c o, c ≠ z → c ≠ i1 → c ≠ i2 → s.heap.get? c = some o → h₃.get? c = some o := fun c o c1 c2 c3 e => hs₃.extBut _ _ c3 (hs₂.extBut _ _ c2 (hs₁.extBut _ _ c1 e))
    have h1₃ : h₃.IsTupleIter i1 l1 (k1 + 1) := h1₂.extBut hs₃.extBut D.i12
    have hTO₃ : IsPair h₃ TO a b := hk _ _ D.TOz D.TOi1 D.TOi2 hTO
    refine wpAny_pure ⟨_, rfl, ?_⟩
    show Q (.ref h₃.objs.size) _
    have hp : IsPair (h₃.push { cls := .type "tuple", data := .seq #[x, y] }) h₃.objs.size x y := Heap.get?_push_size _ rfl
    have hz4 : (h₃.push { cls := .type "tuple", data := .seq #[x, y] }).objs.size = h₃.objs.size + 1 := Heap.size_push ..
    rw [hsz] at hp hz4 ⊢
    exact hQ _ _ _ _ _ hv (Heap.get?_push_of_some _ hz₃) (Heap.get?_push_of_some _ hTO₃) (h1₃.at fun o e => Heap.get?_push_of_some _ e) (h2₃.at fun o e => Heap.get?_push_of_some _ e) hp hz4 fun c o c1 c2 c3 c4 e => Heap.get?_push_of_some _ (hk c o c1 c3 c4 e)

theorem zendT {z TI TO i1 i2 l1 l2 : Addr} {v : Value} {f : Bool} {k1 k2 : Nat} {xs ys : Array Value} {a b : Value} {Q : Fin → Shared → Prop} (hh : A.handled = none) (D : ZipApart z TI TO i1 i2 l1 l2)
    (hz : IsZ s.heap z TI TO v f) (hv : Out v) (hTI : IsPair s.heap TI (.ref i1) (.ref i2)) (hTO : IsPair s.heap TO a b)
    (h1 : s.heap.IsTupleIter i1 l1 k1) (h2 : s.heap.IsTupleIter i2 l2 k2) (hl1 : s.heap.IsTuple l1 xs) (hl2 : s.heap.IsTuple l2 ys) (hend : xs[k1]? = none ∨ ys[k2]? = none)
    (hE : ∀ h' e, (∀ c o, c ≠ z → c ≠ TO → c ≠ i1 → c ≠ i2 → s.heap.get? c = some o → h'.get? c = some o) → (∃ o, h'.get? e = some o ∧ o.cls = .type "StopIteration") → E (.ref e) { s with heap := h' }) :
    wpAny (model prog w) A (Builtin.«zip.__next__» ⟨[.ref z], []⟩) Q E s := by
  show wpAny _ _ (field (.ref z) 2 >>= _) _ _ _
  refine wpAny_bind (wpAny_field hz rfl (x := .bool false) rfl ?_)
  show wpAny _ _ (field (.ref z) 3 >>= _) _ _ _
  refine wpAny_bind (wpAny_field hz rfl (x := .ref TI) rfl ?_)
  refine wpAny_bind (wpAny_seqItems hTI rfl ?_)
  show wpAny _ _ (Builtin.SmallTypes.ownedTupleIsFree (.ref z) >>= _) _ _ _
  refine wpAny_bind (own_free hz hv ?_ fun h₁ hz₁ hs₁ => ?_)
  · simp only [if_true]
    refine wpAny_bind (wpAny_rule ?_)
    refine wpAny_bind (wpAny_field hz rfl (x := .ref TO) rfl ?_)
    refine wpAny_bind (wpAny_setField_rec hz (by simp) fun h₁ hz₁ hs₁ => ?_)
    replace hz₁ : IsZ h₁ z TI TO .ellipsis f := hz₁
    refine wpAny_bind ?_
    simp only [List.zipIdx_cons, List.zipIdx_nil, List.forIn_cons, List.forIn_nil]
    refine wpAny_bind (wpAny_bind (wpAny_onRaise ?_))
    show wpAny _ _ (Builtin.SmallTypes.nextOf (.ref i1) >>= _) _ _ _
    cases hx : xs[k1]? with
    | none =>
      refine wpAny_bind (nextOf_tuple_end hh (h1.extBut hs₁.extBut D.i1z) (hl1.extBut hs₁.extBut D.l1z) hx fun h₂ e hs₂ he => ?_)
      obtain ⟨oe, hoe, hce⟩ := he
      have hz₂ : IsZ h₂ z TI TO .ellipsis f := hs₂ _ _ D.i1z.symm hz₁
      have hez : e ≠ z := fun x => by subst x; rw [hz₂] at hoe; cases hoe; simp at hce
      refine wpAny_setField_rec hz₂ (by simp) fun h₃ _ hs₃ => hE h₃ e (fun c o c1 _ c3 _ x => hs₃.extBut _ _ c1 (hs₂ _ _ c3 (hs₁.extBut _ _ c1 x))) ⟨oe, hs₃.extBut _ _ hez hoe, hce⟩
    | some x =>
      have hy : ys[k2]? = none := by rcases hend with h | h; rw [hx] at h; cases h; exact h
      refine wpAny_bind (nextOf_tuple_item (h1.extBut hs₁.extBut D.i1z) (hl1.extBut hs₁.extBut D.l1z) hx fun h₂ h1₂ hs₂ => wpAny_pure ?_)
      have hTO₂ : IsPair h₂ TO a b := hs₂.extBut _ _ D.TOi1 (hs₁.extBut _ _ D.TOz hTO)
      refine wpAny_bind (wpAny_seqItems hTO₂ rfl ?_)
      refine wpAny_bind (wpAny_updateSeq_pair hTO₂ fun h₃ hTO₃ hs₃ => ?_)
      refine wpAny_bind (wpAny_letGo (wpAny_pure ?_))
      refine wpAny_bind (wpAny_bind (wpAny_onRaise ?_))
      show wpAny _ _ (Builtin.SmallTypes.nextOf (.ref i2) >>= _) _ _ _
      refine wpAny_bind (nextOf_tuple_end hh (((h2.extBut hs₁.extBut D.i2z).extBut hs₂.extBut D.i12.symm).extBut hs₃.extBut D.TOi2.symm)
        (((hl2.extBut hs₁.extBut D.l2z).extBut hs₂.extBut D.l2i1).extBut hs₃.extBut D.l2TO) hy fun h₄ e hs₄ he => ?_)
      obtain ⟨oe, hoe, hce⟩ := he
      have hz₄ : IsZ h₄ z TI TO .ellipsis f := hs₄ _ _ D.i2z.symm (hs₃.extBut _ _ D.TOz.symm (hs₂.extBut _ _ D.i1z.symm hz₁))
      have hez : e ≠ z := fun x => by subst x; rw [hz₄] at hoe; cases hoe; simp at hce
      refine wpAny_setField_rec hz₄ (by simp) fun h₅ _ hs₅ => hE h₅ e (fun c o c1 c2 c3 c4 x => hs₅.extBut _ _ c1 (hs₄ _ _ c4 (hs₃.extBut _ _ c2 (hs₂.extBut _ _ c3 (hs₁.extBut _ _ c1 x))))) ⟨oe, hs₅.extBut _ _ hez hoe, hce⟩
  · simp only [Bool.false_eq_true, if_false]
    refine wpAny_bind ?_
    rw [← Array.forIn_toList]
    simp only [List.forIn_cons, List.forIn_nil]
    refine wpAny_bind (wpAny_bind (wpAny_holding ?_))
    show wpAny _ _ (Builtin.SmallTypes.nextOf (.ref i1) >>= _) _ _ _
    cases hx : xs[k1]? with
    | none =>
      refine wpAny_bind (nextOf_tuple_end (s := { s with heap := h₁ }) hh (h1.extBut hs₁.extBut D.i1z) (hl1.extBut hs₁.extBut D.l1z) hx fun h₂ e hs₂ he => ?_)
      exact hE h₂ e (fun c o c1 _ c2 _ x => hs₂ _ _ c2 (hs₁.extBut _ _ c1 x)) he
    | some x =>
      have hy : ys[k2]? = none := by rcases hend with h | h; rw [hx] at h; cases h; exact h
      refine wpAny_bind (nextOf_tuple_item (s := { s with heap := h₁ }) (h1.extBut hs₁.extBut D.i1z) (hl1.extBut hs₁.extBut D.l1z) hx fun h₂ h1₂ hs₂ => wpAny_pure ?_)
      refine wpAny_pure ?_
      refine wpAny_bind (wpAny_bind (wpAny_holding ?_))
      show wpAny _ _ (Builtin.SmallTypes.nextOf (.ref i2) >>= _) _ _ _
      refine wpAny_bind (nextOf_tuple_end (s := { s with heap := h₂ }) hh ((h2.extBut hs₁.extBut D.i2z).extBut hs₂.extBut D.i12.symm) ((hl2.extBut hs₁.extBut D.l2z).extBut hs₂.extBut D.l2i1) hy fun h₃ e hs₃ he => ?_)
      exact hE h₃ e (fun c o c1 _ c2 c3 x => hs₃ _ _ c3 (hs₂.extBut _ _ c2 (hs₁.extBut _ _ c1 x))) he

theorem pyznextT {z TI TO i1 i2 l1 l2 : Addr} {v : Value} {f : Bool} {k1 k2 : Nat} {xs ys : Array Value} {x y a b : Value} {Q : Option Value → Shared → Prop} (D : ZipApart z TI TO i1 i2 l1 l2)
    (hz : IsZ s.heap z TI TO v f) (hv : Out v) (hTI : IsPair s.heap TI (.ref i1) (.ref i2)) (hTO : IsPair s.heap TO a b)
    (h1 : s.heap.IsTupleIter i1 l1 k1) (h2 : s.heap.IsTupleIter i2 l2 k2) (hl1 : s.heap.IsTuple l1 xs) (hl2 : s.heap.IsTuple l2 ys) (hx : xs[k1]? = some x) (hy : ys[k2]? = some y)
    (hQ : ∀ h' v' f' a' b', Out v' → IsZ h' z TI TO v' f' → IsPair h' TO a' b' → h'.IsTupleIter i1 l1 (k1 + 1) → h'.IsTupleIter i2 l2 (k2 + 1) → IsPair h' s.heap.objs.size x y → h'.objs.size = s.heap.objs.size + 1 →
      (∀ c o, c ≠ z → c ≠ TO → c ≠ i1 → c ≠ i2 → s.heap.get? c = some o → h'.get? c = some o) → Q (some (.ref s.heap.objs.size)) { s with heap := h' }) :
    wpAny (model prog w) A (pyNext (.ref z)) Q E s := by
  have hT : s.TypeIs (.ref z) "zip" := ⟨_, hz, rfl⟩
  unfold pyNext
  exact wpAny_bind (wpAny_attempt (wpAny_callSpecial?_slot (name := Str.ofString "__next__") hT F.slot_zip_next
    (wpAny_call_entry F.slot_zip_next hT F.entry_zip_next
      (znextT D hz hv hTI hTO h1 h2 hl1 hl2 hx hy fun h' v' f' a' b' c1 c2 c3 c4 c5 c6 c7 c8 => wpAny_pure (hQ h' v' f' a' b' c1 c2 c3 c4 c5 c6 c7 c8)) (F.args_zip_next_1 _))))
theorem pyzendT {z TI TO i1 i2 l1 l2 : Addr} {v : Value} {f : Bool} {k1 k2 : Nat} {xs ys : Array Value} {a b : Value} {Q : Option Value → Shared → Prop} (hh : A.handled = none) (D : ZipApart z TI TO i1 i2 l1 l2)
    (hz : IsZ s.heap z TI TO v f) (hv : Out v) (hTI : IsPair s.heap TI (.ref i1) (.ref i2)) (hTO : IsPair s.heap TO a b)
    (h1 : s.heap.IsTupleIter i1 l1 k1) (h2 : s.heap.IsTupleIter i2 l2 k2) (hl1 : s.heap.IsTuple l1 xs) (hl2 : s.heap.IsTuple l2 ys) (hend : xs[k1]? = none ∨ ys[k2]? = none)
    (hQ : ∀ h', (∀ c o, c ≠ z → c ≠ TO → c ≠ i1 → c ≠ i2 → s.heap.get? c = some o → h'.get? c = some o) → Q none { s with heap := h' }) : wpAny (model prog w) A (pyNext (.ref z)) Q E s := by
  have hT : s.TypeIs (.ref z) "zip" := ⟨_, hz, rfl⟩
  unfold pyNext
  refine wpAny_bind (wpAny_attempt (wpAny_callSpecial?_slot (name := Str.ofString "__next__") hT F.slot_zip_next
    (wpAny_call_entry F.slot_zip_next hT F.entry_zip_next (zendT hh D hz hv hTI hTO h1 h2 hl1 hl2 hend fun h' e hk he => ?_) (F.args_zip_next_1 _))))
  obtain ⟨o, ho, hc⟩ := he
  refine wpAny_bind (wpAny_isInstance (T := "StopIteration") (b := true) ⟨o, ho, hc⟩ isSubtype_stop ?_)
  exact wpAny_pure (hQ _ hk)
end
def isSeqTg : Expr → Bool
  | .Tuple .. => true
  | .List .. => true
  | _ => false
theorem go_plain {M : Model} {A : Around} {E : Value → Shared → Prop} {s : Shared} {tg : Expr} {it v : Value} {Q : Unit → Shared → Prop} (h : isSeqTg tg = false) (q : Q () s) : wpAny M A (letOwnedTupleGo tg it v) Q E s := by
  cases tg <;> first | exact wpAny_pure q | cases h
theorem pyiter_z {prog : Program} {w : World} {A : Around} {E : Value → Shared → Prop} {s : Shared} {z TI TO : Addr} {Q : Value → Shared → Prop} (hz : ∃ v f, Out v ∧ IsZ s.heap z TI TO v f) (h : Q (.ref z) s) : wpAny (model prog w) A (pyIter (.ref z)) Q E s := by
  obtain ⟨v, f, _, hz⟩ := hz
  have hT : s.TypeIs (.ref z) "zip" := ⟨_, hz, rfl⟩
  refine wpAny_pyIter_slot hT F.slot_zip_iter (wpAny_call_entry F.slot_zip_iter hT F.entry_zip_iter ?_ (F.args_zip_iter_1 _))
  show wpAny _ _ (ret (.ref z)) _ _ s
  exact wpAny_pure ⟨_, rfl, "zip", _, hT, F.slot_zip_next.lookup, h⟩

theorem turn_zL {P : Program} {w : World} {K : PySem.W.Frag} {tg : Expr} (ht : isSeqTg tg = false) {a b z TI TO i1 i2 : Addr} (D : ZipApart z TI TO i1 i2 a b) :
    Turn P w K tg (Itz K a b) [z, TI, TO, i1, i2] z (fun i h => (∃ v f, Out v ∧ IsZ h z TI TO v f) ∧ IsPair h TI (.ref i1) (.ref i2) ∧ (∃ x y, IsPair h TO x y) ∧ h.IsListIter i1 a i ∧ h.IsListIter i2 b i) where
  mem := by simp
  obj := fun i h st c hc => by
    obtain ⟨⟨v, f, _, hz⟩, hTI, ⟨x, y, hTO⟩, ⟨o1, e1, _, d1⟩, ⟨o2, e2, _, d2⟩⟩ := st
    have e' : c = z ∨ c = TI ∨ c = TO ∨ c = i1 ∨ c = i2 := by simpa using hc
    rcases e' with q | q | q | q | q
    · rw [q]; exact ⟨_, hz, fun v q => nomatch q⟩
    · rw [q]; exact ⟨_, hTI, fun v q => nomatch q⟩
    · rw [q]; exact ⟨_, hTO, fun v q => nomatch q⟩
    · rw [q]; exact ⟨o1, e1, fun v q => by rw [d1] at q; cases q⟩
    · rw [q]; exact ⟨o2, e2, fun v q => by rw [d2] at q; cases q⟩
  keep := fun i h h' st k => by
    obtain ⟨⟨v, f, hv, hz⟩, hTI, ⟨x, y, hTO⟩, h1, h2⟩ := st
    exact ⟨⟨v, f, hv, k z (by simp) _ hz⟩, k TI (by simp) _ hTI, ⟨x, y, k TO (by simp) _ hTO⟩, h1.at fun o q => k i1 (by simp) o q, h2.at fun o q => k i2 (by simp) o q⟩
  item := by
    intro X hP hw hK hc i pins s σ H E I hf st hg
    subst hP hw hK
    obtain ⟨⟨v0, f0, hv, hz⟩, hTI, ⟨x0, y0, hTO⟩, h1, h2⟩ := st
    obtain ⟨xs, ys, x, y, hqx, hqy, hx, hy⟩ := hg
    obtain ⟨its, rv, p, _⟩ := I.list hqx
    obtain ⟨its2, rv2, p2, _⟩ := I.list hqy
    obtain ⟨u, hu, ru⟩ := rv.get hx
    obtain ⟨u2, hu2, ru2⟩ := rv2.get hy
    have hzl : z < s.heap.objs.size := Heap.lt_size hz
    refine pyznextL D hz hv hTI hTO h1 h2 p.isList p2.isList (x := u) (y := u2) (by simpa using hu) (by simpa using hu2) fun h' v' f' a' b' hv' z' TO' h1' h2' hT hsz hk => ?_
    refine ⟨_, rfl, go_plain ht ?_⟩
    have new : ObjOk X.prog X.w (upd H s.heap.objs.size (.tup [x, y])) h' s.heap.objs.size (.tup [x, y]) :=
      ⟨by show 2 ≤ sizeLine; decide, [u, u2], .cons ru (.cons ru2 .nil), ⟨_, hT, rfl, _, rfl⟩⟩
    have I1 : Inv X pins σ (upd H s.heap.objs.size (.tup [x, y])) { s with heap := h' } :=
      I.turnedNew (t' := s.toks) (ch := [z, TI, TO, i1, i2]) (fun c o hb q => (hk c o (fun q' => hb (by simp [q'])) (fun q' => hb (by simp [q'])) (fun q' => hb (by simp [q'])) (fun q' => hb (by simp [q'])) q)) hf (Nat.le_refl _) new
    refine ⟨.ref s.heap.objs.size, _, I1, rfl, ⟨_, x, y, rfl, I.hok.fresh (Nat.le_refl _), rfl, fun l hl => by rw [I.list_inj hl hqx]; exact hx, fun l hl => by rw [I.list_inj hl hqy]; exact hy⟩, ⟨⟨v', f', hv', z'⟩, ?_, ⟨_, _, TO'⟩, h1', h2'⟩, fun c hcm => ?_⟩
    · exact hk _ _ D.TIz D.TITO D.TIi1 D.TIi2 hTI
    · have hlt : c < s.heap.objs.size := by
        have e' : c = z ∨ c = TI ∨ c = TO ∨ c = i1 ∨ c = i2 := by simpa using hcm
        rcases e' with q | q | q | q | q
        · rw [q]; exact hzl
        · rw [q]; exact Heap.lt_size hTI
        · rw [q]; exact Heap.lt_size hTO
        · rw [q]; obtain ⟨_, e1, _⟩ := h1; exact Heap.lt_size e1
        · rw [q]; obtain ⟨_, e2, _⟩ := h2; exact Heap.lt_size e2
      rw [upd_ne (Nat.ne_of_lt hlt)]
      exact (hf c hcm).1
  done := by
    intro X hP hw hK hc i pins s σ H E I hf st hg
    subst hP hw hK
    obtain ⟨⟨v0, f0, hv, hz⟩, hTI, ⟨x0, y0, hTO⟩, h1, h2⟩ := st
    obtain ⟨xs, ys, hqx, hqy, hend⟩ := hg
    obtain ⟨its, rv, p, _⟩ := I.list hqx
    obtain ⟨its2, rv2, p2, _⟩ := I.list hqy
    have l1 := rv.length
    have l2 := rv2.length
    have he : its.toArray[i]? = none ∨ its2.toArray[i]? = none := by
      rcases hend with q | q
      · exact .inl (by simp; omega)
      · exact .inr (by simp; omega)
    exact pyzendL (I.ok.hd hc) D hz hv hTI hTO h1 h2 p.isList p2.isList he fun h' hk => ⟨rfl, I.turnedL (t' := s.toks) (ch := [z, TI, TO, i1, i2]) (fun c o hb q =>
      hk c o (fun q' => hb (by simp [q'])) (fun q' => hb (by simp [q'])) (fun q' => hb (by simp [q'])) (fun q' => hb (by simp [q'])) q) hf⟩
  self := fun A i s Q E st h => pyiter_z st.1 h

theorem turn_zT {P : Program} {w : World} {K : PySem.W.Frag} {tg : Expr} (ht : isSeqTg tg = false) {a b z TI TO i1 i2 : Addr} (D : ZipApart z TI TO i1 i2 a b) :
    Turn P w K tg (RZ.ItzT K a b) [z, TI, TO, i1, i2] z (fun i h => (∃ v f, Out v ∧ IsZ h z TI TO v f) ∧ IsPair h TI (.ref i1) (.ref i2) ∧ (∃ x y, IsPair h TO x y) ∧ h.IsTupleIter i1 a i ∧ h.IsTupleIter i2 b i) where
  mem := by simp
  obj := fun i h st c hc => by
    obtain ⟨⟨v, f, _, hz⟩, hTI, ⟨x, y, hTO⟩, ⟨o1, e1, _, d1⟩, ⟨o2, e2, _, d2⟩⟩ := st
    have e' : c = z ∨ c = TI ∨ c = TO ∨ c = i1 ∨ c = i2 := by simpa using hc
    rcases e' with q | q | q | q | q
    · rw [q]; exact ⟨_, hz, fun v q => nomatch q⟩
    · rw [q]; exact ⟨_, hTI, fun v q => nomatch q⟩
    · rw [q]; exact ⟨_, hTO, fun v q => nomatch q⟩
    · rw [q]; exact ⟨o1, e1, fun v q => by rw [d1] at q; cases q⟩
    · rw [q]; exact ⟨o2, e2, fun v q => by rw [d2] at q; cases q⟩
  keep := fun i h h' st k => by
    obtain ⟨⟨v, f, hv, hz⟩, hTI, ⟨x, y, hTO⟩, h1, h2⟩ := st
    exact ⟨⟨v, f, hv, k z (by simp) _ hz⟩, k TI (by simp) _ hTI, ⟨x, y, k TO (by simp) _ hTO⟩, h1.at fun o q => k i1 (by simp) o q, h2.at fun o q => k i2 (by simp) o q⟩
  item := by
    intro X hP hw hK hc i pins s σ H E I hf st hg
    subst hP hw hK
    obtain ⟨⟨v0, f0, hv, hz⟩, hTI, ⟨x0, y0, hTO⟩, h1, h2⟩ := st
    obtain ⟨xs, ys, x, y, hqx, hqy, hx, hy⟩ := hg
    obtain ⟨its, rv, p, _⟩ := I.tuple hqx
    obtain ⟨its2, rv2, p2, _⟩ := I.tuple hqy
    obtain ⟨u, hu, ru⟩ := rv.get hx
    obtain ⟨u2, hu2, ru2⟩ := rv2.get hy
    have hzl : z < s.heap.objs.size := Heap.lt_size hz
    refine pyznextT D hz hv hTI hTO h1 h2 p p2 (x := u) (y := u2) (by simpa using hu) (by simpa using hu2) fun h' v' f' a' b' hv' z' TO' h1' h2' hT hsz hk => ?_
    refine ⟨_, rfl, go_plain ht ?_⟩
    have new : ObjOk X.prog X.w (upd H s.heap.objs.size (.tup [x, y])) h' s.heap.objs.size (.tup [x, y]) :=
      ⟨by show 2 ≤ sizeLine; decide, [u, u2], .cons ru (.cons ru2 .nil), ⟨_, hT, rfl, _, rfl⟩⟩
    have I1 : Inv X pins σ (upd H s.heap.objs.size (.tup [x, y])) { s with heap := h' } :=
      I.turnedNew (t' := s.toks) (ch := [z, TI, TO, i1, i2]) (fun c o hb q => (hk c o (fun q' => hb (by simp [q'])) (fun q' => hb (by simp [q'])) (fun q' => hb (by simp [q'])) (fun q' => hb (by simp [q'])) q)) hf (Nat.le_refl _) new
    refine ⟨.ref s.heap.objs.size, _, I1, rfl, ⟨_, x, y, rfl, I.hok.fresh (Nat.le_refl _), rfl, fun l hl => by rw [I.tuple_inj hl hqx]; exact hx, fun l hl => by rw [I.tuple_inj hl hqy]; exact hy⟩, ⟨⟨v', f', hv', z'⟩, ?_, ⟨_, _, TO'⟩, h1', h2'⟩, fun c hcm => ?_⟩
    · exact hk _ _ D.TIz D.TITO D.TIi1 D.TIi2 hTI
    · have hlt : c < s.heap.objs.size := by
        have e' : c = z ∨ c = TI ∨ c = TO ∨ c = i1 ∨ c = i2 := by simpa using hcm
        rcases e' with q | q | q | q | q
        · rw [q]; exact hzl
        · rw [q]; exact Heap.lt_size hTI
        · rw [q]; exact Heap.lt_size hTO
        · rw [q]; obtain ⟨_, e1, _⟩ := h1; exact Heap.lt_size e1
        · rw [q]; obtain ⟨_, e2, _⟩ := h2; exact Heap.lt_size e2
      rw [upd_ne (Nat.ne_of_lt hlt)]
      exact (hf c hcm).1
  done := by
    intro X hP hw hK hc i pins s σ H E I hf st hg
    subst hP hw hK
    obtain ⟨⟨v0, f0, hv, hz⟩, hTI, ⟨x0, y0, hTO⟩, h1, h2⟩ := st
    obtain ⟨xs, ys, hqx, hqy, hend⟩ := hg
    obtain ⟨its, rv, p, _⟩ := I.tuple hqx
    obtain ⟨its2, rv2, p2, _⟩ := I.tuple hqy
    have l1 := rv.length
    have l2 := rv2.length
    have he : its.toArray[i]? = none ∨ its2.toArray[i]? = none := by
      rcases hend with q | q
      · exact .inl (by simp; omega)
      · exact .inr (by simp; omega)
    exact pyzendT (I.ok.hd hc) D hz hv hTI hTO h1 h2 p p2 he fun h' hk => ⟨rfl, I.turnedL (t' := s.toks) (ch := [z, TI, TO, i1, i2]) (fun c o hb q =>
      hk c o (fun q' => hb (by simp [q'])) (fun q' => hb (by simp [q'])) (fun q' => hb (by simp [q'])) (fun q' => hb (by simp [q'])) q) hf⟩
  self := fun A i s Q E st h => pyiter_z st.1 h

theorem pi_zipN {X : Cx} {e e2 tg : Expr} {ta : TA} {p pos : Pos} (ht : isSeqTg tg = false) (hg : Gl X "zip") (hm : X.mg "zip" = none) (ha : PA X [e, e2] ta)
    (hs : starEach [e, e2] X.env = (false, eval e X.env) :: starEach [e2] X.env) (hpl : (backTo pos (starEach [e2] X.env)).any (·.1) = false) :
    PI X tg (.Call (.Name "zip" p) [e, e2] [] pos) (iZipA X.K ta) := by
  refine ⟨fun pins s σ H R I h => ?_⟩
  refine PyProof.Rows.Call_ (ld_blt I hg hm PyProof.Rows.boot_zip (PyProof.Rows.callWith_type1 (thn (ha.run pos pins s σ H _ I h) fun us s1 ⟨vs, H1, I1, r1, q1⟩ => ?_) hs hpl))
  obtain ⟨a, b, xs, ys, ex, q1⟩ := q1
  subst ex
  cases r1 with
  | cons r rr =>
    cases rr with
    | cons r' rr =>
      cases rr
      cases r
      cases r'
      have fresh5 : ∀ c, c ∈ [s1.heap.objs.size + 4, s1.heap.objs.size + 2, s1.heap.objs.size + 3, s1.heap.objs.size, s1.heap.objs.size + 1] → FpOk X pins H1 c := fun c hcm => by
        have e' : c = s1.heap.objs.size + 4 ∨ c = s1.heap.objs.size + 2 ∨ c = s1.heap.objs.size + 3 ∨ c = s1.heap.objs.size ∨ c = s1.heap.objs.size + 1 := by simpa using hcm
        have hle : s1.heap.objs.size ≤ c := by
          rcases e' with z | z | z | z | z
          · rw [z]; exact Nat.le_add_right _ _
          · rw [z]; exact Nat.le_add_right _ _
          · rw [z]; exact Nat.le_add_right _ _
          · rw [z]; exact Nat.le_refl _
          · rw [z]; exact Nat.le_add_right _ _
        exact I1.fpOk hle (I1.hok.fresh hle)
      rcases q1 with ⟨hqx, hqy, q⟩ | ⟨hqx, hqy, q⟩
      · obtain ⟨its, rv, p1, _⟩ := I1.list hqx
        obtain ⟨its2, rv2, p2, _⟩ := I1.list hqy
        refine call_zip_2 p1.isList p2.isList fun h' hz hTI hTO h1 h2 hsz hk => wpAny_pyIter_zip hz ?_
        have I2 : Inv X pins σ H1 { s1 with heap := h' } := I1.kept (t' := s1.toks) hk
        exact ⟨s1.heap.objs.size + 4, [s1.heap.objs.size + 4, s1.heap.objs.size + 2, s1.heap.objs.size + 3, s1.heap.objs.size, s1.heap.objs.size + 1], _, _, H1, rfl, I2, turn_zL ht (PySem.W.ktu_apart s1.heap.objs.size a b p1.lt p2.lt), ⟨⟨_, _, .inl rfl, hz⟩, hTI, ⟨_, _, hTO⟩, h1, h2⟩, fresh5, q⟩
      · obtain ⟨its, rv, p1, _⟩ := I1.tuple hqx
        obtain ⟨its2, rv2, p2, _⟩ := I1.tuple hqy
        obtain ⟨o1, ho1, _⟩ := id p1
        obtain ⟨o2, ho2, _⟩ := id p2
        refine call_zipT (show s1.heap.IsTuple a its.toArray from p1) (show s1.heap.IsTuple b its2.toArray from p2) fun h' hz hTI hTO h1 h2 hsz hk => wpAny_pyIter_zip hz ?_
        have I2 : Inv X pins σ H1 { s1 with heap := h' } := I1.kept (t' := s1.toks) hk
        exact ⟨s1.heap.objs.size + 4, [s1.heap.objs.size + 4, s1.heap.objs.size + 2, s1.heap.objs.size + 3, s1.heap.objs.size, s1.heap.objs.size + 1], _, _, H1, rfl, I2, turn_zT ht (PySem.W.ktu_apart s1.heap.objs.size a b (Heap.lt_size ho1) (Heap.lt_size ho2)), ⟨⟨_, _, .inl rfl, hz⟩, hTI, ⟨_, _, hTO⟩, h1, h2⟩, fresh5, q⟩
end RS


/-! RS10: what a loop walks; targets; comprehensions. -/
namespace RS
open PySem
open PySem.Spec
open L2
open PyProof.Rows (envOfC)
/-- an iterator that walks some items, whatever happens meanwhile -/
structure SrcR (K : PySem.W.Frag) (J : It) (H0 : Hp) (loc0 : Loc) (items : List Va) : Prop where
  go : ∀ i H loc, Ext loc0 H0 H loc → i < items.length → J.go i H
  stop : ∀ i H loc, Ext loc0 H0 H loc → items.length ≤ i → J.stop i H
  yld : ∀ i H loc st x H', Ext loc0 H0 H loc → SR K H loc st → J.yld i H x H' → ∀ a, items[i]? = some a → Ext loc H H' loc ∧ SR K H' loc st ∧ VI K H' loc x a
def IE (K : PySem.W.Frag) : Rel Src It := fun _ H' loc' J src => src.still = none → SrcR K J H' loc' src.items
theorem old_IE {K : PySem.W.Frag} : Old (IE K) := fun _ _ _ _ _ _ _ h => h
def tI (XR : Ex → Value → Option Addr → Hp → Prop) (K : PySem.W.Frag) (φ : Nat → List Va → Sto → Res Va) (E : XK) (t : T) : TI := fun σ H R => ∃ loc ρ st, SR K H loc st ∧ ER K H loc ρ σ ∧ Post XR K (IE K) E loc H (evI φ t ρ st) R
theorem pi_imp {X : Cx} {tg e : Expr} {t t' : TI} (h : PI X tg e t) (q : ∀ σ H R, t' σ H R → t σ H R) : PI X tg e t' := ⟨fun pins s σ H R I w => h.run pins s σ H R I (q _ _ _ w)⟩
theorem VIs.getV {K : PySem.W.Frag} {H : Hp} {loc : Loc} : ∀ {vs : List V} {xs : List Va}, VIs K H loc vs xs → ∀ (i : Nat) (v : V) (x : Va), vs[i]? = some v → xs[i]? = some x → VI K H loc v x := fun h i v x e1 e2 => by
  obtain ⟨u, q1, q2⟩ := VIs.get h i x e2
  rw [e1] at q1; cases q1; exact q2
theorem src_list {K : PySem.W.Frag} {a : Addr} {H0 : Hp} {loc0 : Loc} {vs : List V} {items : List Va} (hs : ∀ H loc, Ext loc0 H0 H loc → SqL K H a vs) (w : VIs K H0 loc0 vs items) : SrcR K (Itl K a) H0 loc0 items := by
  have l := VIs.len w
  refine ⟨fun i H loc x hi => ⟨vs, vs[i], hs H loc x, List.getElem?_eq_getElem _⟩, fun i H loc x hi => ⟨vs, hs H loc x, by omega⟩, fun i H loc st v H' x s ⟨e, q⟩ a ea => ?_⟩
  subst e
  exact ⟨Ext.refl, s, VI.mono x (VIs.getV w i v a (q vs (hs _ _ x)) ea)⟩
theorem src_tup {K : PySem.W.Frag} {a : Addr} {H0 : Hp} {loc0 : Loc} {vs : List V} {items : List Va} (hs : SqT K H0 a vs) (w : VIs K H0 loc0 vs items) : SrcR K (Itt K a) H0 loc0 items := by
  have l := VIs.len w
  refine ⟨fun i H loc x hi => ⟨vs, vs[i], SqT.mono x hs, List.getElem?_eq_getElem _⟩, fun i H loc x hi => ⟨vs, SqT.mono x hs, by omega⟩, fun i H loc st v H' x s ⟨e, q⟩ a ea => ?_⟩
  subst e
  exact ⟨Ext.refl, s, VI.mono x (VIs.getV w i v a (q vs (SqT.mono x hs)) ea)⟩
theorem upto_len : ∀ (n : Nat) (lo : Int), (upto lo n).length = n
  | 0, _ => rfl
  | n + 1, lo => by rw [upto, List.length_cons, upto_len n]
theorem upto_get : ∀ (n : Nat) (lo : Int) (i : Nat), i < n → (upto lo n)[i]? = some (.dat (.int (lo + i)))
  | n + 1, lo, 0, _ => by rw [upto]; simp
  | n + 1, lo, i + 1, h => by
    rw [upto, List.getElem?_cons_succ, upto_get n (lo + 1) i (by omega)]
    congr 3; omega
theorem src_rng {K : PySem.W.Frag} {H0 : Hp} {loc0 : Loc} (lo : Int) (n : Nat) : SrcR K (Itr lo n) H0 loc0 (upto lo n) := by
  refine ⟨fun i H loc x hi => by rw [upto_len] at hi; exact hi, fun i H loc x hi => by rw [upto_len] at hi; exact hi, fun i H loc st v H' x s ⟨e, q⟩ a ea => ?_⟩
  subst e q
  have hi : i < n := by have := (List.getElem?_eq_some_iff.mp ea).1; rwa [upto_len] at this
  rw [upto_get n lo i hi] at ea
  cases ea
  exact ⟨Ext.refl, s, .int _⟩
/-- data that shows and stands still -/
theorem viewN_list {K : PySem.W.Frag} {H : Hp} {loc : Loc} {v : V} {a : Va} {ds : List PyData} (r : VR K H loc v a) (e : viewN a = some (.list ds)) : ∃ p vs, v = .ref p ∧ (∀ H' loc', Ext loc H H' loc' → SqL K H' p vs) ∧ RpA K H vs ds := by
  cases a with
  | ref _ => cases e
  | dat d =>
    cases e
    cases r with
    | lst e r => exact ⟨_, _, rfl, fun H' loc' x => (e.mono x).sq, r⟩
  | new xs =>
    obtain ⟨p, vs, e1, e2, nn, q⟩ := r
    have e : (undat xs).map .list = some (PyData.list ds) := e
    cases z : undat xs with
    | none => rw [z] at e; cases e
    | some es => rw [z] at e; cases e; exact ⟨p, vs, e1, fun H' loc' x => .inl (.inl (x.oth p _ e2 nn)), VIs.undat q z⟩
theorem viewN_tuple {K : PySem.W.Frag} {H : Hp} {loc : Loc} {v : V} {a : Va} {ds : List PyData} (r : VR K H loc v a) (e : viewN a = some (.tuple ds)) : ∃ p vs, v = .ref p ∧ SqT K H p vs ∧ RpA K H vs ds := by
  cases a with
  | ref _ => cases e
  | dat d =>
    cases e
    cases r with
    | tup e r => exact ⟨_, _, rfl, e, r⟩
  | new xs =>
    have e : (undat xs).map .list = some (PyData.tuple ds) := e
    cases z : undat xs with
    | none => rw [z] at e; cases e
    | some es => rw [z] at e; cases e
theorem RpA.getV {K : PySem.W.Frag} {H : Hp} : ∀ {vs : List V} {ds : List PyData}, RpA K H vs ds → ∀ (i : Nat) (v : V) (d : PyData), vs[i]? = some v → ds[i]? = some d → Rp K H v d
  | _, _, .nil, i, v, d, e, _ => by simp at e
  | _, _, .cons a r, 0, v, d, e1, e2 => by cases e1; cases e2; exact a
  | _, _, .cons a r, i + 1, v, d, e1, e2 => RpA.getV r i v d (by simpa using e1) (by simpa using e2)
abbrev zipT (xs ys : List PyData) : List Va := (List.zipWith (fun x y => PyData.tuple [x, y]) xs ys).map .dat
theorem zipT_len (xs ys : List PyData) : (zipT xs ys).length = min xs.length ys.length := by rw [List.length_map, List.length_zipWith]
theorem zipT_get {xs ys : List PyData} {i : Nat} {a : Va} (h : (zipT xs ys)[i]? = some a) : ∃ x y, xs[i]? = some x ∧ ys[i]? = some y ∧ a = .dat (.tuple [x, y]) := by
  rw [List.getElem?_map, List.getElem?_zipWith] at h
  cases e1 : xs[i]? with
  | none => rw [e1] at h; cases h
  | some x =>
    cases e2 : ys[i]? with
    | none => rw [e1, e2] at h; cases h
    | some y => rw [e1, e2] at h; cases h; exact ⟨x, y, rfl, rfl, rfl⟩
theorem zip_yld {K : PySem.W.Frag} {H0 H H' : Hp} {loc0 loc : Loc} {st : Sto} {vs ws : List V} {xs ys : List PyData} {i : Nat} {u : V} {a : Va} (x : Ext loc0 H0 H loc) (s : SR K H loc st) (r1 : RpA K H0 vs xs) (r2 : RpA K H0 ws ys)
    (h : ∃ t p q, u = .ref t ∧ H t = none ∧ H' = upd H t (.tup [p, q]) ∧ vs[i]? = some p ∧ ws[i]? = some q) (ea : (zipT xs ys)[i]? = some a) : Ext loc H H' loc ∧ SR K H' loc st ∧ VI K H' loc u a := by
  obtain ⟨t, p, q, rfl, n, rfl, e1, e2⟩ := h
  obtain ⟨d, e, f1, f2, rfl⟩ := zipT_get ea
  have z1 := Rp.mono x (RpA.getV r1 i p d e1 f1)
  have z2 := Rp.mono x (RpA.getV r2 i q e e2 f2)
  have xx : Ext loc H (upd H t (.tup [p, q])) loc := Ext.put n
  exact ⟨xx, s.put n, .tup (.inl (.inl upd_same)) (.cons (z1.mono xx) (.cons (z2.mono xx) .nil))⟩
theorem src_zip {K : PySem.W.Frag} {a b : Addr} {H0 : Hp} {loc0 : Loc} {vs ws : List V} {xs ys : List PyData} (h1 : ∀ H loc, Ext loc0 H0 H loc → SqL K H a vs) (h2 : ∀ H loc, Ext loc0 H0 H loc → SqL K H b ws) (r1 : RpA K H0 vs xs) (r2 : RpA K H0 ws ys) :
    SrcR K (Itz K a b) H0 loc0 (zipT xs ys) := by
  have l1 := r1.length
  have l2 := r2.length
  refine ⟨fun i H loc x hi => ?_, fun i H loc x hi => ?_, fun i H loc st v H' x s ⟨t, p, q, e1, e2, e3, e4, e5⟩ c ec => zip_yld x s r1 r2 ⟨t, p, q, e1, e2, e3, e4 _ (h1 _ _ x), e5 _ (h2 _ _ x)⟩ ec⟩
  · rw [zipT_len] at hi
    exact ⟨vs, ws, vs[i], ws[i], h1 _ _ x, h2 _ _ x, List.getElem?_eq_getElem _, List.getElem?_eq_getElem _⟩
  · rw [zipT_len] at hi
    exact ⟨vs, ws, h1 _ _ x, h2 _ _ x, by omega⟩
theorem src_zipT {K : PySem.W.Frag} {a b : Addr} {H0 : Hp} {loc0 : Loc} {vs ws : List V} {xs ys : List PyData} (h1 : SqT K H0 a vs) (h2 : SqT K H0 b ws) (r1 : RpA K H0 vs xs) (r2 : RpA K H0 ws ys) :
    SrcR K (RZ.ItzT K a b) H0 loc0 (zipT xs ys) := by
  have l1 := r1.length
  have l2 := r2.length
  refine ⟨fun i H loc x hi => ?_, fun i H loc x hi => ?_, fun i H loc st v H' x s ⟨t, p, q, e1, e2, e3, e4, e5⟩ c ec => zip_yld x s r1 r2 ⟨t, p, q, e1, e2, e3, e4 _ (SqT.mono x h1), e5 _ (SqT.mono x h2)⟩ ec⟩
  · rw [zipT_len] at hi
    exact ⟨vs, ws, vs[i], ws[i], SqT.mono x h1, SqT.mono x h2, List.getElem?_eq_getElem _, List.getElem?_eq_getElem _⟩
  · rw [zipT_len] at hi
    exact ⟨vs, ws, SqT.mono x h1, SqT.mono x h2, by omega⟩
section
variable {XR : Ex → Value → Option Addr → Hp → Prop} {fs : List FnT} {gl : List (Str × PyData)} {φ : Nat → List Va → Sto → Res Va} {n : Nat} {E : XK} {bs : Option Scope} {X : Cx}
/-- a list or a tuple, walked -/
def iSeq (K : PySem.W.Frag) (tl : TE) : TI := fun σ H R => tl σ H fun x H1 => ∃ a, x = .ref a ∧ (((∃ xs, SqL K H1 a xs) ∧ R (Itl K a) H1) ∨ ((∃ xs, SqT K H1 a xs) ∧ R (Itt K a) H1))
theorem pi_seq {tg l : Expr} {tl : TE} (hl : PE X l tl) : PI X tg l (iSeq X.K tl) := by
  refine ⟨fun pins s σ H R I h => ?_⟩
  refine thn (hl.run pins s σ H _ I h) fun v s1 ⟨x, H1, I1, r1, q1⟩ => ?_
  obtain ⟨a, e, q⟩ := q1
  subst e
  cases r1
  rcases q with ⟨⟨xs, hq⟩, q⟩ | ⟨⟨xs, hq⟩, q⟩
  · obtain ⟨its, rv, p, hz⟩ := I1.list hq
    refine wpAny_pyIter_list p.isList ?_
    refine ⟨s1.heap.objs.size, [s1.heap.objs.size], _, _, H1, rfl, I1.kept (t' := s1.toks) fun b o e => Heap.get?_push_of_some _ e, turn_list a _, ⟨_, Heap.get?_push_size _ rfl, rfl, rfl⟩, fun b hb => ?_, q⟩
    have e : b = s1.heap.objs.size := by simpa using hb
    subst e
    exact I1.fpOk (Nat.le_refl _) (I1.hok.fresh (Nat.le_refl _))
  · obtain ⟨its, rv, p, hz⟩ := I1.tuple hq
    refine wpAny_pyIter_tuple (show s1.heap.IsTuple a its.toArray from p) ?_
    refine ⟨s1.heap.objs.size, [s1.heap.objs.size], _, _, H1, rfl, I1.kept (t' := s1.toks) fun b o e => Heap.get?_push_of_some _ e, turn_tuple a _, ⟨_, Heap.get?_push_size _ rfl, rfl, rfl⟩, fun b hb => ?_, q⟩
    have e : b = s1.heap.objs.size := by simpa using hb
    subst e
    exact I1.fpOk (Nat.le_refl _) (I1.hok.fresh (Nat.le_refl _))
theorem i_seq {tg e : Expr} {t : T} (h : PE X e (tE XR X.K φ E t)) : PI X tg e (tI XR X.K φ E (.iseq t)) := by
  refine pi_imp (pi_seq h) fun σ H R ⟨loc, ρ, st, sr, er, post⟩ => ?_
  rw [evI] at post
  refine ⟨loc, ρ, st, sr, er, Post.imp (Post.bind (Rl := VE X.K) old_IE post) fun x H1 ⟨loc1, xa, st1, _, x1, s1, r1, p1⟩ => ?_⟩
  dsimp only at p1
  cases e1 : itemsOf st1 xa with
  | none => rw [e1] at p1; exact p1.elim
  | some xs =>
    rw [e1] at p1
    cases xa with
    | ref k =>
      obtain ⟨p, vs, rfl, hq, w⟩ := r1.1.items s1 e1
      rcases hq with hq | ⟨hq, ds, z⟩
      · exact ⟨p, rfl, .inl ⟨⟨vs, hq⟩, Post.here p1 s1 fun still => nomatch still⟩⟩
      · cases z
    | new ys =>
      cases e1
      obtain ⟨⟨p', vs', rfl, q1, q2, q3⟩, _⟩ := r1
      exact ⟨p', rfl, .inl ⟨⟨vs', .inl (.inl q1)⟩, Post.here p1 s1 fun _ => src_list (fun H' loc' x => .inl (.inl (x.oth p' _ q1 q2))) q3⟩⟩
    | dat d =>
      have e1 : itemsOf st1 (.dat d) = some xs := e1
      cases d <;> first | cases e1 | skip
      · obtain ⟨p', vs', rfl, q1, q2⟩ := viewN_list r1.1 rfl
        exact ⟨p', rfl, .inl ⟨⟨vs', q1 _ _ Ext.refl⟩, Post.here p1 s1 fun _ => src_list q1 q2.vis⟩⟩
      · obtain ⟨p', vs', rfl, q1, q2⟩ := viewN_tuple r1.1 rfl
        exact ⟨p', rfl, .inr ⟨⟨vs', q1⟩, Post.here p1 s1 fun _ => src_tup q1 q2.vis⟩⟩
theorem i_range1 (c : Cg XR fs gl φ n E bs X) {tg e : Expr} {p pos : Pos} {t : T} (hg : glB X.env.scope "range" = true) (hp : plainE e = true) (h : PE X e (tE XR X.K φ E t)) : PI X tg (.Call (.Name "range" p) [e] [] pos) (tI XR X.K φ E (.irange1 t)) := by
  have hst := star_plain (es := []) (env := X.env) hp
  refine pi_imp (pi_range1 (glB_inv hg).1 c.rng (pa_cons h pa_nil hst) hst) fun σ H R ⟨loc, ρ, st, sr, er, post⟩ => ?_
  rw [evI] at post
  refine ⟨loc, ρ, st, sr, er, Post.imp (Post.bind (Rl := VE X.K) old_IE post) fun x H1 ⟨loc1, xa, st1, ev1, x1, s1, r1, p1⟩ => ?_⟩
  dsimp only at p1
  clear ev1
  split at p1
  · rename_i m
    split at p1
    · rename_i hz
      have z : Rp X.K H1 x (.int m) := r1.1
      cases z
      exact ⟨m, rfl, by omega, by omega, Post.here p1 s1 fun _ => src_rng 0 m.toNat⟩
    · exact p1.elim
  · exact p1.elim
theorem i_range2 (c : Cg XR fs gl φ n E bs X) {tg e e2 : Expr} {p pos : Pos} {t u : T} (hg : glB X.env.scope "range" = true) (hp : plainE e = true) (hp2 : plainE e2 = true) (h : PE X e (tE XR X.K φ E t)) (h2 : PE X e2 (tE XR X.K φ E u)) :
    PI X tg (.Call (.Name "range" p) [e, e2] [] pos) (tI XR X.K φ E (.irange2 t u)) := by
  have hst := star_plain (es := [e2]) (env := X.env) hp
  have hst2 := star_plain (es := []) (env := X.env) hp2
  refine pi_imp (pi_range2 (glB_inv hg).1 c.rng (pa_cons h (pa_cons h2 pa_nil hst2) hst) (by rw [hst, hst2]; rfl) (by rw [hst2]; rfl)) fun σ H R ⟨loc, ρ, st, sr, er, post⟩ => ?_
  rw [evI] at post
  refine ⟨loc, ρ, st, sr, er, Post.imp (Post.bind (Rl := VE X.K) old_IE post) fun x H1 ⟨loc1, xa, st1, ev1, x1, s1, r1, p1⟩ => ?_⟩
  refine ⟨loc1, ρ, st1, s1, er.mono x1, Post.imp (Post.bind (Rl := VE X.K) old_IE p1) ?_⟩
  intro y H2 ⟨loc2, ya, st2, ev2, x2, s2, r2, p2⟩
  have r1' := r1.1.mono x2
  clear r1 ev2 p1 ev1
  dsimp only at p2
  split at p2
  · rename_i lo hi
    split at p2
    · rename_i hz
      have z : Rp X.K H2 x (.int lo) := r1'
      have z2 : Rp X.K H2 y (.int hi) := r2.1
      cases z
      cases z2
      exact ⟨lo, hi, rfl, by omega, Post.here p2 s2 fun _ => src_rng lo (hi - lo).toNat⟩
    · exact p2.elim
  · exact p2.elim
theorem i_zip (c : Cg XR fs gl φ n E bs X) {tg e e2 : Expr} {p pos : Pos} {t u : T} (ht : zipTg tg = true) (hg : glB X.env.scope "zip" = true) (hp : plainE e = true) (hp2 : plainE e2 = true) (h : PE X e (tE XR X.K φ E t)) (h2 : PE X e2 (tE XR X.K φ E u)) :
    PI X tg (.Call (.Name "zip" p) [e, e2] [] pos) (tI XR X.K φ E (.izip t u)) := by
  have hst := star_plain (es := [e2]) (env := X.env) hp
  have hst2 := star_plain (es := []) (env := X.env) hp2
  have pa : PA X [e, e2] (tCons (tE XR X.K φ E t) (tCons (tE XR X.K φ E u) tNil)) := pa_cons h (pa_cons h2 pa_nil hst2) hst
  have base : PI X tg (.Call (.Name "zip" p) [e, e2] [] pos) (RZ.iZipA X.K (tCons (tE XR X.K φ E t) (tCons (tE XR X.K φ E u) tNil))) := by
    cases tg <;> first | (cases ht; done) | exact RZ.pi_zipA (glB_inv hg).1 c.zip pa hst (by rw [hst2]; rfl) | exact pi_zipN rfl (glB_inv hg).1 c.zip pa hst (by rw [hst2]; rfl)
  refine pi_imp base fun σ H R ⟨loc, ρ, st, sr, er, post⟩ => ?_
  rw [evI] at post
  refine ⟨loc, ρ, st, sr, er, Post.imp (Post.bind (Rl := VE X.K) old_IE post) fun x H1 ⟨loc1, xa, st1, _, x1, s1, r1, p1⟩ => ?_⟩
  refine ⟨loc1, ρ, st1, s1, er.mono x1, Post.imp (Post.bind (Rl := VE X.K) old_IE p1) fun y H2 ⟨loc2, ya, st2, ev2, x2, s2, r2, p2⟩ => ?_⟩
  have r1' := r1.1.mono x2
  dsimp only at p2
  cases q1 : viewN xa with
  | none => rw [q1] at p2; exact p2.elim
  | some d =>
    cases q2 : viewN ya with
    | none => rw [q1, q2] at p2; cases d <;> exact p2.elim
    | some d2 =>
      rw [q1, q2] at p2
      cases d <;> first | exact p2.elim | skip
      · cases d2 <;> first | exact p2.elim | skip
        obtain ⟨a, vs, rfl, f1, f2⟩ := viewN_list r1' q1
        obtain ⟨b, ws, rfl, g1, g2⟩ := viewN_list r2.1 q2
        exact ⟨a, b, vs, ws, rfl, .inl ⟨f1 _ _ Ext.refl, g1 _ _ Ext.refl, Post.here p2 s2 fun _ => src_zip f1 g1 f2 g2⟩⟩
      · cases d2 <;> first | exact p2.elim | skip
        obtain ⟨a, vs, rfl, f1, f2⟩ := viewN_tuple r1' q1
        obtain ⟨b, ws, rfl, g1, g2⟩ := viewN_tuple r2.1 q2
        exact ⟨a, b, vs, ws, rfl, .inr ⟨f1, g1, Post.here p2 s2 fun _ => src_zipT f1 g1 f2 g2⟩⟩

/-! ### targets -/
def gNames : List Nat → TGs
  | [] => gNil
  | i :: is => gCons (gName i) (gNames is)
def gG (K : PySem.W.Frag) : G → TG
  | .v i => gName i
  | .t is => gTup K is.length (gNames is)
theorem placeB_inv {N : List Str} {sc : Scope} {i : Nat} {x : Str} (h : placeB N sc bs i x = true) : N[i]? = some x ∧ L2.Loc sc x ∧ (fnB bs x = true ∨ sc.names.lookup x = some .local) := by
  unfold placeB at h
  simp only [Bool.and_eq_true, Bool.or_eq_true, decide_eq_true_eq] at h
  exact ⟨h.1.1, locB_inv h.1.2, h.2⟩
theorem g_name (c : Cg XR fs gl φ n E bs X) {i : Nat} {e : Expr} (h : nameK e (placeB X.N X.env.scope bs i) = true) : ∃ x p, e = .Name x p ∧ PG X e (gName i) := by
  obtain ⟨x, p, rfl, h⟩ := nameK_inv h
  obtain ⟨h1, h2, h3⟩ := placeB_inv h
  exact ⟨x, p, rfl, pg_name c.nd h1 h2 (by rw [c.fn]; exact h3)⟩
theorem g_names (c : Cg XR fs gl φ n E bs X) : ∀ {is : List Nat} {es : List Expr}, targets X.N X.env.scope bs is es = true → PGs X es (gNames is) ∧ (assignEach es X.env).length = is.length ∧ (assignEach es X.env).findIdx? (·.1) = none
  | [], [], _ => ⟨pgs_nil, rfl, rfl⟩
  | [], _ :: _, h => by cases h
  | _ :: _, [], h => by cases h
  | i :: is, e :: es, h => by
    have h : (nameK e (placeB X.N X.env.scope bs i) && targets X.N X.env.scope bs is es) = true := h
    rw [Bool.and_eq_true] at h
    obtain ⟨x, p, rfl, g⟩ := g_name c h.1
    obtain ⟨r1, r2, r3⟩ := g_names c h.2
    have e : assignEach (.Name x p :: es) X.env = (false, assign (.Name x p) X.env) :: assignEach es X.env := rfl
    refine ⟨pgs_cons g r1 rfl, by rw [e, List.length_cons, List.length_cons, r2], ?_⟩
    rw [e, List.findIdx?_cons, r3]; rfl
theorem g_tg (c : Cg XR fs gl φ n E bs X) {g : G} {e : Expr} (h : chkG X.N X.env.scope bs g e = true) : PG X e (gG X.K g) := by
  cases g with
  | v i => exact (g_name c h).choose_spec.choose_spec.2
  | t is =>
    obtain ⟨es, j, p, rfl, h⟩ := tupK_inv h
    obtain ⟨r1, r2, r3⟩ := g_names c h
    exact pg_tup c.calm r1 r2 r3
/-- only the places vs differ -/
def Apart (vs : List Nat) (σ σ1 : L2.St) : Prop := σ1.length = σ.length ∧ ∀ i, i ∉ vs → σ1[i]? = σ[i]?
theorem Apart.refl {vs : List Nat} {σ : L2.St} : Apart vs σ σ := ⟨rfl, fun _ _ => rfl⟩
theorem Apart.set {vs : List Nat} {σ σ1 : L2.St} {i : Nat} {o : Option V} (h : Apart vs σ σ1) (m : i ∈ vs) : Apart vs σ (σ1.set i o) :=
  ⟨by rw [List.length_set]; exact h.1, fun j hj => by rw [List.getElem?_set_ne (fun e => hj (by rw [← e]; exact m))]; exact h.2 j hj⟩
theorem wipe_in {σ : L2.St} {i : Nat} : ∀ {vs : List Nat}, i ∈ vs → (wipe σ vs)[i]? = if i < σ.length then some none else none
  | v :: vs, h => by
    unfold wipe
    by_cases e : v = i
    · subst e
      by_cases hl : v < σ.length
      · rw [List.getElem?_set_self (by rw [wipe_length]; exact hl), if_pos hl]
      · rw [List.getElem?_eq_none (by rw [List.length_set, wipe_length]; omega), if_neg hl]
    · rw [List.getElem?_set_ne e]
      exact wipe_in ((List.mem_cons.mp h).resolve_left fun z => e z.symm)
theorem wipe_apart {vs : List Nat} {σ σ1 : L2.St} (h : Apart vs σ σ1) : wipe σ1 vs = wipe σ vs := by
  refine List.ext_getElem? fun i => ?_
  by_cases m : i ∈ vs
  · rw [wipe_in m, wipe_in m, h.1]
  · rw [wipe_out m, wipe_out m, h.2 i m]
theorem apart_wipe {vs : List Nat} {σ : L2.St} : Apart vs σ (wipe σ vs) := ⟨wipe_length _ _, fun i m => wipe_out m⟩
theorem Apart.trans {vs : List Nat} {a b c : L2.St} (h : Apart vs a b) (k : Apart vs b c) : Apart vs a c := ⟨k.1.trans h.1, fun i m => (k.2 i m).trans (h.2 i m)⟩
theorem names_ok {K : PySem.W.Frag} {H : Hp} {loc : Loc} {vsl : List Nat} : ∀ {is : List Nat} {ds : List PyData} {vs : List V} {ρ ρ1 : Env} {σ : L2.St} {Q : L2.St → Hp → Prop}, setAll is ds ρ = some ρ1 → RpA K H vs ds → ER K H loc ρ σ → (∀ i ∈ is, i ∈ vsl) →
    (∀ σ1, ER K H loc ρ1 σ1 → Apart vsl σ σ1 → Q σ1 H) → gNames is vs σ H Q
  | [], [], _, _, _, _, _, e, r, er, _, q => by
    cases e; cases r
    exact ⟨rfl, q _ er Apart.refl⟩
  | [], _ :: _, _, _, _, _, _, e, _, _, _, _ => by cases e
  | _ :: _, [], _, _, _, _, _, e, _, _, _, _ => by cases e
  | i :: is, d :: ds, _, ρ, ρ1, σ, Q, e, r, er, m, q => by
    cases r with
    | cons a r =>
      have e : setAll is ds (setEnv ρ i (.dat d)) = some ρ1 := e
      refine ⟨_, _, rfl, ?_⟩
      exact names_ok e r (er.set (a := .dat d) a) (fun j hj => m j (List.mem_cons_of_mem _ hj)) fun σ1 e1 ap => q σ1 e1 (Apart.trans (Apart.set Apart.refl (m i List.mem_cons_self)) ap)
theorem asg_ok {K : PySem.W.Frag} {H : Hp} {loc : Loc} {vsl : List Nat} {g : G} {x : Va} {ρ ρ1 : Env} {σ : L2.St} {v : V} {Q : L2.St → Hp → Prop} (e : asgG g x ρ = some ρ1) (r : VI K H loc v x) (er : ER K H loc ρ σ) (m : ∀ i ∈ g.slots, i ∈ vsl)
    (q : ∀ σ1, ER K H loc ρ1 σ1 → Apart vsl σ σ1 → Q σ1 H) : gG K g v σ H Q := by
  cases g with
  | v i =>
    have fin : asgG (.v i) x ρ = some (setEnv ρ i x) := by
      cases x with
      | new _ => cases e
      | dat _ => rfl
      | ref _ => rfl
    rw [fin] at e
    cases e
    exact q _ (er.set r) (Apart.set Apart.refl (m i (by simp [G.slots])))
  | t is =>
    cases x with
    | new _ => cases e
    | ref _ => cases e
    | dat d =>
      cases d <;> first | cases e | skip
      rename_i ds
      have e : (if ds.length = is.length then setAll is ds ρ else none) = some ρ1 := e
      split at e
      · rename_i hl
        have r : Rp K H v (.tuple ds) := r
        cases r with
        | tup hq r =>
          refine ⟨_, _, rfl, hq, by rw [r.length, hl], names_ok e r er m q⟩
      · cases e
end
end RS

/-! RS11: comprehensions; every expression. -/
namespace RS
open PySem
open PySem.Spec
open L2
open PyProof.Rows (envOfC)
section
variable {XR : Ex → Value → Option Addr → Hp → Prop} {fs : List FnT} {gl : List (Str × PyData)} {φ : Nat → List Va → Sto → Res Va} {n : Nat} {E : XK} {bs : Option Scope} {X : Cx}
/-- what a comprehension does with an item -/
def lcF (φ : Nat → List Va → Sto → Res Va) (g : G) (ρ0 : Env) (c e : T) : Va → Sto → Res (Option Va) := fun x s => match asgG g x ρ0 with
  | none => .stuck
  | some ρ1 => (evT φ c ρ1 s).bind fun t s1 => match t with
    | true => (evE φ e ρ1 s1).bind fun v s2 => match isOut v with
      | some v => .ok (some v) s2
      | none => .stuck
    | false => .ok none s1
theorem Res.bind_assoc {α β γ : Type} (r : Res α) (f : α → Sto → Res β) (g : β → Sto → Res γ) : (r.bind f).bind g = r.bind fun a s => (f a s).bind g := by
  cases r <;> rfl
theorem lcL_cons (f : Va → Sto → Res (Option Va)) (x : Va) (xs : List Va) (st : Sto) (acc : List Va) : ((lcL f (x :: xs) st).bind fun r s => Res.ok (Va.new (acc ++ r)) s) =
    (f x st).calm.bind fun o st1 => (lcL f xs st1).bind fun r s => Res.ok (Va.new ((match o with | some v => acc ++ [v] | none => acc) ++ r)) s := by
  rw [lcL, Res.bind_assoc]
  congr 1
  funext o st1
  rw [Res.bind_assoc]
  congr 1
  funext r s
  cases o with
  | none => rfl
  | some v => simp
/-- where a comprehension stands behind i items -/
def LcW (XR : Ex → Value → Option Addr → Hp → Prop) (K : PySem.W.Frag) (E : XK) (f : Va → Sto → Res (Option Va)) (items : List Va) (loc1 : Loc) (H1 : Hp) (D : Addr) (Q : VK) (i : Nat) (Hh : Hp) : Prop :=
  ∃ loc st acc xs, Ext loc1 H1 Hh loc ∧ SR K Hh loc st ∧ Hh D = some (.lst acc) ∧ some D ∉ loc ∧ VIs K Hh loc acc xs ∧ acc.length ≤ i ∧ i ≤ items.length ∧
    Post XR K (VE K) E loc1 H1 ((lcL f (items.drop i) st).bind fun r s => .ok (.new (xs ++ r)) s) Q
theorem lc_tLc {K : PySem.W.Frag} {J : It} {items : List Va} {own : List (Str × Nat)} {g : G} {ρ : Env} {σ : L2.St} {c e : T} {loc1 : Loc} {H1 : Hp} {st1 : Sto} {Q : VK} (hg : ∀ i ∈ g.slots, i ∈ own.map (·.2)) (hz : items.length ≤ 16777216)
    (src : SrcR K J H1 loc1 items) (s1 : SR K H1 loc1 st1) (er : ER K H1 loc1 ρ σ) (p : Post XR K (VE K) E loc1 H1 ((lcL (lcF φ g (wipeE ρ own) c e) items st1).bind fun xs st2 => .ok (.new xs) st2) Q) :
    ∀ D, H1 D = none → ∃ W : Nat → Nat → Hp → Prop, (∃ m, W 0 m (upd H1 D (.lst []))) ∧ ∀ i m H, W i m H →
      (J.stop i H ∧ Q (.ref D) H) ∨ (J.go i H ∧ ∃ Nx : Hp → Prop, (∀ H', Nx H' → ∃ m', m' < m ∧ W (i + 1) m' H') ∧ ∀ x H', J.yld i H x H' → gG K g x (wipe σ (own.map (·.2))) H' fun σ2 H2 => wipe σ2 (own.map (·.2)) = wipe σ (own.map (·.2)) ∧ tT XR K φ EF c σ2 H2 fun b H3 =>
        if b = true then tE XR K φ EF e σ2 H3 fun y H4 => ∃ acc, H4 D = some (.lst acc) ∧ acc.length < sizeLine ∧ Nx (upd H4 D (.lst (acc ++ [y]))) else Nx H3) := by
  intro D hD
  generalize hF : lcF φ g (wipeE ρ own) c e = F at p
  refine ⟨fun i m Hh => m = items.length - i ∧ LcW XR K E F items loc1 H1 D Q i Hh, ⟨_, rfl, loc1, st1, [], [], Ext.put hD, s1.put hD, upd_same, SR.fresh s1 hD, .nil, Nat.le_refl _, Nat.zero_le _, by rw [List.drop_zero]; exact p⟩, ?_⟩
  rintro i m Hh ⟨rfl, loc, st, acc, xs, x0, sr, hd, hn, r, ha, hi, post⟩
  by_cases hlt : i < items.length
  · refine .inr ⟨src.go i Hh loc x0 hlt, fun H' => LcW XR K E F items loc1 H1 D Q (i + 1) H', fun H' w => ⟨_, by omega, rfl, w⟩, fun x H' hy => ?_⟩
    obtain ⟨x1, sr1, rx⟩ := src.yld i Hh loc st x H' x0 sr hy items[i] (List.getElem?_eq_getElem hlt)
    have er1 : ER K H' loc (wipeE ρ own) (wipe σ (own.map (·.2))) := ((er.mono x0).mono x1).wipe own
    rw [List.drop_eq_getElem_cons hlt, lcL_cons] at post
    have hd1 : H' D = some (.lst acc) := x1.oth D _ hd hn
    have r1 : VIs K H' loc acc xs := VIs.mono x1 r
    have e1 : F items[i] st = lcF φ g (wipeE ρ own) c e items[i] st := by rw [hF]
    rw [e1] at post
    unfold lcF at post
    cases ea : asgG g items[i] (wipeE ρ own) with
    | none => simp only [ea] at post; exact post.elim
    | some ρ1 =>
      simp only [ea] at post
      refine asg_ok ea rx er1 hg fun σ2 er2 ap => ⟨wipe_apart (Apart.trans apart_wipe ap) |>.trans ?_, ?_⟩
      · rfl
      refine ⟨loc, ρ1, st, sr1, er2, ?_⟩
      cases ec : evT φ c ρ1 st with
      | exc _ _ => rw [ec] at post; exact post.elim
      | stuck => rw [ec] at post; exact post.elim
      | ok t s2 =>
        rw [ec] at post
        intro b H2 loc2 x2 sr2 eb
        have eb : b = t := eb
        subst eb
        have m2 : some D ∉ loc2 := fun m => (x2.sub D m).elim hn fun z => by rw [hd1] at z; cases z
        have hd2 : H2 D = some (.lst acc) := x2.oth D _ hd1 hn
        cases b with
        | false =>
          rw [if_neg Bool.false_ne_true]
          exact ⟨loc2, s2, acc, xs, (x0.trans x1).trans x2, sr2, hd2, m2, VIs.mono x2 r1, by omega, hlt, post⟩
        | true =>
          rw [if_pos rfl]
          refine ⟨loc2, ρ1, s2, sr2, er2.mono x2, ?_⟩
          dsimp only [Res.bind_ok] at post
          cases ee : evE φ e ρ1 s2 with
          | exc _ _ => rw [ee] at post; exact post.elim
          | stuck => rw [ee] at post; exact post.elim
          | ok v s3 =>
            rw [ee] at post
            intro y H3 loc3 x3 sr3 ry
            dsimp only [Res.bind_ok] at post
            cases eo : isOut v with
            | none => rw [eo] at post; exact post.elim
            | some v' =>
              rw [eo] at post
              have vy := ry.1.vi eo
              have m3 : some D ∉ loc3 := fun m => (x3.sub D m).elim m2 fun z => by rw [hd2] at z; cases z
              have hd3 : H3 D = some (.lst acc) := x3.oth D _ hd2 m2
              have xw : Ext [some D] H3 (upd H3 D (.lst (acc ++ [y]))) [some D] := Ext.chg Ext.refl hd3 (.inl (by simp))
              have r3 : VIs K H3 loc3 (acc ++ [y]) (xs ++ [v']) := Paired.app (VIs.mono x3 (VIs.mono x2 r1)) (.cons vy .nil)
              refine ⟨acc, hd3, by rw [sl_eq]; omega, loc3, s3, acc ++ [y], xs ++ [v'], Ext.chg (((x0.trans x1).trans x2).trans x3) hd3 (.inr hD), sr3.other hd3 m3, upd_same, m3, Paired.mapP r3 fun _ _ q => q.wk xw, ?_, hlt, post⟩
              rw [List.length_append]
              show acc.length + 1 ≤ i + 1
              omega
  · refine .inl ⟨src.stop i Hh loc x0 (by omega), ?_⟩
    rw [List.drop_eq_nil_of_le (by omega)] at post
    refine post (.ref D) Hh loc x0 sr ⟨⟨D, acc, rfl, hd, hn, by rw [List.append_nil]; exact r⟩, fun ys _ q e => by cases e; exact hD⟩
theorem e_lc (c : Cg XR fs gl φ n E bs X) {elt tg iter : Expr} {ifs : List Expr} {scope : Scope} {own : List (Str × Nat)} {p : Pos} {g : G} {it tc te : T} (ok : blkC X.N X.env.scope scope own = true) (hs : ∀ i ∈ g.slots, i ∈ own.map (·.2))
    (hg : chkG X.N (relS scope X.env.scope) (some scope) g tg = true) (hp : plainE iter = true) (hi : PI X tg iter (tI XR X.K φ E it))
    (hc : ∀ Y : Cx, Cg XR fs gl φ n EF (some scope) Y → Y.N = X.N → Y.K = X.K → Y.env.scope = relS scope X.env.scope → PTs Y ifs (tT XR Y.K φ EF tc))
    (he : ∀ Y : Cx, Cg XR fs gl φ n EF (some scope) Y → Y.N = X.N → Y.K = X.K → Y.env.scope = relS scope X.env.scope → PE Y elt (tE XR Y.K φ EF te)) :
    PE X (.ListComp elt [⟨tg, iter, ifs, 0⟩] scope p) (tE XR X.K φ E (.lc own g it tc te)) := by
  refine pe_imp (pe_lc (g := gG X.K g) (tt := tT XR X.K φ EF tc) (te := tE XR X.K φ EF te) c.calm c.nd hi (blkOk_by ok) (fun s H C cl fp => ?_) (fun s H C cl fp => ?_) (fun s H C cl fp => ?_) (fun x => fold_plain hp x)) fun σ H Q ⟨loc, ρ, st, sr, er, post⟩ => ?_
  · exact g_tg (c.blk s H scope _ fp) hg
  · exact hc _ (c.blk s H scope _ fp) rfl rfl rfl
  · exact he _ (c.blk s H scope _ fp) rfl rfl rfl
  · rw [evE] at post
    refine ⟨loc, ρ, st, sr, er, Post.imp (Post.bind (Rl := IE X.K) old_VE post) fun J H1 ⟨loc1, src, st1, _, x1, s1, r1, p1⟩ => ?_⟩
    dsimp only at p1
    cases q : src.still with
    | some _ => rw [q] at p1; exact p1.elim
    | none =>
      rw [q] at p1
      dsimp only at p1
      split at p1
      · rename_i hz
        exact lc_tLc hs hz (r1 q) s1 (er.mono x1) p1
      · exact p1.elim

/-! ### every expression -/
structure Snd (XR : Ex → Value → Option Addr → Hp → Prop) (fs : List FnT) (gl : List (Str × PyData)) (φ : Nat → List Va → Sto → Res Va) (n : Nat) (t : T) : Prop where
  e : ∀ {E : XK} {bs : Option Scope} {X : Cx}, Cg XR fs gl φ n E bs X → ∀ ex, chkE X.N fs gl t X.env.scope bs ex = true → PE X ex (tE XR X.K φ E t)
  tt : ∀ {E : XK} {bs : Option Scope} {X : Cx}, Cg XR fs gl φ n E bs X → ∀ ex, chkE X.N fs gl t X.env.scope bs ex = true → PT X ex (tT XR X.K φ E t)
  e1 : ∀ {E : XK} {bs : Option Scope} {X : Cx}, Cg XR fs gl φ n E bs X → ∀ ex, chkE1 X.N fs gl t X.env.scope bs ex = true → PE X ex (tE XR X.K φ E t)
  t1 : ∀ {E : XK} {bs : Option Scope} {X : Cx}, Cg XR fs gl φ n E bs X → ∀ ex, chkE1 X.N fs gl t X.env.scope bs ex = true → PW X ex (tT XR X.K φ E t)
  a : ∀ {E : XK} {bs : Option Scope} {X : Cx}, Cg XR fs gl φ n E bs X → ∀ es, chkA X.N fs gl t X.env.scope bs es = true → PA X es (tA XR X.K φ E t)
  al : ∀ N sc bs es, chkA N fs gl t sc bs es = true → t.args = es.length
  k : ∀ {E : XK} {bs : Option Scope} {X : Cx}, Cg XR fs gl φ n E bs X → ∀ ks : List Keyword, chkA X.N fs gl t X.env.scope bs (ks.map (·.value)) = true → PK X ks (tA XR X.K φ E t)
  i : ∀ {E : XK} {bs : Option Scope} {X : Cx}, Cg XR fs gl φ n E bs X → ∀ tg ex, chkI X.N fs gl t X.env.scope bs (zipTg tg) ex = true → PI X tg ex (tI XR X.K φ E t)
theorem t_stuck {t : T} {ex : Expr} (h : ∀ ρ st, evT φ t ρ st = .stuck) : PT X ex (tT XR X.K φ E t) := ⟨fun pins s σ H Q I ⟨loc, ρ, st, _, _, post⟩ => by rw [h] at post; exact post.elim⟩
theorem Snd.ofE {t : T} (he : ∀ {E : XK} {bs : Option Scope} {X : Cx}, Cg XR fs gl φ n E bs X → ∀ ex, chkE X.N fs gl t X.env.scope bs ex = true → PE X ex (tE XR X.K φ E t))
    (ht : ∀ {E : XK} {bs : Option Scope} {X : Cx}, Cg XR fs gl φ n E bs X → ∀ ex, chkE X.N fs gl t X.env.scope bs ex = true → PT X ex (tT XR X.K φ E t))
    (h1 : ∀ N sc bs ex, chkE1 N fs gl t sc bs ex = false) (h2 : ∀ N sc bs es, chkA N fs gl t sc bs es = false) (h3 : ∀ N sc bs tg ex, chkI N fs gl t sc bs tg ex = false) : Snd XR fs gl φ n t where
  e := he
  tt := ht
  e1 := fun _ _ h => by rw [h1] at h; cases h
  t1 := fun _ _ h => by rw [h1] at h; cases h
  a := fun _ _ h => by rw [h2] at h; cases h
  al := fun _ _ _ _ h => by rw [h2] at h; cases h
  k := fun _ _ h => by rw [h2] at h; cases h
  i := fun _ _ _ h => by rw [h3] at h; cases h
theorem Snd.ofI {t : T} (hi : ∀ {E : XK} {bs : Option Scope} {X : Cx}, Cg XR fs gl φ n E bs X → ∀ tg ex, chkI X.N fs gl t X.env.scope bs (zipTg tg) ex = true → PI X tg ex (tI XR X.K φ E t))
    (h0 : ∀ N sc bs ex, chkE N fs gl t sc bs ex = false) (h1 : ∀ N sc bs ex, chkE1 N fs gl t sc bs ex = false) (h2 : ∀ N sc bs es, chkA N fs gl t sc bs es = false) : Snd XR fs gl φ n t where
  e := fun _ _ h => by rw [h0] at h; cases h
  tt := fun _ _ h => by rw [h0] at h; cases h
  e1 := fun _ _ h => by rw [h1] at h; cases h
  t1 := fun _ _ h => by rw [h1] at h; cases h
  a := fun _ _ h => by rw [h2] at h; cases h
  al := fun _ _ _ _ h => by rw [h2] at h; cases h
  k := fun _ _ h => by rw [h2] at h; cases h
  i := hi
theorem Snd.ofA {t : T} (ha : ∀ {E : XK} {bs : Option Scope} {X : Cx}, Cg XR fs gl φ n E bs X → ∀ es, chkA X.N fs gl t X.env.scope bs es = true → PA X es (tA XR X.K φ E t))
    (hl : ∀ N sc bs es, chkA N fs gl t sc bs es = true → t.args = es.length)
    (hk : ∀ {E : XK} {bs : Option Scope} {X : Cx}, Cg XR fs gl φ n E bs X → ∀ ks : List Keyword, chkA X.N fs gl t X.env.scope bs (ks.map (·.value)) = true → PK X ks (tA XR X.K φ E t))
    (h0 : ∀ N sc bs ex, chkE N fs gl t sc bs ex = false) (h1 : ∀ N sc bs ex, chkE1 N fs gl t sc bs ex = false) (h3 : ∀ N sc bs tg ex, chkI N fs gl t sc bs tg ex = false) : Snd XR fs gl φ n t where
  e := fun _ _ h => by rw [h0] at h; cases h
  tt := fun _ _ h => by rw [h0] at h; cases h
  e1 := fun _ _ h => by rw [h1] at h; cases h
  t1 := fun _ _ h => by rw [h1] at h; cases h
  a := ha
  al := hl
  k := hk
  i := fun _ _ _ h => by rw [h3] at h; cases h
theorem any_inv {α : Type} {o : Option α} {p : α → Bool} (h : o.any p = true) : ∃ a, o = some a ∧ p a = true := by
  cases o with
  | none => cases h
  | some a => exact ⟨a, rfl, h⟩
theorem fn_inv {f : Nat} {e : Expr} {sc : Scope} (h : (fs[f]?).any (fun F => nameK e (fun x => decide (x = F.name) && glB sc x)) = true) : ∃ F x p, fs[f]? = some F ∧ e = .Name x p ∧ x = F.name ∧ glB sc x = true := by
  obtain ⟨F, e1, h⟩ := any_inv h
  obtain ⟨x, p, rfl, hh⟩ := nameK_inv h
  replace h := hh
  rw [Bool.and_eq_true] at h
  exact ⟨F, x, p, e1, rfl, of_decide_eq_true h.1, h.2⟩
theorem gln_inv {x : Str} {e : Expr} {sc : Scope} (h : nameK e (fun y => decide (y = x) && glB sc y) = true) : ∃ p, e = .Name x p ∧ glB sc x = true := by
  obtain ⟨y, p, rfl, hh⟩ := nameK_inv h
  replace h := hh
  rw [Bool.and_eq_true] at h
  obtain rfl := of_decide_eq_true h.1
  exact ⟨p, rfl, h.2⟩
theorem part_chk {t : T} {N : List Str} {sc : Scope} {o : Option Expr} (h : ((isNopart t && o.isNone) || o.any (fun x => chkE N fs gl t sc bs x)) = true) : (isNopart t = true ∧ o = none) ∨ ∃ e, o = some e ∧ chkE N fs gl t sc bs e = true := by
  rw [Bool.or_eq_true, Bool.and_eq_true] at h
  rcases h with ⟨h1, h2⟩ | h
  · exact .inl ⟨h1, by simpa using h2⟩
  · exact .inr (any_inv h)
theorem snd : ∀ t : T, Snd XR fs gl φ n t := by
  intro t
  induction t with
  | var i =>
    have he : ∀ {E : XK} {bs : Option Scope} {X : Cx}, Cg XR fs gl φ n E bs X → ∀ ex, chkE X.N fs gl (.var i) X.env.scope bs ex = true → ∃ x p, ex = .Name x p ∧ PE X ex (tE XR X.K φ E (.var i)) := fun c ex h => by
      rw [chkE] at h
      obtain ⟨x, p, rfl, hh⟩ := nameK_inv h
      replace h := hh
      simp only [Bool.and_eq_true, decide_eq_true_eq, Bool.not_eq_true'] at h
      exact ⟨x, p, rfl, e_var h.1.1.1 (visB_inv h.1.1.2) h.1.2 h.2⟩
    refine .ofE (fun c ex h => (he c ex h).choose_spec.choose_spec.2) (fun c ex h => ?_) (fun _ _ _ _ => by first | rfl | rw [chkE1]) (fun _ _ _ _ => by first | rfl | rw [chkA]) (fun _ _ _ _ _ => by first | rfl | rw [chkI])
    obtain ⟨x, p, rfl, q⟩ := he c ex h
    refine t_val q (fun _ => rfl) fun ρ st => ?_
    rw [evT, evE]
    cases ρ[i]? with
    | none => rfl
    | some o => cases o with
      | none => rfl
      | some v => cases v with
        | dat d => cases d <;> rfl
        | ref _ => rfl
        | new _ => rfl
  | lit d =>
    refine .ofE (fun c ex h => ?_) (fun c ex h => t_stuck fun _ _ => by rw [evT] <;> (intros; contradiction)) (fun _ _ _ _ => by first | rfl | rw [chkE1]) (fun _ _ _ _ => by first | rfl | rw [chkA]) (fun _ _ _ _ _ => by first | rfl | rw [chkI])
    rw [chkE] at h
    obtain ⟨c, j, p, rfl, hh⟩ := constK_inv h
    replace h := hh
    exact e_lit h
  | glob x d =>
    refine .ofE (fun c ex h => ?_) (fun c ex h => t_stuck fun _ _ => by rw [evT] <;> (intros; contradiction)) (fun _ _ _ _ => by first | rfl | rw [chkE1]) (fun _ _ _ _ => by first | rfl | rw [chkA]) (fun _ _ _ _ _ => by first | rfl | rw [chkI])
    rw [chkE] at h
    obtain ⟨y, p, rfl, hh⟩ := nameK_inv h
    replace h := hh
    simp only [Bool.and_eq_true, decide_eq_true_eq] at h
    obtain rfl := h.1.1
    exact e_glob c h.1.2 h.2
  | bin o a b iha ihb =>
    refine .ofE (fun c ex h => ?_) (fun c ex h => t_stuck fun _ _ => by rw [evT] <;> (intros; contradiction)) (fun _ _ _ _ => by first | rfl | rw [chkE1]) (fun _ _ _ _ => by first | rfl | rw [chkA]) (fun _ _ _ _ _ => by first | rfl | rw [chkI])
    rw [chkE] at h
    obtain ⟨l, op, r, p, rfl, hh⟩ := binK_inv h
    replace h := hh
    simp only [Bool.and_eq_true] at h
    exact e_bin h.1.1 (iha.e c _ h.1.2) (ihb.e c _ h.2)
  | neg a iha =>
    refine .ofE (fun c ex h => ?_) (fun c ex h => t_stuck fun _ _ => by rw [evT] <;> (intros; contradiction)) (fun _ _ _ _ => by first | rfl | rw [chkE1]) (fun _ _ _ _ => by first | rfl | rw [chkA]) (fun _ _ _ _ _ => by first | rfl | rw [chkI])
    rw [chkE] at h
    obtain ⟨o, x, p, rfl, hh⟩ := unK_inv h
    replace h := hh
    simp only [Bool.and_eq_true, decide_eq_true_eq] at h
    obtain ⟨rfl, h⟩ := h
    exact e_neg (iha.e c _ h)
  | cmp o a b iha ihb =>
    refine .ofE (fun c ex h => ?_) (fun c ex h => ?_) (fun _ _ _ _ => by first | rfl | rw [chkE1]) (fun _ _ _ _ => by first | rfl | rw [chkA]) (fun _ _ _ _ _ => by first | rfl | rw [chkI])
    all_goals
      rw [chkE] at h
      obtain ⟨l, op, r, p, rfl, hh⟩ := cmpK_inv h
      replace h := hh
      simp only [Bool.and_eq_true] at h
    · exact e_cmp c.room h.1.1.1 h.1.1.2 (iha.e c _ h.1.2) (ihb.e c _ h.2)
    · exact t_cmp c.room h.1.1.1 h.1.1.2 (iha.e c _ h.1.2) (ihb.e c _ h.2)
  | and a b iha ihb =>
    have split : ∀ {N : List Str} {sc : Scope} {bs : Option Scope} {ex : Expr}, (boolK ex fun o l r => decide (o = .And) && chkE N fs gl a sc bs l && chkE1 N fs gl b sc bs r) = true → ∃ l r rest p, ex = .BoolOp .And (l :: r :: rest) p ∧ chkE N fs gl a sc bs l = true ∧ chkE1 N fs gl b sc bs (.BoolOp .And (r :: rest) p) = true := fun h => by
      obtain ⟨o, l, r, rest, p, rfl, hh⟩ := boolK_inv h
      replace h := hh
      simp only [Bool.and_eq_true, decide_eq_true_eq] at h
      obtain ⟨⟨rfl, h1⟩, h2⟩ := h
      exact ⟨l, r, rest, p, rfl, h1, h2⟩
    refine { e := fun c ex h => ?_, tt := fun c ex h => ?_, e1 := fun c ex h => ?_, t1 := fun c ex h => ?_, a := fun c es h => ?_, al := fun _ _ _ es h => ?_, k := fun c ks h => ?_, i := fun c tg ex h => ?_ }
    · rw [chkE] at h; obtain ⟨l, r, rest, p, rfl, h1, h2⟩ := split h; exact e_and (iha.e c _ h1) (ihb.e1 c _ h2)
    · rw [chkE] at h; obtain ⟨l, r, rest, p, rfl, h1, h2⟩ := split h; exact (t_and (iha.tt c _ h1) (ihb.t1 c _ h2)).pt
    · rw [chkE1] at h; obtain ⟨l, r, rest, p, rfl, h1, h2⟩ := split h; exact e_and (iha.e c _ h1) (ihb.e1 c _ h2)
    · rw [chkE1] at h; obtain ⟨l, r, rest, p, rfl, h1, h2⟩ := split h; exact t_and (iha.tt c _ h1) (ihb.t1 c _ h2)
    · cases h
    · cases h
    · cases h
    · cases h
  | or a b iha ihb =>
    have split : ∀ {N : List Str} {sc : Scope} {bs : Option Scope} {ex : Expr}, (boolK ex fun o l r => decide (o = .Or) && chkE N fs gl a sc bs l && chkE1 N fs gl b sc bs r) = true → ∃ l r rest p, ex = .BoolOp .Or (l :: r :: rest) p ∧ chkE N fs gl a sc bs l = true ∧ chkE1 N fs gl b sc bs (.BoolOp .Or (r :: rest) p) = true := fun h => by
      obtain ⟨o, l, r, rest, p, rfl, hh⟩ := boolK_inv h
      replace h := hh
      simp only [Bool.and_eq_true, decide_eq_true_eq] at h
      obtain ⟨⟨rfl, h1⟩, h2⟩ := h
      exact ⟨l, r, rest, p, rfl, h1, h2⟩
    refine { e := fun c ex h => ?_, tt := fun c ex h => ?_, e1 := fun c ex h => ?_, t1 := fun c ex h => ?_, a := fun c es h => ?_, al := fun _ _ _ es h => ?_, k := fun c ks h => ?_, i := fun c tg ex h => ?_ }
    · rw [chkE] at h; obtain ⟨l, r, rest, p, rfl, h1, h2⟩ := split h; exact e_or (iha.e c _ h1) (ihb.e1 c _ h2)
    · rw [chkE] at h; obtain ⟨l, r, rest, p, rfl, h1, h2⟩ := split h; exact (t_or (iha.tt c _ h1) (ihb.t1 c _ h2)).pt
    · rw [chkE1] at h; obtain ⟨l, r, rest, p, rfl, h1, h2⟩ := split h; exact e_or (iha.e c _ h1) (ihb.e1 c _ h2)
    · rw [chkE1] at h; obtain ⟨l, r, rest, p, rfl, h1, h2⟩ := split h; exact t_or (iha.tt c _ h1) (ihb.t1 c _ h2)
    · cases h
    · cases h
    · cases h
    · cases h
  | last a iha =>
    refine { e := fun c ex h => ?_, tt := fun c ex h => ?_, e1 := fun c ex h => ?_, t1 := fun c ex h => ?_, a := fun c es h => ?_, al := fun _ _ _ es h => ?_, k := fun c ks h => ?_, i := fun c tg ex h => ?_ }
    · cases h
    · cases h
    · rw [chkE1] at h; obtain ⟨o, x, p, rfl, hh⟩ := lastK_inv h; exact e_last (iha.e c _ hh)
    · rw [chkE1] at h; obtain ⟨o, x, p, rfl, hh⟩ := lastK_inv h; exact t_last (iha.tt c _ hh)
    · cases h
    · cases h
    · cases h
    · cases h
  | not a iha =>
    refine .ofE (fun c ex h => ?_) (fun c ex h => ?_) (fun _ _ _ _ => by first | rfl | rw [chkE1]) (fun _ _ _ _ => by first | rfl | rw [chkA]) (fun _ _ _ _ _ => by first | rfl | rw [chkI])
    all_goals
      rw [chkE] at h
      obtain ⟨o, x, p, rfl, hh⟩ := unK_inv h
      replace h := hh
      simp only [Bool.and_eq_true, decide_eq_true_eq] at h
      obtain ⟨rfl, h⟩ := h
    · exact e_not (iha.e c _ h)
    · exact t_not (iha.tt c _ h)
  | ife t a b iht iha ihb =>
    refine .ofE (fun c ex h => ?_) (fun c ex h => t_stuck fun _ _ => by rw [evT] <;> (intros; contradiction)) (fun _ _ _ _ => by first | rfl | rw [chkE1]) (fun _ _ _ _ => by first | rfl | rw [chkA]) (fun _ _ _ _ _ => by first | rfl | rw [chkI])
    rw [chkE] at h
    obtain ⟨q, x, y, p, rfl, hh⟩ := ifeK_inv h
    replace h := hh
    simp only [Bool.and_eq_true] at h
    exact e_ife (iht.tt c _ h.1.1) (iha.e c _ h.1.2) (ihb.e c _ h.2)
  | tup as iha =>
    refine .ofE (fun c ex h => ?_) (fun c ex h => t_stuck fun _ _ => by rw [evT] <;> (intros; contradiction)) (fun _ _ _ _ => by first | rfl | rw [chkE1]) (fun _ _ _ _ => by first | rfl | rw [chkA]) (fun _ _ _ _ _ => by first | rfl | rw [chkI])
    rw [chkE] at h
    obtain ⟨es, j, p, rfl, hh⟩ := tupK_inv h
    replace h := hh
    simp only [Bool.and_eq_true, decide_eq_true_eq] at h
    exact e_tup (by rw [iha.al _ _ _ _ h.2]; exact h.1) (iha.a c _ h.2)
  | lst as iha =>
    refine .ofE (fun c ex h => ?_) (fun c ex h => t_stuck fun _ _ => by rw [evT] <;> (intros; contradiction)) (fun _ _ _ _ => by first | rfl | rw [chkE1]) (fun _ _ _ _ => by first | rfl | rw [chkA]) (fun _ _ _ _ _ => by first | rfl | rw [chkI])
    rw [chkE] at h
    obtain ⟨es, p, rfl, hh⟩ := lstK_inv h
    replace h := hh
    simp only [Bool.and_eq_true, decide_eq_true_eq] at h
    exact e_lst (by rw [iha.al _ _ _ _ h.2]; exact h.1) (iha.a c _ h.2)
  | lc own g it tc te ihi ihc ihe =>
    refine .ofE (fun c ex h => ?_) (fun c ex h => t_stuck fun _ _ => by rw [evT] <;> (intros; contradiction)) (fun _ _ _ _ => by first | rfl | rw [chkE1]) (fun _ _ _ _ => by first | rfl | rw [chkA]) (fun _ _ _ _ _ => by first | rfl | rw [chkI])
    rw [chkE] at h
    obtain ⟨elt, tg, iter, ifs, scope, p, rfl, hh⟩ := lcK_inv h
    replace h := hh
    simp only [Bool.and_eq_true, Bool.or_eq_true] at h
    obtain ⟨⟨⟨⟨⟨⟨h1, h2⟩, h3⟩, h4⟩, h5⟩, h6⟩, h7⟩ := h
    refine e_lc c h1 (fun i hi => by simpa using List.all_eq_true.mp h2 i hi) h3 h4 (ihi.i c tg _ h5) (fun Y cY eN eK es => ?_) (fun Y cY eN eK es => ihe.e cY _ (by rw [eN, es]; exact h7))
    rcases h6 with ⟨y, e⟩ | h6
    · have e : ifs = [] := by simpa using e
      subst e
      cases tc <;> first | cases y | skip
      refine ⟨fun pins s σ H Q I ⟨loc, ρ, st, sr, er, post⟩ => pts_nil.run pins s σ H Q I ?_⟩
      rw [evT] at post
      exact Post.here (b := true) post sr rfl
    · obtain ⟨q, rfl, hhh6⟩ := oneK_inv h6
      replace h6 := hhh6
      exact pts_one (ihc.tt cY _ (by rw [eN, es]; exact h6))
  | call f as iha =>
    have he : ∀ {E : XK} {bs : Option Scope} {X : Cx}, Cg XR fs gl φ n E bs X → ∀ ex, chkE X.N fs gl (.call f as) X.env.scope bs ex = true → ∃ q l k p, ex = .Call q l k p ∧ PE X ex (tE XR X.K φ E (.call f as)) := fun c ex h => by
      rw [chkE] at h
      obtain ⟨fn, es, ks, p, rfl, hh⟩ := callK_inv h
      replace h := hh
      simp only [Bool.and_eq_true] at h
      obtain ⟨⟨⟨⟨h1, h2⟩, h3⟩, h4⟩, h5⟩ := h
      obtain ⟨F, x, q, e1, rfl, hx, hg⟩ := fn_inv h1
      obtain ⟨F', e2, h2⟩ := any_inv h2
      rw [e1] at e2; cases e2
      have : ks = [] := by simpa using h3
      subst this
      exact ⟨_, _, _, _, rfl, e_call c e1 hx hg h2 h4 (iha.al _ _ _ _ h5) (iha.a c _ h5)⟩
    refine .ofE (fun c ex h => (he c ex h).choose_spec.choose_spec.choose_spec.choose_spec.2) (fun c ex h => ?_) (fun _ _ _ _ => by first | rfl | rw [chkE1]) (fun _ _ _ _ => by first | rfl | rw [chkA]) (fun _ _ _ _ _ => by first | rfl | rw [chkI])
    obtain ⟨a1, a2, a3, a4, rfl, q⟩ := he c ex h
    refine t_val q (fun _ => rfl) fun ρ st => ?_
    rw [evT, evE, Res.bind_assoc]
  | callk f as ns perm ws iha ihw =>
    refine .ofE (fun c ex h => ?_) (fun c ex h => t_stuck fun _ _ => by rw [evT] <;> (intros; contradiction)) (fun _ _ _ _ => by first | rfl | rw [chkE1]) (fun _ _ _ _ => by first | rfl | rw [chkA]) (fun _ _ _ _ _ => by first | rfl | rw [chkI])
    rw [chkE] at h
    obtain ⟨fn, es, ks, p, rfl, hh⟩ := callK_inv h
    replace h := hh
    simp only [Bool.and_eq_true, decide_eq_true_eq] at h
    obtain ⟨⟨⟨⟨⟨h1, h2⟩, h3⟩, h4⟩, h5⟩, h6⟩ := h
    obtain ⟨F, x, q, e1, rfl, hx, hg⟩ := fn_inv h1
    obtain ⟨F', e2, h2⟩ := any_inv h2
    rw [e1] at e2; cases e2
    exact e_callk c e1 hx hg h2 h3 (iha.al _ _ _ _ h4) (iha.a c _ h4) (ihw.k c _ h6) (by rw [ihw.al _ _ _ _ h6, List.length_map]) h5
  | bi b a iha =>
    have he : ∀ {E : XK} {bs : Option Scope} {X : Cx}, Cg XR fs gl φ n E bs X → ∀ ex, chkE X.N fs gl (.bi b a) X.env.scope bs ex = true → ∃ q l k p, ex = .Call q l k p ∧ PE X ex (tE XR X.K φ E (.bi b a)) := fun c ex h => by
      rw [chkE] at h
      obtain ⟨fn, es, ks, p, rfl, hh⟩ := callK_inv h
      replace h := hh
      simp only [Bool.and_eq_true] at h
      obtain ⟨⟨h1, h2⟩, h3⟩ := h
      obtain ⟨q, rfl, hg⟩ := gln_inv h1
      obtain ⟨x, rfl, hhh3⟩ := oneK_inv h3
      replace h3 := hhh3
      rw [Bool.and_eq_true] at h3
      exact ⟨_, _, _, _, rfl, e_bi c rfl hg h2 h3.1 (iha.e c _ h3.2)⟩
    refine .ofE (fun c ex h => (he c ex h).choose_spec.choose_spec.choose_spec.choose_spec.2) (fun c ex h => ?_) (fun _ _ _ _ => by first | rfl | rw [chkE1]) (fun _ _ _ _ => by first | rfl | rw [chkA]) (fun _ _ _ _ _ => by first | rfl | rw [chkI])
    obtain ⟨a1, a2, a3, a4, rfl, q⟩ := he c ex h
    refine t_val q (fun _ => rfl) fun ρ st => ?_
    rw [evT, evE, Res.bind_assoc]
    congr 1
    funext x st1
    cases view st1 x <;> rfl
  | bi2 b a x iha ihx =>
    refine .ofE (fun c ex h => ?_) (fun c ex h => t_stuck fun _ _ => by rw [evT] <;> (intros; contradiction)) (fun _ _ _ _ => by first | rfl | rw [chkE1]) (fun _ _ _ _ => by first | rfl | rw [chkA]) (fun _ _ _ _ _ => by first | rfl | rw [chkI])
    rw [chkE] at h
    obtain ⟨fn, es, ks, p, rfl, hh⟩ := callK_inv h
    replace h := hh
    simp only [Bool.and_eq_true] at h
    obtain ⟨⟨h1, h2⟩, h3⟩ := h
    obtain ⟨q, rfl, hg⟩ := gln_inv h1
    obtain ⟨y, r, rfl, hhh3⟩ := consK_inv h3
    replace h3 := hhh3
    obtain ⟨z, rfl, hhh4⟩ := oneK_inv h3
    replace h3 := hhh4
    simp only [Bool.and_eq_true] at h3
    have : ks = [] := by simpa using h2
    subst this
    exact e_bi2 c rfl hg h3.1.1.1 h3.1.1.2 (iha.e c _ h3.1.2) (ihx.e c _ h3.2)
  | chain o p a b d iha ihb ihd =>
    refine .ofE (fun c ex h => ?_) (fun c ex h => ?_) (fun _ _ _ _ => by first | rfl | rw [chkE1]) (fun _ _ _ _ => by first | rfl | rw [chkA]) (fun _ _ _ _ _ => by first | rfl | rw [chkI])
    · rw [chkE] at h
      obtain ⟨l, op, x, op', y, ps, rfl, hh⟩ := chainK_inv h
      replace h := hh
      simp only [Bool.and_eq_true] at h
      obtain ⟨⟨⟨⟨⟨⟨h1, h2⟩, h3⟩, h4⟩, h5⟩, h6⟩, h7⟩ := h
      exact e_chain c.room h1 h2 h3 h4 (iha.e c _ h5) (ihb.e c _ h6) (ihd.e c _ h7)
    · rw [chkE] at h
      obtain ⟨l, op, x, op', y, ps, rfl, hh⟩ := chainK_inv h
      replace h := hh
      simp only [Bool.and_eq_true] at h
      obtain ⟨⟨⟨⟨⟨⟨h1, h2⟩, h3⟩, h4⟩, h5⟩, h6⟩, h7⟩ := h
      exact t_chain c.room h1 h2 h3 h4 (iha.e c _ h5) (ihb.e c _ h6) (ihd.e c _ h7)
  | rev a iha =>
    refine .ofE (fun c ex h => ?_) (fun c ex h => t_stuck fun _ _ => by rw [evT] <;> (intros; contradiction)) (fun _ _ _ _ => by first | rfl | rw [chkE1]) (fun _ _ _ _ => by first | rfl | rw [chkA]) (fun _ _ _ _ _ => by first | rfl | rw [chkI])
    rw [chkE] at h
    obtain ⟨v, j, p1, p2, p3, p, rfl, hh⟩ := revK_inv h
    exact e_rev (iha.e c _ hh)
  | sortk f a iha =>
    refine .ofE (fun c ex h => ?_) (fun c ex h => t_stuck fun _ _ => by rw [evT] <;> (intros; contradiction)) (fun _ _ _ _ => by first | rfl | rw [chkE1]) (fun _ _ _ _ => by first | rfl | rw [chkA]) (fun _ _ _ _ _ => by first | rfl | rw [chkI])
    rw [chkE] at h
    obtain ⟨fn, es, ks, p, rfl, hh⟩ := callK_inv h
    replace h := hh
    simp only [Bool.and_eq_true] at h
    obtain ⟨⟨h1, h2⟩, h3⟩ := h
    obtain ⟨q, rfl, hg⟩ := gln_inv h1
    obtain ⟨y, p2, p3, rfl, h4⟩ := kwKey_inv h2
    rw [Bool.and_eq_true] at h4
    obtain ⟨F, hF, h5⟩ := any_inv h4.1
    simp only [Bool.and_eq_true, decide_eq_true_eq] at h5
    obtain ⟨x, rfl, hhh3⟩ := oneK_inv h3
    replace h3 := hhh3
    rw [Bool.and_eq_true] at h3
    exact e_sortk c hF rfl hg h5.1 h4.2 h5.2 h3.1 (iha.e c _ h3.2)
  | idx a i iha ihi =>
    refine .ofE (fun c ex h => ?_) (fun c ex h => t_stuck fun _ _ => by rw [evT] <;> (intros; contradiction)) (fun _ _ _ _ => by first | rfl | rw [chkE1]) (fun _ _ _ _ => by first | rfl | rw [chkA]) (fun _ _ _ _ _ => by first | rfl | rw [chkI])
    rw [chkE] at h
    obtain ⟨v, s, p, rfl, hh⟩ := subK_inv h
    replace h := hh
    simp only [Bool.and_eq_true] at h
    exact e_idx h.1.1 (iha.e c _ h.1.2) (ihi.e c _ h.2)
  | slc a lo hi iha ihl ihh =>
    refine .ofE (fun c ex h => ?_) (fun c ex h => t_stuck fun _ _ => by rw [evT] <;> (intros; contradiction)) (fun _ _ _ _ => by first | rfl | rw [chkE1]) (fun _ _ _ _ => by first | rfl | rw [chkA]) (fun _ _ _ _ _ => by first | rfl | rw [chkI])
    rw [chkE] at h
    obtain ⟨v, s, p, rfl, hh⟩ := subK_inv h
    replace h := hh
    rw [Bool.and_eq_true] at h
    obtain ⟨h1, h2⟩ := h
    obtain ⟨l, u, p2, rfl, hhh2⟩ := sliceK_inv h2
    replace h2 := hhh2
    rw [Bool.and_eq_true] at h2
    exact e_slc (iha.e c _ h1) ((part_chk h2.1).imp id fun ⟨e, q1, q2⟩ => ⟨e, q1, ihl.e c _ q2⟩) ((part_chk h2.2).imp id fun ⟨e, q1, q2⟩ => ⟨e, q1, ihh.e c _ q2⟩)
  | app a x iha ihx =>
    refine .ofE (fun c ex h => ?_) (fun c ex h => t_stuck fun _ _ => by rw [evT] <;> (intros; contradiction)) (fun _ _ _ _ => by first | rfl | rw [chkE1]) (fun _ _ _ _ => by first | rfl | rw [chkA]) (fun _ _ _ _ _ => by first | rfl | rw [chkI])
    rw [chkE] at h
    obtain ⟨fn, es, ks, p, rfl, hh⟩ := callK_inv h
    replace h := hh
    simp only [Bool.and_eq_true] at h
    obtain ⟨⟨h1, h2⟩, h3⟩ := h
    obtain ⟨o, m, q, rfl, hhh1⟩ := attrK_inv h1
    replace h1 := hhh1
    simp only [Bool.and_eq_true, decide_eq_true_eq] at h1
    obtain ⟨⟨⟨rfl, hl⟩, hn⟩, h1⟩ := h1
    obtain ⟨y, rfl, hhh3⟩ := oneK_inv h3
    replace h3 := hhh3
    rw [Bool.and_eq_true] at h3
    have : ks = [] := by simpa using h2
    subst this
    exact e_app hn hl h3.1 (iha.e c _ h1) (ihx.e c _ h3.2)
  | popAt a x iha ihx =>
    refine .ofE (fun c ex h => ?_) (fun c ex h => t_stuck fun _ _ => by rw [evT] <;> (intros; contradiction)) (fun _ _ _ _ => by first | rfl | rw [chkE1]) (fun _ _ _ _ => by first | rfl | rw [chkA]) (fun _ _ _ _ _ => by first | rfl | rw [chkI])
    rw [chkE] at h
    obtain ⟨fn, es, ks, p, rfl, hh⟩ := callK_inv h
    replace h := hh
    simp only [Bool.and_eq_true] at h
    obtain ⟨⟨h1, h2⟩, h3⟩ := h
    obtain ⟨o, m, q, rfl, hhh1⟩ := attrK_inv h1
    replace h1 := hhh1
    simp only [Bool.and_eq_true, decide_eq_true_eq] at h1
    obtain ⟨⟨⟨rfl, hl⟩, hn⟩, h1⟩ := h1
    obtain ⟨y, rfl, hhh3⟩ := oneK_inv h3
    replace h3 := hhh3
    rw [Bool.and_eq_true] at h3
    have : ks = [] := by simpa using h2
    subst this
    exact e_popAt hn hl h3.1 (iha.e c _ h1) (ihx.e c _ h3.2)
  | «mut» a iha =>
    refine .ofE (fun c ex h => ?_) (fun c ex h => t_stuck fun _ _ => by rw [evT] <;> (intros; contradiction)) (fun _ _ _ _ => by first | rfl | rw [chkE1]) (fun _ _ _ _ => by first | rfl | rw [chkA]) (fun _ _ _ _ _ => by first | rfl | rw [chkI])
    rw [chkE] at h
    exact e_mut (iha.e c _ h)
  | frz a iha =>
    refine .ofE (fun c ex h => ?_) (fun c ex h => t_stuck fun _ _ => by rw [evT] <;> (intros; contradiction)) (fun _ _ _ _ => by first | rfl | rw [chkE1]) (fun _ _ _ _ => by first | rfl | rw [chkA]) (fun _ _ _ _ _ => by first | rfl | rw [chkI])
    rw [chkE] at h
    exact e_frz (iha.e c _ h)
  | yes => exact .ofE (fun c ex h => by cases h) (fun c ex h => by cases h) (fun _ _ _ _ => by first | rfl | rw [chkE1]) (fun _ _ _ _ => by first | rfl | rw [chkA]) (fun _ _ _ _ _ => by first | rfl | rw [chkI])
  | nopart => exact .ofE (fun c ex h => by cases h) (fun c ex h => by cases h) (fun _ _ _ _ => by first | rfl | rw [chkE1]) (fun _ _ _ _ => by first | rfl | rw [chkA]) (fun _ _ _ _ _ => by first | rfl | rw [chkI])
  | anil =>
    refine .ofA (fun c es h => ?_) (fun _ _ _ es h => ?_) (fun c ks h => ?_) (fun _ _ _ _ => by first | rfl | rw [chkE]) (fun _ _ _ _ => by first | rfl | rw [chkE1]) (fun _ _ _ _ _ => by first | rfl | rw [chkI])
    · rw [chkA] at h
      have : es = [] := by simpa using h
      subst this
      exact a_nil
    · rw [chkA] at h
      have : es = [] := by simpa using h
      subst this
      rfl
    · rw [chkA] at h
      have : ks = [] := by simpa using h
      subst this
      exact k_nil
  | acons a r iha ihr =>
    refine .ofA (fun c es h => ?_) (fun _ _ _ es h => ?_) (fun c ks h => ?_) (fun _ _ _ _ => by first | rfl | rw [chkE]) (fun _ _ _ _ => by first | rfl | rw [chkE1]) (fun _ _ _ _ _ => by first | rfl | rw [chkI])
    · rw [chkA] at h
      obtain ⟨e, t, rfl, hh⟩ := consK_inv h
      replace h := hh
      simp only [Bool.and_eq_true] at h
      exact a_cons h.1.1 (iha.e c _ h.1.2) (ihr.a c _ h.2)
    · rw [chkA] at h
      obtain ⟨e, t, rfl, hh⟩ := consK_inv h
      replace h := hh
      simp only [Bool.and_eq_true] at h
      rw [T.args, ihr.al _ _ _ _ h.2, List.length_cons]
    · rw [chkA] at h
      cases ks with
      | nil => cases h
      | cons k ks =>
        obtain ⟨nm, v, kp⟩ := k
        have h : (plainE v && chkE _ fs gl a _ _ v && chkA _ fs gl r _ _ (ks.map (·.value))) = true := h
        simp only [Bool.and_eq_true] at h
        exact k_cons (iha.e c _ h.1.2) (ihr.k c _ h.2)
  | iseq a iha =>
    refine .ofI (fun c tg ex h => ?_) (fun _ _ _ _ => by first | rfl | rw [chkE]) (fun _ _ _ _ => by first | rfl | rw [chkE1]) (fun _ _ _ _ => by first | rfl | rw [chkA])
    rw [chkI] at h
    exact i_seq (iha.e c _ h)
  | irange1 a iha =>
    refine .ofI (fun c tg ex h => ?_) (fun _ _ _ _ => by first | rfl | rw [chkE]) (fun _ _ _ _ => by first | rfl | rw [chkE1]) (fun _ _ _ _ => by first | rfl | rw [chkA])
    rw [chkI] at h
    obtain ⟨fn, es, ks, p, rfl, hh⟩ := callK_inv h
    replace h := hh
    simp only [Bool.and_eq_true] at h
    obtain ⟨⟨h1, h2⟩, h3⟩ := h
    obtain ⟨q, rfl, hg⟩ := gln_inv h1
    obtain ⟨x, rfl, hhh3⟩ := oneK_inv h3
    replace h3 := hhh3
    rw [Bool.and_eq_true] at h3
    have : ks = [] := by simpa using h2
    subst this
    exact i_range1 c hg h3.1 (iha.e c _ h3.2)
  | irange2 a b iha ihb =>
    refine .ofI (fun c tg ex h => ?_) (fun _ _ _ _ => by first | rfl | rw [chkE]) (fun _ _ _ _ => by first | rfl | rw [chkE1]) (fun _ _ _ _ => by first | rfl | rw [chkA])
    rw [chkI] at h
    obtain ⟨fn, es, ks, p, rfl, hh⟩ := callK_inv h
    replace h := hh
    simp only [Bool.and_eq_true] at h
    obtain ⟨⟨h1, h2⟩, h3⟩ := h
    obtain ⟨q, rfl, hg⟩ := gln_inv h1
    obtain ⟨x, r, rfl, hhh3⟩ := consK_inv h3
    replace h3 := hhh3
    obtain ⟨y, rfl, hhh4⟩ := oneK_inv h3
    replace h3 := hhh4
    simp only [Bool.and_eq_true] at h3
    have : ks = [] := by simpa using h2
    subst this
    exact i_range2 c hg h3.1.1.1 h3.1.1.2 (iha.e c _ h3.1.2) (ihb.e c _ h3.2)
  | izip a b iha ihb =>
    refine .ofI (fun c tg ex h => ?_) (fun _ _ _ _ => by first | rfl | rw [chkE]) (fun _ _ _ _ => by first | rfl | rw [chkE1]) (fun _ _ _ _ => by first | rfl | rw [chkA])
    rw [chkI, Bool.and_eq_true] at h
    obtain ⟨ht, h⟩ := h
    obtain ⟨fn, es, ks, p, rfl, hh⟩ := callK_inv h
    replace h := hh
    simp only [Bool.and_eq_true] at h
    obtain ⟨⟨h1, h2⟩, h3⟩ := h
    obtain ⟨q, rfl, hg⟩ := gln_inv h1
    obtain ⟨x, r, rfl, hhh3⟩ := consK_inv h3
    replace h3 := hhh3
    obtain ⟨y, rfl, hhh4⟩ := oneK_inv h3
    replace h3 := hhh4
    simp only [Bool.and_eq_true] at h3
    have : ks = [] := by simpa using h2
    subst this
    exact i_zip c ht hg h3.1.1.1 h3.1.1.2 (iha.e c _ h3.1.2) (ihb.e c _ h3.2)
end
end RS

/-! RS12: statements. -/
namespace RS
open PySem
open PySem.Spec
open L2
open PyProof.Rows (envOfC)
/-- how a statement ends -/
inductive FO where
  | nx (σ : L2.St)
  | rt (v : V)
  | bk (σ : L2.St)
  | ct (σ : L2.St)
def FE (K : PySem.W.Frag) : Rel Fl FO := fun _ H' loc' o f => match o, f with
  | .nx σ, .nx ρ => ER K H' loc' ρ σ
  | .rt v, .rt a => VI K H' loc' v a
  | .bk σ, .bk ρ => ER K H' loc' ρ σ
  | .ct σ, .ct ρ => ER K H' loc' ρ σ
  | _, _ => False
theorem old_FE {K : PySem.W.Frag} : Old (FE K) := fun _ _ _ _ _ _ _ h => h
def toQ (D : Ends) : FO → Hp → Prop := fun o H => match o with
  | .nx σ => D.nx σ H
  | .rt v => D.rt v H
  | .bk σ => D.bk σ H
  | .ct σ => D.ct σ H
def tS (XR : Ex → Value → Option Addr → Hp → Prop) (K : PySem.W.Frag) (φ : Nat → List Va → Sto → Res Va) (E : XK) (s : S) : TS := fun D σ H => ∃ loc ρ st, SR K H loc st ∧ ER K H loc ρ σ ∧ Post XR K (FE K) E loc H (evS φ s ρ st) (toQ D)
theorem ps_imp {X : Cx} {st : Stmt} {t t' : TS} (h : PS X st t) (q : ∀ D σ H, t' D σ H → t D σ H) : PS X st t' := ⟨fun pins s σ H D I w => h.run pins s σ H D I (q _ _ _ w)⟩
theorem pss_imp {X : Cx} {st : List Stmt} {t t' : TS} (h : PSs X st t) (q : ∀ D σ H, t' D σ H → t D σ H) : PSs X st t' := ⟨fun pins s σ H D I w => h.run pins s σ H D I (q _ _ _ w)⟩
/-- a list that nobody changes again is known for good, behind a statement that goes on -/
theorem ps_ghost {X : Cx} {st : Stmt} {t : TS} (h : PS X st t) : PS X st (fun D σ H => t { D with nx := fun σ' H1 => D.nx σ' H1 ∨ ∃ a vs, H1 a = some (.lst vs) ∧ ∀ o, D.nx σ' (upd H1 a (.frz o (.lst vs))) } σ H) := by
  refine ⟨fun pins s σ H D I w => thn (h.run pins s σ H _ I w) fun f s1 q => ?_⟩
  cases f with
  | next =>
    obtain ⟨σ', H1, I1, q1⟩ := q
    rcases q1 with q | ⟨a, vs, e1, q⟩
    · exact ⟨σ', H1, I1, q⟩
    · obtain ⟨z, its, n, rv, eo⟩ := I1.hok a _ e1
      refine ⟨σ', _, ?_, q { cls := .type "list", data := .seq its.toArray n }⟩
      exact I1.write (x := a) (e := a) (o := .frz { cls := .type "list", data := .seq its.toArray n } (.lst vs)) (h' := s1.heap) (t' := s1.toks) (by rw [e1]; trivial) (.inl rfl) (fun _ _ _ q => q) ⟨_, eo⟩ ⟨eo, z, its, n, rv, eo⟩
  | ret u => exact q
  | brk => exact q
  | cont => exact q
section
variable {XR : Ex → Value → Option Addr → Hp → Prop} {fs : List FnT} {gl : List (Str × PyData)} {φ : Nat → List Va → Sto → Res Va} {n : Nat} {E : XK} {X : Cx}
/-- where a def's body runs -/
structure Cs (XR : Ex → Value → Option Addr → Hp → Prop) (fs : List FnT) (gl : List (Str × PyData)) (φ : Nat → List Va → Sto → Res Va) (n : Nat) (E : XK) (X : Cx) : Prop where
  g : Cg XR fs gl φ n E none X
  blk : X.env.blockKind = .function
  own : PassesOwn (model X.prog X.w) X.A X.env X.xe
  tk : Takes X (fun cls d _ H => E cls d H)
  stk : X.stack = X.env :: X.outer
  frm : X.env.frame = some X.env.locals
  cls : ∀ x ns, gl.lookup x = some (.list ns) → ∃ C, X.mg x = some (.ref C) ∧ PySem.W.excIn X.K C PySem.HandSPX.veTail "ValueError.__new__" = true ∧ PySem.W.keepIn X.K (.ref C) = true ∧ Raises X (.ref C) ∧
    ∀ y ms, gl.lookup y = some (.list ms) → ∃ D, X.mg y = some (.ref D) ∧ PySem.W.exmOne X.K (.ref C) (.ref D) = some (ns.any fun z => PyData.eqv z (.str y))
  xr : ∀ x ns C H, gl.lookup x = some (.list ns) → X.mg x = some (.ref C) → XR ⟨x, ns, none⟩ (.ref C) none H
  xi : ∀ e cls od H, XR e cls od H → ∃ C, X.mg e.cls = some (.ref C) ∧ cls = .ref C ∧ gl.lookup e.cls = some (.list e.mro)

/-! ### readings of mut, frz -/
theorem mut_rd {K : PySem.W.Frag} {t : T} {σ : L2.St} {H : Hp} {Q : VK} (h : tE XR K φ E (.mut t) σ H Q) : tE XR K φ E t σ H Q := by
  obtain ⟨loc, ρ, st, sr, er, post⟩ := h
  rw [evE] at post
  refine ⟨loc, ρ, st, sr, er, ?_⟩
  cases q : evE φ t ρ st with
  | ok v st1 =>
    rw [q] at post
    intro b H' loc' x s l
    have post : Post XR K (VE K) E loc H (mutV v st1) Q := post
    cases v with
    | dat _ => exact post.elim
    | ref _ => exact post.elim
    | new xs =>
      unfold mutV at post
      dsimp only at post
      split at post
      · rename_i hl
        obtain ⟨⟨a, vs, rfl, ha, hn, r⟩, hf⟩ := l
        have h0 := hf xs rfl a rfl
        have hlen := s.len
        refine post (.ref a) H' (loc' ++ [some a]) (x.add h0) (s.add hn ha r hl) (VE.of ⟨by rw [List.length_append, hlen]; simp, fun c e => ?_⟩)
        rw [← hlen, List.getElem?_append_right (Nat.le_refl _), Nat.sub_self] at e
        cases e; rfl
      · exact post.elim
  | exc e st1 => rw [q] at post; exact post
  | stuck => rw [q] at post; exact post
theorem frz_rd {K : PySem.W.Frag} {t : T} {σ : L2.St} {H : Hp} {Q : VK} (h : tE XR K φ E (.frz t) σ H Q) : tE XR K φ E t σ H fun v H1 => Q v H1 ∨ ∃ a vs, H1 a = some (.lst vs) ∧ ∀ o, Q v (upd H1 a (.frz o (.lst vs))) := by
  obtain ⟨loc, ρ, st, sr, er, post⟩ := h
  rw [evE] at post
  refine ⟨loc, ρ, st, sr, er, ?_⟩
  cases q : evE φ t ρ st with
  | ok v st1 =>
    rw [q] at post
    intro b H' loc' x s l
    have post : Post XR K (VE K) E loc H (frzV v st1) Q := post
    cases v with
    | dat d => exact .inl (post b H' loc' x s l)
    | new xs =>
      unfold frzV at post
      cases e1 : undat xs with
      | none => simp only [e1] at post; exact post.elim
      | some ds =>
        simp only [e1] at post
        obtain ⟨⟨a, vs, rfl, ha, hn, r⟩, hf⟩ := l
        refine .inr ⟨a, vs, ha, fun o => ?_⟩
        have xx : Ext loc H (upd H' a (.frz o (.lst vs))) loc' := Ext.chg x ha (.inr (hf xs rfl a rfl))
        have xy : Ext [some a] H' (upd H' a (.frz o (.lst vs))) [some a] := Ext.chg Ext.refl ha (.inl (by simp))
        exact post (.ref a) _ loc' xx (s.other ha hn) (VE.dat (.lst (.inl ⟨o, upd_same⟩) (RpA.mono xy (VIs.undat r e1))))
    | ref k =>
      unfold frzV at post
      cases e0 : st1[k]? with
      | none => simp only [e0] at post; exact post.elim
      | some cc =>
        cases cc with
        | dead => simp only [e0] at post; exact post.elim
        | lst xs =>
          simp only [e0] at post
          cases e1 : undat xs with
          | none => simp only [e1] at post; exact post.elim
          | some ds =>
            simp only [e1] at post
            obtain ⟨a, vs, e2, f1, f2, f3, f4⟩ : ∃ a vs, b = .ref a ∧ loc'[k]? = some (some a) ∧ H' a = some (.lst vs) ∧ VIs K H' loc' vs xs ∧ xs.all (·.low k) = true := by
              obtain ⟨a, vs, e1, e2, e3, e4⟩ := s.cell k _ e0
              exact ⟨a, vs, l.1.2 a e1, e1, e2, e3, e4⟩
            subst e2
            refine .inr ⟨a, vs, f2, fun o => ?_⟩
            have mem := List.mem_of_getElem? f1
            have xx : Ext loc H (upd H' a (.frz o (.lst vs))) (loc'.set k none) := (Ext.chg x f2 (x.sub _ mem)).drop
            have xy : Ext loc' H' (upd H' a (.frz o (.lst vs))) loc' := Ext.chg Ext.refl f2 (.inl mem)
            exact post (.ref a) _ _ xx (s.die e0 f1 f2) (VE.dat (.lst (.inl ⟨o, upd_same⟩) (VIs.undat (VIs.mono xy f3) e1)))
  | exc e st1 => rw [q] at post; exact post
  | stuck => rw [q] at post; exact post

/-! ### name = e -/
/-- the value goes to a place -/
def PSet1 (XR : Ex → Value → Option Addr → Hp → Prop) (φ : Nat → List Va → Sto → Res Va) (E : XK) (X : Cx) (st : Stmt) (i : Nat) (t : T) : Prop := PS X st (fun D σ H => tE XR X.K φ E t σ H fun x H1 => D.nx (σ.set i (some x)) H1)
theorem PSet1.mut {st : Stmt} {i : Nat} {t : T} (h : PSet1 XR φ E X st i t) : PSet1 XR φ E X st i (.mut t) := ps_imp h fun _ _ _ q => mut_rd q
theorem PSet1.frz {st : Stmt} {i : Nat} {t : T} (h : PSet1 XR φ E X st i t) : PSet1 XR φ E X st i (.frz t) := ps_imp (ps_ghost h) fun _ _ _ q => frz_rd q
theorem PSet1.set {st : Stmt} {i : Nat} {t : T} (h : PSet1 XR φ E X st i t) : PS X st (tS XR X.K φ E (.set i t)) := ps_imp h fun D σ H ⟨loc, ρ, st, sr, er, post⟩ => by
  rw [evS] at post
  refine ⟨loc, ρ, st, sr, er, Post.imp (Post.bind (Rl := VE X.K) old_FE post) fun x H1 ⟨loc1, xa, st1, _, x1, s1, r1, p1⟩ => ?_⟩
  dsimp only at p1
  cases e : isOut xa with
  | none => rw [e] at p1; exact p1.elim
  | some v =>
    rw [e] at p1
    exact Post.here (b := FO.nx _) p1 s1 ((er.mono x1).set (r1.1.vi e))
def isLc : Expr → Bool
  | .ListComp .. => true
  | .SetComp .. => true
  | .DictComp .. => true
  | _ => false
theorem noSwap {e : Expr} {o : Option Expr} {l : Nat} {env : PySem.Env} (h : isLc e = false) : swapsWith e o l env = pure false := by
  cases e <;> first | rfl | cases h
def swapB (sc : Scope) (scope : Scope) (y : Str) (py p : Pos) : Bool := sc.names.lookup y == some .local && py.line == p.line && !(scope.names.any fun (n, k) => n == y && (k == .local || k == .cell))
theorem swap_lc {elt : Expr} {gs : List Comprehension} {scope : Scope} {p py : Pos} {y : Str} {l : Nat} {env : PySem.Env} (h : env.blockKind = .function) : swapsWith (.ListComp elt gs scope p) (some (.Name y py)) l env = pure (swapB env.scope scope y py p) := by
  have e : swapsWith (.ListComp elt gs scope p) (some (.Name y py)) l env = pure (env.blockKind == .function && env.kindOf y == some .local && py.line == p.line && !(scope.names.any fun (n, k) => n == y && (k == .local || k == .cell))) := rfl
  rw [e, h]
  rfl
/-- .. at a written place -/
def chkSet (N : List Str) (fs : List FnT) (gl : List (Str × PyData)) : T → Scope → Expr → Expr → Bool
  | .mut a, sc, y, e => chkSet N fs gl a sc y e
  | .frz a, sc, y, e => chkSet N fs gl a sc y e
  | t, sc, _, e => chkE N fs gl t sc none e
def isLcT : T → Bool
  | .lc .. => true
  | _ => false
theorem lc_of {N : List Str} {t : T} {sc : Scope} {bs : Option Scope} {e : Expr} (h : chkE N fs gl t sc bs e = true) (hl : isLc e = true) : (∃ a, t = .mut a ∧ chkE N fs gl a sc bs e = true) ∨ (∃ a, t = .frz a ∧ chkE N fs gl a sc bs e = true) ∨ ∃ own g it c x, t = .lc own g it c x := by
  cases t with
  | «mut» a => exact .inl ⟨a, rfl, h⟩
  | frz a => exact .inr (.inl ⟨a, rfl, h⟩)
  | lc own g it c x => exact .inr (.inr ⟨own, g, it, c, x, rfl⟩)
  | var _ => rw [chkE] at h; obtain ⟨_, _, rfl, _⟩ := nameK_inv h; cases hl
  | lit _ => rw [chkE] at h; obtain ⟨_, _, _, rfl, _⟩ := constK_inv h; cases hl
  | glob _ _ => rw [chkE] at h; obtain ⟨_, _, rfl, _⟩ := nameK_inv h; cases hl
  | bin _ _ _ => rw [chkE] at h; obtain ⟨_, _, _, _, rfl, _⟩ := binK_inv h; cases hl
  | neg _ => rw [chkE] at h; obtain ⟨_, _, _, rfl, _⟩ := unK_inv h; cases hl
  | cmp _ _ _ => rw [chkE] at h; obtain ⟨_, _, _, _, rfl, _⟩ := cmpK_inv h; cases hl
  | and _ _ => rw [chkE] at h; obtain ⟨_, _, _, _, _, rfl, _⟩ := boolK_inv h; cases hl
  | or _ _ => rw [chkE] at h; obtain ⟨_, _, _, _, _, rfl, _⟩ := boolK_inv h; cases hl
  | last _ => cases h
  | not _ => rw [chkE] at h; obtain ⟨_, _, _, rfl, _⟩ := unK_inv h; cases hl
  | ife _ _ _ => rw [chkE] at h; obtain ⟨_, _, _, _, rfl, _⟩ := ifeK_inv h; cases hl
  | tup _ => rw [chkE] at h; obtain ⟨_, _, _, rfl, _⟩ := tupK_inv h; cases hl
  | lst _ => rw [chkE] at h; obtain ⟨_, _, rfl, _⟩ := lstK_inv h; cases hl
  | call _ _ => rw [chkE] at h; obtain ⟨_, _, _, _, rfl, _⟩ := callK_inv h; cases hl
  | callk _ _ _ _ _ => rw [chkE] at h; obtain ⟨_, _, _, _, rfl, _⟩ := callK_inv h; cases hl
  | bi _ _ => rw [chkE] at h; obtain ⟨_, _, _, _, rfl, _⟩ := callK_inv h; cases hl
  | bi2 _ _ _ => rw [chkE] at h; obtain ⟨_, _, _, _, rfl, _⟩ := callK_inv h; cases hl
  | chain _ _ _ _ _ => rw [chkE] at h; obtain ⟨_, _, _, _, _, _, rfl, _⟩ := chainK_inv h; cases hl
  | rev _ => rw [chkE] at h; obtain ⟨_, _, _, _, _, _, rfl, _⟩ := revK_inv h; cases hl
  | sortk _ _ => rw [chkE] at h; obtain ⟨_, _, _, _, rfl, _⟩ := callK_inv h; cases hl
  | idx _ _ => rw [chkE] at h; obtain ⟨_, _, _, rfl, _⟩ := subK_inv h; cases hl
  | slc _ _ _ => rw [chkE] at h; obtain ⟨_, _, _, rfl, _⟩ := subK_inv h; cases hl
  | app _ _ => rw [chkE] at h; obtain ⟨_, _, _, _, rfl, _⟩ := callK_inv h; cases hl
  | popAt _ _ => rw [chkE] at h; obtain ⟨_, _, _, _, rfl, _⟩ := callK_inv h; cases hl
  | yes => cases h
  | nopart => cases h
  | anil => cases h
  | acons _ _ => cases h
  | iseq _ => cases h
  | irange1 _ => cases h
  | irange2 _ _ => cases h
  | izip _ _ => cases h
theorem s_set (c : Cs XR fs gl φ n E X) {i : Nat} {y e : Expr} {pos : Pos} (hy : nameK y (placeB X.N X.env.scope none i) = true) : ∀ t : T, chkE X.N fs gl t X.env.scope none e = true → PSet1 XR φ E X (.Assign [y] e pos) i t := by
  obtain ⟨x, py, rfl, hy⟩ := nameK_inv hy
  obtain ⟨h1, h2, h3⟩ := placeB_inv hy
  have hf : X.fn x = true ∨ X.env.scope.names.lookup x = some .local := by rw [c.g.fn]; exact h3
  have base : ∀ t : T, chkE X.N fs gl t X.env.scope none e = true → swapsWith e (some (.Name x py)) pos.line X.env = pure false → PSet1 XR φ E X (.Assign [.Name x py] e pos) i t := fun t h hs =>
    ps_imp (ps_set c.g.nd h1 h2 ((snd t).e c.g e h) hs hf) fun D σ H q => q
  cases hl : isLc e with
  | false => exact fun t h => base t h (noSwap hl)
  | true =>
    intro t
    induction t with
    | «mut» a iha => exact fun h => PSet1.mut (iha h)
    | frz a iha => exact fun h => PSet1.frz (iha h)
    | lc own g it tc te _ _ _ =>
      intro h
      have h0 := h
      rw [chkE] at h
      obtain ⟨elt, tg, iter, ifs, scope, p, rfl, hh⟩ := lcK_inv h
      cases hs : swapB X.env.scope scope x py p with
      | false => exact base _ h0 (by rw [swap_lc c.blk, hs])
      | true =>
        replace h := hh
        simp only [Bool.and_eq_true, Bool.or_eq_true] at h
        obtain ⟨⟨⟨⟨⟨⟨g1, g2⟩, g3⟩, g4⟩, g5⟩, g6⟩, g7⟩ := h
        have hyl : X.env.scope.names.lookup x = some .local := by
          unfold swapB at hs
          simp only [Bool.and_eq_true] at hs
          exact beq_iff_eq.mp hs.1.1
        have hsl : ∀ i ∈ g.slots, i ∈ own.map (·.2) := fun i hi => by simpa using List.all_eq_true.mp g2 i hi
        refine ps_imp (ps_setLc (g := gG X.K g) (tt := tT XR X.K φ EF tc) (te := tE XR X.K φ EF te) c.g.calm c.g.nd h1 hyl (by rw [swap_lc c.blk, hs]) ((snd it).i c.g tg _ g5) (blkOk_by g1)
          (fun s H C cl fp => g_tg (c.g.blk s H scope _ fp) g3) (fun s H C cl fp => ?_) (fun s H C cl fp => (snd te).e (c.g.blk s H scope _ fp) _ g7) (fun x => fold_plain g4 x)) fun D σ H ⟨loc, ρ, st, sr, er, post⟩ => ?_
        · have cY := c.g.blk s H scope (compEnvC scope cl C X.env) fp
          rcases g6 with ⟨y, e⟩ | g6
          · have e : ifs = [] := by simpa using e
            subst e
            cases tc <;> first | cases y | skip
            refine ⟨fun pins s σ H Q I ⟨loc, ρ, st, sr, er, post⟩ => pts_nil.run pins s σ H Q I ?_⟩
            rw [evT] at post
            exact Post.here (b := true) post sr rfl
          · obtain ⟨q, rfl, g6'⟩ := oneK_inv g6
            exact pts_one ((snd tc).tt cY _ g6')
        · rw [evE] at post
          refine ⟨loc, ρ, st, sr, er, Post.imp (Post.bind (Rl := IE X.K) old_VE post) fun J H1 ⟨loc1, src, st1, _, x1, s1, r1, p1⟩ => ?_⟩
          dsimp only at p1
          cases q : src.still with
          | some _ => rw [q] at p1; exact p1.elim
          | none =>
            rw [q] at p1
            dsimp only at p1
            split at p1
            · rename_i hz
              exact lc_tLc hsl hz (r1 q) s1 (er.mono x1) p1
            · exact p1.elim
    | _ =>
      intro h
      rcases lc_of h hl with ⟨a, z, _⟩ | ⟨a, z, _⟩ | ⟨_, _, _, _, _, z⟩ <;> cases z
end
end RS

/-! RS13: every statement. -/
namespace RS
open PySem
open PySem.Spec
open L2
open PyProof.Rows (envOfC)
section
variable {XR : Ex → Value → Option Addr → Hp → Prop} {fs : List FnT} {gl : List (Str × PyData)} {φ : Nat → List Va → Sto → Res Va} {n : Nat} {E : XK} {X : Cx}

/-! ### parallel stores -/
/-- swappedStores of a def's block, where it is plain -/
def swapF (sc : Scope) (ts vs : List Expr) : Option (Option (List Str)) :=
  if !(ts.length == 2 || ts.length == 3) || vs.length != ts.length then some none
  else if vs.any (fun | .Starred .. => true | _ => false) then some none
  else
    let line := (ts.head?.map (·.pos.line)).getD 0
    let names := ts.filterMap fun
      | .Name id pos => if sc.names.lookup id == some .local && pos.line == line then some id else none
      | _ => none
    if names.length != ts.length || names.eraseDups.length != names.length then some none
    else if vs.all (foldedForSure 8) then some none
    else if vs.all (constantsAlone 8) then none
    else some (some names)
theorem swap_eq {env : PySem.Env} {ts vs : List Expr} {k k2 : Nat} {p p2 : Pos} {r : Option (List Str)} (hb : env.blockKind = .function) (h : swapF env.scope ts vs = some r) : swappedStores [.Tuple ts k p] (.Tuple vs k2 p2) env = pure r := by
  have hk : (env.blockKind != ScopeKind.function) = false := by rw [hb]; rfl
  unfold swapF at h
  unfold swappedStores
  simp only [pure_bind, hk, Bool.or_false]
  split at h
  · rename_i c
    cases h
    exact if_pos c
  · rename_i c1
    refine (if_neg c1).trans ?_
    split at h
    · rename_i c
      cases h
      exact if_pos c
    · rename_i c2
      refine (if_neg c2).trans ?_
      dsimp only at h
      split at h
      · rename_i c
        cases h
        exact if_pos c
      · rename_i c3
        refine (if_neg c3).trans ?_
        split at h
        · rename_i c
          cases h
          exact if_pos c
        · rename_i c4
          refine (if_neg c4).trans ?_
          split at h
          · cases h
          · rename_i c5
            refine (if_neg c5).trans ?_
            cases h
            rfl
theorem sole_tup {ts : List Expr} {k : Nat} {p : Pos} {e : Expr} {l : Nat} {env : PySem.Env} : swapsWithSole [.Tuple ts k p] e l env = pure false := by cases e <;> rfl
theorem sole_sub {o i : Expr} {p : Pos} {e : Expr} {l : Nat} {env : PySem.Env} : swapsWithSole [.Subscript o i p] e l env = pure false := by cases e <;> rfl
/-- one tuple is written on the right -/
def tupPair (e : Expr) (k : List Expr → Bool) : Bool := match e with
  | .Tuple vs _ _ => k vs
  | _ => false
def noTupS (sc : Scope) (ts : List Expr) (e : Expr) : Bool := match e with
  | .Tuple vs _ _ => swapF sc ts vs == some none
  | _ => true
theorem noTup_eq {env : PySem.Env} {ts : List Expr} {e : Expr} {k : Nat} {p : Pos} (hb : env.blockKind = .function) (h : noTupS env.scope ts e = true) : swappedStores [.Tuple ts k p] e env = pure none := by
  cases e <;> first | rfl | skip
  exact swap_eq hb (beq_iff_eq.mp h)

/-! ### the checker -/
def assignK (s : Stmt) (k : Expr → Expr → Bool) : Bool := match s with
  | .Assign [t] e _ => k t e
  | _ => false
theorem assignK_inv {s : Stmt} {k : Expr → Expr → Bool} (h : assignK s k = true) : ∃ t e p, s = .Assign [t] e p ∧ k t e = true := by
  unfold assignK at h
  split at h
  · exact ⟨_, _, _, rfl, h⟩
  · cases h
def exprK (s : Stmt) (k : Expr → Bool) : Bool := match s with
  | .Expr e _ => k e
  | _ => false
theorem exprK_inv {s : Stmt} {k : Expr → Bool} (h : exprK s k = true) : ∃ e p, s = .Expr e p ∧ k e = true := by
  unfold exprK at h
  split at h
  · exact ⟨_, _, rfl, h⟩
  · cases h
def retK (s : Stmt) (k : Expr → Bool) : Bool := match s with
  | .Return (some e) _ => k e
  | _ => false
theorem retK_inv {s : Stmt} {k : Expr → Bool} (h : retK s k = true) : ∃ e p, s = .Return (some e) p ∧ k e = true := by
  unfold retK at h
  split at h
  · exact ⟨_, _, rfl, h⟩
  · cases h
def ifK (s : Stmt) (k : Expr → List Stmt → List Stmt → Bool) : Bool := match s with
  | .If c a b _ => k c a b
  | _ => false
theorem ifK_inv {s : Stmt} {k : Expr → List Stmt → List Stmt → Bool} (h : ifK s k = true) : ∃ c a b p, s = .If c a b p ∧ k c a b = true := by
  unfold ifK at h
  split at h
  · exact ⟨_, _, _, _, rfl, h⟩
  · cases h
def forK (s : Stmt) (k : Expr → Expr → List Stmt → Bool) : Bool := match s with
  | .For t i b [] _ => k t i b
  | _ => false
theorem forK_inv {s : Stmt} {k : Expr → Expr → List Stmt → Bool} (h : forK s k = true) : ∃ t i b p, s = .For t i b [] p ∧ k t i b = true := by
  unfold forK at h
  split at h
  · exact ⟨_, _, _, _, rfl, h⟩
  · cases h
def raiseK (s : Stmt) (k : Str → Bool) : Bool := match s with
  | .Raise (some (.Call (.Name x _) [] [] _)) none _ => k x
  | _ => false
theorem raiseK_inv {s : Stmt} {k : Str → Bool} (h : raiseK s k = true) : ∃ x p q r, s = .Raise (some (.Call (.Name x p) [] [] q)) none r ∧ k x = true := by
  unfold raiseK at h
  split at h
  · exact ⟨_, _, _, _, rfl, h⟩
  · cases h
def tryK (s : Stmt) (k : List Stmt → Str → Expr → Bool) : Bool := match s with
  | .Try body [.ExceptHandler (some (.Name x _)) none [.Return (some e) _] _] [] [] _ => k body x e
  | _ => false
theorem tryK_inv {s : Stmt} {k : List Stmt → Str → Expr → Bool} (h : tryK s k = true) : ∃ body x e p q r t, s = .Try body [.ExceptHandler (some (.Name x p)) none [.Return (some e) q] r] [] [] t ∧ k body x e = true := by
  unfold tryK at h
  split at h
  · exact ⟨_, _, _, _, _, _, _, rfl, h⟩
  · cases h
/-- what stands behind except: nothing but what stands for good -/
def chkH : T → Expr → Bool
  | .lit d, e => constK e (litB d)
  | _, _ => false
def clsOf (gl : List (Str × PyData)) (x : Str) : Option (List PyData) := match gl.lookup x with
  | some (.list ns) => some ns
  | _ => none
theorem clsOf_inv {gl : List (Str × PyData)} {x : Str} {ns : List PyData} (h : clsOf gl x = some ns) : gl.lookup x = some (.list ns) := by
  unfold clsOf at h
  split at h
  · rename_i q; cases h; exact q
  · cases h
def sameL : List PyData → List PyData → Bool
  | [], [] => true
  | .str a :: r, .str b :: s => decide (a = b) && sameL r s
  | _, _ => false
theorem sameL_eq : ∀ {a b : List PyData}, sameL a b = true → a = b
  | [], [], _ => rfl
  | x :: r, y :: s, h => by
    cases x <;> cases y <;> first | cases h | skip
    have h : (decide (_ = _) && sameL r s) = true := h
    rw [Bool.and_eq_true, decide_eq_true_eq] at h
    rw [h.1, sameL_eq h.2]
  | [], _ :: _, h => by cases h
  | x :: _, [], h => by cases x <;> cases h
def isPass : Stmt → Bool
  | .Pass _ => true
  | _ => false
def isBrk : Stmt → Bool
  | .Break _ => true
  | _ => false
def isCnt : Stmt → Bool
  | .Continue _ => true
  | _ => false
section
variable (N : List Str) (fs : List FnT) (gl : List (Str × PyData)) (sc : Scope)
mutual
def chk1 : S → Stmt → Bool
  | .pass, s => isPass s
  | .set i e, s => assignK s fun y v => nameK y (placeB N sc none i) && chkE N fs gl e sc none v
  | .par i j a b, s => assignK s fun t v => tupK t fun ts => consK ts fun y r => oneK r fun z => tupPair v fun vs => consK vs fun u w => oneK w fun x =>
      nameK y (placeB N sc none i) && nameK z (placeB N sc none j) && decide (i ≠ j) && plainE u && plainE x && chkE N fs gl a sc none u && chkE N fs gl b sc none x &&
      nameK y (fun m => nameK z fun q => decide (swapF sc ts vs = some (some [m, q])) && decide (sc.names.lookup m = some .local) && decide (sc.names.lookup q = some .local))
  | .par3 i j l a b c, s => assignK s fun t v => tupK t fun ts => consK ts fun y r => consK r fun z r2 => oneK r2 fun y3 => tupPair v fun vs => consK vs fun u w => consK w fun x w2 => oneK w2 fun u3 =>
      nameK y (placeB N sc none i) && nameK z (placeB N sc none j) && nameK y3 (placeB N sc none l) && decide (i ≠ j) && decide (i ≠ l) && decide (j ≠ l) && plainE u && plainE x && plainE u3 && chkE N fs gl a sc none u && chkE N fs gl b sc none x && chkE N fs gl c sc none u3 &&
      nameK y (fun m => nameK z fun q => nameK y3 fun q3 => decide (swapF sc ts vs = some (some [m, q, q3])) && decide (sc.names.lookup m = some .local) && decide (sc.names.lookup q = some .local) && decide (sc.names.lookup q3 = some .local))
  | .unpack is e, s => assignK s fun t v => tupK t fun ts => targets N sc none is ts && noTupS sc ts v && chkE N fs gl e sc none v
  | .expr e, s => exprK s fun v => !isLc v && chkE N fs gl e sc none v
  | .ret e, s => retK s fun v => chkE N fs gl e sc none v
  | .ifs c a b, s => ifK s fun t x y => chkE N fs gl c sc none t && chkS a x && chkS b y
  | .forS g it b, s => forK s fun t i x => chkG N sc none g t && plainE i && chkI N fs gl it sc none (zipTg t) i && chkS b x
  | .setIx o i e, s => assignK s fun t v => subK t fun a x => plainE x && chkE N fs gl e sc none v && chkE N fs gl o sc none a && chkE N fs gl i sc none x
  | .brk, s => isBrk s
  | .cnt, s => isCnt s
  | .raise x ns, s => raiseK s fun y => decide (y = x) && glB sc y && (clsOf gl y).any (sameL ns)
  | .tryR a x t, s => tryK s fun body y e => chkS a body && decide (y = x) && glB sc y && (clsOf gl y).isSome && chkH t e
  | .fz a _, s => chk1 a s
  | .never, _ => true
  | _, _ => false
def chkS : S → List Stmt → Bool
  | .nil, ss => ss.isEmpty
  | .seq a b, ss => consK ss fun s r => chk1 a s && chkS b r
  | _, _ => false
end
end

/-! ### a list that is settled -/
theorem s_fz {a : S} {i : Nat} {s : Stmt} (h : PS X s (tS XR X.K φ E a)) : PS X s (tS XR X.K φ E (.fz a i)) := by
  refine ps_imp (ps_ghost h) fun D σ H ⟨loc, ρ, st, sr, er, post⟩ => ?_
  rw [evS] at post
  refine ⟨loc, ρ, st, sr, er, ?_⟩
  cases q : evS φ a ρ st with
  | exc e st1 => rw [q] at post; exact post
  | stuck => rw [q] at post; exact post
  | ok f st1 =>
    rw [q] at post
    intro o H' loc' x s' r
    simp only [Res.bind_ok] at post
    cases f with
    | rt _ => exact post.elim
    | bk _ => exact post.elim
    | ct _ => exact post.elim
    | nx ρ1 =>
      cases o with
      | rt _ => exact r.elim
      | bk _ => exact r.elim
      | ct _ => exact r.elim
      | nx σ1 =>
        have r : ER X.K H' loc' ρ1 σ1 := r
        dsimp only at post
        cases e : ρ1[i]?.bind id with
        | none => rw [e] at post; exact post.elim
        | some w =>
          rw [e] at post
          cases w with
          | dat _ => exact post.elim
          | new _ => exact post.elim
          | ref k =>
            dsimp only at post
            unfold frzV at post
            cases e0 : st1[k]? with
            | none => simp only [e0] at post; exact post.elim
            | some cc =>
              cases cc with
              | dead => simp only [e0] at post; exact post.elim
              | lst xs =>
                simp only [e0] at post
                cases e1 : undat xs with
                | none => simp only [e1] at post; exact post.elim
                | some ds =>
                  simp only [e1] at post
                  obtain ⟨a', vs, f1, f2, f3, f4⟩ := s'.cell k _ e0
                  refine .inr ⟨a', vs, f2, fun o => ?_⟩
                  have mem := List.mem_of_getElem? f1
                  have xx : Ext loc H (upd H' a' (.frz o (.lst vs))) (loc'.set k none) := (Ext.chg x f2 (x.sub _ mem)).drop
                  have xy : Ext loc' H' (upd H' a' (.frz o (.lst vs))) loc' := Ext.chg Ext.refl f2 (.inl mem)
                  refine post (.nx σ1) _ _ xx (s'.die e0 f1 f2) ?_
                  show ER X.K (upd H' a' (.frz o (.lst vs))) (loc'.set k none) (setEnv ρ1 i (.dat (.list ds))) σ1
                  refine ⟨by unfold setEnv; rw [List.length_set]; exact r.len, fun j b ej => ?_⟩
                  unfold setEnv at ej
                  by_cases hj : i = j
                  · subst hj
                    by_cases hi : i < ρ1.length
                    · rw [List.getElem?_set_self hi] at ej
                      cases ej
                      have ei : ρ1[i]? = some (some (.ref k)) := by
                        cases q1 : ρ1[i]? with
                        | none => rw [q1] at e; cases e
                        | some w => rw [q1] at e; exact congrArg some e
                      obtain ⟨v, h1, h2⟩ := r.get i _ ei
                      have hv := h2.2 a' f1
                      subst hv
                      exact ⟨_, h1, .lst (.inl ⟨o, upd_same⟩) (VIs.undat (VIs.mono xy f3) e1)⟩
                    · rw [List.getElem?_eq_none (by rw [List.length_set]; omega)] at ej
                      cases ej
                  · rw [List.getElem?_set_ne hj] at ej
                    obtain ⟨v, h1, h2⟩ := r.get j b ej
                    exact ⟨v, h1, h2.mono xy.drop⟩

/-! ### one after another -/
theorem s_nil : PSs X [] (tS XR X.K φ E .nil) := pss_imp pss_nil fun D σ H ⟨loc, ρ, st, sr, er, post⟩ => by
  rw [evS] at post
  exact Post.here (b := FO.nx σ) post sr er
theorem s_seq {a b : S} {s : Stmt} {r : List Stmt} (ha : PS X s (tS XR X.K φ E a)) (hb : PSs X r (tS XR X.K φ E b)) : PSs X (s :: r) (tS XR X.K φ E (.seq a b)) := by
  refine pss_imp (pss_cons ha hb) fun D σ H ⟨loc, ρ, st, sr, er, post⟩ => ?_
  rw [evS] at post
  refine ⟨loc, ρ, st, sr, er, Post.imp (Post.bind (Rl := FE X.K) old_FE post) fun o H1 ⟨loc1, f, st1, _, x1, s1, r1, p1⟩ => ?_⟩
  dsimp only at p1
  cases o with
  | nx σ1 =>
    cases f with
    | nx ρ1 => exact ⟨loc1, ρ1, st1, s1, r1, p1⟩
    | rt _ => exact r1.elim
    | bk _ => exact r1.elim
    | ct _ => exact r1.elim
  | rt v =>
    cases f with
    | rt a => exact p1 (FO.rt v) H1 loc1 Ext.refl s1 r1
    | nx _ => exact r1.elim
    | bk _ => exact r1.elim
    | ct _ => exact r1.elim
  | bk σ1 =>
    cases f with
    | bk ρ1 => exact p1 (FO.bk σ1) H1 loc1 Ext.refl s1 r1
    | nx _ => exact r1.elim
    | rt _ => exact r1.elim
    | ct _ => exact r1.elim
  | ct σ1 =>
    cases f with
    | ct ρ1 => exact p1 (FO.ct σ1) H1 loc1 Ext.refl s1 r1
    | nx _ => exact r1.elim
    | rt _ => exact r1.elim
    | bk _ => exact r1.elim
theorem s_pass {p : Pos} : PS X (.Pass p) (tS XR X.K φ E .pass) := ps_imp ps_pass fun D σ H ⟨loc, ρ, st, sr, er, post⟩ => by
  rw [evS] at post
  exact Post.here (b := FO.nx σ) post sr er
theorem s_brk {p : Pos} : PS X (.Break p) (tS XR X.K φ E .brk) := ps_imp ps_break fun D σ H ⟨loc, ρ, st, sr, er, post⟩ => by
  rw [evS] at post
  exact Post.here (b := FO.bk σ) post sr er
theorem s_cnt {p : Pos} : PS X (.Continue p) (tS XR X.K φ E .cnt) := ps_imp ps_continue fun D σ H ⟨loc, ρ, st, sr, er, post⟩ => by
  rw [evS] at post
  exact Post.here (b := FO.ct σ) post sr er
theorem s_never {s : Stmt} : PS X s (tS XR X.K φ E .never) := ⟨fun pins s σ H D I ⟨loc, ρ, st, _, _, post⟩ => by rw [evS] at post; exact post.elim⟩
theorem s_expr {t : T} {e : Expr} {p : Pos} (hl : isLc e = false) (h : PE X e (tE XR X.K φ E t)) : PS X (.Expr e p) (tS XR X.K φ E (.expr t)) := by
  refine ps_imp (ps_expr h (noSwap hl)) fun D σ H ⟨loc, ρ, st, sr, er, post⟩ => ?_
  rw [evS] at post
  refine ⟨loc, ρ, st, sr, er, Post.imp (Post.bind (Rl := VE X.K) old_FE post) fun x H1 ⟨loc1, xa, st1, _, x1, s1, r1, p1⟩ => ?_⟩
  exact Post.here (b := FO.nx σ) p1 s1 (er.mono x1)
theorem s_ret {t : T} {e : Expr} {p : Pos} (h : PE X e (tE XR X.K φ E t)) : PS X (.Return (some e) p) (tS XR X.K φ E (.ret t)) := by
  refine ps_imp (ps_ret h) fun D σ H ⟨loc, ρ, st, sr, er, post⟩ => ?_
  rw [evS] at post
  refine ⟨loc, ρ, st, sr, er, Post.imp (Post.bind (Rl := VE X.K) old_FE post) fun x H1 ⟨loc1, xa, st1, _, x1, s1, r1, p1⟩ => ?_⟩
  dsimp only at p1
  cases e : isOut xa with
  | none => rw [e] at p1; exact p1.elim
  | some v =>
    rw [e] at p1
    exact Post.here (b := FO.rt x) p1 s1 (r1.1.vi e)
theorem s_if {t : T} {a b : S} {e : Expr} {x y : List Stmt} {p : Pos} (h : PT X e (tT XR X.K φ E t)) (ha : PSs X x (tS XR X.K φ E a)) (hb : PSs X y (tS XR X.K φ E b)) : PS X (.If e x y p) (tS XR X.K φ E (.ifs t a b)) := by
  refine ps_imp (ps_if h ha hb) fun D σ H ⟨loc, ρ, st, sr, er, post⟩ => ?_
  rw [evS] at post
  refine ⟨loc, ρ, st, sr, er, Post.imp (Post.bind (Rl := BE) old_FE post) fun x H1 ⟨loc1, xa, st1, _, x1, s1, r1, p1⟩ => ?_⟩
  have r1 : x = xa := r1
  subst r1
  cases x with
  | true => rw [if_pos rfl]; exact ⟨loc1, ρ, st1, s1, er.mono x1, p1⟩
  | false => rw [if_neg Bool.false_ne_true]; exact ⟨loc1, ρ, st1, s1, er.mono x1, p1⟩

/-! ### several stores -/
theorem s_par (c : Cs XR fs gl φ n E X) {i j : Nat} {a b : T} {y z u x : Expr} {k k2 : Nat} {p p2 p3 : Pos} (hy : nameK y (placeB X.N X.env.scope none i) = true) (hz : nameK z (placeB X.N X.env.scope none j) = true) (hij : i ≠ j) (hu : plainE u = true) (hx : plainE x = true)
    (ha : PE X u (tE XR X.K φ E a)) (hb : PE X x (tE XR X.K φ E b)) (hn : nameK y (fun m => nameK z fun q => decide (swapF X.env.scope [y, z] [u, x] = some (some [m, q])) && decide (X.env.scope.names.lookup m = some .local) && decide (X.env.scope.names.lookup q = some .local)) = true) :
    PS X (.Assign [.Tuple [y, z] k p] (.Tuple [u, x] k2 p2) p3) (tS XR X.K φ E (.par i j a b)) := by
  obtain ⟨m, py, rfl, hy⟩ := nameK_inv hy
  obtain ⟨q, pz, rfl, hz⟩ := nameK_inv hz
  have hn : (decide (swapF X.env.scope [.Name m py, .Name q pz] [u, x] = some (some [m, q])) && decide (X.env.scope.names.lookup m = some .local) && decide (X.env.scope.names.lookup q = some .local)) = true := hn
  simp only [Bool.and_eq_true, decide_eq_true_eq] at hn
  obtain ⟨h1, _⟩ := placeB_inv hy
  obtain ⟨h2, _⟩ := placeB_inv hz
  refine ps_imp (ps_par c.g.calm c.g.nd h1 h2 hij hn.1.2 hn.2 (pa_cons ha (pa_cons hb pa_nil (star_plain hx)) (star_plain hu)) (swap_eq c.blk hn.1.1) sole_tup) fun D σ H ⟨loc, ρ, st, sr, er, post⟩ => ?_
  rw [evS] at post
  refine ⟨loc, ρ, st, sr, er, Post.imp (Post.bind (Rl := VE X.K) old_FE post) fun v H1 ⟨loc1, xa, st1, _, x1, s1, r1, p1⟩ => ?_⟩
  dsimp only at p1
  cases e : isOut xa with
  | none => rw [e] at p1; exact p1.elim
  | some va =>
    rw [e] at p1
    have w1 := r1.1.vi e
    refine ⟨loc1, ρ, st1, s1, er.mono x1, Post.imp (Post.bind (Rl := VE X.K) old_FE p1) fun w H2 ⟨loc2, ya, st2, _, x2, s2, r2, p2⟩ => ?_⟩
    dsimp only at p2
    cases e2 : isOut ya with
    | none => rw [e2] at p2; exact p2.elim
    | some wa =>
      rw [e2] at p2
      exact ⟨v, w, rfl, Post.here (b := FO.nx _) p2 s2 ((((er.mono x1).mono x2).set (w1.mono x2)).set (r2.1.vi e2))⟩
theorem s_par3 (c : Cs XR fs gl φ n E X) {i j l : Nat} {a b d : T} {y z y3 u x u3 : Expr} {k k2 : Nat} {p p2 p3 : Pos} (hy : nameK y (placeB X.N X.env.scope none i) = true) (hz : nameK z (placeB X.N X.env.scope none j) = true) (h3 : nameK y3 (placeB X.N X.env.scope none l) = true)
    (hij : i ≠ j) (hil : i ≠ l) (hjl : j ≠ l) (hu : plainE u = true) (hx : plainE x = true) (hu3 : plainE u3 = true)
    (ha : PE X u (tE XR X.K φ E a)) (hb : PE X x (tE XR X.K φ E b)) (hd : PE X u3 (tE XR X.K φ E d)) (hn : nameK y (fun m => nameK z fun q => nameK y3 fun q3 => decide (swapF X.env.scope [y, z, y3] [u, x, u3] = some (some [m, q, q3])) && decide (X.env.scope.names.lookup m = some .local) && decide (X.env.scope.names.lookup q = some .local) && decide (X.env.scope.names.lookup q3 = some .local)) = true) :
    PS X (.Assign [.Tuple [y, z, y3] k p] (.Tuple [u, x, u3] k2 p2) p3) (tS XR X.K φ E (.par3 i j l a b d)) := by
  obtain ⟨m, py, rfl, hy⟩ := nameK_inv hy
  obtain ⟨q, pz, rfl, hz⟩ := nameK_inv hz
  obtain ⟨q3, pz3, rfl, h3⟩ := nameK_inv h3
  have hn : (decide (swapF X.env.scope [.Name m py, .Name q pz, .Name q3 pz3] [u, x, u3] = some (some [m, q, q3])) && decide (X.env.scope.names.lookup m = some .local) && decide (X.env.scope.names.lookup q = some .local) && decide (X.env.scope.names.lookup q3 = some .local)) = true := hn
  simp only [Bool.and_eq_true, decide_eq_true_eq] at hn
  obtain ⟨g1, _⟩ := placeB_inv hy
  obtain ⟨g2, _⟩ := placeB_inv hz
  obtain ⟨g3, _⟩ := placeB_inv h3
  refine ps_imp (ps_par3 c.g.calm c.g.nd g1 g2 g3 hij hil hjl hn.1.1.2 hn.1.2 hn.2 (pa_cons ha (pa_cons hb (pa_cons hd pa_nil (star_plain hu3)) (star_plain hx)) (star_plain hu)) (swap_eq c.blk hn.1.1.1) sole_tup) fun D σ H ⟨loc, ρ, st, sr, er, post⟩ => ?_
  rw [evS] at post
  refine ⟨loc, ρ, st, sr, er, Post.imp (Post.bind (Rl := VE X.K) old_FE post) fun v H1 ⟨loc1, xa, st1, _, x1, s1, r1, p1⟩ => ?_⟩
  dsimp only at p1
  cases e : isOut xa with
  | none => rw [e] at p1; exact p1.elim
  | some va =>
    rw [e] at p1
    have w1 := r1.1.vi e
    refine ⟨loc1, ρ, st1, s1, er.mono x1, Post.imp (Post.bind (Rl := VE X.K) old_FE p1) fun w H2 ⟨loc2, ya, st2, _, x2, s2, r2, p2⟩ => ?_⟩
    dsimp only at p2
    cases e2 : isOut ya with
    | none => rw [e2] at p2; exact p2.elim
    | some wa =>
      rw [e2] at p2
      have w2 := r2.1.vi e2
      refine ⟨loc2, ρ, st2, s2, (er.mono x1).mono x2, Post.imp (Post.bind (Rl := VE X.K) old_FE p2) fun t H3 ⟨loc3, za, st3, _, x3, s3, r3, p3⟩ => ?_⟩
      dsimp only at p3
      cases e3 : isOut za with
      | none => rw [e3] at p3; exact p3.elim
      | some ta =>
        rw [e3] at p3
        exact ⟨v, w, t, rfl, Post.here (b := FO.nx _) p3 s3 ((((((er.mono x1).mono x2).mono x3).set ((w1.mono x2).mono x3)).set (w2.mono x3)).set (r3.1.vi e3))⟩
theorem s_unpack (c : Cs XR fs gl φ n E X) {is : List Nat} {t : T} {ts : List Expr} {e : Expr} {k : Nat} {p p2 : Pos} (hg : targets X.N X.env.scope none is ts = true) (hn : noTupS X.env.scope ts e = true) (h : PE X e (tE XR X.K φ E t)) :
    PS X (.Assign [.Tuple ts k p] e p2) (tS XR X.K φ E (.unpack is t)) := by
  obtain ⟨r1, r2, r3⟩ := g_names c.g hg
  refine ps_imp (ps_asg h (pg_tup c.g.calm r1 r2 r3) sole_tup (noTup_eq c.blk hn)) fun D σ H ⟨loc, ρ, st, sr, er, post⟩ => ?_
  rw [evS] at post
  refine ⟨loc, ρ, st, sr, er, Post.imp (Post.bind (Rl := VE X.K) old_FE post) fun x H1 ⟨loc1, xa, st1, ev1, x1, s1, q1, p1⟩ => ?_⟩
  dsimp only at p1
  cases xa with
  | ref _ => exact p1.elim
  | new _ => exact p1.elim
  | dat d =>
    cases d <;> first | exact p1.elim | skip
    dsimp only at p1
    split at p1
    · rename_i ds hl
      cases e : setAll is ds ρ with
      | none => rw [e] at p1; exact p1.elim
      | some ρ1 =>
        rw [e] at p1
        have q : VI X.K H1 loc1 x (.dat (.tuple ds)) := q1.1
        exact asg_ok (g := .t is) (vsl := is) (by show (if ds.length = is.length then setAll is ds ρ else none) = some ρ1; rw [if_pos hl, e]) q (er.mono x1) (fun i hi => hi) fun σ1 er1 _ => Post.here (b := FO.nx σ1) p1 s1 er1
    · exact p1.elim
theorem s_setIx (c : Cs XR fs gl φ n E X) {o i t : T} {a x e : Expr} {p p2 : Pos} (hp : plainE x = true) (h : PE X e (tE XR X.K φ E t)) (ho : PE X a (tE XR X.K φ E o)) (hi : PE X x (tE XR X.K φ E i)) : PS X (.Assign [.Subscript a x p] e p2) (tS XR X.K φ E (.setIx o i t)) := by
  have pg : PG X (.Subscript a x p) (gSub (tE XR X.K φ E o) (tE XR X.K φ E i) rSetL) := by
    refine pg_sub ho hi set_list fun v => ?_
    cases x <;> first | rfl | cases hp
  refine ps_imp (ps_asg h pg sole_sub rfl rfl) fun D σ H ⟨loc, ρ, st, sr, er, post⟩ => ?_
  rw [evS] at post
  refine ⟨loc, ρ, st, sr, er, Post.imp (Post.bind (Rl := VE X.K) old_FE post) fun v H1 ⟨loc1, va, st1, _, x1, s1, r1, p1⟩ => ?_⟩
  refine ⟨loc1, ρ, st1, s1, er.mono x1, Post.imp (Post.bind (Rl := VE X.K) old_FE p1) fun l H2 ⟨loc2, la, st2, _, x2, s2, r2, p2⟩ => ?_⟩
  refine ⟨loc2, ρ, st2, s2, (er.mono x1).mono x2, Post.imp (Post.bind (Rl := VE X.K) old_FE p2) fun y H3 ⟨loc3, ya, st3, ev3, x3, s3, r3, p3⟩ => ?_⟩
  clear ev3
  dsimp only at p3
  cases ya with
  | ref _ => exact p3.elim
  | new _ => exact p3.elim
  | dat d =>
    cases eo : isOut va with
    | none => rw [eo] at p3; exact p3.elim
    | some va' =>
      rw [eo] at p3
      dsimp only at p3
      have vv := ((r1.1.mono x2).mono x3).vi eo
      have rl := r2.1.mono x3
      unfold setV at p3
      cases la with
      | dat _ => exact p3.elim
      | new _ => exact p3.elim
      | ref k =>
        cases d <;> first | exact p3.elim | skip
        rename_i m
        have ry : Rp X.K H3 y (.int m) := r3.1
        cases ry
        cases e0 : st3[k]? with
        | none => simp only [e0] at p3; exact p3.elim
        | some cc =>
          cases cc with
          | dead => simp only [e0] at p3; exact p3.elim
          | lst xs =>
            simp only [e0] at p3
            split at p3
            · rename_i hz
              obtain ⟨a', vs, rfl, f1, f2, f3, f4⟩ := cell_inv s3 rl e0
              have l1 := VIs.len f3
              refine ⟨a', vs, m, m.toNat, rfl, rfl, f2, ?_, ?_⟩
              · unfold ixN
                rw [if_pos hz.2.1, if_pos (by omega)]
              · have xx : Ext loc3 H3 (upd H3 a' (.lst (vs.set m.toNat v))) loc3 := Ext.chg Ext.refl f2 (.inl (List.mem_of_getElem? f1))
                have st : VIs X.K H3 loc3 (vs.set m.toNat v) (xs.set m.toNat va') := by
                  have : ∀ {vs : List V} {xs : List Va} (i : Nat), VIs X.K H3 loc3 vs xs → VIs X.K H3 loc3 (vs.set i v) (xs.set i va') := by
                    intro vs xs i h
                    induction h generalizing i with
                    | nil => exact .nil
                    | cons r t ih => cases i with
                      | zero => exact .cons vv t
                      | succ i => exact .cons r (ih i)
                  exact this _ f3
                have low : (xs.set m.toNat va').all (·.low k) = true := List.all_eq_true.mpr fun x hx => by
                  rcases List.mem_or_eq_of_mem_set hx with h | rfl
                  · exact List.all_eq_true.mp f4 x h
                  · exact hz.1
                exact p3 (FO.nx σ) _ loc3 xx (s3.write e0 f1 f2 st low) ((((er.mono x1).mono x2).mono x3).mono xx)
            · exact p3.elim

/-! ### loops -/
theorem s_for (c : Cs XR fs gl φ n E X) {g : G} {it : T} {b : S} {t i : Expr} {x : List Stmt} {p : Pos} (hg : chkG X.N X.env.scope none g t = true) (hp : plainE i = true) (hi : PI X t i (tI XR X.K φ E it)) (hb : PSs X x (tS XR X.K φ E b)) :
    PS X (.For t i x [] p) (tS XR X.K φ E (.forS g it b)) := by
  refine ps_imp (ps_for c.own c.g.calm hi (g_tg c.g hg) hb (fun z => fold_plain hp z)) fun D σ H ⟨loc, ρ, st, sr, er, post⟩ => ?_
  rw [evS] at post
  refine ⟨loc, ρ, st, sr, er, Post.imp (Post.bind (Rl := IE X.K) old_FE post) fun J H1 ⟨loc1, src, st1, _, x1, s1, r1, p1⟩ => ?_⟩
  dsimp only at p1
  cases q : src.still with
  | some _ => rw [q] at p1; exact p1.elim
  | none =>
    rw [q] at p1
    dsimp only at p1
    have R := r1 q
    generalize src.items = items at R p1
    refine ⟨fun i m σ H => m = items.length - i ∧ i ≤ items.length ∧ ∃ loc ρ st, Ext loc1 H1 H loc ∧ SR X.K H loc st ∧ ER X.K H loc ρ σ ∧ Post XR X.K (FE X.K) E loc1 H1 (forL (fun ρ s => evS φ b ρ s) g (items.drop i) ρ st) (toQ D),
      ⟨_, rfl, Nat.zero_le _, loc1, ρ, st1, Ext.refl, s1, er.mono x1, by rw [List.drop_zero]; exact p1⟩, ?_⟩
    rintro i m σ2 H2 ⟨rfl, hi, loc2, ρ2, st2, x2, s2, er2, post2⟩
    by_cases hlt : i < items.length
    · refine .inr ⟨R.go i H2 loc2 x2 hlt, fun σ H => i + 1 ≤ items.length ∧ ∃ loc ρ st, Ext loc1 H1 H loc ∧ SR X.K H loc st ∧ ER X.K H loc ρ σ ∧ Post XR X.K (FE X.K) E loc1 H1 (forL (fun ρ s => evS φ b ρ s) g (items.drop (i + 1)) ρ st) (toQ D),
        fun σ' H' w => ⟨_, by omega, rfl, w⟩, fun v H' hy => ?_⟩
      obtain ⟨x3, sr3, rx⟩ := R.yld i H2 loc2 st2 v H' x2 s2 hy items[i] (List.getElem?_eq_getElem hlt)
      rw [List.drop_eq_getElem_cons hlt, forL] at post2
      cases ea : asgG g items[i] ρ2 with
      | none => rw [ea] at post2; exact post2.elim
      | some ρ3 =>
        rw [ea] at post2
        dsimp only at post2
        refine asg_ok (vsl := g.slots) ea rx (er2.mono x3) (fun i hi => hi) fun σ3 er3 _ => ⟨loc2, ρ3, st2, sr3, er3, ?_⟩
        cases eb : evS φ b ρ3 st2 with
        | exc e s =>
          rw [eb] at post2
          exact fun cls od H4 loc4 x4 s4 xr => post2 cls od H4 loc4 ((x2.trans x3).trans x4) s4 xr
        | stuck => rw [eb] at post2; exact post2.elim
        | ok f st3 =>
          rw [eb] at post2
          dsimp only [Res.bind_ok] at post2
          intro o H4 loc4 x4 s4 r4
          have x5 := (x2.trans x3).trans x4
          cases o with
          | nx σ4 =>
            cases f with
            | nx ρ4 => exact ⟨hlt, loc4, ρ4, st3, x5, s4, r4, post2⟩
            | rt _ => exact r4.elim
            | bk _ => exact r4.elim
            | ct _ => exact r4.elim
          | ct σ4 =>
            cases f with
            | ct ρ4 => exact ⟨hlt, loc4, ρ4, st3, x5, s4, r4, post2⟩
            | rt _ => exact r4.elim
            | bk _ => exact r4.elim
            | nx _ => exact r4.elim
          | bk σ4 =>
            cases f with
            | bk ρ4 => exact post2 (FO.nx σ4) H4 loc4 x5 s4 r4
            | rt _ => exact r4.elim
            | nx _ => exact r4.elim
            | ct _ => exact r4.elim
          | rt w =>
            cases f with
            | rt a => exact post2 (FO.rt w) H4 loc4 x5 s4 r4
            | nx _ => exact r4.elim
            | bk _ => exact r4.elim
            | ct _ => exact r4.elim
    · refine .inl ⟨R.stop i H2 loc2 x2 (by omega), ?_⟩
      rw [List.drop_eq_nil_of_le (by omega)] at post2
      exact post2 (FO.nx σ2) H2 loc2 x2 s2 er2

/-! ### errors -/
/-- X(), X an own class of errors without own __init__ -/
theorem pmk_own0 {X : Cx} {C : Addr} {bmB : List Value} {B newId initId : String} {x : Str} {p pos : Pos} (F : ExcBaseFacts B newId initId bmB) (q : PySem.W.excIn X.K C bmB newId = true) (gC : X.mg x = some (.ref C))
    (kC : PySem.W.keepIn X.K (.ref C) = true) (r : Raises X (.ref C)) (hg : Gl X x) (hdb : (x == ("__debug__" : Str)) = false) : PMk X (.Call (.Name x p) [] [] pos) (fun _ H Q => Q (.ref C) none H) := by
  intro pins s σ H Q I h
  refine wpAny_Call_Name_kw (ld_glob I hg gC ?_ hdb)
  refine PySem.W.callWith_K0 I.kIn kC ?_
  show wpAny _ _ (call (.ref C) []) _ _ _
  obtain ⟨bm, N, nm, qn, bs, hdct, sn, sub, ab, col, dd, k0, k1, k2, k3, k5, mN, hC, hN, hni, T⟩ := exc_obj I.kIn q
  refine wpAny_call_exc_subT F T hC hN hni (fun h' e hm => ?_) (Nat.zero_le _)
  exact mk_of I hm r h (I.hok.gone hm.new)
theorem s_raise (c : Cs XR fs gl φ n E X) {x : Str} {ns : List PyData} {p q r : Pos} (hg : glB X.env.scope x = true) (h : gl.lookup x = some (.list ns)) : PS X (.Raise (some (.Call (.Name x p) [] [] q)) none r) (tS XR X.K φ E (.raise x ns)) := by
  obtain ⟨g1, g2⟩ := glB_inv hg
  obtain ⟨C, m, e, k, rs, _⟩ := c.cls x ns h
  refine ps_imp (ps_raise c.g.calm c.tk (pmk_own0 PySem.F.excBase_ValueError e m k rs g1 g2)) fun D σ H ⟨loc, ρ, st, sr, er, post⟩ => ?_
  rw [evS] at post
  exact post (.ref C) none H loc Ext.refl sr (c.xr x ns C H h m)
/-- what a try's body wishes of an error -/
def EW (X : Cx) (W : WX) : XK := fun cls d H => ∀ σ : L2.St, σ.length = X.N.length → W cls d σ H
theorem takes_EW {X : Cx} {W : WX} (t : Takes X W) : Takes X (fun cls d _ H => EW X W cls d H) := fun u s' ⟨a, B, sI, pins, σ, H, cls, d, e, I, nb, up, sky, na, os, ag, w⟩ =>
  t u s' ⟨a, B, sI, pins, σ, H, cls, d, e, I, nb, up, sky, na, os, ag, w σ I.len⟩
theorem Cs.tr (c : Cs XR fs gl φ n E X) {W : WX} {pn : List (Addr × Obj)} {xe : Value → Shared → Prop} (t : Takes (X.tr pn xe) W) (o : PassesOwn (model X.prog X.w) X.A X.env xe) : Cs XR fs gl φ n (EW X W) (X.tr pn xe) where
  g := {
    calm := c.g.calm
    nd := c.g.nd
    fn := c.g.fn
    room := c.g.room
    room2 := c.g.room2
    gu := c.g.gu
    dg := c.g.dg
    fns := fun f F e => by
      obtain ⟨CX, a, fd, h1, h2, h3, h4, h5, h6, h7⟩ := c.g.fns f F e
      subst h7
      exact ⟨_, a, fd, h1, h2, h3, h4, h5, passes_call (takes_EW t) (fun cls d σ H z => z), rfl⟩
    bi := c.g.bi
    rng := c.g.rng
    zip := c.g.zip
    gls := c.g.gls }
  blk := c.blk
  own := o
  tk := takes_EW t
  stk := c.stk
  frm := c.frm
  cls := c.cls
  xr := c.xr
  xi := c.xi
theorem er_none {K : PySem.W.Frag} {H : Hp} {loc : Loc} {σ : L2.St} {k : Nat} (h : σ.length = k) : ER K H loc (List.replicate k none) σ := by
  refine ⟨by rw [List.length_replicate, h], fun i a e => ?_⟩
  rw [List.getElem?_replicate] at e
  split at e <;> cases e
theorem s_try (c : Cs XR fs gl φ n E X) {a : S} {x : Str} {ms : List PyData} {t : T} {body : List Stmt} {e : Expr} {p q r v : Pos} (hb : ∀ {E : XK} {X : Cx}, Cs XR fs gl φ n E X → ∀ st, chkS X.N fs gl X.env.scope a st = true → PSs X st (tS XR X.K φ E a))
    (hc : chkS X.N fs gl X.env.scope a body = true) (hg : glB X.env.scope x = true) (hx : gl.lookup x = some (.list ms)) (hh : chkH t e = true) :
    PS X (.Try body [.ExceptHandler (some (.Name x p)) none [.Return (some e) q] r] [] [] v) (tS XR X.K φ E (.tryR a x t)) := by
  obtain ⟨g1, g2⟩ := glB_inv hg
  obtain ⟨D0, m, _, _, _, _⟩ := c.cls x ms hx
  have hand : ∀ Y : Cx, PS Y (.Return (some e) q) (tS XR Y.K φ EF (.ret t)) := fun Y => by
    cases t <;> first | cases hh | skip
    obtain ⟨k, j, p', rfl, hl⟩ := constK_inv hh
    exact s_ret (e_lit hl)
  have hds : HdsOk X [.ExceptHandler (some (.Name x p)) none [.Return (some e) q] r] [(Value.ref D0, fun _ _ _ => fun D σ H => σ.length = X.N.length → tS XR X.K φ EF (.ret t) D σ H)] :=
    .cons ⟨g1, g2, .inl m⟩ (fun a' oe cls d pn _ _ => ⟨fun pins s σ H D I w => (pss_one (hand (X.suite a' ((a', oe) :: pn)))).run pins s σ H D I (w I.len)⟩) .nil
  have conv : ∀ (D : Ends) (σ : L2.St) (H : Hp), σ.length = X.N.length → tS XR X.K φ E (.tryR a x t) D σ H → tS XR X.K φ (EW X (wMany X.K (fun cls d _ H => E cls d H) D [(Value.ref D0, fun _ _ _ => fun D σ H => σ.length = X.N.length → tS XR X.K φ EF (.ret t) D σ H)])) a D σ H := ?_
  · exact ⟨fun pins s σ H D I w => (ps_try_many c.stk c.frm c.tk (tb := fun W => tS XR X.K φ (EW X W) a) (fun W pn xe tk o => hb (c.tr tk o) body hc) hds).run pins s σ H D I (conv D σ H I.len w)⟩
  rintro D σ H len0 ⟨loc, ρ, st, sr, er, post⟩
  refine ⟨loc, ρ, st, sr, er, ?_⟩
  rw [evS] at post
  cases ev : evS φ a ρ st with
  | ok f st1 => rw [ev] at post; exact post
  | stuck => rw [ev] at post; exact post.elim
  | exc er1 st1 =>
    rw [ev] at post
    dsimp only at post
    intro cls od H' loc' xt s' xr σ' len
    obtain ⟨C, mC, rfl, hC⟩ := c.xi _ _ _ _ xr
    obtain ⟨C', mC', _, _, _, pair⟩ := c.cls _ _ hC
    rw [mC] at mC'
    cases mC'
    obtain ⟨D1, mD, ex⟩ := pair x ms hx
    rw [m] at mD
    cases mD
    refine ⟨_, ex, fun hy a' na _ => ?_, fun hn => ?_⟩
    · rw [if_pos hy] at post
      refine ⟨loc', List.replicate ρ.length none, st1, s', er_none (by rw [len, er.len, len0]), ?_⟩
      have post2 : Post XR X.K (FE X.K) E loc H (evS φ (.ret t) (List.replicate ρ.length none) st1).calm (toQ D) := by
        rw [evS]
        exact post
      cases hv : evS φ (.ret t) (List.replicate ρ.length none) st1 with
      | ok f st2 =>
        rw [hv] at post2
        exact fun b H2 loc2 x2 s2 r2 => post2 b H2 loc2 (xt.trans x2) s2 r2
      | stuck => rw [hv] at post2; exact post2.elim
      | exc e2 st2 => rw [hv] at post2; exact post2.elim
    · rw [if_neg (by rw [hn]; exact Bool.false_ne_true)] at post
      exact post _ _ _ _ xt s' xr
/-! ### every statement -/
structure SndS (XR : Ex → Value → Option Addr → Hp → Prop) (fs : List FnT) (gl : List (Str × PyData)) (φ : Nat → List Va → Sto → Res Va) (n : Nat) (s : S) : Prop where
  one : ∀ {E : XK} {X : Cx}, Cs XR fs gl φ n E X → ∀ st, chk1 X.N fs gl X.env.scope s st = true → PS X st (tS XR X.K φ E s)
  all : ∀ {E : XK} {X : Cx}, Cs XR fs gl φ n E X → ∀ st, chkS X.N fs gl X.env.scope s st = true → PSs X st (tS XR X.K φ E s)
theorem sndS (s : S) : SndS XR fs gl φ n s := by
  induction s with
  | nil =>
    refine ⟨fun c st h => (by cases h), fun c st h => ?_⟩
    rw [chkS] at h
    have : st = [] := by simpa using h
    subst this
    exact s_nil
  | seq a b iha ihb =>
    refine ⟨fun c st h => (by cases h), fun c st h => ?_⟩
    rw [chkS] at h
    obtain ⟨s, r, rfl, h1⟩ := consK_inv h
    rw [Bool.and_eq_true] at h1
    exact s_seq (iha.one c _ h1.1) (ihb.all c _ h1.2)
  | pass =>
    refine ⟨fun c st h => ?_, fun c st h => (by cases h)⟩
    cases st <;> first | exact s_pass | cases h
  | brk =>
    refine ⟨fun c st h => ?_, fun c st h => (by cases h)⟩
    cases st <;> first | exact s_brk | cases h
  | cnt =>
    refine ⟨fun c st h => ?_, fun c st h => (by cases h)⟩
    cases st <;> first | exact s_cnt | cases h
  | fz a i iha =>
    refine ⟨fun c st h => ?_, fun c st h => (by cases h)⟩
    rw [chk1] at h
    exact s_fz (iha.one c st h)
  | never => exact ⟨fun c st h => s_never, fun c st h => (by cases h)⟩
  | set i e =>
    refine ⟨fun c st h => ?_, fun c st h => (by cases h)⟩
    rw [chk1] at h
    obtain ⟨y, v, p, rfl, h1⟩ := assignK_inv h
    rw [Bool.and_eq_true] at h1
    exact (s_set c h1.1 e h1.2).set
  | raise x ns =>
    refine ⟨fun c st h => ?_, fun c st h => (by cases h)⟩
    rw [chk1] at h
    obtain ⟨y, p, q, r, rfl, h1⟩ := raiseK_inv h
    simp only [Bool.and_eq_true, decide_eq_true_eq] at h1
    obtain ⟨⟨rfl, h2⟩, h3⟩ := h1
    obtain ⟨ms, h4, h5⟩ := any_inv h3
    obtain rfl := sameL_eq h5
    exact s_raise c h2 (clsOf_inv h4)
  | tryR a x t iha =>
    refine ⟨fun c st h => ?_, fun c st h => (by cases h)⟩
    rw [chk1] at h
    obtain ⟨body, y, e, p, q, r, v, rfl, h1⟩ := tryK_inv h
    simp only [Bool.and_eq_true, decide_eq_true_eq] at h1
    obtain ⟨⟨⟨⟨h1, rfl⟩, h2⟩, h3⟩, h4⟩ := h1
    obtain ⟨ms, h5⟩ := Option.isSome_iff_exists.mp h3
    exact s_try c (fun c st h => iha.all c st h) h1 h2 (clsOf_inv h5) h4
  | par i j a b =>
    refine ⟨fun c st h => ?_, fun c st h => (by cases h)⟩
    rw [chk1] at h
    obtain ⟨t, v, p, rfl, h1⟩ := assignK_inv h
    obtain ⟨ts, k, p1, rfl, h2⟩ := tupK_inv h1
    obtain ⟨y, r, rfl, h3⟩ := consK_inv h2
    obtain ⟨z, rfl, h4⟩ := oneK_inv h3
    obtain ⟨vs, k2, p2, rfl, h5⟩ := tupK_inv (show tupK v _ = true from h4)
    obtain ⟨u, w, rfl, h6⟩ := consK_inv h5
    obtain ⟨x, rfl, h7⟩ := oneK_inv h6
    simp only [Bool.and_eq_true, decide_eq_true_eq] at h7
    obtain ⟨⟨⟨⟨⟨⟨⟨a1, a2⟩, a3⟩, a4⟩, a5⟩, a6⟩, a7⟩, a8⟩ := h7
    exact s_par c a1 a2 a3 a4 a5 ((snd a).e c.g _ a6) ((snd b).e c.g _ a7) (by simpa only [Bool.and_eq_true, decide_eq_true_eq] using a8)
  | par3 i j l a b d =>
    refine ⟨fun c st h => ?_, fun c st h => (by cases h)⟩
    rw [chk1] at h
    obtain ⟨t, v, p, rfl, h1⟩ := assignK_inv h
    obtain ⟨ts, k, p1, rfl, h2⟩ := tupK_inv h1
    obtain ⟨y, r, rfl, h3⟩ := consK_inv h2
    obtain ⟨z, r2, rfl, h4⟩ := consK_inv h3
    obtain ⟨y3, rfl, h5⟩ := oneK_inv h4
    obtain ⟨vs, k2, p2, rfl, h6⟩ := tupK_inv (show tupK v _ = true from h5)
    obtain ⟨u, w, rfl, h7⟩ := consK_inv h6
    obtain ⟨x, w2, rfl, h8⟩ := consK_inv h7
    obtain ⟨u3, rfl, h9⟩ := oneK_inv h8
    rw [Bool.and_eq_true] at h9
    obtain ⟨h9, hA⟩ := h9
    simp only [Bool.and_eq_true, decide_eq_true_eq] at h9
    obtain ⟨⟨⟨⟨⟨⟨⟨⟨⟨⟨⟨a1, a2⟩, a3⟩, b1⟩, b2⟩, b3⟩, c1⟩, c2⟩, c3⟩, d1⟩, d2⟩, d3⟩ := h9
    exact s_par3 c a1 a2 a3 b1 b2 b3 c1 c2 c3 ((snd a).e c.g _ d1) ((snd b).e c.g _ d2) ((snd d).e c.g _ d3) hA
  | unpack is e =>
    refine ⟨fun c st h => ?_, fun c st h => (by cases h)⟩
    rw [chk1] at h
    obtain ⟨t, v, p, rfl, h1⟩ := assignK_inv h
    obtain ⟨ts, k, p1, rfl, h2⟩ := tupK_inv h1
    simp only [Bool.and_eq_true] at h2
    exact s_unpack c h2.1.1 h2.1.2 ((snd e).e c.g _ h2.2)
  | expr e =>
    refine ⟨fun c st h => ?_, fun c st h => (by cases h)⟩
    rw [chk1] at h
    obtain ⟨v, p, rfl, h1⟩ := exprK_inv h
    simp only [Bool.and_eq_true, Bool.not_eq_true'] at h1
    exact s_expr h1.1 ((snd e).e c.g _ h1.2)
  | ret e =>
    refine ⟨fun c st h => ?_, fun c st h => (by cases h)⟩
    rw [chk1] at h
    obtain ⟨v, p, rfl, h1⟩ := retK_inv h
    exact s_ret ((snd e).e c.g _ h1)
  | ifs t a b iha ihb =>
    refine ⟨fun c st h => ?_, fun c st h => (by cases h)⟩
    rw [chk1] at h
    obtain ⟨q, x, y, p, rfl, h1⟩ := ifK_inv h
    simp only [Bool.and_eq_true] at h1
    exact s_if ((snd t).tt c.g _ h1.1.1) (iha.all c _ h1.1.2) (ihb.all c _ h1.2)
  | forS g it b ihb =>
    refine ⟨fun c st h => ?_, fun c st h => (by cases h)⟩
    rw [chk1] at h
    obtain ⟨t, i, x, p, rfl, h1⟩ := forK_inv h
    simp only [Bool.and_eq_true] at h1
    exact s_for c h1.1.1.1 h1.1.1.2 ((snd it).i c.g t _ h1.1.2) (ihb.all c _ h1.2)
  | setIx o i e =>
    refine ⟨fun c st h => ?_, fun c st h => (by cases h)⟩
    rw [chk1] at h
    obtain ⟨t, v, p, rfl, h1⟩ := assignK_inv h
    obtain ⟨a, x, p1, rfl, h2⟩ := subK_inv h1
    simp only [Bool.and_eq_true] at h2
    exact s_setIx c h2.1.1.1 ((snd e).e c.g _ h2.1.1.2) ((snd o).e c.g _ h2.1.2) ((snd i).e c.g _ h2.2)
end
end RS

/-! RS14: defs, the law's end. -/
namespace RS
open PySem
open PySem.Spec
open L2
open PyProof.Rows (envOfC)

/-! ### what stands in the written part -/
def scalU : Value → Option PyData
  | .none => some .none
  | .bool b => some (.bool b)
  | .int i _ => some (.int i)
  | .str x _ => some (.str x)
  | _ => none
def isCode (b : FuncBody) (k : List Stmt → Bool) : Bool := match b with
  | .stmts ss => k ss
  | _ => false
def scOk (N ps : List Str) (sc : Scope) : Bool :=
  (match sc.kind with | .function => true | _ => false) && !sc.isCoroutine && !sc.isGenerator && decide N.Nodup && decide (N.take ps.length = ps) &&
  ps.all (fun x => match sc.names.lookup x with | some .local => true | some .cell => true | _ => false) && sc.names.all (fun y => match y.2 with | .free => false | _ => true)
theorem scOk_inv {N ps : List Str} {sc : Scope} (h : scOk N ps sc = true) : FnScope N ps sc := by
  unfold scOk at h
  simp only [Bool.and_eq_true, Bool.not_eq_true', decide_eq_true_eq] at h
  obtain ⟨⟨⟨⟨⟨⟨h1, h2⟩, h3⟩, h4⟩, h5⟩, h6⟩, h7⟩ := h
  refine ⟨?_, h2, h3, h4, h5, fun x m => ?_, fun y m e => ?_⟩
  · split at h1
    · assumption
    · cases h1
  · have := List.all_eq_true.mp h6 x m
    split at this
    · rename_i q; exact .inl q
    · rename_i q; exact .inr q
    · cases this
  · have := List.all_eq_true.mp h7 y m
    rw [e] at this
    cases this
section
variable (K : PySem.W.Frag) (tb : List FnT) (gl : List (Str × PyData))
/-- a def of the table stands in the written part -/
def fnB1 (F : FnT) : Bool := match PySem.W.nsIn K mainGlobals F.name with
  | some (some (.ref a)) => (match K.lookup a with
    | some ⟨_, _, .func fd, _⟩ => isCode fd.body (fun body => chkS F.names tb gl fd.scope F.body body) && decide (plainArgs fd.params = some F.params) && (match fd.defaults with | .none => true | _ => false) &&
        (fd.globals == mainGlobals) && fd.closure.isEmpty && (fd.builtins == builtinsNs) && scOk F.names F.params fd.scope && PySem.W.codeIn K fd.code fd.qualname
    | _ => false)
  | _ => false
def glB0 (p : Str × PyData) : Bool := match PySem.W.nsIn K mainGlobals p.1 with
  | some (some u) => (match scalU u with
    | some d => sameB d p.2
    | none => false)
  | _ => false
/-- a class stands under those that are told, and under no other one of the table -/
def overB (C : Addr) (ns : List PyData) (p : Str × PyData) : Bool := match p.2 with
  | .list _ => (match PySem.W.nsIn K mainGlobals p.1 with
    | some (some (.ref D)) => decide (PySem.W.exmOne K (.ref C) (.ref D) = some (ns.any fun z => PyData.eqv z (.str p.1)))
    | _ => false)
  | _ => true
def clsB (x : Str) (ns : List PyData) : Bool := match PySem.W.nsIn K mainGlobals x with
  | some (some (.ref C)) => PySem.W.excIn K C PySem.HandSPX.veTail "ValueError.__new__" && PySem.W.keepIn K (.ref C) && decide (PySem.W.subIn K (.ref C) (.type "BaseException") = some true) &&
      (match PySem.W.typeIn K (.ref C) with | some (.type t) => decide (t = "type") | _ => false) && gl.all (overB K C ns)
  | _ => false
def glB1 (p : Str × PyData) : Bool := match p.2 with
  | .list ns => clsB K gl p.1 ns
  | _ => glB0 K p
def noneB (x : Str) : Bool := match PySem.W.nsIn K mainGlobals x with
  | some none => true
  | _ => false
def allBi : List Bi := [.len, .abs, .sum, .maxN, .all, .any, .int, .repr, .tuple, .list, .minL, .maxL, .sorted]
/-- all that the law's end asks of the written part -/
def chkK : Bool := tb.all (fnB1 K tb gl) && gl.all (glB1 K gl) && allBi.all (fun b => noneB K b.name) && noneB K "range" && noneB K "zip" &&
  (match PySem.W.nsIn K cStatics "sys.int_max_str_digits" with | some none => true | _ => false)
end
theorem ns_none {K : PySem.W.Frag} {h : Heap} {m : Str → Option Value} {a : Addr} {x : Str} (X : K.In h) (G : h.Ns a m) (e : PySem.W.nsIn K a x = some none) : m x = none := by
  obtain ⟨o, es, ep, ho, hd, _, hf⟩ := G
  unfold PySem.W.nsIn at e
  cases q : K.lookup a with
  | none => rw [q] at e; cases e
  | some ob =>
    have z := X _ _ q
    rw [ho] at z
    cases z
    obtain ⟨c, dd, dat, sl⟩ := o
    simp only at hd
    subst hd
    simp only [q] at e
    cases w : es.toList.find? (·.key.isStr x) with
    | none => rw [← hf, nsFind, findBy, ← Array.find?_toList, w]; rfl
    | some en => rw [w] at e; cases e
theorem noneB_inv {K : PySem.W.Frag} {h : Heap} {mg : Str → Option Value} {x : Str} (X : K.In h) (G : h.Ns mainGlobals mg) (e : noneB K x = true) : mg x = none := by
  unfold noneB at e
  split at e
  · rename_i q; exact ns_none X G q
  · cases e
theorem scalU_v {u : Value} {d : PyData} (h : scalU u = some d) : ∃ v, RelV v u ∧ scalV d = some v := by
  cases u <;> first | cases h | skip
  · exact ⟨.non, rfl, rfl⟩
  · exact ⟨.bl _, rfl, rfl⟩
  · exact ⟨.int _, ⟨_, rfl⟩, rfl⟩
  · exact ⟨.str _, ⟨_, rfl⟩, rfl⟩
theorem clsB_inv {K : PySem.W.Frag} {h : Heap} {mg : Str → Option Value} {gl : List (Str × PyData)} (X : K.In h) (G : h.Ns mainGlobals mg) (e : gl.all (glB1 K gl) = true) {x : Str} {ns : List PyData} (l : gl.lookup x = some (.list ns)) :
    ∃ C, mg x = some (.ref C) ∧ PySem.W.excIn K C PySem.HandSPX.veTail "ValueError.__new__" = true ∧ PySem.W.keepIn K (.ref C) = true ∧ PySem.W.subIn K (.ref C) (.type "BaseException") = some true ∧ PySem.W.typeIn K (.ref C) = some (.type "type") ∧
    ∀ y ms, gl.lookup y = some (.list ms) → ∃ D, mg y = some (.ref D) ∧ PySem.W.exmOne K (.ref C) (.ref D) = some (ns.any fun z => PyData.eqv z (.str y)) := by
  have m := PySem.mem_of_lookup l
  have q := List.all_eq_true.mp e _ m
  have q : clsB K gl x ns = true := q
  unfold clsB at q
  split at q
  · rename_i C hC
    simp only [Bool.and_eq_true, decide_eq_true_eq] at q
    obtain ⟨⟨⟨⟨q1, q2⟩, q3⟩, q4⟩, q5⟩ := q
    refine ⟨C, PySem.W.mg_of X G hC, q1, q2, q3, ?_, fun y ms ly => ?_⟩
    · split at q4
      · rename_i t ht
        rw [ht, of_decide_eq_true q4]
      · cases q4
    · have z := List.all_eq_true.mp q5 _ (PySem.mem_of_lookup ly)
      unfold overB at z
      dsimp only at z
      split at z
      · rename_i D hD
        exact ⟨D, PySem.W.mg_of X G hD, of_decide_eq_true z⟩
      · cases z
  · cases q
theorem glB1_inv {K : PySem.W.Frag} {h : Heap} {mg : Str → Option Value} {gl : List (Str × PyData)} (X : K.In h) (G : h.Ns mainGlobals mg) (e : gl.all (glB1 K gl) = true) {x : Str} {d : PyData} {v : V} (l : gl.lookup x = some d) (hv : scalV d = some v) : ∃ u, mg x = some u ∧ RelV v u := by
  have m := PySem.mem_of_lookup l
  have q := List.all_eq_true.mp e _ m
  have q : glB0 K (x, d) = true := by
    unfold glB1 at q
    cases d <;> first | exact q | cases hv
  unfold glB0 at q
  split at q
  · rename_i u hu
    cases w : scalU u with
    | none => simp only [w] at q; cases q
    | some d' =>
      simp only [w] at q
      obtain rfl := sameB_eq q
      obtain ⟨v', r, s⟩ := scalU_v w
      rw [hv] at s
      cases s
      exact ⟨u, PySem.W.mg_of X G hu, r⟩
  · cases q
/-- a def in the written part -/
theorem fnB1_inv {K : PySem.W.Frag} {tb : List FnT} {gl : List (Str × PyData)} {F : FnT} (e : fnB1 K tb gl F = true) : ∃ a oc od osl name qual params body scope kV doc pm an cdv ct, PySem.W.nsIn K mainGlobals F.name = some (some (.ref a)) ∧
    K.lookup a = some ⟨oc, od, .func (PySem.W.fnOf name qual params body scope .none kV doc pm an cdv ct), osl⟩ ∧ chkS F.names tb gl scope F.body body = true ∧ plainArgs params = some F.params ∧ FnScope F.names F.params scope ∧ PySem.W.codeIn K cdv qual = true := by
  unfold fnB1 at e
  split at e
  · rename_i a ha
    split at e
    · rename_i oc od fd osl hl
      obtain ⟨name, qual, params, fb, scope, gb, cl, df, kV, doc, pm, an, cdv, ct, bt⟩ := fd
      simp only [Bool.and_eq_true, decide_eq_true_eq] at e
      obtain ⟨⟨⟨⟨⟨⟨⟨e1, e2⟩, e3⟩, e4⟩, e5⟩, e6⟩, e7⟩, e8⟩ := e
      cases fb <;> first | cases e1 | skip
      rename_i body
      cases df <;> first | cases e3 | skip
      have h4 := beq_iff_eq.mp e4
      have h5 : cl = [] := by simpa using e5
      have h6 := beq_iff_eq.mp e6
      subst h4 h5 h6
      exact ⟨a, oc, od, osl, name, qual, params, body, scope, kV, doc, pm, an, cdv, ct, ha, hl, e1, e2, scOk_inv e7, e8⟩
    · cases e
  · cases e
theorem keep_of {K : PySem.W.Frag} {a : Addr} {oc : Value} {od : Option Addr} {fd : FuncData} {osl : Array (Option Value)} (h : K.lookup a = some ⟨oc, od, .func fd, osl⟩) : PySem.W.keepIn K (.ref a) = true := by
  unfold PySem.W.keepIn
  simp only [h]

/-! ### defs -/
/-- how an error stands -/
def XO (mg : Str → Option Value) (gl : List (Str × PyData)) : Ex → Value → Option Addr → Hp → Prop := fun e cls od _ => ∃ C, mg e.cls = some (.ref C) ∧ cls = .ref C ∧ gl.lookup e.cls = some (.list e.mro) ∧ od = none ∧ e.val = none
section
variable {XR : Ex → Value → Option Addr → Hp → Prop} {P : Program} {w : World} {K : PySem.W.Frag} {mg : Str → Option Value} {base : Heap} {tb : List FnT} {gl : List (Str × PyData)}
theorem start_er {H : Hp} {loc : Loc} {N : List Str} {vs : List V} {args : List Va} (h : VIs K H loc vs args) : ER K H loc (args.map some ++ List.replicate (N.length - args.length) none) (L2.start N vs) := by
  have l := VIs.len h
  refine ⟨?_, fun i a e => ?_⟩
  · unfold L2.start
    rw [List.length_append, List.length_append, List.length_map, List.length_map, List.length_replicate, List.length_replicate, l]
  · by_cases hi : i < args.length
    · rw [List.getElem?_append_left (by rw [List.length_map]; exact hi), List.getElem?_map] at e
      cases q : args[i]? with
      | none => rw [q] at e; cases e
      | some x =>
        rw [q] at e
        cases e
        obtain ⟨v, q1, q2⟩ := VIs.get h i _ q
        refine ⟨v, ?_, q2⟩
        unfold L2.start
        rw [List.getElem?_append_left (by rw [List.length_map, l]; exact hi), List.getElem?_map, q1]; rfl
    · rw [List.getElem?_append_right (by rw [List.length_map]; omega), List.getElem?_replicate] at e
      split at e <;> cases e
/-- a body's end, as the caller sees it -/
theorem fin_post {E : XK} {loc : Loc} {H : Hp} {st : Sto} {keep : Bool} {r : Res Fl} {Q : VK} (sr : SR K H loc st) (h : Post XR K (VE K) E loc H (r.bind fun f st1 => match f with
      | .nx _ => fin keep st.length (.dat .none) st1
      | .rt v => fin keep st.length v st1
      | _ => .stuck) Q) : Post XR K (FE K) E loc H r (toQ { nx := fun _ H' => Q .non H', rt := Q }) := by
  have go : ∀ (v : V) (a : Va) (H' : Hp) (loc' : Loc) (st1 : Sto), Post XR K (VE K) E loc H (fin keep st.length a st1) Q → Ext loc H H' loc' → SR K H' loc' st1 → VI K H' loc' v a → Q v H' := fun v a H' loc' st1 p x s l => by
    unfold fin at p
    split at p
    · exact p v H' loc' x s (VE.of l)
    · split at p
      · rename_i hl
        have e1 : loc.length ≤ st.length := by rw [sr.len]; exact Nat.le_refl _
        have e2 : st.length ≤ loc'.length := by rw [← sr.len]; exact x.len
        refine p v H' (loc'.take st.length) (x.take e1 e2) (s.take (by rw [← s.len]; exact e2)) (VE.of (low_lt l hl e2))
      · exact p.elim
  cases r with
  | exc e st1 => exact h
  | stuck => exact h
  | ok f st1 =>
    rw [Res.bind_ok] at h
    intro o H' loc' x s l
    cases o with
    | nx σ =>
      cases f with
      | nx ρ => exact go .non _ H' loc' st1 h x s .non
      | rt _ => exact l.elim
      | bk _ => exact l.elim
      | ct _ => exact l.elim
    | rt v =>
      cases f with
      | rt a => exact go v a H' loc' st1 h x s l
      | nx _ => exact l.elim
      | bk _ => exact l.elim
      | ct _ => exact l.elim
    | bk σ =>
      cases f with
      | bk _ => exact h.elim
      | nx _ => exact l.elim
      | rt _ => exact l.elim
      | ct _ => exact l.elim
    | ct σ =>
      cases f with
      | ct _ => exact h.elim
      | nx _ => exact l.elim
      | rt _ => exact l.elim
      | bk _ => exact l.elim
/-- every def of the table keeps the evaluator's promise -/
theorem fns_ok (hK : chkK K tb gl = true) (KX : K.In base) (G : base.Ns mainGlobals mg) (ND : base.NoDigits) : ∀ (n f : Nat) (F : FnT), tb[f]? = some F → ∃ a fd, mg F.name = some (.ref a) ∧ PySem.W.keepIn K (.ref a) = true ∧
    FnG P w K mg base (L2.CX P w) n a fd F.params (spF (XO mg gl) K (callF tb n) f F.params.length) ∧ plainArgs fd.params = some F.params ∧ fd.defaults = .none := by
  unfold chkK at hK
  simp only [Bool.and_eq_true] at hK
  obtain ⟨⟨⟨⟨⟨k1, k2⟩, k3⟩, k4⟩, k5⟩, k6⟩ := hK
  intro n
  induction n with
  | zero =>
    intro f F hF
    obtain ⟨a, oc, od, osl, name, qual, params, body, scope, kV, doc, pm, an, cdv, ct, e1, e2, e3, e4, e5, e6⟩ := fnB1_inv (List.all_eq_true.mp k1 F (List.mem_of_getElem? hF))
    refine ⟨a, PySem.W.fnOf name qual params body scope .none kV doc pm an cdv ct, PySem.W.mg_of KX G e1, keep_of e2, ⟨fun vs H Q E h => h.1, fun A outer s H args us vs Q E _ _ _ _ _ h => ?_⟩, e4, rfl⟩
    obtain ⟨_, loc, st, ar, _, _, p⟩ := h
    exact p.elim
  | succ n ih =>
    intro f F hF
    obtain ⟨a, oc, od, osl, name, qual, params, body, scope, kV, doc, pm, an, cdv, ct, e1, e2, e3, e4, e5, e6⟩ := fnB1_inv (List.all_eq_true.mp k1 F (List.mem_of_getElem? hF))
    refine ⟨a, PySem.W.fnOf name qual params body scope .none kV doc pm an cdv ct, PySem.W.mg_of KX G e1, keep_of e2, fn_g e2 e6 e5 (fun vs H Q E h => h.1) (fun A outer s H vs Q E hg hr hr2 h => ?_), e4, rfl⟩
    obtain ⟨hlen, loc, st, args, sr, vi, p⟩ := h
    have cs : Cs (XO mg gl) tb gl (callF tb n) n E (cxOf (L2.CX P w) P w K mg base F.names qual scope a cdv A outer s H E) := by
      refine ⟨⟨rfl, e5.nd, fun x => rfl, hr, hr2, hg, ND, fun f2 F2 h2 => ?_, fun b => noneB_inv KX G (List.all_eq_true.mp k3 b (by cases b <;> simp [allBi])), noneB_inv KX G k4, noneB_inv KX G k5, fun x d v hl hv => glB1_inv KX G k2 hl hv⟩, ?_, PassesOwn.leaving, takes_of rfl rfl rfl rfl, rfl, rfl, fun x ns hl => ?_, fun x ns C H h1 h2 => ⟨C, h2, rfl, h1, rfl, rfl⟩, fun e cls od H ⟨C, h1, h2, h3, _⟩ => ⟨C, h1, h2, h3⟩⟩
      · obtain ⟨a2, fd2, q1, q2, q3, q4, q5⟩ := ih f2 F2 h2
        exact ⟨_, a2, fd2, q1, q2, q3, q4, q5, passes_call (takes_of rfl rfl rfl rfl) (fun cls d σ H z => z), rfl⟩
      · show (envOfC qual scope s.heap.objs.size a cdv).blockKind = .function
        unfold Env.blockKind
        show (if scope.kind.isAnnotationScope = true then ScopeKind.function else scope.kind) = .function
        rw [e5.kind]; rfl
      · obtain ⟨C, h1, h2, h3, h4, h5, h6⟩ := clsB_inv KX G k2 hl
        exact ⟨C, h1, h2, h3, raises_own h4 h5, h6⟩
    refine ⟨tS (XO mg gl) K (callF tb n) E F.body, (sndS F.body).all cs body e3, loc, _, st, sr, start_er vi, ?_⟩
    have p : Post (XO mg gl) K (VE K) E loc H (callF tb (n + 1) f args st) Q := p
    rw [callF, hF] at p
    have p : Post (XO mg gl) K (VE K) E loc H (runFn (callF tb n) F args st) Q := p
    unfold runFn at p
    split at p
    · exact fin_post sr p
    · exact p.elim
end
end RS

/-! RS15: the law's own call. -/
namespace RS
open PySem
open PySem.Spec
open L2
open PyProof.Rows (envOfC AllBare)
/-- the heap ahead of the call, where the script may be known -/
structure Ahead (P : Program) (w : World) (K : PySem.W.Frag) (H : Hp) (h : Heap) (a : Addr) (xs : List V) : Prop where
  ok : HOk P w H h
  one : ∀ b u, H b = some u → b = a ∧ ∃ o, u = .frz o (.lst xs)
  lst : RoL K H a xs
  out : ∀ u, H a = some u → K.lookup a = none
theorem ahead {P : Program} {w : World} {K : PySem.W.Frag} {h : Heap} {a : Addr} {us : List Value} {xs : List V} (KX : K.In h) (ha : h.get? a = some { cls := .type "list", data := .seq us.toArray }) (r : Vals xs us) (hz : xs.length ≤ sizeLine) : ∃ H, Ahead P w K H h a xs := by
  have hlen := r.length
  cases q : K.lookup a with
  | some o =>
    have e := KX a o q
    rw [ha] at e
    cases e
    refine ⟨fun _ => none, ⟨fun b u z => (nomatch z), fun b u z => (nomatch z), .inr ⟨_, us.toArray, _, q, rfl, rfl, rfl, ?_, ?_⟩, fun u z => (nomatch z)⟩⟩
    · rw [List.size_toArray, ← hlen]; exact hz
    · simpa using r
  | none =>
    let ob : Obj := { cls := .type "list", data := .seq us.toArray }
    have at_a : ∀ b u, (if b = a then some (HO.frz ob (.lst xs)) else none) = some u → b = a ∧ u = .frz ob (.lst xs) := fun b u z => by
      by_cases hb : b = a
      · rw [if_pos hb] at z; cases z; exact ⟨hb, rfl⟩
      · rw [if_neg hb] at z; cases z
    refine ⟨fun b => if b = a then some (.frz ob (.lst xs)) else none, ⟨fun b u z => ?_, fun b u z => ⟨(at_a b u z).1, ob, (at_a b u z).2⟩, .inl ⟨ob, if_pos rfl⟩, fun u _ => q⟩⟩
    obtain ⟨e1, e2⟩ := at_a b u z
    subst e1 e2
    exact ⟨ha, hz, us, _, r, ha⟩
theorem RpA.ofInts {K : PySem.W.Frag} {H : Hp} : ∀ ns : List Int, RpA K H (ns.map V.int) (ns.map PyData.int)
  | [] => .nil
  | n :: ns => .cons (.int n) (RpA.ofInts ns)
/-- the law's call, from the evaluator's answer -/
theorem call_law {P : Program} {w : World} {K : PySem.W.Frag} {mg mb : Str → Option Value} {tb : List FnT} {gl : List (Str × PyData)} {N i : Nat} {F : FnT} {x : Str} {fa a : Addr} {s : Shared} {us : List Value} {ns : List Int}
    (hK : chkK K tb gl = true) (hF : tb[i]? = some F) (hp : F.params = [x]) (KX : K.In s.heap) (hm : s.heap.Ns mainGlobals mg) (hb : s.heap.Ns builtinsNs mb) (hbb : ∀ y : Str, y ≠ "__name__" → mb y = bootBuiltins y) (hnl : s.heap.NoLimit) (hg : s.gens = #[])
    (ha : s.heap.get? a = some { cls := .type "list", data := .seq us.toArray }) (hi : PyProof.Rows.IntsAre us ns) (hz : ns.length ≤ sizeLine) (hr : Room N callerA) (hfa : mg F.name = some (.ref fa))
    (law : ∃ st, callF tb N i [.dat (.list (ns.map .int))] [] = .ok (.dat (.bool true)) st) :
    codeAny (model P w) callerA (.call (.ref fa) ⟨[.ref a], []⟩) (fun r s' => r = .ok (.ret (.bool true)) ∧ OldK s.heap s'.heap ∧ s'.os = s.os ∧ AllBare s'.gens) s := by
  have rv := vals_ints hi
  obtain ⟨H, A⟩ := ahead (P := P) (w := w) KX ha rv (by rw [List.length_map]; exact hz)
  -- what is no list is not tracked
  have dictN : ∀ {b : Addr} {m : Str → Option Value}, s.heap.Ns b m → H b = none := fun {b m} ⟨o, es, ep, e, d, _⟩ => by
    cases q : H b with
    | none => rfl
    | some u =>
      obtain ⟨rfl, _⟩ := A.one b u q
      rw [ha] at e
      cases e
      cases d
  have nsB : ∀ {b : Addr} {m : Str → Option Value}, s.heap.Ns b m → (hidT s.heap H).Ns b m := fun {b m} hn => by
    have z := dictN hn
    obtain ⟨o, es, ep, e, r⟩ := hn
    exact ⟨o, es, ep, hidT_get e z, r⟩
  have KB : K.In (hidT s.heap H) := fun b o e => hidT_get (KX b o e) (by
    cases q : H b with
    | none => rfl
    | some u =>
      obtain ⟨rfl, _⟩ := A.one b u q
      rw [A.out u q] at e; cases e)
  have GB := nsB hm
  obtain ⟨mc, hc1, hc2⟩ := hnl
  have ND : (hidT s.heap H).NoDigits := by
    refine ⟨mc, nsB hc1, ?_⟩
    unfold chkK at hK
    rw [Bool.and_eq_true] at hK
    have z := hK.2
    split at z
    · rename_i q; exact ns_none KX hc1 q
    · cases z
  have e0 : Env0 P w K mg (hidT s.heap H) callerA [] s H := by
    refine ⟨rfl, ⟨KB, GB, ⟨mb, nsB hb, hbb⟩, ⟨mc, nsB hc1, hc2⟩⟩, fun b o e => of_hidT e, Nat.le_of_eq (hidT_size _ _), trivial, fun b m => ?_, A.ok, .of_eq hg⟩
    have m : b ∈ ([] : List Addr) := m
    cases m
  obtain ⟨a2, fd, q1, q2, q3, q4, q5⟩ := fns_ok (P := P) (w := w) (mg := mg) hK KB GB ND N i F hF
  rw [hfa] at q1
  cases q1
  obtain ⟨st', hl⟩ := law
  have bt : BindsTo s fd ⟨[Value.ref a], []⟩ (F.params.zip [Value.ref a]) := by
    have := binds_g (s := s) (us := [Value.ref a]) (ws := []) (ks := []) (perm := [0]) (bs := [Value.ref a]) q4 q5 (by rw [hp]; simp [kOk]) rfl rfl
    simpa using this
  have sp : spF (XO mg gl) K (callF tb N) i F.params.length [V.ref a] H (fun v _ => v = .bl true) EF := by
    refine ⟨by rw [hp]; rfl, [], [], [.dat (.list (ns.map .int))], ⟨rfl, fun k c e => by simp at e, fun i j b e _ => by simp at e⟩, .cons (.lst A.lst (RpA.ofInts ns)) .nil, ?_⟩
    rw [hl]
    intro v H' loc' _ _ l
    have z : Rp K H' v (.bool true) := l.1
    cases z
    rfl
  refine codeAny_mono (q3.run callerA [] s H ⟨[.ref a], []⟩ [.ref a] [.ref a] _ _ rfl hr e0 bt (.cons rfl .nil) sp) fun r s' h => ?_
  cases r with
  | error e => exact (cx_EF h).elim
  | ok fl =>
    cases fl with
    | next => exact h.elim
    | brk => exact h.elim
    | cont => exact h.elim
    | ret u =>
      obtain ⟨v, H', os, bare, un, hok', rr, q⟩ := h
      have q : v = .bl true := q
      subst q
      obtain rfl : u = Value.bool true := rr
      refine ⟨rfl, OldK.of_keep fun b o e => ?_, os, bare⟩
      cases z : H b with
      | none => exact un.keep b o e z (fun m => by have m : b ∈ ([] : List Addr) := m; cases m) (fun m => by cases m)
      | some t =>
        obtain ⟨rfl, ob, rfl⟩ := A.one b t z
        have z2 := un.frzs b ob _ z
        have f1 := (A.ok b _ z).1
        have f2 := (hok' b _ z2).1
        rw [e] at f1
        cases f1
        exact f2
/-- a law row's open end, from the evaluator's answers at every script -/
theorem walk_rs {l : PySem.W.OpenLaw} {n N i : Nat} {q : Program} {loose : List Str} {XP : (Str → Option Value) → Heap → Prop} {YP : World → Heap → Prop} {d : DefRec} {K : Params → PySem.W.Frag} {tb : List FnT} {gl : List (Str × PyData)} {F : FnT} {x : Str}
    (hn : l.most = some n) (hn2 : n ≤ sizeLine) (hdf : d.params.defaults = []) (hr : Room N callerA) (hY : ∀ (w : World) (h : Heap), YP w h → (K w.params).In h) (hK : ∀ w : World, chkK (K w.params) tb gl = true) (hF : tb[i]? = some F) (hp : F.params = [x]) (hd : F.name = d.name)
    (law : ∀ ns : List Int, ns.length ≤ n → ∃ st, callF tb N i [.dat (.list (ns.map .int))] [] = .ok (.dat (.bool true)) st) : PySem.W.WalkO q loose XP YP l.row.toRowW d [] (fun f vs => PySem.call f vs) :=
  Att.attach_call hn hdf fun w s₀ s₁ mg mb fa o pm cd doc a vs ns G Y ho hdd hcd hmg hobj hints hlen hg =>
    call_law (hK w) hF hp (hY w _ Y) G.T.g G.T.b G.T.builtins G.T.nolimit hg hobj hints (Nat.le_trans hlen hn2) hr (by rw [hd]; exact hmg) (law ns hlen)
end RS

/-! RSE: reasoning about the evaluator. -/
namespace RS
open PySem
def Ev {α : Type} (r : Res α) (Q : α → Sto → Prop) : Prop := match r with
  | .ok a st => Q a st
  | _ => False
@[simp] theorem Ev_ok {α : Type} (a : α) (st : Sto) (Q : α → Sto → Prop) : Ev (.ok a st) Q = Q a st := rfl
@[simp] theorem Ev_stuck {α : Type} (Q : α → Sto → Prop) : Ev (.stuck : Res α) Q = False := rfl
@[simp] theorem Ev_exc {α : Type} (e : Ex) (st : Sto) (Q : α → Sto → Prop) : Ev (.exc e st : Res α) Q = False := rfl
@[simp] theorem Ev_bind {α β : Type} (r : Res α) (k : α → Sto → Res β) (Q : β → Sto → Prop) : Ev (r.bind k) Q = Ev r fun a st => Ev (k a st) Q := by cases r <;> rfl
@[simp] theorem Ev_calm {α : Type} (r : Res α) (Q : α → Sto → Prop) : Ev r.calm Q = Ev r Q := by cases r <;> rfl
theorem Ev.imp {α : Type} {r : Res α} {Q Q' : α → Sto → Prop} (h : Ev r Q) (q : ∀ a st, Q a st → Q' a st) : Ev r Q' := by
  cases r with
  | ok a st => exact q _ _ h
  | exc _ _ => exact h
  | stuck => exact h
theorem Ev.eq {α : Type} {r : Res α} {Q : α → Sto → Prop} {a : α} {st : Sto} (e : r = .ok a st) (h : Q a st) : Ev r Q := by rw [e]; exact h
theorem Ev.get {α : Type} {r : Res α} {Q : α → Sto → Prop} (h : Ev r Q) : ∃ a st, r = .ok a st ∧ Q a st := by
  cases r with
  | ok a st => exact ⟨a, st, rfl, h⟩
  | exc _ _ => exact h.elim
  | stuck => exact h.elim
/-- a def's end -/
def finE (keep : Bool) (n : Nat) (Q : Va → Sto → Prop) : Fl → Sto → Prop := fun f st1 => match f with
  | .nx _ => Ev (fin keep n (.dat .none) st1) Q
  | .rt v => Ev (fin keep n v st1) Q
  | _ => False
@[simp] theorem finE_rt (keep : Bool) (n : Nat) (Q : Va → Sto → Prop) (v : Va) (st : Sto) : finE keep n Q (.rt v) st = Ev (fin keep n v st) Q := rfl
theorem ev_call {tb : List FnT} {n f : Nat} {F : FnT} {args : List Va} {st : Sto} {Q : Va → Sto → Prop} (hF : tb[f]? = some F) (hl : args.length = F.params.length)
    (h : Ev (evS (callF tb n) F.body (args.map some ++ List.replicate (F.names.length - args.length) none) st) (finE F.keep st.length Q)) : Ev (callF tb (n + 1) f args st) Q := by
  have e : callF tb (n + 1) f args st = runFn (callF tb n) F args st := by
    show (match tb[f]? with | some F => runFn (callF tb n) F args st | none => .stuck) = _
    rw [hF]
  rw [e]
  unfold runFn
  rw [if_pos hl, Ev_bind]
  refine h.imp fun fl st1 q => ?_
  cases fl <;> exact q
@[simp] theorem fin_dat (n : Nat) (d : PyData) (st : Sto) : fin false n (.dat d) st = .ok (.dat d) (st.take n) := by
  unfold fin
  rw [if_neg Bool.false_ne_true]
  exact if_pos rfl
theorem call_eq {tb : List FnT} {n f : Nat} {F : FnT} {args : List Va} {ρ : Env} {st : Sto} {d : PyData} (hF : tb[f]? = some F) (hl : args.length = F.params.length) (hk : F.keep = false) (hρ : args.map some ++ List.replicate (F.names.length - args.length) none = ρ)
    (h : evS (callF tb n) F.body ρ st = .ok (.rt (.dat d)) st) : callF tb (n + 1) f args st = .ok (.dat d) st := by
  show (match tb[f]? with | some F => runFn (callF tb n) F args st | none => .stuck) = _
  rw [hF]
  show runFn (callF tb n) F args st = _
  unfold runFn
  rw [if_pos hl, hρ, h, hk]
  show fin false st.length (.dat d) st = _
  rw [fin_dat, List.take_length]
section
variable (φ : Nat → List Va → Sto → Res Va) (ρ : Env) (st : Sto)
theorem E_var (i : Nat) : evE φ (.var i) ρ st = .of (ρ[i]?.bind id) st := by first | (rw [evE]; done) | (rw [evE]; rfl)
theorem E_lit (d : PyData) : evE φ (.lit d) ρ st = .ok (.dat d) st := by first | (rw [evE]; done) | (rw [evE]; rfl)
theorem E_bin (o : BinO) (a b : T) : evE φ (.bin o a b) ρ st = (evE φ a ρ st).bind fun x st1 => (evE φ b ρ st1).bind fun y st2 => match view st2 x, view st2 y with
      | some d, some e => .of (opBin o d e) st2
      | _, _ => .stuck := by first | (rw [evE]; done) | (rw [evE]; rfl)
theorem E_neg (a : T) : evE φ (.neg a) ρ st = (evE φ a ρ st).bind fun x st1 => match x with
      | .dat (.int i) => .ok (.dat (.int (-i))) st1
      | _ => .stuck := by first | (rw [evE]; done) | (rw [evE]; rfl)
theorem E_cmp (o : CmpO) (a b : T) : evE φ (.cmp o a b) ρ st = (evE φ a ρ st).bind fun x st1 => (evE φ b ρ st1).bind fun y st2 => match view st2 x, view st2 y with
      | some d, some e => .of ((opCmp o d e).map fun c => .dat (.bool c)) st2
      | _, _ => .stuck := by first | (rw [evE]; done) | (rw [evE]; rfl)
theorem E_ife (c a b : T) : evE φ (.ife c a b) ρ st = (evT φ c ρ st).bind fun t st1 => match t with
      | true => evE φ a ρ st1
      | false => evE φ b ρ st1 := by first | (rw [evE]; done) | (rw [evE]; rfl)
theorem E_tup (as : T) : evE φ (.tup as) ρ st = (evA φ as ρ st).bind fun xs st1 => match undat xs with
      | some ds => .ok (.dat (.tuple ds)) st1
      | none => .stuck := by first | (rw [evE]; done) | (rw [evE]; rfl)
theorem E_lst (as : T) : evE φ (.lst as) ρ st = (evA φ as ρ st).bind fun xs st1 => .ok (.new xs) st1 := by first | (rw [evE]; done) | (rw [evE]; rfl)
theorem E_call (f : Nat) (as : T) : evE φ (.call f as) ρ st = (evA φ as ρ st).bind fun xs st1 => φ f xs st1 := by first | (rw [evE]; done) | (rw [evE]; rfl)
theorem E_callk (f : Nat) (as : T) (ks : List Str) (perm : List Nat) (ws : T) : evE φ (.callk f as ks perm ws) ρ st = (evA φ as ρ st).bind fun xs st1 => (evA φ ws ρ st1).bind fun ys st2 => match pick (xs ++ ys) perm with
      | some args => φ f args st2
      | none => .stuck := by first | (rw [evE]; done) | (rw [evE]; rfl)
theorem E_bi (b : Bi) (a : T) : evE φ (.bi b a) ρ st = (evE φ a ρ st).bind fun x st1 => match view st1 x with
      | some d => .of (biF b d) st1
      | none => .stuck := by first | (rw [evE]; done) | (rw [evE]; rfl)
theorem E_idx (a i : T) : evE φ (.idx a i) ρ st = (evE φ a ρ st).bind fun x st1 => (evE φ i ρ st1).bind fun y st2 => match y with
      | .dat d => .of (opIdx st2 x d) st2
      | _ => .stuck := by first | (rw [evE]; done) | (rw [evE]; rfl)
theorem E_mut (a : T) : evE φ (.mut a) ρ st = (evE φ a ρ st).bind mutV := by first | (rw [evE]; done) | (rw [evE]; rfl)
theorem E_frz (a : T) : evE φ (.frz a) ρ st = (evE φ a ρ st).bind frzV := by first | (rw [evE]; done) | (rw [evE]; rfl)
theorem A_nil : evA φ .anil ρ st = .ok [] st := by first | (rw [evA]; done) | (rw [evA]; rfl)
theorem A_cons (a r : T) : evA φ (.acons a r) ρ st = (evE φ a ρ st).bind fun x st1 => match isOut x with
      | some x => (evA φ r ρ st1).bind fun xs st2 => .ok (x :: xs) st2
      | none => .stuck := by first | (rw [evA]; done) | (rw [evA]; rfl)
theorem T_cmp (o : CmpO) (a b : T) : evT φ (.cmp o a b) ρ st = (evE φ a ρ st).bind fun x st1 => (evE φ b ρ st1).bind fun y st2 => match view st2 x, view st2 y with
      | some d, some e => .of (opCmp o d e) st2
      | _, _ => .stuck := by first | (rw [evT]; done) | (rw [evT]; rfl)
theorem T_and (a b : T) : evT φ (.and a b) ρ st = (evT φ a ρ st).bind fun c st1 => match c with
      | true => evT φ b ρ st1
      | false => .ok false st1 := by first | (rw [evT]; done) | (rw [evT]; rfl)
theorem T_or (a b : T) : evT φ (.or a b) ρ st = (evT φ a ρ st).bind fun c st1 => match c with
      | true => .ok true st1
      | false => evT φ b ρ st1 := by first | (rw [evT]; done) | (rw [evT]; rfl)
theorem T_last (a : T) : evT φ (.last a) ρ st = evT φ a ρ st := by first | (rw [evT]; done) | (rw [evT]; rfl)
theorem T_not (a : T) : evT φ (.not a) ρ st = (evT φ a ρ st).bind fun c st1 => .ok (!c) st1 := by first | (rw [evT]; done) | (rw [evT]; rfl)
theorem T_call (f : Nat) (as : T) : evT φ (.call f as) ρ st = (evA φ as ρ st).bind fun xs st1 => (φ f xs st1).bind fun v st2 => .of (asBool v) st2 := by first | (rw [evT]; done) | (rw [evT]; rfl)
theorem E_not (a : T) : evE φ (.not a) ρ st = (evE φ a ρ st).bind fun x st1 => match asBool x with
      | some c => .ok (.dat (.bool (!c))) st1
      | none => .stuck := by first | (rw [evE]; done) | (rw [evE]; rfl)
theorem S_nil : evS φ .nil ρ st = .ok (.nx ρ) st := by first | (rw [evS]; done) | (rw [evS]; rfl)
theorem S_seq (a b : S) : evS φ (.seq a b) ρ st = (evS φ a ρ st).bind fun f st1 => match f with
    | .nx ρ1 => evS φ b ρ1 st1
    | f => .ok f st1 := by first | (rw [evS]; done) | (rw [evS]; rfl)
theorem S_set (i : Nat) (e : T) : evS φ (.set i e) ρ st = (evE φ e ρ st).bind fun v st1 => match isOut v with
    | some v => .ok (.nx (setEnv ρ i v)) st1
    | none => .stuck := by first | (rw [evS]; done) | (rw [evS]; rfl)
theorem S_par (i j : Nat) (a b : T) : evS φ (.par i j a b) ρ st = (evE φ a ρ st).bind fun v st1 => match isOut v with
    | some v => (evE φ b ρ st1).bind fun w st2 => match isOut w with
      | some w => .ok (.nx (setEnv (setEnv ρ i v) j w)) st2
      | none => .stuck
    | none => .stuck := by first | (rw [evS]; done) | (rw [evS]; rfl)
theorem S_ret (e : T) : evS φ (.ret e) ρ st = (evE φ e ρ st).bind fun v st1 => match isOut v with
    | some v => .ok (.rt v) st1
    | none => .stuck := by first | (rw [evS]; done) | (rw [evS]; rfl)
theorem S_expr (e : T) : evS φ (.expr e) ρ st = (evE φ e ρ st).bind fun _ st1 => .ok (.nx ρ) st1 := by first | (rw [evS]; done) | (rw [evS]; rfl)
theorem S_ifs (c : T) (a b : S) : evS φ (.ifs c a b) ρ st = (evT φ c ρ st).bind fun t st1 => match t with
    | true => evS φ a ρ st1
    | false => evS φ b ρ st1 := by first | (rw [evS]; done) | (rw [evS]; rfl)
theorem S_setIx (o i e : T) : evS φ (.setIx o i e) ρ st = (evE φ e ρ st).bind fun v st1 => (evE φ o ρ st1).bind fun l st2 => (evE φ i ρ st2).bind fun y st3 => match y, isOut v with
    | .dat d, some v => (setV l d v st3).bind fun _ st4 => .ok (.nx ρ) st4
    | _, _ => .stuck := by first | (rw [evS]; done) | (rw [evS]; rfl)
end
/-- a def that only tells a value -/
theorem ret_eq {φ : Nat → List Va → Sto → Res Va} {e : T} {ρ : Env} {st : Sto} {d : PyData} (h : evE φ e ρ st = .ok (.dat d) st) : evS φ (.seq (.ret e) .nil) ρ st = .ok (.rt (.dat d)) st := by
  rw [S_seq, S_ret, h]; rfl
theorem bi_eq {φ : Nat → List Va → Sto → Res Va} {b : Bi} {a : T} {ρ : Env} {st st' : Sto} {v r : Va} {d : PyData} (h : evE φ a ρ st = .ok v st') (hv : view st' v = some d) (hr : biF b d = some r) : evE φ (.bi b a) ρ st = .ok r st' := by
  rw [E_bi, h]
  show (match view st' v with | some d => Res.of (biF b d) st' | none => .stuck) = _
  rw [hv]
  show Res.of (biF b d) st' = _
  rw [hr]; rfl
/-- a comprehension whose items leave the store as it is -/
theorem lcL_pure {f : Va → Sto → Res (Option Va)} {st : Sto} {g : Va → Option Va} : ∀ {xs : List Va}, (∀ x ∈ xs, f x st = .ok (g x) st) → lcL f xs st = .ok (xs.filterMap g) st
  | [], _ => rfl
  | x :: xs, h => by
    rw [lcL, h x List.mem_cons_self]
    simp only [Res.calm_ok, Res.bind_ok]
    rw [lcL_pure fun y hy => h y (List.mem_cons_of_mem _ hy), Res.bind_ok, List.filterMap_cons]
    cases g x <;> rfl
theorem ev_lc_pure {φ : Nat → List Va → Sto → Res Va} {own : List (Str × Nat)} {g : G} {it c e : T} {ρ : Env} {st : Sto} {items : List Va} {h : Va → Option Va} (hi : evI φ it ρ st = .ok ⟨items, none⟩ st) (hz : items.length ≤ 16777216)
    (hf : ∀ x ∈ items, lcF φ g (wipeE ρ own) c e x st = .ok (h x) st) : evE φ (.lc own g it c e) ρ st = .ok (.new (items.filterMap h)) st := by
  rw [evE, hi]
  show (if items.length ≤ 16777216 then (lcL (lcF φ g (wipeE ρ own) c e) items st).bind fun xs st2 => Res.ok (Va.new xs) st2 else .stuck) = _
  rw [if_pos hz, lcL_pure hf]
  rfl
theorem lcL_map {α : Type} {f : Va → Sto → Res (Option Va)} {st : Sto} {F : α → Va} {G : α → Option Va} : ∀ {xs : List α}, (∀ x ∈ xs, f (F x) st = .ok (G x) st) → lcL f (xs.map F) st = .ok (xs.filterMap G) st
  | [], _ => rfl
  | x :: xs, h => by
    rw [List.map_cons, lcL, h x List.mem_cons_self]
    simp only [Res.calm_ok, Res.bind_ok]
    rw [lcL_map fun y hy => h y (List.mem_cons_of_mem _ hy), Res.bind_ok, List.filterMap_cons]
    cases G x <;> rfl
theorem ev_lc_map {α : Type} {φ : Nat → List Va → Sto → Res Va} {own : List (Str × Nat)} {g : G} {it c e : T} {ρ : Env} {st : Sto} {xs : List α} {F : α → Va} {G : α → Option Va} (hi : evI φ it ρ st = .ok ⟨xs.map F, none⟩ st) (hz : xs.length ≤ 1000)
    (hf : ∀ x ∈ xs, lcF φ g (wipeE ρ own) c e (F x) st = .ok (G x) st) : evE φ (.lc own g it c e) ρ st = .ok (.new (xs.filterMap G)) st := by
  rw [evE, hi]
  show (if (xs.map F).length ≤ 16777216 then (lcL (lcF φ g (wipeE ρ own) c e) (xs.map F) st).bind fun xs st2 => Res.ok (Va.new xs) st2 else .stuck) = _
  rw [if_pos (by rw [List.length_map]; omega), lcL_map hf]
  rfl
theorem fm_some {α β : Type} (f : α → β) (xs : List α) : xs.filterMap (fun a => some (f a)) = xs.map f := by
  induction xs with
  | nil => rfl
  | cons x xs ih => rw [List.filterMap_cons, ih]; rfl
theorem atI_zero {α : Type} (x : α) (xs : List α) : L2.atI (x :: xs) 0 = some x := by
  unfold L2.atI L2.ixN
  rw [if_pos (Int.le_refl 0), if_pos (by rw [List.length_cons]; omega)]
  rfl
theorem atI_pos {α : Type} {xs : List α} {i : Int} {x : α} (h0 : 0 ≤ i) (h : xs[i.toNat]? = some x) : L2.atI xs i = some x := by
  have hl := (List.getElem?_eq_some_iff.mp h).1
  unfold L2.atI L2.ixN
  rw [if_pos h0, if_pos (by omega)]
  exact h
theorem opIdx_zero (st : Sto) (d : PyData) (ds : List PyData) : opIdx st (.dat (.list (d :: ds))) (.int 0) = some (.dat d) := atI_zero (Va.dat d) (ds.map Va.dat)
theorem undat_map (ds : List PyData) : undat (ds.map .dat) = some ds := by
  induction ds with
  | nil => rfl
  | cons d ds ih => show (undat (ds.map .dat)).map (d :: ·) = _; rw [ih]; rfl
@[simp] theorem isOut_dat (d : PyData) : isOut (.dat d) = some (.dat d) := rfl
@[simp] theorem isOut_ref (k : Nat) : isOut (.ref k) = some (.ref k) := rfl
@[simp] theorem asBool_bool (b : Bool) : asBool (.dat (.bool b)) = some b := rfl
@[simp] theorem view_dat (st : Sto) (d : PyData) : view st (.dat d) = some d := rfl
@[simp] theorem view_new (st : Sto) (ds : List PyData) : view st (.new (ds.map .dat)) = some (.list ds) := by show (undat _).map _ = _; rw [undat_map]; rfl
end RS

/-! PKT: defs that laws share; their callees are their parameters. -/
namespace PK
open PySem RS
/-- plus -/
def F_plus : FnT :=
  ⟨"plus", ["one", "other"], ["one", "other"], false,
   (.seq (.ret (.ife (.or (.cmp .isN (.var 0) (.lit .none)) (.last (.cmp .isN (.var 1) (.lit .none)))) (.lit .none) (.frz (.bin .add (.var 0) (.var 1)))))
    .nil)⟩
/-- top -/
def F_top : FnT :=
  ⟨"top", ["numbers"], ["numbers", "number"], false,
   (.seq (.ret (.bi .maxN (.lc [("number", 1)] (.v 1) (.iseq (.var 0)) (.cmp .notN (.var 1) (.lit .none)) (.var 1))))
    .nil)⟩
/-- shifted -/
def F_shifted (i_plus : Nat) : FnT :=
  ⟨"shifted", ["side", "number"], ["side", "number", "own"], false,
   (.seq (.ret (.bi .tuple (.lc [("own", 2)] (.v 2) (.iseq (.var 0)) .yes (.call i_plus (.acons (.var 2) (.acons (.var 1) .anil))))))
    .nil)⟩
/-- laid -/
def F_laid (i_top : Nat) : FnT :=
  ⟨"laid", ["one_side", "other_side"], ["one_side", "other_side", "pair"], false,
   (.seq (.ret (.bi .tuple (.lc [("pair", 2)] (.v 2) (.izip (.var 0) (.var 1)) .yes (.call i_top (.acons (.var 2) .anil)))))
    .nil)⟩
/-- _law_urn -/
def F_law_urn : FnT :=
  ⟨"_law_urn", ["script"], ["script", "cells", "deep", "cell"], true,
   (.seq (.set 1 (.frz (.slc (.var 0) .nopart (.lit (.int 63)))))
    (.seq (.set 2 (.mut (.lc [("cell", 3)] (.v 3) (.iseq (.var 1)) (.cmp .ge (.bi .abs (.var 3)) (.bin .pow (.lit (.int 10)) (.lit (.int 18)))) (.bi .abs (.var 3)))))
    (.seq (.ret (.mut (.lst (.acons (.var 2) (.acons (.frz (.bin .add (.lc [("cell", 3)] (.v 3) (.iseq (.var 1)) .yes (.bin .add (.bin .mul (.lit (.int 2)) (.bi .abs (.var 3))) (.bi .int (.cmp .lt (.var 3) (.lit (.int 0)))))) (.lst (.acons (.bin .add (.lit (.int 9176)) (.bi .len (.var 1))) .anil)))) (.acons (.bi .sum (.var 1)) (.acons (.lit (.int 0)) .anil)))))))
    .nil)))⟩
/-- _law_take -/
def F_law_take : FnT :=
  ⟨"_law_take", ["urn", "size"], ["urn", "size", "rest", "step", "cell", "blend"], false,
   (.seq (.ifs (.cmp .ne (.idx (.var 0) (.lit (.int 0))) (.lst .anil))
    (.seq (.set 2 (.idx (.idx (.var 0) (.lit (.int 0))) (.lit (.int 0))))
    (.seq (.setIx (.idx (.var 0) (.lit (.int 0))) (.lit (.int 0)) (.bin .fdiv (.var 2) (.var 1)))
    (.seq (.ifs (.cmp .lt (.var 2) (.var 1))
    (.seq (.expr (.popAt (.idx (.var 0) (.lit (.int 0))) (.lit (.int 0))))
    .nil)
    .nil)
    (.seq (.ret (.bin .mod (.bi .int (.var 2)) (.var 1)))
    .nil))))
    .nil)
    (.seq (.setIx (.var 0) (.lit (.int 3)) (.frz (.bin .add (.idx (.var 0) (.lit (.int 3))) (.lit (.int 1)))))
    (.seq (.set 3 (.idx (.var 0) (.lit (.int 3))))
    (.seq (.set 4 (.idx (.idx (.var 0) (.lit (.int 1))) (.bin .mod (.bi .int (.var 3)) (.bi .len (.idx (.var 0) (.lit (.int 1)))))))
    (.seq (.set 5 (.frz (.bin .add (.bin .add (.bin .mul (.var 4) (.lit (.int 3935559000370003845))) (.bin .mul (.idx (.var 0) (.lit (.int 2))) (.lit (.int 2691343689449507681)))) (.bin .mul (.var 3) (.lit (.int 7664345821815920749))))))
    (.seq (.set 5 (.bin .mod (.bi .int (.var 5)) (.lit (.int 2305843009213693951))))
    (.seq (.set 5 (.bin .mod (.bi .int (.bin .add (.bin .add (.bin .mul (.var 5) (.var 5)) (.bin .mul (.var 3) (.lit (.int 1181783497276652981)))) (.lit (.int 977)))) (.lit (.int 2305843009213693921))))
    (.seq (.ret (.bin .mod (.bin .fdiv (.bin .mod (.bi .int (.bin .add (.bin .mul (.var 5) (.var 5)) (.bin .mul (.lit (.int 3)) (.var 5)))) (.lit (.int 2305843009213693951))) (.lit (.int 1048576))) (.var 1)))
    .nil))))))))⟩
/-- _law_one -/
def F_law_one (i_law_take : Nat) : FnT :=
  ⟨"_law_one", ["urn", "items"], ["urn", "items"], false,
   (.seq (.ret (.idx (.var 1) (.call i_law_take (.acons (.var 0) (.acons (.bi .len (.var 1)) .anil)))))
    .nil)⟩
/-- _law_whole -/
def F_law_whole (i_law_take : Nat) : FnT :=
  ⟨"_law_whole", ["urn", "world"], ["urn", "world"], false,
   (.seq (.ret (.bin .add (.bin .sub (.call i_law_take (.acons (.var 0) (.acons (.bin .add (.bin .mul (.lit (.int 2)) (.idx (.var 1) (.lit (.int 0)))) (.lit (.int 1))) .anil))) (.idx (.var 1) (.lit (.int 0)))) (.bin .mul (.idx (.var 1) (.lit (.int 1))) (.bin .sub (.call i_law_take (.acons (.var 0) (.acons (.lit (.int 3)) .anil))) (.lit (.int 1))))))
    .nil)⟩
/-- _law_plus -/
def F_law_plus : FnT :=
  ⟨"_law_plus", ["line", "much"], ["line", "much", "own"], false,
   (.seq (.ret (.bi .tuple (.lc [("own", 2)] (.v 2) (.iseq (.var 0)) .yes (.ife (.or (.cmp .isN (.var 2) (.lit .none)) (.last (.cmp .isN (.var 1) (.lit .none)))) (.lit .none) (.frz (.bin .add (.var 2) (.var 1)))))))
    .nil)⟩
/-- _law_more -/
def F_law_more : FnT :=
  ⟨"_law_more", ["left", "right"], ["left", "right"], false,
   (.seq (.ifs (.or (.cmp .isN (.var 0) (.lit .none)) (.last (.cmp .isN (.var 1) (.lit .none))))
    (.seq (.ret (.ife (.cmp .isN (.var 0) (.lit .none)) (.var 1) (.var 0)))
    .nil)
    .nil)
    (.seq (.ret (.ife (.cmp .gt (.var 0) (.var 1)) (.var 0) (.var 1)))
    .nil))⟩
/-- need_places -/
def F_need_places : FnT :=
  ⟨"need_places", ["many", "other_many"], ["many", "other_many"], false,
   (.seq (.ifs (.cmp .ne (.var 0) (.var 1))
    (.seq (.raise "Unfit" [(.str "Unfit"), (.str "RidgeError")])
    .nil)
    .nil)
    .nil)⟩
/-- shift_under -/
def F_shift_under : FnT :=
  ⟨"shift_under", ["row", "other"], ["row", "other", "some", "own", "high"], false,
   (.seq (.set 2 (.frz (.lc [("own", 3), ("high", 4)] (.t [3, 4]) (.izip (.var 0) (.var 1)) (.cmp .notN (.var 3) (.lit .none)) (.ife (.cmp .isN (.var 4) (.lit .none)) (.lit .none) (.bin .sub (.var 4) (.var 3))))))
    (.seq (.ret (.ife (.or (.cmp .eq (.var 2) (.lst .anil)) (.last (.cmp .inn (.lit .none) (.var 2)))) (.lit .none) (.bi .minL (.var 2))))
    .nil))⟩
/-- laid_below -/
def F_laid_below (i_laid : Nat) (i_shifted : Nat) (i_shift_under : Nat) : FnT :=
  ⟨"laid_below", ["rows", "row"], ["rows", "row", "found", "own", "number"], false,
   (.seq (.set 2 (.bi .tuple (.lc [("number", 4)] (.v 4) (.iseq (.var 1)) .yes (.lit .none))))
    (.seq (.forS (.v 3) (.iseq (.var 0))
    (.seq (.set 2 (.call i_laid (.acons (.var 2) (.acons (.call i_shifted (.acons (.var 3) (.acons (.call i_shift_under (.acons (.var 3) (.acons (.var 1) .anil))) .anil))) .anil))))
    .nil))
    (.seq (.ret (.ife (.bi .any (.lc [("number", 4)] (.v 4) (.iseq (.var 2)) .yes (.cmp .notN (.var 4) (.lit .none)))) (.var 2) (.lit .none)))
    .nil)))⟩
/-- is_in -/
def F_is_in (i_need_places : Nat) (i_laid_below : Nat) : FnT :=
  ⟨"is_in", ["lot", "row"], ["lot", "row"], false,
   (.seq (.expr (.call i_need_places (.acons (.idx (.var 0) (.lit (.int 0))) (.acons (.bi .len (.var 1)) .anil))))
    (.seq (.ret (.cmp .eq (.call i_laid_below (.acons (.idx (.var 0) (.lit (.int 1))) (.acons (.var 1) .anil))) (.var 1)))
    .nil))⟩
/-- _law_row_of -/
def F_law_row_of (i_law_one : Nat) (i_law_take : Nat) (i_law_whole : Nat) : FnT :=
  ⟨"_law_row_of", ["urn", "wide", "world"], ["urn", "wide", "world", "share", "found", "turn"], false,
   (.seq (.set 3 (.call i_law_one (.acons (.var 0) (.acons (.frz (.lst (.acons (.lit (.int 2)) (.acons (.lit (.int 4)) (.acons (.lit (.int 30)) .anil))))) .anil))))
    (.seq (.set 4 (.mut (.lc [("turn", 5)] (.v 5) (.irange1 (.var 1)) .yes (.ife (.cmp .eq (.call i_law_take (.acons (.var 0) (.acons (.var 3) .anil))) (.lit (.int 0))) (.lit .none) (.call i_law_whole (.acons (.var 0) (.acons (.var 2) .anil)))))))
    (.seq (.ifs (.cmp .eq (.var 4) (.bin .mul (.lst (.acons (.lit .none) .anil)) (.var 1)))
    (.seq (.setIx (.var 4) (.call i_law_take (.acons (.var 0) (.acons (.var 1) .anil))) (.call i_law_whole (.acons (.var 0) (.acons (.var 2) .anil))))
    .nil)
    .nil)
    (.seq (.ret (.bi .tuple (.var 4)))
    .nil))))⟩
/-- _law_plus -/
def F_law_plus2 : FnT :=
  ⟨"_law_plus", ["line", "much"], ["line", "much", "own"], false,
   (.seq (.ret (.bi .tuple (.lc [("own", 2)] (.v 2) (.iseq (.var 0)) .yes (.ife (.cmp .isN (.var 2) (.lit .none)) (.lit .none) (.frz (.bin .add (.var 2) (.var 1)))))))
    .nil)⟩
/-- _law_more -/
def F_law_more2 : FnT :=
  ⟨"_law_more", ["one", "other"], ["one", "other"], false,
   (.seq (.ifs (.or (.cmp .isN (.var 0) (.lit .none)) (.last (.cmp .isN (.var 1) (.lit .none))))
    (.seq (.ret (.ife (.cmp .isN (.var 0) (.lit .none)) (.var 1) (.var 0)))
    .nil)
    .nil)
    (.seq (.ret (.ife (.cmp .gt (.var 0) (.var 1)) (.var 0) (.var 1)))
    .nil))⟩
/-- _law_row_of -/
def F_law_row_of2 (i_law_one : Nat) (i_law_take : Nat) (i_law_whole : Nat) : FnT :=
  ⟨"_law_row_of", ["urn", "wide", "world"], ["urn", "wide", "world", "share", "found", "turn"], false,
   (.seq (.set 3 (.call i_law_one (.acons (.var 0) (.acons (.frz (.lst (.acons (.lit (.int 2)) (.acons (.lit (.int 4)) (.acons (.lit (.int 9)) .anil))))) .anil))))
    (.seq (.set 4 (.mut (.lc [("turn", 5)] (.v 5) (.irange1 (.var 1)) .yes (.ife (.cmp .eq (.call i_law_take (.acons (.var 0) (.acons (.var 3) .anil))) (.lit (.int 0))) (.lit .none) (.call i_law_whole (.acons (.var 0) (.acons (.var 2) .anil)))))))
    (.seq (.ifs (.cmp .eq (.var 4) (.bin .mul (.lst (.acons (.lit .none) .anil)) (.var 1)))
    (.seq (.setIx (.var 4) (.call i_law_take (.acons (.var 0) (.acons (.var 1) .anil))) (.call i_law_whole (.acons (.var 0) (.acons (.var 2) .anil))))
    .nil)
    .nil)
    (.seq (.ret (.bi .tuple (.var 4)))
    .nil))))⟩
/-- _law_more -/
def F_law_more3 : FnT :=
  ⟨"_law_more", ["low", "far"], ["low", "far"], false,
   (.seq (.ifs (.or (.cmp .isN (.var 0) (.lit .none)) (.last (.cmp .isN (.var 1) (.lit .none))))
    (.seq (.ret (.ife (.cmp .isN (.var 0) (.lit .none)) (.var 1) (.var 0)))
    .nil)
    .nil)
    (.seq (.ret (.ife (.cmp .gt (.var 0) (.var 1)) (.var 0) (.var 1)))
    .nil))⟩
end PK

/-! PK1: rows: what the shared defs about them tell. -/
namespace PK
open PySem RS
variable {tb : List FnT}
abbrev Num := Option Int
def D : Num → PyData
  | none => .none
  | some i => .int i
def TD (s : List Num) : PyData := .tuple (s.map D)
abbrev VD (a : Num) : Va := .dat (D a)
def plusN (a b : Num) : Num := match a, b with
  | some i, some j => some (i + j)
  | _, _ => none
theorem plus_ok {ip : Nat} (hp : tb[ip]? = some F_plus) (n : Nat) (a b : Num) (st : Sto) : callF tb (n + 1) ip [VD a, VD b] st = .ok (VD (plusN a b)) st := by
  refine call_eq (F := F_plus) hp rfl rfl rfl ?_
  cases a <;> cases b <;> rfl
def topN (a b : Num) : Num := match a, b with
  | some i, some j => some (max i j)
  | some i, none => some i
  | none, b => b
theorem top_ok {it : Nat} (ht : tb[it]? = some F_top) (n : Nat) (a b : Num) (st : Sto) : callF tb (n + 1) it [.dat (.tuple [D a, D b])] st = .ok (VD (topN a b)) st := by
  refine call_eq (F := F_top) ht rfl rfl rfl ?_
  cases a <;> cases b <;> rfl
/-- a side shifted -/
def sh (s : List Num) (b : Num) : List Num := s.map fun a => plusN a b
theorem items_TD (s : List Num) : (s.map D).map Va.dat = s.map VD := by rw [List.map_map]; rfl
theorem shifted_ok {ip ish : Nat} (hsh : tb[ish]? = some (F_shifted ip)) (hp : tb[ip]? = some F_plus) (n : Nat) (s : List Num) (b : Num) (st : Sto) (hs : s.length ≤ 1000) : callF tb (n + 2) ish [.dat (TD s), VD b] st = .ok (.dat (TD (sh s b))) st := by
  refine call_eq (F := F_shifted ip) (ρ := [some (.dat (TD s)), some (VD b), none]) hsh rfl rfl rfl (ret_eq (bi_eq (v := .new ((sh s b).map VD)) (d := .list ((sh s b).map D)) ?_ ?_ rfl))
  · rw [ev_lc_map (xs := s) (F := VD) (G := fun a => some (VD (plusN a b))) (by rw [← items_TD]; rfl) hs fun a _ => ?_]
    · rw [fm_some, sh, List.map_map]; rfl
    · show (((callF tb (n + 1) ip [VD a, VD b] st)).bind fun v s2 => match isOut v with | some v => Res.ok (some v) s2 | none => .stuck) = _
      rw [plus_ok hp]; rfl
  · rw [← items_TD]; exact view_new _ _
/-- one side laid over another -/
def lay (s t : List Num) : List Num := List.zipWith topN s t
theorem items_zip (s t : List Num) : zipD (viewN (.dat (TD s))) (viewN (.dat (TD t))) = some ((List.zip s t).map fun p => Va.dat (.tuple [D p.1, D p.2])) := by
  show some ((List.zipWith (fun x y => PyData.tuple [x, y]) (s.map D) (t.map D)).map Va.dat) = _
  congr 1
  rw [List.zipWith_map, List.map_zipWith, List.zip, List.map_zipWith]
theorem laid_ok {it il : Nat} (hl : tb[il]? = some (F_laid it)) (ht : tb[it]? = some F_top) (n : Nat) (s t : List Num) (st : Sto) (hs : s.length ≤ 1000) : callF tb (n + 2) il [.dat (TD s), .dat (TD t)] st = .ok (.dat (TD (lay s t))) st := by
  refine call_eq (F := F_laid it) (ρ := [some (.dat (TD s)), some (.dat (TD t)), none]) hl rfl rfl rfl (ret_eq (bi_eq (v := .new ((lay s t).map VD)) (d := .list ((lay s t).map D)) ?_ ?_ rfl))
  · rw [ev_lc_map (xs := List.zip s t) (F := fun p => .dat (.tuple [D p.1, D p.2])) (G := fun p => some (VD (topN p.1 p.2))) ?_ (by rw [List.length_zip]; omega) fun a _ => ?_]
    · rw [fm_some, lay, List.zip, List.map_zipWith, List.map_zipWith]
    · rw [evI]
      show (match zipD (viewN (.dat (TD s))) (viewN (.dat (TD t))) with | some zs => Res.ok (Src.mk zs none) st | none => .stuck) = _
      rw [items_zip]
    · show (((callF tb (n + 1) it [.dat (.tuple [D a.1, D a.2])] st)).bind fun v s2 => match isOut v with | some v => Res.ok (some v) s2 | none => .stuck) = _
      rw [top_ok ht]; rfl
  · rw [← items_TD]; exact view_new _ _
/-- what is there -/
def pres (s : List Num) : List Int := s.filterMap id
theorem pres_ok (φ : Nat → List Va → Sto → Res Va) (own : List (Str × Nat)) (i j : Nat) (ρ : RS.Env) (s : List Num) (st : Sto) (hs : s.length ≤ 1000) (hi : ρ[i]? = some (some (.dat (TD s)))) (hj : j < (wipeE ρ own).length) :
    evE φ (.lc own (.v j) (.iseq (.var i)) (.cmp .notN (.var j) (.lit .none)) (.var j)) ρ st = .ok (.new ((pres s).map fun k => .dat (.int k))) st := by
  rw [ev_lc_map (xs := s) (F := VD) (G := fun a => a.map fun k => .dat (.int k)) ?_ hs fun a _ => ?_]
  · congr 2
    rw [pres, List.map_filterMap]
    rfl
  · rw [evI, E_var, hi]
    show Res.ok _ _ = _
    rw [← items_TD]
  · have e : (setEnv (wipeE ρ own) j (VD a))[j]? = some (some (VD a)) := List.getElem?_set_self hj
    show ((evT φ (.cmp .notN (.var j) (.lit .none)) (setEnv (wipeE ρ own) j (VD a)) st).bind _) = _
    rw [T_cmp, E_var, e]
    cases a with
    | none => rfl
    | some k =>
      show (((evE φ (.var j) (setEnv (wipeE ρ own) j (VD (some k))) st)).bind fun v s2 => match isOut v with | some v => Res.ok (some v) s2 | none => .stuck) = _
      rw [E_var, e]; rfl
theorem view_ints (st : Sto) (ns : List Int) : view st (.new (ns.map fun k => .dat (.int k))) = some (.list (ns.map .int)) := by
  have := view_new st (ns.map PyData.int)
  rwa [List.map_map] at this
theorem isBools_map (bs : List Bool) : isBools (bs.map PyData.bool) = some bs := by
  induction bs with
  | nil => rfl
  | cons b bs ih => show (isBools (bs.map PyData.bool)).map (b :: ·) = _; rw [ih]; rfl
theorem lplus_ok {ip : Nat} (hp : tb[ip]? = some F_law_plus2) (n : Nat) (s : List Num) (b : Int) (st : Sto) (hs : s.length ≤ 1000) : callF tb (n + 1) ip [.dat (TD s), VD (some b)] st = .ok (.dat (TD (sh s (some b)))) st := by
  refine call_eq (F := F_law_plus2) (ρ := [some (.dat (TD s)), some (VD (some b)), none]) hp rfl rfl rfl (ret_eq (bi_eq (v := .new ((sh s (some b)).map VD)) (d := .list ((sh s (some b)).map D)) ?_ ?_ rfl))
  · rw [ev_lc_map (xs := s) (F := VD) (G := fun a => some (VD (plusN a (some b)))) (by rw [← items_TD]; rfl) hs fun a _ => ?_]
    · rw [fm_some, sh, List.map_map]; rfl
    · cases a <;> rfl
  · rw [← items_TD]; exact view_new _ _
theorem more_ok {im : Nat} (hm : tb[im]? = some F_law_more2) (n : Nat) (a b : Num) (st : Sto) : callF tb (n + 1) im [VD a, VD b] st = .ok (VD (topN a b)) st := by
  refine call_eq (F := F_law_more2) (ρ := [some (VD a), some (VD b)]) hm rfl rfl rfl ?_
  cases a with
  | none => cases b <;> rfl
  | some i =>
    cases b with
    | none => rfl
    | some j =>
      show evS _ (.seq (.ifs _ _ _) (.seq (.ret (.ife (.cmp .gt (.var 0) (.var 1)) (.var 0) (.var 1))) .nil)) _ st = _
      rw [S_seq]
      show evS _ (.seq (.ret (.ife (.cmp .gt (.var 0) (.var 1)) (.var 0) (.var 1))) .nil) [some (.dat (.int i)), some (.dat (.int j))] st = _
      refine ret_eq ?_
      rw [E_ife]
      have e : evT (callF tb n) (.cmp .gt (.var 0) (.var 1)) [some (.dat (.int i)), some (.dat (.int j))] st = .ok (decide (j < i)) st := by rw [T_cmp]; rfl
      rw [e]
      by_cases h : j < i
      · rw [decide_eq_true h]
        show Res.ok (Va.dat (.int i)) st = Res.ok (Va.dat (.int (max i j))) st
        rw [show max i j = i by omega]
      · rw [decide_eq_false h]
        show Res.ok (Va.dat (.int j)) st = Res.ok (Va.dat (.int (max i j))) st
        rw [show max i j = j by omega]
end PK

/-! PKU: the draws. -/
namespace PK
open PySem RS
def U (d c : List Int) (s k : Int) (rest : Sto) : Sto := .lst (d.map fun i => .dat (.int i)) :: .lst [.ref 0, .dat (.list (c.map .int)), .dat (.int s), .dat (.int k)] :: rest
theorem flat_ints (n : Nat) (d : List Int) : flatD (n + 1) (.list (d.map .int)) = true := by
  show (d.map PyData.int).all (flatD n) = true
  refine List.all_eq_true.mpr fun x hx => ?_
  obtain ⟨i, _, rfl⟩ := List.mem_map.mp hx
  unfold flatD; rfl
theorem undat_ints (d : List Int) : undat (d.map fun i => .dat (.int i)) = some (d.map .int) := by
  have := undat_map (d.map PyData.int)
  rwa [List.map_map] at this
section
variable (d c : List Int) (s k : Int) (rest : Sto)
theorem u_i0 : opIdx (U d c s k rest) (.ref 1) (.int 0) = some (.ref 0) := rfl
theorem u_i1 : opIdx (U d c s k rest) (.ref 1) (.int 1) = some (.dat (.list (c.map .int))) := rfl
theorem u_i2 : opIdx (U d c s k rest) (.ref 1) (.int 2) = some (.dat (.int s)) := rfl
theorem u_i3 : opIdx (U d c s k rest) (.ref 1) (.int 3) = some (.dat (.int k)) := rfl
theorem u_v0 : view (U d c s k rest) (.ref 0) = some (.list (d.map .int)) := by
  show (undat (d.map fun i => .dat (.int i))).map _ = _
  rw [undat_ints]; rfl
theorem u_00 (x : Int) : opIdx (U (x :: d) c s k rest) (.ref 0) (.int 0) = some (.dat (.int x)) := atI_zero (Va.dat (.int x)) (d.map fun i => .dat (.int i))
theorem u_s0 (x y : Int) : setV (.ref 0) (.int 0) (.dat (.int y)) (U (x :: d) c s k rest) = .ok () (U (y :: d) c s k rest) := by
  simp [setV, U, Va.low]
theorem u_p0 (x : Int) : popV (.ref 0) (.int 0) (U (x :: d) c s k rest) = .ok (.dat (.int x)) (U d c s k rest) := rfl
theorem u_s3 (y : Int) : setV (.ref 1) (.int 3) (.dat (.int y)) (U d c s k rest) = .ok () (U d c s y rest) := rfl
theorem u_len (d' : List Int) (k' : Int) : (U d' c s k' rest).take (U d c s k rest).length = U d' c s k' rest := by
  show (U d' c s k' rest).take (U d' c s k' rest).length = _
  exact List.take_length
end
theorem ne_nil (d : List Int) : opCmp .ne (.list (d.map .int)) (.list []) = some (!d.isEmpty) := by
  show (if flatD 60 (.list (d.map .int)) = true ∧ flatD 60 (.list []) = true then some (!PyData.eqv (.list (d.map .int)) (.list [])) else none) = _
  rw [if_pos ⟨flat_ints 59 d, by unfold flatD; rfl⟩]
  cases d <;> rfl
/-- a state of the draws, what lies behind it untouched -/
def Dr (rest : Sto) (st : Sto) : Prop := ∃ d c s k, c ≠ [] ∧ st = U d c s k rest
theorem fmod_in {i j : Int} (h : 0 < j) : 0 ≤ i.fmod j ∧ i.fmod j < j := by
  rw [Int.fmod_eq_emod_of_nonneg i (by omega)]
  exact ⟨Int.emod_nonneg i (by omega), Int.emod_lt_of_pos i h⟩
theorem a_fdiv {i j : Int} (h : 0 < j) (h2 : j < 1073741824) : opBin .fdiv (.int i) (.int j) = some (.dat (.int (i.fdiv j))) := by
  show (if j ≠ 0 ∧ j.natAbs < 1073741824 then some (i.fdiv j) else none).map _ = _
  rw [if_pos ⟨by omega, by omega⟩]; rfl
theorem a_mod {i j : Int} (h : 0 < j) : opBin .mod (.int i) (.int j) = some (.dat (.int (i.fmod j))) := by
  show (if j ≠ 0 then some (i.fmod j) else none).map _ = _
  rw [if_pos (by omega)]; rfl
theorem a_add (i j : Int) : opBin .add (.int i) (.int j) = some (.dat (.int (i + j))) := rfl
theorem a_sub (i j : Int) : opBin .sub (.int i) (.int j) = some (.dat (.int (i - j))) := rfl
theorem a_mul {i j : Int} (h : (-big < i ∧ i < big) ∨ (-big < j ∧ j < big)) : opBin .mul (.int i) (.int j) = some (.dat (.int (i * j))) := by
  show (if (-big < i ∧ i < big) ∨ (-big < j ∧ j < big) then some (i * j) else none).map _ = _
  rw [if_pos h]; rfl
theorem b_int (i : Int) : biF .int (.int i) = some (.dat (.int i)) := rfl
theorem b_len (xs : List PyData) : biF .len (.list xs) = some (.dat (.int xs.length)) := rfl
theorem c_lt (i j : Int) : opCmp .lt (.int i) (.int j) = some (decide (i < j)) := rfl
variable {tb : List FnT}
theorem take_ok {it : Nat} (ht : tb[it]? = some F_law_take) (n : Nat) (size : Int) (rest st : Sto) (h0 : 0 < size) (h1 : size < 1073741824) (hd : Dr rest st) :
    Ev (callF tb (n + 1) it [.ref 1, .dat (.int size)] st) (fun v st' => ∃ r, v = .dat (.int r) ∧ 0 ≤ r ∧ r < size ∧ Dr rest st') := by
  obtain ⟨d, c, s, k, hc, rfl⟩ := hd
  refine ev_call (F := F_law_take) ht rfl ?_
  show Ev (evS (callF tb n) F_law_take.body [some (.ref 1), some (.dat (.int size)), none, none, none, none] (U d c s k rest)) (finE false (U d c s k rest).length _)
  unfold F_law_take
  dsimp only
  have test : evT (callF tb n) (.cmp .ne (.idx (.var 0) (.lit (.int 0))) (.lst .anil)) [some (.ref 1), some (.dat (.int size)), none, none, none, none] (U d c s k rest) = .ok (!d.isEmpty) (U d c s k rest) := by
    simp only [T_cmp, E_idx, E_var, E_lit, E_lst, A_nil, Res.bind_ok, List.getElem?_cons_zero, Option.bind_some, id_eq, Res.of_some, u_i0, u_v0]
    rw [show view (U d c s k rest) (.new []) = some (.list []) from rfl]
    simp only [ne_nil, Res.of_some]
  rw [S_seq, S_ifs, test]
  cases d with
  | cons x d =>
    simp only [List.isEmpty_cons, Bool.not_false, Res.bind_ok, S_seq, S_set, S_setIx, S_ifs, S_expr, S_ret, S_nil, T_cmp, E_bin, E_idx, E_var, E_lit, E_bi, Res.of_some, List.getElem?_cons_zero, List.getElem?_cons_succ, Option.bind_some, id_eq, u_i0, u_00, isOut_dat, isOut_ref, view_dat, a_fdiv h0 h1, setEnv, List.set_cons_succ, List.set_cons_zero, u_s0, c_lt, b_int, a_mod h0]
    have q := fmod_in (i := x) h0
    by_cases hx : x < size
    · have pe : evE (callF tb n) (.popAt (.idx (.var 0) (.lit (.int 0))) (.lit (.int 0))) [some (.ref 1), some (.dat (.int size)), some (.dat (.int x)), none, none, none] (U (x.fdiv size :: d) c s k rest) = .ok (.dat (.int (x.fdiv size))) (U d c s k rest) := by
        rw [evE, E_idx, E_var]
        rfl
      simp only [decide_eq_true hx, pe, a_mod h0, Res.bind_ok, S_seq, S_set, S_setIx, S_ifs, S_expr, S_ret, S_nil, T_cmp, E_bin, E_idx, E_var, E_lit, E_bi, E_frz, Res.of_some, List.getElem?_cons_zero, List.getElem?_cons_succ, Option.bind_some, id_eq, isOut_dat, isOut_ref, view_dat, setEnv, List.set_cons_succ, List.set_cons_zero, b_int, b_len, a_add, frzV, List.length_map]
      rw [Ev_ok, finE_rt, fin_dat, u_len (x :: d) c s k rest d k]
      exact ⟨_, rfl, q.1, q.2, d, c, s, k, hc, rfl⟩
    · simp only [decide_eq_false hx, a_mod h0, Res.bind_ok, S_seq, S_set, S_setIx, S_ifs, S_expr, S_ret, S_nil, T_cmp, E_bin, E_idx, E_var, E_lit, E_bi, E_frz, Res.of_some, List.getElem?_cons_zero, List.getElem?_cons_succ, Option.bind_some, id_eq, isOut_dat, isOut_ref, view_dat, setEnv, List.set_cons_succ, List.set_cons_zero, b_int, b_len, a_add, frzV, List.length_map]
      rw [Ev_ok, finE_rt, fin_dat]
      exact ⟨_, rfl, q.1, q.2, x.fdiv size :: d, c, s, k, hc, u_len (x :: d) c s k rest (x.fdiv size :: d) k⟩
  | nil =>
    have q0 : 0 < (c.length : Int) := by
      have := List.length_pos_iff.mpr hc
      omega
    have qi := fmod_in (i := k + 1) q0
    obtain ⟨y, hy⟩ : ∃ y, opIdx (U [] c s (k + 1) rest) (.dat (.list (c.map .int))) (.int ((k + 1).fmod c.length)) = some (.dat (.int y)) := by
      have hl : ((k + 1).fmod c.length).toNat < c.length := by omega
      refine ⟨c[((k + 1).fmod c.length).toNat], ?_⟩
      show L2.atI ((c.map PyData.int).map Va.dat) _ = _
      refine atI_pos qi.1 ?_
      rw [List.getElem?_map, List.getElem?_map, List.getElem?_eq_getElem hl]; rfl
    simp only [List.isEmpty_nil, Bool.not_true, Res.bind_ok, S_seq, S_set, S_setIx, S_ret, S_nil, E_frz, E_bin, E_idx, E_var, E_lit, E_bi, Res.of_some, List.getElem?_cons_zero, List.getElem?_cons_succ, Option.bind_some, id_eq, u_i0, u_i1, u_i2, u_i3, isOut_dat, isOut_ref, view_dat, setEnv, List.set_cons_succ, List.set_cons_zero, u_s3, b_int, b_len, a_add, List.length_map, a_mod q0, frzV, hy]
    have m1 : ∀ i : Int, opBin .mul (.int i) (.int 3935559000370003845) = some (.dat (.int (i * 3935559000370003845))) := fun i => a_mul (.inr (by decide))
    have m2 : ∀ i : Int, opBin .mul (.int i) (.int 2691343689449507681) = some (.dat (.int (i * 2691343689449507681))) := fun i => a_mul (.inr (by decide))
    have m3 : ∀ i : Int, opBin .mul (.int i) (.int 7664345821815920749) = some (.dat (.int (i * 7664345821815920749))) := fun i => a_mul (.inr (by decide))
    have m4 : ∀ i : Int, opBin .mul (.int i) (.int 1181783497276652981) = some (.dat (.int (i * 1181783497276652981))) := fun i => a_mul (.inr (by decide))
    have m5 : ∀ i : Int, opBin .mul (.int 3) (.int i) = some (.dat (.int (3 * i))) := fun i => a_mul (.inl (by decide))
    have d1 : ∀ i : Int, opBin .mod (.int i) (.int 2305843009213693951) = some (.dat (.int (i.fmod 2305843009213693951))) := fun i => a_mod (by decide)
    have d2 : ∀ i : Int, opBin .mod (.int i) (.int 2305843009213693921) = some (.dat (.int (i.fmod 2305843009213693921))) := fun i => a_mod (by decide)
    have d3 : ∀ i : Int, opBin .fdiv (.int i) (.int 1048576) = some (.dat (.int (i.fdiv 1048576))) := fun i => a_fdiv (by decide) (by decide)
    simp only [m1, m2, m3, d1, u_i2, Res.bind_ok, S_seq, S_set, S_setIx, S_ifs, S_expr, S_ret, S_nil, T_cmp, E_bin, E_idx, E_var, E_lit, E_bi, E_frz, Res.of_some, List.getElem?_cons_zero, List.getElem?_cons_succ, Option.bind_some, id_eq, isOut_dat, isOut_ref, view_dat, setEnv, List.set_cons_succ, List.set_cons_zero, b_int, b_len, a_add, frzV, List.length_map]
    have p1 := fmod_in (i := y * 3935559000370003845 + s * 2691343689449507681 + (k + 1) * 7664345821815920749) (j := 2305843009213693951) (by decide)
    generalize (y * 3935559000370003845 + s * 2691343689449507681 + (k + 1) * 7664345821815920749).fmod 2305843009213693951 = B at p1 ⊢
    have sq : opBin .mul (.int B) (.int B) = some (.dat (.int (B * B))) := a_mul (.inl (by unfold big; omega))
    simp only [sq, m4, d2, Res.bind_ok, S_seq, S_set, S_setIx, S_ifs, S_expr, S_ret, S_nil, T_cmp, E_bin, E_idx, E_var, E_lit, E_bi, E_frz, Res.of_some, List.getElem?_cons_zero, List.getElem?_cons_succ, Option.bind_some, id_eq, isOut_dat, isOut_ref, view_dat, setEnv, List.set_cons_succ, List.set_cons_zero, b_int, b_len, a_add, frzV, List.length_map]
    have p2 := fmod_in (i := B * B + (k + 1) * 1181783497276652981 + 977) (j := 2305843009213693921) (by decide)
    generalize (B * B + (k + 1) * 1181783497276652981 + 977).fmod 2305843009213693921 = C at p2 ⊢
    have sq2 : opBin .mul (.int C) (.int C) = some (.dat (.int (C * C))) := a_mul (.inl (by unfold big; omega))
    simp only [sq2, m5, d1, d3, a_mod h0, Res.bind_ok, S_seq, S_set, S_setIx, S_ifs, S_expr, S_ret, S_nil, T_cmp, E_bin, E_idx, E_var, E_lit, E_bi, E_frz, Res.of_some, List.getElem?_cons_zero, List.getElem?_cons_succ, Option.bind_some, id_eq, isOut_dat, isOut_ref, view_dat, setEnv, List.set_cons_succ, List.set_cons_zero, b_int, b_len, a_add, frzV, List.length_map]
    have q := fmod_in (i := ((C * C + 3 * C).fmod 2305843009213693951).fdiv 1048576) h0
    rw [Ev_ok, finE_rt, fin_dat]
    exact ⟨_, rfl, q.1, q.2, [], c, s, k + 1, hc, u_len [] c s k rest [] (k + 1)⟩
theorem dr_len {rest st st' : Sto} (h : Dr rest st) (h' : Dr rest st') : st'.take st.length = st' := by
  obtain ⟨d, c, s, k, _, rfl⟩ := h
  obtain ⟨d', c', s', k', _, rfl⟩ := h'
  exact List.take_of_length_le (Nat.le_refl _)
theorem pick_at {xs : List PyData} {r : Int} {d : PyData} {st : Sto} (h0 : 0 ≤ r) (h : xs[r.toNat]? = some d) : opIdx st (.dat (.list xs)) (.int r) = some (.dat d) := by
  refine atI_pos h0 ?_
  rw [List.getElem?_map, h]; rfl
/-- one of some -/
theorem one_ok {it io : Nat} (ho : tb[io]? = some (F_law_one it)) (ht : tb[it]? = some F_law_take) (n : Nat) (items : List PyData) (rest st : Sto) (h0 : items ≠ []) (h1 : items.length ≤ 1000) (hd : Dr rest st) :
    Ev (callF tb (n + 2) io [.ref 1, .dat (.list items)] st) (fun v st' => ∃ d, v = .dat d ∧ d ∈ items ∧ Dr rest st') := by
  have hp := List.length_pos_iff.mpr h0
  obtain ⟨v, st', e, r, rfl, r0, r1, hd'⟩ := (take_ok ht n (items.length : Int) rest st (by omega) (by omega) hd).get
  refine ev_call (F := F_law_one it) ho rfl ?_
  show Ev (evS (callF tb (n + 1)) (F_law_one it).body [some (.ref 1), some (.dat (.list items))] st) (finE false st.length _)
  have hl : r.toNat < items.length := by omega
  have pk : opIdx st' (.dat (.list items)) (.int r) = some (.dat items[r.toNat]) := pick_at r0 (List.getElem?_eq_getElem hl)
  have len := dr_len hd hd'
  unfold F_law_one
  simp only [S_seq, S_ret, E_idx, E_call, A_cons, A_nil, E_bi, E_var, Res.bind_ok, Res.of_some, List.getElem?_cons_zero, List.getElem?_cons_succ, Option.bind_some, id_eq, isOut_dat, isOut_ref, view_dat, b_len, e, pk, Ev_ok, finE_rt, fin_dat, len]
  exact ⟨_, rfl, List.getElem_mem hl, hd'⟩
end PK

/-! PKV: worlds, numbers and rows that are drawn; the urn. -/
namespace PK
open PySem RS
variable {tb : List FnT}
def M1 : Int := 10 ^ 841
def Wd (a b : Int) : Prop := 0 ≤ a ∧ a ≤ 60 ∧ 0 ≤ b ∧ b ≤ 10 ^ 840
theorem a_pow {i j : Int} (h : 0 ≤ j ∧ ((j ≤ 1000000 ∧ i.natAbs < 18446744073709551616) ∨ (j ≤ 1000 ∧ i.natAbs.log2 < 60000))) : opBin .pow (.int i) (.int j) = some (.dat (.int (i ^ j.toNat))) := by
  show (if 0 ≤ j ∧ ((j ≤ 1000000 ∧ i.natAbs < 18446744073709551616) ∨ (j ≤ 1000 ∧ i.natAbs.log2 < 60000)) then some (i ^ j.toNat) else none).map _ = _
  rw [if_pos h]; rfl
theorem p14 : opBin .pow (.int (10 ^ 60)) (.int 14) = some (.dat (.int ((10 ^ 60) ^ 14))) := a_pow ⟨by decide, .inr ⟨by decide, by decide +kernel⟩⟩
theorem p9 : opBin .pow (.int 10) (.int 9) = some (.dat (.int (10 ^ 9))) := a_pow ⟨by decide, .inl ⟨by decide, by decide⟩⟩
theorem p30 : opBin .pow (.int 10) (.int 30) = some (.dat (.int (10 ^ 30))) := a_pow ⟨by decide, .inl ⟨by decide, by decide⟩⟩
theorem p60 : opBin .pow (.int 10) (.int 60) = some (.dat (.int (10 ^ 60))) := a_pow ⟨by decide, .inl ⟨by decide, by decide⟩⟩
theorem frz_dats (ds : List PyData) (st : Sto) : frzV (.new (ds.map .dat)) st = .ok (.dat (.list ds)) st := by
  show (match undat (ds.map .dat) with | some ds => Res.ok (Va.dat (.list ds)) st | none => .stuck) = _
  rw [undat_map]
def Sn (m : Int) (a : Num) : Prop := ∀ i, a = some i → -m ≤ i ∧ i ≤ m
def Sm (m : Int) (s : List Num) : Prop := ∀ a ∈ s, Sn m a
theorem whole_ok {it iw : Nat} (hw' : tb[iw]? = some (F_law_whole it)) (ht : tb[it]? = some F_law_take) (n : Nat) (a b : Int) (rest st : Sto) (hw : Wd a b) (hd : Dr rest st) : Ev (callF tb (n + 2) iw [.ref 1, .dat (.list [.int a, .int b])] st) (fun v st' => ∃ i, v = .dat (.int i) ∧ (-M1 ≤ i ∧ i ≤ M1) ∧ Dr rest st') := by
  obtain ⟨w1, w2, w3, w4⟩ := hw
  obtain ⟨v1, st1, e1, r, rfl, r0, r1, hd1⟩ := (take_ok ht n (2 * a + 1) rest st (by omega) (by omega) hd).get
  obtain ⟨v2, st2, e2, t, rfl, t0, t1, hd2⟩ := (take_ok ht n 3 rest st1 (by omega) (by omega) hd1).get
  refine ev_call (F := F_law_whole it) hw' rfl ?_
  show Ev (evS (callF tb (n + 1)) (F_law_whole it).body [some (.ref 1), some (.dat (.list [.int a, .int b]))] st) (finE false st.length _)
  have i0 : ∀ s, opIdx s (.dat (.list [.int a, .int b])) (.int 0) = some (.dat (.int a)) := fun _ => rfl
  have i1 : ∀ s, opIdx s (.dat (.list [.int a, .int b])) (.int 1) = some (.dat (.int b)) := fun _ => rfl
  have m1 : opBin .mul (.int 2) (.int a) = some (.dat (.int (2 * a))) := a_mul (.inl (by decide))
  have m2 : opBin .mul (.int b) (.int (t - 1)) = some (.dat (.int (b * (t - 1)))) := a_mul (.inr (by unfold big; omega))
  unfold F_law_whole
  simp only [S_seq, S_ret, E_bin, E_idx, E_call, A_cons, A_nil, E_var, E_lit, Res.bind_ok, Res.of_some, List.getElem?_cons_zero, List.getElem?_cons_succ, Option.bind_some, id_eq, isOut_dat, isOut_ref, view_dat, i0, i1, m1, m2, a_add, a_sub, e1, e2, Ev_ok, finE_rt, fin_dat, dr_len hd hd2]
  refine ⟨_, rfl, ?_, hd2⟩
  have big10 : (10 : Int) ^ 840 + 60 ≤ M1 := by unfold M1; decide +kernel
  have hT : t = 0 ∨ t = 1 ∨ t = 2 := by omega
  rcases hT with rfl | rfl | rfl <;> constructor <;> omega
/-- a drawn item each -/
theorem lcL_ev {f : Va → Sto → Res (Option Va)} (I : Sto → Prop) (P : Va → Prop) : ∀ (xs : List Va) (st : Sto), (∀ x ∈ xs, ∀ s, I s → Ev (f x s) fun o s' => I s' ∧ ∃ v, o = some v ∧ P v) → I st → Ev (lcL f xs st) fun vs s' => I s' ∧ vs.length = xs.length ∧ ∀ v ∈ vs, P v
  | [], st, _, h => ⟨h, rfl, fun _ m => (nomatch m)⟩
  | x :: xs, st, hf, h => by
    rw [lcL, Ev_bind, Ev_calm]
    refine (hf x List.mem_cons_self st h).imp fun o s1 ⟨h1, v, e, p⟩ => ?_
    subst e
    rw [Ev_bind]
    refine (lcL_ev I P xs s1 (fun y m => hf y (List.mem_cons_of_mem _ m)) h1).imp fun r s2 ⟨h2, l, q⟩ => ?_
    rw [Ev_ok]
    exact ⟨h2, by rw [List.length_cons, l, List.length_cons], fun w m => (List.mem_cons.mp m).elim (fun z => z ▸ p) (q w)⟩
theorem nums_of {m : Int} : ∀ {vs : List Va}, (∀ v ∈ vs, ∃ a, v = VD a ∧ Sn m a) → ∃ s : List Num, vs = s.map VD ∧ Sm m s
  | [], _ => ⟨[], rfl, fun _ h => (nomatch h)⟩
  | v :: vs, h => by
    obtain ⟨a, rfl, ha⟩ := h _ List.mem_cons_self
    obtain ⟨s, rfl, hs⟩ := nums_of fun w m => h w (List.mem_cons_of_mem _ m)
    exact ⟨a :: s, rfl, fun b m => (List.mem_cons.mp m).elim (fun z => z ▸ ha) (hs b)⟩
def Sd (m : Int) (w : Nat) (s : List Num) : Prop := s.length = w ∧ Sm m s
theorem sn_none {m : Int} : Sn m none := fun _ e => nomatch e
def nones (w : Nat) : List Num := List.replicate w none
theorem mul_none (w : Nat) (hw : w ≤ 1000) : opBin .mul (.tuple [.none]) (.int w) = some (.dat (TD (nones w))) := by
  show (if (0 : Int) ≤ w ∧ (w : Int) ≤ 1000 ∧ [PyData.none].length ≤ 1000 then some (Va.dat (.tuple (List.replicate (w : Int).toNat [PyData.none]).flatten)) else none) = _
  rw [if_pos ⟨by omega, by omega, by decide⟩, Int.toNat_natCast]
  have : ∀ k : Nat, (List.replicate k [PyData.none]).flatten = (nones k).map D := by
    intro k
    induction k with
    | zero => rfl
    | succ k ih => rw [List.replicate_succ, List.flatten_cons, ih]; rfl
  rw [this]; rfl
theorem td_eq : ∀ s t : List Num, PyData.eqvAll (s.map D) (t.map D) = decide (s = t)
  | [], [] => rfl
  | [], _ :: _ => rfl
  | _ :: _, [] => rfl
  | a :: s, b :: t => by
    show (PyData.eqv (D a) (D b) && PyData.eqvAll (s.map D) (t.map D)) = _
    rw [td_eq s t]
    have e : PyData.eqv (D a) (D b) = decide (a = b) := by
      cases a with
      | none => cases b <;> rfl
      | some i =>
        cases b with
        | none => rfl
        | some j => by_cases h : i = j <;> simp [D, PyData.eqv, h]
    rw [e]
    by_cases h1 : a = b <;> by_cases h2 : s = t <;> simp [h1, h2]
theorem flat_D (n : Nat) (a : Num) : flatD n (D a) = true := by cases a <;> (unfold D flatD; rfl)
theorem flat_TD (n : Nat) (s : List Num) : flatD (n + 1) (TD s) = true := by
  show (s.map D).all (flatD n) = true
  refine List.all_eq_true.mpr fun x hx => ?_
  obtain ⟨a, _, rfl⟩ := List.mem_map.mp hx
  exact flat_D n a
theorem flat_LD (n : Nat) (s : List Num) : flatD (n + 1) (.list (s.map D)) = true := by
  show (s.map D).all (flatD n) = true
  refine List.all_eq_true.mpr fun x hx => ?_
  obtain ⟨a, _, rfl⟩ := List.mem_map.mp hx
  exact flat_D n a
theorem c_eqT (s t : List Num) : opCmp .eq (TD s) (TD t) = some (decide (s = t)) := by
  show (if flatD 60 (TD s) = true ∧ flatD 60 (TD t) = true then some (PyData.eqv (TD s) (TD t)) else none) = _
  rw [if_pos ⟨flat_TD 59 s, flat_TD 59 t⟩]
  show some (PyData.eqvAll (s.map D) (t.map D)) = _
  rw [td_eq]
theorem c_neT (s t : List Num) : opCmp .ne (TD s) (TD t) = some (!decide (s = t)) := by
  show (if flatD 60 (TD s) = true ∧ flatD 60 (TD t) = true then some (!PyData.eqv (TD s) (TD t)) else none) = _
  rw [if_pos ⟨flat_TD 59 s, flat_TD 59 t⟩]
  show some (!PyData.eqvAll (s.map D) (t.map D)) = _
  rw [td_eq]
theorem c_eqL (s t : List Num) : opCmp .eq (.list (s.map D)) (.list (t.map D)) = some (decide (s = t)) := by
  show (if flatD 60 (.list (s.map D)) = true ∧ flatD 60 (.list (t.map D)) = true then some (PyData.eqv (.list (s.map D)) (.list (t.map D))) else none) = _
  rw [if_pos ⟨flat_LD 59 s, flat_LD 59 t⟩]
  show some (PyData.eqvAll (s.map D) (t.map D)) = _
  rw [td_eq]
theorem pres_nil {s : List Num} : pres s = [] ↔ s = nones s.length := by
  induction s with
  | nil => exact ⟨fun _ => rfl, fun _ => rfl⟩
  | cons a s ih =>
    cases a with
    | none =>
      show pres s = [] ↔ _
      rw [ih]
      constructor
      · intro h
        rw [List.length_cons]
        show none :: s = List.replicate (s.length + 1) none
        rw [List.replicate_succ]
        exact congrArg _ h
      · intro h
        rw [List.length_cons] at h
        have h : none :: s = List.replicate (s.length + 1) none := h
        rw [List.replicate_succ] at h
        exact (List.cons.inj h).2
    | some i =>
      constructor
      · intro h; cases h
      · intro h
        rw [List.length_cons] at h
        have h : some i :: s = List.replicate (s.length + 1) none := h
        rw [List.replicate_succ] at h
        cases (List.cons.inj h).1
theorem mul_noneL (w : Nat) (hw : w ≤ 1000) : opBin .mul (.list [.none]) (.int w) = some (.new ((nones w).map VD)) := by
  show (if (0 : Int) ≤ w ∧ (w : Int) ≤ 1000 ∧ [PyData.none].length ≤ 1000 then some (Va.new ((List.replicate (w : Int).toNat [PyData.none]).flatten.map .dat)) else none) = _
  rw [if_pos ⟨by omega, by omega, by decide⟩, Int.toNat_natCast]
  have : ∀ k : Nat, (List.replicate k [PyData.none]).flatten = (nones k).map D := by
    intro k
    induction k with
    | zero => rfl
    | succ k ih => rw [List.replicate_succ, List.flatten_cons, ih]; rfl
  rw [this, items_TD]
theorem vd_low (k : Nat) (s : List Num) : (s.map VD).all (·.low k) = true := List.all_eq_true.mpr fun x hx => by
  obtain ⟨a, _, rfl⟩ := List.mem_map.mp hx
  rfl
theorem view_VD (st : Sto) (s : List Num) : view st (.new (s.map VD)) = some (.list (s.map D)) := by
  rw [← items_TD]; exact view_new _ _
theorem undat_VD (s : List Num) : undat (s.map VD) = some (s.map D) := by rw [← items_TD]; exact undat_map _
theorem dr_app {rest st : Sto} (x : Cell) (h : Dr rest st) : Dr (rest ++ [x]) (st ++ [x]) := by
  obtain ⟨d, c, s, k, hc, rfl⟩ := h
  exact ⟨d, c, s, k, hc, rfl⟩
theorem dr_last {rest st : Sto} {x : Cell} (h : Dr (rest ++ [x]) st) : ∃ st0, st = st0 ++ [x] ∧ Dr rest st0 ∧ st0.length = rest.length + 2 := by
  obtain ⟨d, c, s, k, hc, rfl⟩ := h
  exact ⟨U d c s k rest, rfl, ⟨d, c, s, k, hc, rfl⟩, rfl⟩
theorem dr_leng {rest st : Sto} (h : Dr rest st) : st.length = rest.length + 2 := by
  obtain ⟨d, c, s, k, hc, rfl⟩ := h
  rfl
theorem E_slc (φ : Nat → List Va → Sto → Res Va) (ρ : RS.Env) (st : Sto) (a lo hi : T) : evE φ (.slc a lo hi) ρ st = (evE φ a ρ st).bind fun x st1 => (evE φ lo ρ st1).bind fun y st2 => match partV y with
      | some l => (evE φ hi ρ st2).bind fun z st3 => match partV z with
        | some h => .of (opSlc st3 x l h) st3
        | none => .stuck
      | none => .stuck := by first | (rw [evE]; done) | (rw [evE]; rfl)
theorem E_nopart (φ : Nat → List Va → Sto → Res Va) (ρ : RS.Env) (st : Sto) : evE φ .nopart ρ st = .ok (.dat .none) st := by rw [evE]
theorem get_last (st : Sto) (x : Cell) : (st ++ [x])[st.length]? = some x := by
  rw [List.getElem?_append_right (Nat.le_refl _), Nat.sub_self]; rfl
theorem set_last (st : Sto) (x y : Cell) : (st ++ [x]).set st.length y = st ++ [y] := by
  rw [List.set_append_right _ _ (Nat.le_refl _), Nat.sub_self]; rfl
theorem cut_take {α : Type} (xs : List α) (k : Nat) : cut xs none (some (k : Int)) = xs.take k := by
  unfold cut
  rw [HT.sIx_none, HT.sIx_nat, List.drop_zero, Nat.sub_zero]
  rw [List.take_eq_take_iff]; omega
theorem cut_drop {α : Type} (xs : List α) (k : Nat) : cut xs (some (k : Int)) none = xs.drop k := by
  unfold cut
  rw [HT.sIx_none, HT.sIx_nat]
  by_cases h : k ≤ xs.length
  · rw [Nat.min_eq_left h, ← List.length_drop, List.take_length]
  · rw [Nat.min_eq_right (by omega), Nat.sub_self, List.take_zero, List.drop_eq_nil_of_le (by omega)]
/-! ### the urn -/
theorem items_ints (c : List Int) : (c.map PyData.int).map Va.dat = c.map fun i => .dat (.int i) := by rw [List.map_map]; rfl
theorem isInts_map (c : List Int) : isInts (c.map .int) = some c := by
  induction c with
  | nil => rfl
  | cons i c ih => show (isInts (c.map PyData.int)).map (i :: ·) = _; rw [ih]; rfl
theorem urn_ok {iu : Nat} (hu : tb[iu]? = some F_law_urn) (n : Nat) (ns : List Int) (hn : ns.length ≤ 63) : Ev (callF tb (n + 1) iu [.dat (.list (ns.map .int))] []) (fun v st' => v = .ref 1 ∧ Dr [] st') := by
  refine ev_call (F := F_law_urn) hu rfl ?_
  show Ev (evS (callF tb n) F_law_urn.body [some (.dat (.list (ns.map .int))), none, none, none] []) (finE true 0 _)
  have sl : ∀ st, opSlc st (.dat (.list (ns.map .int))) none (some 63) = some (.new ((ns.map PyData.int).map .dat)) := fun st => by
    show some (Va.new (cut ((ns.map PyData.int).map .dat) none (some ((63 : Nat) : Int)))) = _
    rw [cut_take, List.take_of_length_le (by simp only [List.length_map]; exact hn)]
  have pn : partV (.dat .none) = some none := rfl
  have pi : ∀ i : Int, partV (.dat (.int i)) = some (some i) := fun _ => rfl
  let dp : List Int := ns.filterMap fun i => if (10 : Int) ^ 18 ≤ (if i < 0 then -i else i) then some (if i < 0 then -i else i) else none
  have p18 : opBin .pow (.int 10) (.int 18) = some (.dat (.int (10 ^ 18))) := a_pow ⟨by decide, .inl ⟨by decide, by decide⟩⟩
  have ba : ∀ i : Int, biF .abs (.int i) = some (.dat (.int (if i < 0 then -i else i))) := fun _ => rfl
  have cge : ∀ i j : Int, opCmp .ge (.int i) (.int j) = some (decide (j ≤ i)) := fun _ _ => rfl
  have bb : ∀ b : Bool, biF .int (.bool b) = some (.dat (.int (if b then 1 else 0))) := fun _ => rfl
  have m2 : ∀ i : Int, opBin .mul (.int 2) (.int i) = some (.dat (.int (2 * i))) := fun i => a_mul (.inl (by decide))
  have src : ∀ (x y : Option Va) (st : Sto), evI (callF tb n) (.iseq (.var 1)) [some (.dat (.list (ns.map .int))), some (.dat (.list (ns.map .int))), x, y] st = .ok ⟨ns.map fun i => .dat (.int i), none⟩ st := fun x y st => by
    rw [evI, E_var]
    show Res.ok (Src.mk ((ns.map PyData.int).map Va.dat) none) st = _
    rw [items_ints]
  have l1 : evE (callF tb n) (.lc [("cell", 3)] (.v 3) (.iseq (.var 1)) (.cmp .ge (.bi .abs (.var 3)) (.bin .pow (.lit (.int 10)) (.lit (.int 18)))) (.bi .abs (.var 3))) [some (.dat (.list (ns.map .int))), some (.dat (.list (ns.map .int))), none, none] [] = .ok (.new (dp.map fun i => .dat (.int i))) [] := by
    rw [ev_lc_map (xs := ns) (F := fun i => .dat (.int i)) (G := fun i => (if (10 : Int) ^ 18 ≤ (if i < 0 then -i else i) then some (if i < 0 then -i else i) else none).map fun i => Va.dat (.int i)) (src _ _ _) (by omega) fun i _ => ?_]
    · congr 2
      rw [List.map_filterMap]
    · show ((evT (callF tb n) (.cmp .ge (.bi .abs (.var 3)) (.bin .pow (.lit (.int 10)) (.lit (.int 18)))) [some (.dat (.list (ns.map .int))), some (.dat (.list (ns.map .int))), none, some (.dat (.int i))] []).bind fun t s1 => match t with
        | true => (evE (callF tb n) (.bi .abs (.var 3)) [some (.dat (.list (ns.map .int))), some (.dat (.list (ns.map .int))), none, some (.dat (.int i))] s1).bind fun v s2 => match isOut v with
          | some v => Res.ok (some v) s2
          | none => .stuck
        | false => .ok none s1) = _
      simp only [T_cmp, E_bi, E_bin, E_var, E_lit, Res.bind_ok, Res.of_some, List.getElem?_cons_zero, List.getElem?_cons_succ, Option.bind_some, id_eq, view_dat, ba, p18, cge]
      by_cases h : (10 : Int) ^ 18 ≤ (if i < 0 then -i else i)
      · rw [decide_eq_true h, if_pos h]; rfl
      · rw [decide_eq_false h, if_neg h]; rfl
  have mu1 : mutV (.new (dp.map fun i => .dat (.int i))) [] = .ok (.ref 0) [.lst (dp.map fun i => .dat (.int i))] := by
    show (if (dp.map fun i => Va.dat (.int i)).all (·.low 0) = true then _ else _) = _
    rw [if_pos (List.all_eq_true.mpr fun x hx => by obtain ⟨i, _, rfl⟩ := List.mem_map.mp hx; rfl)]
    rfl
  have l2 : evE (callF tb n) (.lc [("cell", 3)] (.v 3) (.iseq (.var 1)) .yes (.bin .add (.bin .mul (.lit (.int 2)) (.bi .abs (.var 3))) (.bi .int (.cmp .lt (.var 3) (.lit (.int 0)))))) [some (.dat (.list (ns.map .int))), some (.dat (.list (ns.map .int))), some (.ref 0), none] [.lst (dp.map fun i => .dat (.int i))] =
      .ok (.new (((ns.map fun i => 2 * (if i < 0 then -i else i) + (if decide (i < 0) = true then 1 else 0)).map PyData.int).map .dat)) [.lst (dp.map fun i => .dat (.int i))] := by
    rw [ev_lc_map (xs := ns) (F := fun i => .dat (.int i)) (G := fun i => some (.dat (.int (2 * (if i < 0 then -i else i) + (if decide (i < 0) = true then 1 else 0))))) (src _ _ _) (by omega) fun i _ => ?_]
    · rw [fm_some, List.map_map, List.map_map]; rfl
    · show ((evE (callF tb n) (.bin .add (.bin .mul (.lit (.int 2)) (.bi .abs (.var 3))) (.bi .int (.cmp .lt (.var 3) (.lit (.int 0))))) [some (.dat (.list (ns.map .int))), some (.dat (.list (ns.map .int))), some (.ref 0), some (.dat (.int i))] _).bind fun v s2 => match isOut v with
          | some v => Res.ok (some v) s2
          | none => .stuck) = _
      have cl : (opCmp .lt (.int i) (.int 0)).map (fun c => Va.dat (.bool c)) = some (.dat (.bool (decide (i < 0)))) := rfl
      simp only [E_cmp, E_bi, E_bin, E_var, E_lit, Res.bind_ok, Res.of_some, List.getElem?_cons_zero, List.getElem?_cons_succ, Option.bind_some, id_eq, view_dat, ba, m2, cl, bb, a_add, isOut_dat]
  have fz1 : ∀ st, frzV (.new ((ns.map PyData.int).map .dat)) st = .ok (.dat (.list (ns.map .int))) st := fun st => frz_dats _ _
  unfold F_law_urn
  simp only [S_seq, S_set, E_frz, E_mut, E_slc, E_nopart, E_var, E_lit, Res.bind_ok, Res.of_some, List.getElem?_cons_zero, List.getElem?_cons_succ, Option.bind_some, id_eq, pn, pi, sl, fz1, isOut_dat, isOut_ref, setEnv, List.set_cons_succ, List.set_cons_zero, l1, mu1]
  have bs : biF .sum (.list (ns.map .int)) = some (.dat (.int ns.sum)) := by
    show (isInts (ns.map .int)).map _ = _
    rw [isInts_map]; rfl
  have vc : ∀ st i, view st (.new [.dat (.int i)]) = some (.list [.int i]) := fun _ _ => rfl
  have ad : opBin .add (.list ((ns.map fun i => 2 * (if i < 0 then -i else i) + (if decide (i < 0) = true then 1 else 0)).map PyData.int)) (.list [.int (9176 + ns.length)]) = some (.new ((((ns.map fun i => 2 * (if i < 0 then -i else i) + (if decide (i < 0) = true then 1 else 0)) ++ [9176 + (ns.length : Int)]).map PyData.int).map .dat)) := by
    show (if ((ns.map fun i => 2 * (if i < 0 then -i else i) + (if decide (i < 0) = true then 1 else 0)).map PyData.int).length + 1 ≤ 16777216 then some (Va.new ((((ns.map fun i => 2 * (if i < 0 then -i else i) + (if decide (i < 0) = true then 1 else 0)).map PyData.int) ++ [PyData.int (9176 + ns.length)]).map Va.dat)) else none) = _
    rw [if_pos (by simp only [List.length_map]; omega)]
    rw [List.map_append (l₁ := ns.map _)]; rfl
  simp only [S_ret, S_nil, E_frz, E_mut, E_lst, E_bin, E_bi, l2, A_cons, A_nil, E_var, E_lit, Res.bind_ok, Res.of_some, List.getElem?_cons_zero, List.getElem?_cons_succ, Option.bind_some, id_eq, isOut_dat, isOut_ref, view_dat, view_new, b_len, List.length_map, a_add, vc, ad, frz_dats, bs]
  refine ⟨rfl, dp, (ns.map fun i => 2 * (if i < 0 then -i else i) + (if decide (i < 0) = true then 1 else 0)) ++ [9176 + (ns.length : Int)], ns.sum, 0, by simp, rfl⟩
end PK

/-! PKW: a row that is drawn. -/
namespace PK
open PySem RS
variable {tb : List FnT}
theorem row_ok {io it iw ir : Nat} {x1 x2 x3 : Int} (F : FnT) (hF : F = ⟨"_law_row_of", ["urn", "wide", "world"], ["urn", "wide", "world", "share", "found", "turn"], false,
   (.seq (.set 3 (.call io (.acons (.var 0) (.acons (.frz (.lst (.acons (.lit (.int x1)) (.acons (.lit (.int x2)) (.acons (.lit (.int x3)) .anil))))) .anil))))
    (.seq (.set 4 (.mut (.lc [("turn", 5)] (.v 5) (.irange1 (.var 1)) .yes (.ife (.cmp .eq (.call it (.acons (.var 0) (.acons (.var 3) .anil))) (.lit (.int 0))) (.lit .none) (.call iw (.acons (.var 0) (.acons (.var 2) .anil)))))))
    (.seq (.ifs (.cmp .eq (.var 4) (.bin .mul (.lst (.acons (.lit .none) .anil)) (.var 1)))
    (.seq (.setIx (.var 4) (.call it (.acons (.var 0) (.acons (.var 1) .anil))) (.call iw (.acons (.var 0) (.acons (.var 2) .anil))))
    .nil)
    .nil)
    (.seq (.ret (.bi .tuple (.var 4)))
    .nil))))⟩) (hr : tb[ir]? = some F) (ho : tb[io]? = some (F_law_one it)) (hW : tb[iw]? = some (F_law_whole it)) (ht : tb[it]? = some F_law_take) (hx1 : 0 < x1 ∧ x1 < 1000) (hx2 : 0 < x2 ∧ x2 < 1000) (hx3 : 0 < x3 ∧ x3 < 1000)
    (n w : Nat) (a b : Int) (rest st : Sto) (hw : Wd a b) (h1 : 1 ≤ w) (h4 : w ≤ 4) (hd : Dr rest st) :
    Ev (callF tb (n + 3) ir [.ref 1, .dat (.int w), .dat (.list [.int a, .int b])] st) (fun v st' => ∃ s, v = .dat (TD s) ∧ Sd M1 w s ∧ pres s ≠ [] ∧ Dr rest st') := by
  obtain ⟨v1, st1, e1, d1, rfl, m1, hd1⟩ := (one_ok ho ht n [.int x1, .int x2, .int x3] rest st (by simp) (by simp) hd).get
  obtain ⟨sz, hsz, s0, s1⟩ : ∃ sz : Int, d1 = .int sz ∧ 0 < sz ∧ sz < 1073741824 := by
    simp only [List.mem_cons, List.mem_nil_iff, or_false] at m1
    rcases m1 with rfl | rfl | rfl
    · exact ⟨_, rfl, by omega, by omega⟩
    · exact ⟨_, rfl, by omega, by omega⟩
    · exact ⟨_, rfl, by omega, by omega⟩
  subst hsz
  subst hF
  refine ev_call hr rfl ?_
  show Ev (evS (callF tb (n + 2)) _ [some (.ref 1), some (.dat (.int w)), some (.dat (.list [.int a, .int b])), none, none, none] st) (finE false st.length _)
  have z1 : frzV (.new [.dat (.int x1), .dat (.int x2), .dat (.int x3)]) st = .ok (.dat (.list [.int x1, .int x2, .int x3])) st := rfl
  rw [S_seq, S_set]
  simp only [E_call, E_frz, E_lst, A_cons, A_nil, E_var, E_lit, Res.bind_ok, Res.of_some, List.getElem?_cons_zero, List.getElem?_cons_succ, Option.bind_some, id_eq, isOut_dat, isOut_ref, z1, e1, setEnv, List.set_cons_succ, List.set_cons_zero]
  have lc : Ev (evE (callF tb (n + 2)) (.lc [("turn", 5)] (.v 5) (.irange1 (.var 1)) .yes (.ife (.cmp .eq (.call it (.acons (.var 0) (.acons (.var 3) .anil))) (.lit (.int 0))) (.lit .none) (.call iw (.acons (.var 0) (.acons (.var 2) .anil)))))
      [some (.ref 1), some (.dat (.int w)), some (.dat (.list [.int a, .int b])), some (.dat (.int sz)), none, none] st1) (fun v st' => ∃ s, v = .new (s.map VD) ∧ Sd M1 w s ∧ Dr rest st') := by
    rw [evE, Ev_bind, evI, E_var]
    show Ev (if (w : Int) ≤ 16777216 ∧ -16777216 ≤ (w : Int) then Res.ok (Src.mk (upto 0 (w : Int).toNat) none) st1 else .stuck) _
    rw [if_pos ⟨by omega, by omega⟩, Ev_ok]
    show Ev (if (upto 0 (w : Int).toNat).length ≤ 16777216 then (lcL (lcF (callF tb (n + 2)) (.v 5) (wipeE [some (.ref 1), some (.dat (.int w)), some (.dat (.list [.int a, .int b])), some (.dat (.int sz)), none, none] [("turn", 5)]) .yes (.ife (.cmp .eq (.call it (.acons (.var 0) (.acons (.var 3) .anil))) (.lit (.int 0))) (.lit .none) (.call iw (.acons (.var 0) (.acons (.var 2) .anil))))) (upto 0 (w : Int).toNat) st1).bind fun xs st2 => Res.ok (Va.new xs) st2 else .stuck) _
    rw [if_pos (by rw [upto_len]; omega), Ev_bind]
    refine (lcL_ev (Dr rest) (fun v => ∃ a, v = VD a ∧ Sn M1 a) _ _ (fun x hx s hs => ?_) hd1).imp fun vs s' ⟨h, l, q⟩ => ?_
    · obtain ⟨v2, st2, e2, r, rfl, r0, r1, hd2⟩ := (take_ok ht (n + 1) sz rest s s0 s1 hs).get
      have hx' : ∃ j, x = .dat (.int j) := by
        obtain ⟨k, hk, e⟩ := List.mem_iff_getElem.mp hx
        have := upto_get (w : Int).toNat 0 k (by rwa [upto_len] at hk)
        rw [List.getElem?_eq_getElem hk, e] at this
        exact ⟨_, Option.some.inj this⟩
      obtain ⟨j, rfl⟩ := hx'
      show Ev ((evE (callF tb (n + 2)) (.ife (.cmp .eq (.call it (.acons (.var 0) (.acons (.var 3) .anil))) (.lit (.int 0))) (.lit .none) (.call iw (.acons (.var 0) (.acons (.var 2) .anil))))
        [some (.ref 1), some (.dat (.int w)), some (.dat (.list [.int a, .int b])), some (.dat (.int sz)), none, some (.dat (.int j))] s).bind fun v s2 => match isOut v with | some v => Res.ok (some v) s2 | none => .stuck) _
      have ceq : opCmp .eq (.int r) (.int 0) = some (decide (r = 0)) := by
        show (if flatD 60 (.int r) = true ∧ flatD 60 (.int 0) = true then some (PyData.eqv (.int r) (.int 0)) else none) = _
        rw [if_pos ⟨by unfold flatD; rfl, by unfold flatD; rfl⟩]
        by_cases h : r = 0 <;> simp [PyData.eqv, h]
      simp only [E_ife, T_cmp, E_call, A_cons, A_nil, E_var, E_lit, Res.bind_ok, Res.of_some, List.getElem?_cons_zero, List.getElem?_cons_succ, Option.bind_some, id_eq, isOut_dat, isOut_ref, view_dat, e2, ceq]
      by_cases hr : r = 0
      · simp only [decide_eq_true hr, Res.bind_ok, isOut_dat, Ev_ok]
        exact ⟨hd2, _, rfl, none, rfl, sn_none⟩
      · obtain ⟨v3, st3, e3, i, rfl, hi, hd3⟩ := (whole_ok hW ht n a b rest st2 hw hd2).get
        simp only [decide_eq_false hr, e3, Res.bind_ok, isOut_dat, Ev_ok]
        exact ⟨hd3, _, rfl, some i, rfl, fun k e => by cases e; exact hi⟩
    · obtain ⟨s, rfl, hs⟩ := nums_of q
      rw [Ev_ok]
      refine ⟨s, rfl, ⟨?_, hs⟩, h⟩
      rw [List.length_map, upto_len] at l
      omega
  obtain ⟨v2, st2, e2, s, rfl, hs, hd2⟩ := lc.get
  have mu : mutV (.new (s.map VD)) st2 = .ok (.ref st2.length) (st2 ++ [.lst (s.map VD)]) := by
    show (if (s.map VD).all (·.low st2.length) = true then _ else _) = _
    rw [if_pos (vd_low _ _)]
  have lst2 := dr_leng hd2
  have vw : ∀ (t : List Num) (st0 : Sto), st0.length = rest.length + 2 → view (st0 ++ [.lst (t.map VD)]) (.ref (rest.length + 2)) = some (.list (t.map D)) := fun t st0 h => by
    show (cellItems (st0 ++ [.lst (t.map VD)])[rest.length + 2]?).bind _ = _
    rw [← h, get_last]
    show (undat (t.map VD)).map _ = _
    rw [undat_VD]; rfl
  have un1 : Res.ok (Va.new [Va.dat PyData.none]) = Res.ok (Va.new [Va.dat PyData.none]) := rfl
  have vn : ∀ st : Sto, view st (.new [.dat .none]) = some (.list [.none]) := fun _ => rfl
  have test : ∀ φ, evT φ (.cmp .eq (.var 4) (.bin .mul (.lst (.acons (.lit .none) .anil)) (.var 1))) [some (.ref 1), some (.dat (.int w)), some (.dat (.list [.int a, .int b])), some (.dat (.int sz)), some (.ref (rest.length + 2)), none] (st2 ++ [.lst (s.map VD)]) = .ok (decide (s = nones w)) (st2 ++ [.lst (s.map VD)]) := fun φ => by
    simp only [T_cmp, E_bin, E_lst, A_cons, A_nil, E_var, E_lit, Res.bind_ok, Res.of_some, List.getElem?_cons_zero, List.getElem?_cons_succ, Option.bind_some, id_eq, isOut_dat, view_dat, vn, mul_noneL w (by omega), vw s st2 lst2, view_VD, c_eqL]
  have ends : ∀ (t : List Num) (st0 : Sto), Sd M1 w t → pres t ≠ [] → Dr rest st0 → Ev (evS (callF tb (n + 2)) (.seq (.ret (.bi .tuple (.var 4))) .nil) [some (.ref 1), some (.dat (.int w)), some (.dat (.list [.int a, .int b])), some (.dat (.int sz)), some (.ref (rest.length + 2)), none] (st0 ++ [.lst (t.map VD)])) (finE false st.length fun v st' => ∃ s, v = .dat (TD s) ∧ Sd M1 w s ∧ pres s ≠ [] ∧ Dr rest st') := fun t st0 ht hp h0 => by
    have l0 := dr_leng h0
    have bt : biF .tuple (.list (t.map D)) = some (.dat (TD t)) := rfl
    simp only [S_seq, S_ret, E_bi, E_var, Res.bind_ok, Res.of_some, List.getElem?_cons_zero, List.getElem?_cons_succ, Option.bind_some, id_eq, vw t st0 l0, bt, isOut_dat, Ev_ok, finE_rt, fin_dat]
    refine ⟨t, rfl, ht, hp, ?_⟩
    rw [dr_leng hd, ← l0, List.take_left']
    · exact h0
    · rfl
  rw [S_seq, S_set]
  simp only [E_mut, e2, Res.bind_ok, mu, isOut_ref, setEnv, List.set_cons_succ, List.set_cons_zero, lst2]
  rw [S_seq, S_ifs, test]
  by_cases hn : s = nones w
  · rw [decide_eq_true hn, Res.bind_ok]
    have hd2b : Dr (rest ++ [.lst (s.map VD)]) (st2 ++ [.lst (s.map VD)]) := dr_app _ hd2
    obtain ⟨v3, st3, e3, i, rfl, hi, hd3⟩ := (whole_ok hW ht n a b _ _ hw hd2b).get
    obtain ⟨v4, st4, e4, r, rfl, r0, r1, hd4⟩ := (take_ok ht (n + 1) w _ _ (by omega) (by omega) hd3).get
    obtain ⟨st5, rfl, hd5, l5⟩ := dr_last hd4
    have hrl : r.toNat < s.length := by have := hs.1; omega
    have sv : setV (.ref (rest.length + 2)) (.int r) (.dat (.int i)) (st5 ++ [.lst (s.map VD)]) = .ok () (st5 ++ [.lst ((s.set r.toNat (some i)).map VD)]) := by
      unfold setV
      rw [← l5]
      dsimp only
      rw [get_last]
      dsimp only
      rw [if_pos ⟨rfl, r0, by rw [List.length_map]; exact hrl⟩, set_last, List.map_set]
      rfl
    simp only [S_seq, S_setIx, S_nil, E_call, A_cons, A_nil, E_var, Res.bind_ok, Res.of_some, List.getElem?_cons_zero, List.getElem?_cons_succ, Option.bind_some, id_eq, isOut_dat, isOut_ref, e3, e4, sv]
    have q := ends (s.set r.toNat (some i)) st5 ⟨by rw [List.length_set]; exact hs.1, fun x hx => ?_⟩ ?_ hd5
    · simpa only [S_seq, S_nil] using q
    · rcases List.mem_or_eq_of_mem_set hx with h | rfl
      · exact hs.2 x h
      · intro k e; cases e; exact hi
    · intro z
      have z2 := pres_nil.mp z
      rw [List.length_set] at z2
      have := congrArg (fun l => l[r.toNat]?) z2
      simp only [List.getElem?_set_self hrl, nones, List.getElem?_replicate] at this
      rw [if_pos hrl] at this
      cases this
  · rw [decide_eq_false hn, Res.bind_ok]
    simp only [S_nil, Res.bind_ok]
    refine ends s st2 hs (fun z => hn ?_) hd2
    have := pres_nil.mp z
    rw [hs.1] at this
    exact this
end PK
namespace PK
example (io it iw : Nat) : F_law_row_of io it iw = ⟨"_law_row_of", ["urn", "wide", "world"], ["urn", "wide", "world", "share", "found", "turn"], false, (F_law_row_of io it iw).body⟩ := rfl
end PK

/-! PKS: shifts below a row, spans. -/
namespace PK
open PySem RS
variable {tb : List FnT}
/-- the differences, none where the row has no integer -/
def difs (s t : List Num) : List Num := (List.zip s t).filterMap fun p => p.1.map fun o => p.2.map fun h => h - o
def minI : List Int → Num
  | [] => none
  | n :: r => some (r.foldl min n)
/-- the greatest shift by which s is nowhere above t -/
def under (s t : List Num) : Num := if none ∈ difs s t then none else minI ((difs s t).filterMap id)
theorem inn_none (L : List Num) : opCmp .inn .none (.list (L.map D)) = some (decide (none ∈ L)) := by
  show (if flatD 60 .none = true ∧ flatD 60 (.list (L.map D)) = true then some ((L.map D).any fun z => PyData.eqv z .none) else none) = _
  rw [if_pos ⟨by unfold flatD; rfl, flat_LD 59 L⟩]
  congr 1
  induction L with
  | nil => rfl
  | cons a L ih =>
    rw [List.map_cons, List.any_cons, ih]
    cases a with
    | none => simp [D, PyData.eqv]
    | some i =>
      have : PyData.eqv (D (some i)) .none = false := rfl
      rw [this]
      simp
theorem ints_some : ∀ (L : List Num), none ∉ L → isInts (L.map D) = some (L.filterMap id)
  | [], _ => rfl
  | none :: L, h => absurd List.mem_cons_self h
  | some i :: L, h => by
    have := ints_some L fun m => h (List.mem_cons_of_mem _ m)
    show (isInts (L.map D)).map (i :: ·) = _
    rw [this]; rfl
theorem under_ok {iu : Nat} (hu : tb[iu]? = some F_shift_under) (n : Nat) (s t : List Num) (st : Sto) (hs : s.length ≤ 1000) : callF tb (n + 1) iu [.dat (TD s), .dat (TD t)] st = .ok (VD (under s t)) st := by
  refine call_eq (F := F_shift_under) (ρ := [some (.dat (TD s)), some (.dat (TD t)), none, none, none]) hu rfl rfl rfl ?_
  unfold F_shift_under
  dsimp only
  have lc : evE (callF tb n) (.lc [("own", 3), ("high", 4)] (.t [3, 4]) (.izip (.var 0) (.var 1)) (.cmp .notN (.var 3) (.lit .none)) (.ife (.cmp .isN (.var 4) (.lit .none)) (.lit .none) (.bin .sub (.var 4) (.var 3)))) [some (.dat (TD s)), some (.dat (TD t)), none, none, none] st = .ok (.new ((difs s t).map VD)) st := by
    rw [ev_lc_map (xs := List.zip s t) (F := fun p => .dat (.tuple [D p.1, D p.2])) (G := fun p => (p.1.map fun o => p.2.map fun h => h - o).map VD) ?_ (by rw [List.length_zip]; omega) fun a _ => ?_]
    · rw [difs, List.map_filterMap]
    · rw [evI]
      show (match zipD (viewN (.dat (TD s))) (viewN (.dat (TD t))) with | some zs => Res.ok (Src.mk zs none) st | none => .stuck) = _
      rw [items_zip]
    · obtain ⟨a, b⟩ := a
      show ((evT (callF tb n) (.cmp .notN (.var 3) (.lit .none)) [some (.dat (TD s)), some (.dat (TD t)), none, some (VD a), some (VD b)] st).bind fun x s1 => match x with
        | true => (evE (callF tb n) (.ife (.cmp .isN (.var 4) (.lit .none)) (.lit .none) (.bin .sub (.var 4) (.var 3))) [some (.dat (TD s)), some (.dat (TD t)), none, some (VD a), some (VD b)] s1).bind fun v s2 => match isOut v with | some v => Res.ok (some v) s2 | none => .stuck
        | false => .ok none s1) = _
      have te : evT (callF tb n) (.cmp .notN (.var 3) (.lit .none)) [some (.dat (TD s)), some (.dat (TD t)), none, some (VD a), some (VD b)] st = .ok a.isSome st := by
        rw [T_cmp]; cases a <;> rfl
      rw [te]
      cases a with
      | none => rfl
      | some i =>
        have ie : evE (callF tb n) (.ife (.cmp .isN (.var 4) (.lit .none)) (.lit .none) (.bin .sub (.var 4) (.var 3))) [some (.dat (TD s)), some (.dat (TD t)), none, some (VD (some i)), some (VD b)] st = .ok (VD (b.map fun h => h - i)) st := by
          have t2 : evT (callF tb n) (.cmp .isN (.var 4) (.lit .none)) [some (.dat (TD s)), some (.dat (TD t)), none, some (VD (some i)), some (VD b)] st = .ok b.isNone st := by
            rw [T_cmp]; cases b <;> rfl
          rw [E_ife, t2]
          cases b with
          | none => rfl
          | some j =>
            simp only [Option.isNone_some, Res.bind_ok]
            rw [E_bin]; rfl
        show ((evE (callF tb n) _ _ st).bind _) = _
        rw [ie]; rfl
  have fz : frzV (.new ((difs s t).map VD)) st = .ok (.dat (.list ((difs s t).map D))) st := by rw [← items_TD]; exact frz_dats _ _
  have e0 : opCmp .eq (.list ((difs s t).map D)) (.list []) = some (decide (difs s t = [])) := c_eqL (difs s t) []
  have vn : view st (.new []) = some (.list []) := rfl
  simp only [S_seq, S_set, S_ret, E_frz, lc, fz, Res.bind_ok, isOut_dat, setEnv, List.set_cons_succ, List.set_cons_zero]
  have pick : evE (callF tb n) (.ife (.or (.cmp .eq (.var 2) (.lst .anil)) (.last (.cmp .inn (.lit .none) (.var 2)))) (.lit .none) (.bi .minL (.var 2))) [some (.dat (TD s)), some (.dat (TD t)), some (.dat (.list ((difs s t).map D))), none, none] st = .ok (VD (under s t)) st := by
    simp only [E_ife, T_or, T_last, T_cmp, E_lst, A_nil, E_var, E_lit, E_bi, Res.bind_ok, Res.of_some, List.getElem?_cons_zero, List.getElem?_cons_succ, Option.bind_some, id_eq, view_dat, vn, e0, inn_none]
    by_cases h1 : difs s t = []
    · rw [decide_eq_true h1, under, h1]; rfl
    · rw [decide_eq_false h1]
      simp only []
      by_cases h2 : none ∈ difs s t
      · simp only [decide_eq_true h2, Res.bind_ok, under, if_pos h2]
        rfl
      · simp only [decide_eq_false h2, Res.bind_ok, under, if_neg h2]
        have q : biF .minL (.list ((difs s t).map D)) = some (VD (minI ((difs s t).filterMap id))) := by
          show (isInts ((difs s t).map D)).bind _ = _
          rw [ints_some _ h2]
          have ne : (difs s t).filterMap id ≠ [] := fun z => by
            cases e : difs s t with
            | nil => exact h1 e
            | cons a L =>
              rw [e] at z h2
              cases a with
              | none => exact h2 List.mem_cons_self
              | some i => cases z
          cases e : (difs s t).filterMap id with
          | nil => exact absurd e ne
          | cons m r => rfl
        rw [q]; rfl
  rw [pick]
  rfl
/-- the rows' shifts laid over one another -/
def belows (rows : List (List Num)) (t : List Num) (found : List Num) : List Num := rows.foldl (fun f s => lay f (sh s (under s t))) found
def belowR (rows : List (List Num)) (t : List Num) : List Num := belows rows t (nones t.length)
def RD (rows : List (List Num)) : PyData := .tuple (rows.map TD)
theorem RD_items (rows : List (List Num)) : (rows.map TD).map Va.dat = rows.map fun s => .dat (TD s) := by rw [List.map_map]; rfl
theorem lay_len (s t : List Num) : (lay s t).length = min s.length t.length := List.length_zipWith
theorem sh_len (s : List Num) (b : Num) : (sh s b).length = s.length := List.length_map _
theorem belows_loop {il it ish ip iu : Nat} (hl : tb[il]? = some (F_laid it)) (ht : tb[it]? = some F_top) (hsh : tb[ish]? = some (F_shifted ip)) (hp : tb[ip]? = some F_plus) (hu : tb[iu]? = some F_shift_under) (n : Nat) (R T : Va) (t : List Num) (hT : T = .dat (TD t)) (st : Sto) :
    ∀ (rows : List (List Num)) (found : List Num) (x y : Option Va), (∀ s ∈ rows, s.length ≤ 1000) → found.length ≤ 1000 → ∃ x', forL (fun ρ s => evS (callF tb (n + 2)) (.seq (.set 2 (.call il (.acons (.var 2) (.acons (.call ish (.acons (.var 3) (.acons (.call iu (.acons (.var 3) (.acons (.var 1) .anil))) .anil))) .anil)))) .nil) ρ s) (.v 3)
      (rows.map fun s => .dat (TD s)) [some R, some T, some (.dat (TD found)), x, y] st = .ok (.nx [some R, some T, some (.dat (TD (belows rows t found))), x', y]) st
  | [], found, x, y, _, _ => ⟨x, rfl⟩
  | s :: rows, found, x, y, hs, hf => by
    subst hT
    obtain ⟨x', ih⟩ := belows_loop hl ht hsh hp hu n R _ t rfl st rows (lay found (sh s (under s t))) (some (.dat (TD s))) y (fun z hz => hs z (List.mem_cons_of_mem _ hz)) (by rw [lay_len]; omega)
    refine ⟨x', ?_⟩
    have l := hs s List.mem_cons_self
    rw [List.map_cons, forL]
    show ((evS (callF tb (n + 2)) _ [some R, some (.dat (TD t)), some (.dat (TD found)), some (.dat (TD s)), y] st).bind _) = _
    simp only [S_seq, S_set, S_nil, E_call, A_cons, A_nil, E_var, Res.bind_ok, Res.of_some, List.getElem?_cons_zero, List.getElem?_cons_succ, Option.bind_some, id_eq, isOut_dat, setEnv, List.set_cons_succ, List.set_cons_zero, under_ok hu (n + 1) s t st l, shifted_ok hsh hp n s _ st l, laid_ok hl ht n found _ st hf]
    exact ih
/-- what laid_below tells -/
def belowD (rows : List (List Num)) (t : List Num) : PyData := if pres (belowR rows t) = [] then .none else TD (belowR rows t)
theorem any_pres (s : List Num) : (s.map fun a => a.isSome).any id = !decide (pres s = []) := by
  induction s with
  | nil => rfl
  | cons a s ih =>
    cases a with
    | none =>
      rw [List.map_cons, List.any_cons, ih]
      show (false || !decide (pres s = [])) = !decide (pres (none :: s) = [])
      rw [show pres (none :: s) = pres s from rfl, Bool.false_or]
    | some i =>
      rw [List.map_cons, List.any_cons]
      show (true || _) = !decide (pres (some i :: s) = [])
      rw [show pres (some i :: s) = i :: pres s from rfl]
      simp
theorem below_okG {ib il it ish ip iu : Nat} (hb : tb[ib]? = some (F_laid_below il ish iu)) (hl : tb[il]? = some (F_laid it)) (ht : tb[it]? = some F_top) (hsh : tb[ish]? = some (F_shifted ip)) (hp : tb[ip]? = some F_plus) (hu : tb[iu]? = some F_shift_under)
    (n : Nat) (R : PyData) (rows : List (List Num)) (hR : ∀ st, itemsOf st (.dat R) = some (rows.map fun s => Va.dat (TD s))) (t : List Num) (st : Sto) (hr : ∀ s ∈ rows, s.length ≤ 1000) (hs : t.length ≤ 1000) : callF tb (n + 3) ib [.dat R, .dat (TD t)] st = .ok (.dat (belowD rows t)) st := by
  refine call_eq (F := F_laid_below il ish iu) (ρ := [some (.dat R), some (.dat (TD t)), none, none, none]) hb rfl rfl rfl ?_
  unfold F_laid_below
  dsimp only
  have lc : evE (callF tb (n + 2)) (.lc [("number", 4)] (.v 4) (.iseq (.var 1)) .yes (.lit .none)) [some (.dat R), some (.dat (TD t)), none, none, none] st = .ok (.new ((nones t.length).map VD)) st := by
    rw [ev_lc_map (xs := t) (F := VD) (G := fun _ => some (VD none)) (by rw [← items_TD]; rfl) hs fun a _ => by rfl]
    rw [fm_some]
    congr 2
    induction t with
    | nil => rfl
    | cons a t ih => rw [List.map_cons, ih (by simp only [List.length_cons] at hs; omega)]; rfl
  obtain ⟨x', lp⟩ := belows_loop hl ht hsh hp hu n (.dat R) _ t rfl st rows (nones t.length) none none hr (by rw [nones, List.length_replicate]; exact hs)
  have bt : biF .tuple (.list ((nones t.length).map D)) = some (.dat (TD (nones t.length))) := rfl
  have it' : itemsOf st (.dat R) = some (rows.map fun s => .dat (TD s)) := hR st
  have bl : (belowR rows t).length ≤ 1000 := by
    have : ∀ (rows : List (List Num)) (f : List Num), f.length ≤ 1000 → (belows rows t f).length ≤ 1000 := by
      intro rows
      induction rows with
      | nil => intro f h; exact h
      | cons s rows ih => intro f h; exact ih _ (by rw [lay_len]; omega)
    exact this rows _ (by rw [nones, List.length_replicate]; exact hs)
  have lc2 : evE (callF tb (n + 2)) (.lc [("number", 4)] (.v 4) (.iseq (.var 2)) .yes (.cmp .notN (.var 4) (.lit .none))) [some (.dat R), some (.dat (TD t)), some (.dat (TD (belowR rows t))), x', none] st = .ok (.new ((((belowR rows t).map fun a => a.isSome).map PyData.bool).map .dat)) st := by
    rw [ev_lc_map (xs := belowR rows t) (F := VD) (G := fun a => some (.dat (.bool a.isSome))) (by rw [← items_TD]; rfl) bl fun a _ => ?_]
    · rw [fm_some, List.map_map, List.map_map]; rfl
    · show ((evE (callF tb (n + 2)) (.cmp .notN (.var 4) (.lit .none)) [some (.dat R), some (.dat (TD t)), some (.dat (TD (belowR rows t))), x', some (VD a)] st).bind fun v s2 => match isOut v with | some v => Res.ok (some v) s2 | none => .stuck) = _
      rw [E_cmp]; cases a <;> rfl
  have ba : biF .any (.list (((belowR rows t).map fun a => a.isSome).map PyData.bool)) = some (.dat (.bool (!decide (pres (belowR rows t) = [])))) := by
    show (isBools _).map _ = _
    rw [isBools_map, ← any_pres]; rfl
  simp only [S_seq, S_set, E_bi, lc, view_VD, bt, Res.bind_ok, Res.of_some, isOut_dat, setEnv, List.set_cons_succ, List.set_cons_zero]
  rw [evS, evI, E_var]
  simp only [List.getElem?_cons_zero, Option.bind_some, id_eq, Res.of_some, Res.bind_ok, it']
  show ((forL _ _ _ _ st).bind _) = _
  rw [lp]
  simp only [Res.bind_ok, S_ret, E_ife]
  have te : evT (callF tb (n + 2)) (.bi .any (.lc [("number", 4)] (.v 4) (.iseq (.var 2)) .yes (.cmp .notN (.var 4) (.lit .none)))) [some (.dat R), some (.dat (TD t)), some (.dat (TD (belowR rows t))), x', none] st = .ok (!decide (pres (belowR rows t) = [])) st := by
    rw [evT, lc2]
    simp only [Res.bind_ok, view_new, ba, Res.of_some, asBool_bool]
  rw [show belows rows t (nones t.length) = belowR rows t from rfl, te]
  by_cases h : pres (belowR rows t) = []
  · simp only [decide_eq_true h, Bool.not_true, Res.bind_ok, E_lit, isOut_dat, belowD, if_pos h]
  · simp only [decide_eq_false h, Bool.not_false, Res.bind_ok, E_var, List.getElem?_cons_zero, List.getElem?_cons_succ, Option.bind_some, id_eq, Res.of_some, isOut_dat, belowD, if_neg h]
theorem below_ok {ib il it ish ip iu : Nat} (hb : tb[ib]? = some (F_laid_below il ish iu)) (hl : tb[il]? = some (F_laid it)) (ht : tb[it]? = some F_top) (hsh : tb[ish]? = some (F_shifted ip)) (hp : tb[ip]? = some F_plus) (hu : tb[iu]? = some F_shift_under)
    (n : Nat) (rows : List (List Num)) (t : List Num) (st : Sto) (hr : ∀ s ∈ rows, s.length ≤ 1000) (hs : t.length ≤ 1000) : callF tb (n + 3) ib [.dat (RD rows), .dat (TD t)] st = .ok (.dat (belowD rows t)) st :=
  below_okG hb hl ht hsh hp hu n (RD rows) rows (fun _ => by
    show some ((rows.map TD).map Va.dat) = _
    rw [RD_items]) t st hr hs
theorem below_okL {ib il it ish ip iu : Nat} (hb : tb[ib]? = some (F_laid_below il ish iu)) (hl : tb[il]? = some (F_laid it)) (ht : tb[it]? = some F_top) (hsh : tb[ish]? = some (F_shifted ip)) (hp : tb[ip]? = some F_plus) (hu : tb[iu]? = some F_shift_under)
    (n : Nat) (rows : List (List Num)) (t : List Num) (st : Sto) (hr : ∀ s ∈ rows, s.length ≤ 1000) (hs : t.length ≤ 1000) : callF tb (n + 3) ib [.dat (.list (rows.map TD)), .dat (TD t)] st = .ok (.dat (belowD rows t)) st :=
  below_okG hb hl ht hsh hp hu n (.list (rows.map TD)) rows (fun _ => by
    show some ((rows.map TD).map Va.dat) = _
    rw [RD_items]) t st hr hs
/-- is a row in the span -/
def isIn (rows : List (List Num)) (t : List Num) : Bool := decide (pres (belowR rows t) ≠ [] ∧ belowR rows t = t)
theorem cmp_below (rows : List (List Num)) (t : List Num) : opCmp .eq (belowD rows t) (TD t) = some (isIn rows t) := by
  unfold belowD isIn
  by_cases h : pres (belowR rows t) = []
  · rw [if_pos h, decide_eq_false (fun z => z.1 h)]
    show (if flatD 60 .none = true ∧ flatD 60 (TD t) = true then some (PyData.eqv .none (TD t)) else none) = _
    rw [if_pos ⟨by unfold flatD; rfl, flat_TD 59 t⟩]; rfl
  · rw [if_neg h, c_eqT]
    congr 1
    by_cases h2 : belowR rows t = t
    · rw [decide_eq_true h2, decide_eq_true ⟨h, h2⟩]
    · rw [decide_eq_false h2, decide_eq_false fun z => h2 z.2]
theorem c_neI (i j : Int) : opCmp .ne (.int i) (.int j) = some (!decide (i = j)) := by
  show (if flatD 60 (.int i) = true ∧ flatD 60 (.int j) = true then some (!PyData.eqv (.int i) (.int j)) else none) = _
  rw [if_pos ⟨by unfold flatD; rfl, by unfold flatD; rfl⟩]
  by_cases h : i = j <;> simp [PyData.eqv, h]
theorem need_ok {ip : Nat} (hp : tb[ip]? = some F_need_places) (n : Nat) (i : Int) (st : Sto) : callF tb (n + 1) ip [.dat (.int i), .dat (.int i)] st = .ok (.dat .none) st := by
  show (match tb[ip]? with | some F => runFn (callF tb n) F [.dat (.int i), .dat (.int i)] st | none => .stuck) = _
  rw [hp]
  show runFn (callF tb n) F_need_places _ st = _
  unfold runFn F_need_places
  dsimp only
  refine (if_pos (by rfl)).trans ?_
  show ((evS (callF tb n) (.seq (.ifs (.cmp .ne (.var 0) (.var 1)) _ .nil) .nil) [some (.dat (.int i)), some (.dat (.int i))] st).bind _) = _
  have te : evT (callF tb n) (.cmp .ne (.var 0) (.var 1)) [some (.dat (.int i)), some (.dat (.int i))] st = .ok false st := by
    simp only [T_cmp, E_var, Res.bind_ok, Res.of_some, List.getElem?_cons_zero, List.getElem?_cons_succ, Option.bind_some, id_eq, view_dat, c_neI]
    simp
  rw [S_seq, S_ifs, te]
  simp only [Res.bind_ok, S_nil]
  rw [fin_dat, List.take_length]
theorem need_exc {ip : Nat} (hp : tb[ip]? = some F_need_places) (n : Nat) (i j : Int) (st : Sto) (h : i ≠ j) : callF tb (n + 1) ip [.dat (.int i), .dat (.int j)] st = .exc ⟨"Unfit", [.str "Unfit", .str "RidgeError"], none⟩ st := by
  show (match tb[ip]? with | some F => runFn (callF tb n) F [.dat (.int i), .dat (.int j)] st | none => .stuck) = _
  rw [hp]
  show runFn (callF tb n) F_need_places _ st = _
  unfold runFn F_need_places
  dsimp only
  refine (if_pos (by rfl)).trans ?_
  show ((evS (callF tb n) (.seq (.ifs (.cmp .ne (.var 0) (.var 1)) _ .nil) .nil) [some (.dat (.int i)), some (.dat (.int j))] st).bind _) = _
  have te : evT (callF tb n) (.cmp .ne (.var 0) (.var 1)) [some (.dat (.int i)), some (.dat (.int j))] st = .ok true st := by
    simp only [T_cmp, E_var, Res.bind_ok, Res.of_some, List.getElem?_cons_zero, List.getElem?_cons_succ, Option.bind_some, id_eq, view_dat, c_neI]
    rw [decide_eq_false h]; rfl
  rw [S_seq, S_ifs, te]
  simp only [Res.bind_ok]
  rw [S_seq, evS]
  rfl
/-- the numbers at which the defs of spans stand -/
structure Span (tb : List FnT) (ii : Nat) where
  (ne ib il it ish ip iu : Nat)
  hi : tb[ii]? = some (F_is_in ne ib)
  hn : tb[ne]? = some F_need_places
  hb : tb[ib]? = some (F_laid_below il ish iu)
  hl : tb[il]? = some (F_laid it)
  ht : tb[it]? = some F_top
  hsh : tb[ish]? = some (F_shifted ip)
  hp : tb[ip]? = some F_plus
  hu : tb[iu]? = some F_shift_under
def LD (w : Int) (rows : List (List Num)) : PyData := .tuple [.int w, RD rows]
theorem len_TD (t : List Num) : biF .len (TD t) = some (.dat (.int t.length)) := by
  show some (Va.dat (.int (t.map D).length)) = _
  rw [List.length_map]
theorem isin_ok {ii : Nat} (S : Span tb ii) (n : Nat) (rows : List (List Num)) (t : List Num) (st : Sto) (hr : ∀ s ∈ rows, s.length ≤ 1000) (hs : t.length ≤ 1000) : callF tb (n + 4) ii [.dat (LD t.length rows), .dat (TD t)] st = .ok (.dat (.bool (isIn rows t))) st := by
  refine call_eq (F := F_is_in S.ne S.ib) (ρ := [some (.dat (LD t.length rows)), some (.dat (TD t))]) S.hi rfl rfl rfl ?_
  unfold F_is_in
  dsimp only
  have i0 : opIdx st (.dat (LD t.length rows)) (.int 0) = some (.dat (.int t.length)) := rfl
  have i1 : opIdx st (.dat (LD t.length rows)) (.int 1) = some (.dat (RD rows)) := rfl
  simp only [S_seq, S_expr, S_ret, S_nil, E_call, E_idx, E_cmp, E_bi, A_cons, A_nil, E_var, E_lit, Res.bind_ok, Res.of_some, List.getElem?_cons_zero, List.getElem?_cons_succ, Option.bind_some, id_eq, isOut_dat, view_dat, i0, i1, len_TD, need_ok S.hn (n + 2), below_ok S.hb S.hl S.ht S.hsh S.hp S.hu n rows t st hr hs, cmp_below, Option.map_some]
theorem isin_exc {ii : Nat} (S : Span tb ii) (n : Nat) (w : Int) (rows : List (List Num)) (t : List Num) (st : Sto) (hw : w ≠ t.length) : callF tb (n + 4) ii [.dat (LD w rows), .dat (TD t)] st = .exc ⟨"Unfit", [.str "Unfit", .str "RidgeError"], none⟩ st := by
  show (match tb[ii]? with | some F => runFn (callF tb (n + 3)) F [.dat (LD w rows), .dat (TD t)] st | none => .stuck) = _
  rw [S.hi]
  show runFn (callF tb (n + 3)) (F_is_in S.ne S.ib) _ st = _
  unfold runFn F_is_in
  dsimp only
  refine (if_pos (by rfl)).trans ?_
  have i0 : opIdx st (.dat (LD w rows)) (.int 0) = some (.dat (.int w)) := rfl
  show ((evS (callF tb (n + 3)) (.seq (.expr _) _) [some (.dat (LD w rows)), some (.dat (TD t))] st).bind _) = _
  rw [S_seq, S_expr]
  simp only [E_call, E_idx, E_bi, A_cons, A_nil, E_var, E_lit, Res.bind_ok, Res.of_some, List.getElem?_cons_zero, List.getElem?_cons_succ, Option.bind_some, id_eq, isOut_dat, view_dat, i0, len_TD, need_exc S.hn (n + 2) w _ st hw, Res.bind_exc]
end PK

/-! PKI: a row is in a span exactly if each of its integers is reached. -/
namespace PK
open PySem RS
theorem foldl_min_le : ∀ (r : List Int) (n : Int), r.foldl min n ≤ n ∧ ∀ y ∈ r, r.foldl min n ≤ y
  | [], n => ⟨Int.le_refl n, fun _ h => nomatch h⟩
  | a :: r, n => by
    obtain ⟨h1, h2⟩ := foldl_min_le r (min n a)
    refine ⟨by show r.foldl min (min n a) ≤ n; omega, fun y hy => ?_⟩
    show r.foldl min (min n a) ≤ y
    rcases List.mem_cons.mp hy with rfl | h
    · omega
    · exact h2 y h
theorem foldl_min_mem : ∀ (r : List Int) (n : Int), r.foldl min n = n ∨ r.foldl min n ∈ r
  | [], n => .inl rfl
  | a :: r, n => by
    show r.foldl min (min n a) = n ∨ r.foldl min (min n a) ∈ a :: r
    rcases foldl_min_mem r (min n a) with h | h
    · rw [h]
      by_cases q : n ≤ a
      · left; omega
      · right; exact List.mem_cons.mpr (.inl (by omega))
    · exact .inr (List.mem_cons_of_mem _ h)
theorem minI_spec {L : List Int} {k : Int} : minI L = some k ↔ k ∈ L ∧ ∀ y ∈ L, k ≤ y := by
  cases L with
  | nil =>
    constructor
    · intro h; cases h
    · rintro ⟨h, _⟩; cases h
  | cons n r =>
    obtain ⟨h1, h2⟩ := foldl_min_le r n
    have hm := foldl_min_mem r n
    constructor
    · intro h
      have h : some (r.foldl min n) = some k := h
      cases h
      refine ⟨?_, fun y hy => ?_⟩
      · rcases hm with h | h
        · rw [h]; exact List.mem_cons_self
        · exact List.mem_cons_of_mem _ h
      · rcases List.mem_cons.mp hy with rfl | h
        · exact h1
        · exact h2 y h
    · rintro ⟨h, l⟩
      show some (r.foldl min n) = some k
      rw [RS.foldl_min_eq r n k h l]
/-- a shift: some difference, no greater than any other, where the row has an integer wherever s has one -/
theorem under_spec {s t : List Num} {k : Int} : under s t = some k ↔ some k ∈ difs s t ∧ ∀ d ∈ difs s t, ∃ j, d = some j ∧ k ≤ j := by
  unfold under
  by_cases h : none ∈ difs s t
  · rw [if_pos h]
    constructor
    · intro e; cases e
    · rintro ⟨_, q⟩
      obtain ⟨j, e, _⟩ := q none h
      cases e
  · rw [if_neg h, minI_spec]
    simp only [List.mem_filterMap, id_eq, exists_eq_right]
    constructor
    · rintro ⟨h1, h2⟩
      refine ⟨h1, fun d hd => ?_⟩
      cases d with
      | none => exact absurd hd h
      | some j => exact ⟨j, rfl, h2 j hd⟩
    · rintro ⟨h1, h2⟩
      refine ⟨h1, fun y hy => ?_⟩
      obtain ⟨j, e, l⟩ := h2 _ hy
      cases e; exact l
/-- no difference is greater than the one told -/
def reach (s t : List Num) (sv tv : Int) : Bool := (List.zip s t).all fun p => match p.1, p.2 with
  | none, _ => true
  | some _, none => false
  | some a, some b => decide (a - sv ≤ b - tv)
theorem mem_difs {s t : List Num} {d : Num} : d ∈ difs s t ↔ ∃ a b, (some a, b) ∈ List.zip s t ∧ d = b.map fun h => h - a := by
  unfold difs
  rw [List.mem_filterMap]
  constructor
  · rintro ⟨⟨a, b⟩, h, e⟩
    cases a with
    | none => cases e
    | some a => cases e; exact ⟨a, b, h, rfl⟩
  · rintro ⟨a, b, h, e⟩
    exact ⟨(some a, b), h, by rw [e]; rfl⟩
theorem reach_iff {s t : List Num} {sv tv : Int} (h : (some sv, some tv) ∈ List.zip s t) : reach s t sv tv = true ↔ under s t = some (tv - sv) := by
  rw [under_spec]
  unfold reach
  rw [List.all_eq_true]
  constructor
  · intro q
    refine ⟨mem_difs.mpr ⟨sv, some tv, h, rfl⟩, fun d hd => ?_⟩
    obtain ⟨a, b, hm, rfl⟩ := mem_difs.mp hd
    have z := q _ hm
    cases b with
    | none => cases z
    | some b => exact ⟨b - a, rfl, by have := of_decide_eq_true z; omega⟩
  · rintro ⟨_, q⟩ ⟨a, b⟩ hm
    cases a with
    | none => rfl
    | some a =>
      obtain ⟨j, e, l⟩ := q _ (mem_difs.mpr ⟨a, b, hm, rfl⟩)
      cases b with
      | none => cases e
      | some b =>
        cases e
        have l : tv - sv ≤ b - a := l
        exact decide_eq_true (by omega)
/-- shifted so, s is nowhere above -/
theorem under_le {s t : List Num} {a b : Num} (h : (a, b) ∈ List.zip s t) : ∀ x, plusN a (under s t) = some x → ∃ y, b = some y ∧ x ≤ y := by
  intro x e
  cases a with
  | none => cases e
  | some a =>
    cases u : under s t with
    | none => rw [u] at e; cases e
    | some k =>
      rw [u] at e
      cases e
      obtain ⟨j, ej, l⟩ := (under_spec.mp u).2 _ (mem_difs.mpr ⟨a, b, h, rfl⟩)
      cases b with
      | none => cases ej
      | some b =>
        cases ej
        have l : k ≤ b - a := l
        exact ⟨b, rfl, by omega⟩
theorem topN_none (a : Num) : topN none a = a := rfl
/-- what stands at one place, of some laid over one another -/
theorem belows_get (t : List Num) (i : Nat) (hi : i < t.length) : ∀ (rows : List (List Num)) (f : List Num), (∀ s ∈ rows, s.length = t.length) → f.length = t.length →
    (belows rows t f)[i]? = some (rows.foldl (fun x s => topN x (plusN (s[i]?.getD none) (under s t))) (f[i]?.getD none))
  | [], f, _, hf => by
    show f[i]? = some (f[i]?.getD none)
    rw [List.getElem?_eq_getElem (by omega)]; rfl
  | s :: rows, f, hs, hf => by
    have l := hs s List.mem_cons_self
    show (belows rows t (lay f (sh s (under s t))))[i]? = _
    rw [belows_get t i hi rows (lay f (sh s (under s t))) (fun z hz => hs z (List.mem_cons_of_mem _ hz)) (by rw [lay_len, sh_len]; omega), List.foldl_cons]
    congr 2
    have e1 : f[i]? = some f[i] := List.getElem?_eq_getElem (by omega)
    have e2 : s[i]? = some s[i] := List.getElem?_eq_getElem (by omega)
    unfold lay sh
    rw [List.getElem?_zipWith, List.getElem?_map, e1, e2]
    rfl
/-- a number that is nowhere above v, laid over some of that kind -/
def leN (a b : Num) : Prop := ∀ x, a = some x → ∃ y, b = some y ∧ x ≤ y
theorem top_le {a b c : Num} (h1 : leN a c) (h2 : leN b c) : leN (topN a b) c := by
  intro x e
  cases a with
  | none => exact h2 x e
  | some a =>
    cases b with
    | none => exact h1 x e
    | some b =>
      obtain ⟨y, q1, l1⟩ := h1 a rfl
      obtain ⟨z, q2, l2⟩ := h2 b rfl
      rw [q1] at q2
      cases q2
      have e : max a b = x := by cases e; rfl
      exact ⟨y, q1, by omega⟩
theorem fold_le {v : Num} : ∀ (ns : List Num) (x : Num), leN x v → (∀ a ∈ ns, leN a v) → leN (ns.foldl topN x) v
  | [], x, h, _ => h
  | a :: ns, x, h, q => fold_le ns (topN x a) (top_le h (q a List.mem_cons_self)) fun b hb => q b (List.mem_cons_of_mem _ hb)
theorem fold_top {v : Int} : ∀ (ns : List Num) (x : Num), leN x (some v) → (∀ a ∈ ns, leN a (some v)) → (ns.foldl topN x = some v ↔ x = some v ∨ some v ∈ ns)
  | [], x, _, _ => by simp
  | a :: ns, x, h, q => by
    have ha := q a List.mem_cons_self
    rw [List.foldl_cons, fold_top ns (topN x a) (top_le h ha) fun b hb => q b (List.mem_cons_of_mem _ hb), List.mem_cons]
    have key : topN x a = some v ↔ x = some v ∨ some v = a := by
      cases x with
      | none =>
        show a = some v ↔ _
        exact ⟨fun e => .inr e.symm, fun e => e.elim (fun z => nomatch z) fun z => z.symm⟩
      | some x =>
        cases a with
        | none =>
          show some x = some v ↔ _
          exact ⟨.inl, fun e => e.elim id fun z => nomatch z⟩
        | some a =>
          show some (max x a) = some v ↔ _
          obtain ⟨_, e1, l1⟩ := h x rfl
          obtain ⟨_, e2, l2⟩ := ha a rfl
          cases e1
          cases e2
          simp only [Option.some.injEq]
          omega
    rw [key, or_assoc]
/-- each integer of the row is reached by some row -/
def made (rows : List (List Num)) (t : List Num) : Bool := (List.range t.length).all fun i => match t[i]?.getD none with
  | none => true
  | some tv => rows.any fun s => match s[i]?.getD none with
    | none => false
    | some sv => reach s t sv tv
theorem zip_get {s t : List Num} (h : s.length = t.length) {i : Nat} (hi : i < t.length) : (s[i]?.getD none, t[i]?.getD none) ∈ List.zip s t := by
  have e1 : s[i]? = some s[i] := List.getElem?_eq_getElem (by omega)
  have e2 : t[i]? = some t[i] := List.getElem?_eq_getElem (by omega)
  rw [e1, e2]
  have l : i < (List.zip s t).length := by rw [List.length_zip]; omega
  have := List.getElem_mem l
  rwa [List.getElem_zip] at this
theorem isIn_made (rows : List (List Num)) (t : List Num) (hr : ∀ s ∈ rows, s.length = t.length) (hp : pres t ≠ []) : isIn rows t = made rows t := by
  have bl : (belowR rows t).length = t.length := by
    have : ∀ (rows : List (List Num)) (f : List Num), (∀ s ∈ rows, s.length = t.length) → f.length = t.length → (belows rows t f).length = t.length := by
      intro rows
      induction rows with
      | nil => intro f _ h; exact h
      | cons s rows ih => intro f q h; exact ih _ (fun z hz => q z (List.mem_cons_of_mem _ hz)) (by have := q s List.mem_cons_self; rw [lay_len, sh_len]; omega)
    exact this rows _ hr (by rw [nones, List.length_replicate])
  have key : belowR rows t = t ↔ made rows t = true := by
    unfold made
    rw [List.all_eq_true]
    have each : ∀ i, i < t.length → ((belowR rows t)[i]? = t[i]? ↔ (match t[i]?.getD none with
        | none => true
        | some tv => rows.any fun s => match s[i]?.getD none with
          | none => false
          | some sv => reach s t sv tv) = true) := fun i hi => by
      have e2 : t[i]? = some t[i] := List.getElem?_eq_getElem hi
      have n0 : (nones t.length)[i]?.getD none = none := by
        rw [nones, List.getElem?_replicate]
        split <;> rfl
      rw [belowR, belows_get t i hi rows _ hr (by rw [nones, List.length_replicate]), n0, ← List.foldl_map (f := fun s : List Num => plusN (s[i]?.getD none) (under s t)) (g := topN)]
      have le : ∀ a ∈ rows.map (fun s : List Num => plusN (s[i]?.getD none) (under s t)), leN a (t[i]?.getD none) := fun a ha => by
        obtain ⟨s, hs, rfl⟩ := List.mem_map.mp ha
        exact under_le (zip_get (hr s hs) hi)
      rw [e2] at le ⊢
      simp only [Option.getD_some] at le ⊢
      cases ht : t[i] with
      | none =>
        rw [ht] at le
        have z := fold_le (v := none) _ none (fun x e => nomatch e) le
        refine ⟨fun _ => rfl, fun _ => congrArg some ?_⟩
        cases q : (rows.map (fun s : List Num => plusN (s[i]?.getD none) (under s t))).foldl topN none with
        | none => rfl
        | some x => obtain ⟨y, e, _⟩ := z x q; cases e
      | some tv =>
        rw [ht] at le
        rw [Option.some.injEq, fold_top _ none (fun x e => nomatch e) le, List.mem_map]
        simp only [reduceCtorEq, false_or, List.any_eq_true]
        constructor
        · rintro ⟨s, hs, e⟩
          refine ⟨s, hs, ?_⟩
          have zg := zip_get (hr s hs) hi
          rw [e2, Option.getD_some, ht] at zg
          cases q : s[i]?.getD none with
          | none => rw [q] at e; cases e
          | some sv =>
            rw [q] at e zg
            cases u : under s t with
            | none => rw [u] at e; cases e
            | some k =>
              rw [u] at e
              have e : some (sv + k) = some tv := e
              have e := Option.some.inj e
              exact (reach_iff zg).mpr (by rw [u]; congr 1; omega)
        · rintro ⟨s, hs, e⟩
          refine ⟨s, hs, ?_⟩
          have zg := zip_get (hr s hs) hi
          rw [e2, Option.getD_some, ht] at zg
          cases q : s[i]?.getD none with
          | none => rw [q] at e; cases e
          | some sv =>
            rw [q] at e zg
            rw [(reach_iff zg).mp e]
            show some (sv + (tv - sv)) = some tv
            congr 1; omega
    constructor
    · intro e i hi
      exact (each i (List.mem_range.mp hi)).mp (by rw [e])
    · intro q
      refine List.ext_getElem? fun i => ?_
      by_cases hi : i < t.length
      · exact (each i hi).mpr (q i (List.mem_range.mpr hi))
      · rw [List.getElem?_eq_none (by omega), List.getElem?_eq_none (by omega)]
  unfold isIn
  cases m : made rows t with
  | true =>
    have e := key.mpr m
    rw [e]
    exact decide_eq_true ⟨hp, rfl⟩
  | false =>
    refine decide_eq_false fun z => ?_
    rw [key.mp z.2] at m
    cases m
end PK

/-! PKM: what is made of rows. -/
namespace PK
open PySem RS
/-- s, shifted by k, is nowhere above t -/
def Und (s t : List Num) (k : Int) : Prop := ∀ (j : Nat) (a : Int), s[j]? = some (some a) → ∃ b, t[j]? = some (some b) ∧ a + k ≤ b
theorem Und.trans {s t u : List Num} {k l : Int} (h : Und s t k) (g : Und t u l) : Und s u (k + l) := fun j a e => by
  obtain ⟨b, e1, l1⟩ := h j a e
  obtain ⟨c, e2, l2⟩ := g j b e1
  exact ⟨c, e2, by omega⟩
theorem Und.refl (s : List Num) : Und s s 0 := fun j a e => ⟨a, e, by omega⟩
theorem Und.mono {s t : List Num} {k l : Int} (h : Und s t k) (q : l ≤ k) : Und s t l := fun j a e => by
  obtain ⟨b, e1, l1⟩ := h j a e
  exact ⟨b, e1, by omega⟩
theorem sh_get (s : List Num) (k : Int) (j : Nat) (a : Int) : (sh s (some k))[j]? = some (some a) ↔ s[j]? = some (some (a - k)) := by
  unfold sh
  rw [List.getElem?_map]
  cases s[j]? with
  | none => exact ⟨fun e => (nomatch e), fun e => nomatch e⟩
  | some x =>
    cases x with
    | none => exact ⟨fun e => (nomatch e), fun e => nomatch e⟩
    | some i =>
      show some (some (i + k)) = some (some a) ↔ some (some i) = some (some (a - k))
      constructor <;> (intro e; have e := Option.some.inj (Option.some.inj e); congr 2; omega)
theorem und_sh (t : List Num) (k : Int) : Und t (sh t (some k)) k := fun j a e => ⟨a + k, (sh_get t k j _).mpr (by rw [e]; congr 2; omega), by omega⟩
theorem und_sh' (t : List Num) (k : Int) : Und (sh t (some k)) t (-k) := fun j a e => ⟨a - k, (sh_get t k j a).mp e, by omega⟩
theorem lay_get {s t : List Num} (h : s.length = t.length) {i : Nat} {v : Int} (e : (lay s t)[i]? = some (some v)) : s[i]? = some (some v) ∨ t[i]? = some (some v) := by
  unfold lay at e
  rw [List.getElem?_zipWith] at e
  cases q1 : s[i]? with
  | none => rw [q1] at e; cases e
  | some a =>
    cases q2 : t[i]? with
    | none => rw [q1, q2] at e; cases e
    | some b =>
      rw [q1, q2] at e
      have e : some (topN a b) = some (some v) := e
      have e := Option.some.inj e
      cases a with
      | none => exact .inr (congrArg some e)
      | some a =>
        cases b with
        | none => exact .inl (congrArg some e)
        | some b =>
          have e : max a b = v := Option.some.inj e
          by_cases z : a ≤ b
          · right; congr 2; omega
          · left; congr 2; omega
theorem und_lay1 {s t : List Num} (h : s.length = t.length) : Und s (lay s t) 0 := fun j a e => by
  have hj := (List.getElem?_eq_some_iff.mp e).1
  have e2 : t[j]? = some t[j] := List.getElem?_eq_getElem (by omega)
  unfold lay
  rw [List.getElem?_zipWith, e, e2]
  cases t[j] with
  | none => exact ⟨a, rfl, by omega⟩
  | some b => exact ⟨max a b, rfl, by omega⟩
theorem und_lay2 {s t : List Num} (h : s.length = t.length) : Und t (lay s t) 0 := fun j a e => by
  have hj := (List.getElem?_eq_some_iff.mp e).1
  have e2 : s[j]? = some s[j] := List.getElem?_eq_getElem (by omega)
  unfold lay
  rw [List.getElem?_zipWith, e, e2]
  cases s[j] with
  | none => exact ⟨a, rfl, by omega⟩
  | some b => exact ⟨max b a, rfl, by omega⟩
theorem reach_U {s t : List Num} (h : s.length = t.length) (sv tv : Int) : reach s t sv tv = true ↔ Und s t (tv - sv) := by
  unfold reach
  rw [List.all_eq_true]
  constructor
  · intro q j a e
    have hj := (List.getElem?_eq_some_iff.mp e).1
    have e2 : t[j]? = some t[j] := List.getElem?_eq_getElem (by omega)
    have m := zip_get h (i := j) (by omega)
    rw [e, e2] at m
    have z := q _ m
    rw [e2]
    dsimp only [Option.getD_some] at z
    generalize t[j] = y at z ⊢
    cases y with
    | none => cases z
    | some b => exact ⟨b, rfl, by have := of_decide_eq_true z; omega⟩
  · intro q p hp
    obtain ⟨j, hj, e⟩ := List.mem_iff_getElem.mp hp
    rw [List.getElem_zip] at e
    have l := hj
    rw [List.length_zip] at l
    have e1 : s[j]? = some s[j] := List.getElem?_eq_getElem (by omega)
    have e2 : t[j]? = some t[j] := List.getElem?_eq_getElem (by omega)
    obtain ⟨a, b⟩ := p
    cases a with
    | none => rfl
    | some a =>
      have ea : s[j] = some a := congrArg Prod.fst e
      have eb : t[j] = b := congrArg Prod.snd e
      obtain ⟨c, ec, lc⟩ := q j a (by rw [e1, ea])
      rw [e2, eb] at ec
      cases b with
      | none => cases ec
      | some b =>
        cases ec
        exact decide_eq_true (by omega)
/-- each integer of t is reached by some row -/
def Md (rows : List (List Num)) (t : List Num) : Prop := ∀ (i : Nat) (tv : Int), t[i]? = some (some tv) → ∃ s ∈ rows, ∃ sv, s[i]? = some (some sv) ∧ Und s t (tv - sv)
theorem made_iff {rows : List (List Num)} {t : List Num} (hr : ∀ s ∈ rows, s.length = t.length) : made rows t = true ↔ Md rows t := by
  unfold made
  rw [List.all_eq_true]
  constructor
  · intro q i tv e
    have hi := (List.getElem?_eq_some_iff.mp e).1
    have z := q i (List.mem_range.mpr hi)
    rw [e] at z
    dsimp only [Option.getD_some] at z
    obtain ⟨s, hs, z⟩ := List.any_eq_true.mp z
    refine ⟨s, hs, ?_⟩
    have hs2 : i < s.length := by have := hr s hs; omega
    have e1 : s[i]? = some s[i] := List.getElem?_eq_getElem hs2
    rw [e1] at z ⊢
    dsimp only [Option.getD_some] at z
    generalize s[i] = y at z ⊢
    cases y with
    | none => cases z
    | some sv => exact ⟨sv, rfl, (reach_U (hr s hs) sv tv).mp z⟩
  · intro q i hi
    have hi := List.mem_range.mp hi
    have e2 : t[i]? = some t[i] := List.getElem?_eq_getElem hi
    cases q2 : t[i] with
    | none => rw [e2, q2]; rfl
    | some tv =>
      obtain ⟨s, hs, sv, e, u⟩ := q i tv (by rw [e2, q2])
      rw [e2, q2]
      refine List.any_eq_true.mpr ⟨s, hs, ?_⟩
      rw [e]
      exact (reach_U (hr s hs) sv tv).mpr u
theorem Md.sub {rows rows' : List (List Num)} {t : List Num} (h : Md rows t) (q : ∀ s ∈ rows, s ∈ rows') : Md rows' t := fun i tv e => by
  obtain ⟨s, hs, r⟩ := h i tv e
  exact ⟨s, q s hs, r⟩
theorem Md.sh {rows : List (List Num)} {t : List Num} (h : Md rows t) (k : Int) : Md rows (PK.sh t (some k)) := fun i tv e => by
  obtain ⟨s, hs, sv, e1, u⟩ := h i (tv - k) ((sh_get t k i tv).mp e)
  exact ⟨s, hs, sv, e1, (u.trans (und_sh t k)).mono (by omega)⟩
theorem sh_sh (t : List Num) (k l : Int) : sh (sh t (some k)) (some l) = sh t (some (k + l)) := by
  unfold sh
  rw [List.map_map]
  refine List.map_congr_left fun a _ => ?_
  cases a with
  | none => rfl
  | some a => show some (a + k + l) = some (a + (k + l)); congr 1; omega
theorem sh_0 (t : List Num) : sh t (some 0) = t := by
  unfold sh
  refine (List.map_congr_left fun a _ => ?_).trans (List.map_id _)
  cases a with
  | none => rfl
  | some a => show some (a + 0) = some a; congr 1; omega
theorem Md.of_sh {rows : List (List Num)} {t : List Num} {k : Int} (h : Md rows (PK.sh t (some k))) : Md rows t := by
  have := h.sh (-k)
  rwa [sh_sh, show k + -k = 0 by omega, sh_0] at this
theorem Md.self {rows : List (List Num)} {t : List Num} (h : t ∈ rows) : Md rows t := fun i tv e => ⟨t, h, tv, e, (Und.refl t).mono (by omega)⟩
theorem Md.far {rows : List (List Num)} {t : List Num} {k : Int} (h : PK.sh t (some k) ∈ rows) : Md rows t := Md.of_sh (Md.self h)
theorem Md.lay {rows : List (List Num)} {s t : List Num} (l : s.length = t.length) (h : Md rows s) (g : Md rows t) : Md rows (PK.lay s t) := fun i tv e => by
  rcases lay_get l e with q | q
  · obtain ⟨r, hr, rv, e1, u⟩ := h i tv q
    exact ⟨r, hr, rv, e1, (u.trans (und_lay1 l)).mono (by omega)⟩
  · obtain ⟨r, hr, rv, e1, u⟩ := g i tv q
    exact ⟨r, hr, rv, e1, (u.trans (und_lay2 l)).mono (by omega)⟩
end PK

/-! PKF: more of the evaluator's equations; comprehensions that draw. -/
namespace PK
open PySem RS
section
variable (φ : Nat → List Va → Sto → Res Va) (ρ : RS.Env) (st : Sto)
theorem E_rev (a : T) : evE φ (.rev a) ρ st = (evE φ a ρ st).bind fun x st1 => match isLstV x with
      | true => match itemsOf st1 x with
        | some xs => .ok (.new xs.reverse) st1
        | none => .stuck
      | false => match tupV x with
        | some ds => .ok (.dat (.tuple ds.reverse)) st1
        | none => .stuck := by first | (rw [evE]; done) | (rw [evE]; rfl)
theorem E_and (a b : T) : evE φ (.and a b) ρ st = (evE φ a ρ st).bind fun x st1 => match asBool x with
      | some true => evE φ b ρ st1
      | some false => .ok (.dat (.bool false)) st1
      | none => .stuck := by first | (rw [evE]; done) | (rw [evE]; rfl)
theorem E_or (a b : T) : evE φ (.or a b) ρ st = (evE φ a ρ st).bind fun x st1 => match asBool x with
      | some true => .ok (.dat (.bool true)) st1
      | some false => evE φ b ρ st1
      | none => .stuck := by first | (rw [evE]; done) | (rw [evE]; rfl)
theorem E_last (a : T) : evE φ (.last a) ρ st = evE φ a ρ st := by first | (rw [evE]; done) | (rw [evE]; rfl)
theorem S_forS (g : G) (it : T) (b : S) : evS φ (.forS g it b) ρ st = (evI φ it ρ st).bind fun src st1 => match src.still with
    | some _ => .stuck
    | none => forL (fun ρ s => evS φ b ρ s) g src.items ρ st1 := by first | (rw [evS]; done) | (rw [evS]; rfl)
theorem I_seq (a : T) : evI φ (.iseq a) ρ st = (evE φ a ρ st).bind fun x st1 => match itemsOf st1 x with
      | some xs => .ok ⟨xs, match x with | .ref k => some (k, xs) | _ => none⟩ st1
      | none => .stuck := by first | (rw [evI]; done) | (rw [evI]; rfl)
theorem I_range (a : T) : evI φ (.irange1 a) ρ st = (evE φ a ρ st).bind fun x st1 => match x with
      | .dat (.int n) => if n ≤ 16777216 ∧ -16777216 ≤ n then .ok ⟨upto 0 n.toNat, none⟩ st1 else .stuck
      | _ => .stuck := by first | (rw [evI]; done) | (rw [evI]; rfl)
end
theorem upto_out : ∀ (k : Nat) (i : Int), ∀ x ∈ upto i k, isOut x = some x
  | 0, _, _, h => nomatch h
  | k + 1, i, x, h => by
    rcases List.mem_cons.mp h with rfl | h
    · rfl
    · exact upto_out k (i + 1) x h
/-- a drawn item each -/
theorem lcL_rel {f : Va → Sto → Res (Option Va)} (I : Sto → Prop) (P : Va → Va → Prop) : ∀ (xs : List Va) (st : Sto), (∀ x ∈ xs, ∀ s, I s → Ev (f x s) fun o s' => I s' ∧ ∃ v, o = some v ∧ P x v) → I st →
    Ev (lcL f xs st) fun vs s' => I s' ∧ vs.length = xs.length ∧ (∀ v ∈ vs, ∃ x ∈ xs, P x v) ∧ (∀ x ∈ xs, ∃ v ∈ vs, P x v)
  | [], st, _, h => ⟨h, rfl, fun _ m => (nomatch m), fun _ m => (nomatch m)⟩
  | x :: xs, st, hf, h => by
    rw [lcL, Ev_bind, Ev_calm]
    refine (hf x List.mem_cons_self st h).imp fun o s1 ⟨h1, v, e, p⟩ => ?_
    subst e
    rw [Ev_bind]
    refine (lcL_rel I P xs s1 (fun y m => hf y (List.mem_cons_of_mem _ m)) h1).imp fun r s2 ⟨h2, l, q, q'⟩ => ?_
    rw [Ev_ok]
    refine ⟨h2, by rw [List.length_cons, l, List.length_cons], fun w m => ?_, fun w m => ?_⟩
    · rcases List.mem_cons.mp m with rfl | m
      · exact ⟨x, List.mem_cons_self, p⟩
      · obtain ⟨y, hy, py⟩ := q w m
        exact ⟨y, List.mem_cons_of_mem _ hy, py⟩
    · rcases List.mem_cons.mp m with rfl | m
      · exact ⟨v, List.mem_cons_self, p⟩
      · obtain ⟨y, hy, py⟩ := q' w m
        exact ⟨y, List.mem_cons_of_mem _ hy, py⟩
theorem lc_draws {φ : Nat → List Va → Sto → Res Va} {own : List (Str × Nat)} {j : Nat} {it body : T} {ρ : RS.Env} {st st1 rest : Sto} {items : List Va} (P : Va → Va → Prop) (hi : evI φ it ρ st = .ok ⟨items, none⟩ st1) (hz : items.length ≤ 1000) (ho : ∀ x ∈ items, isOut x = some x)
    (hf : ∀ x ∈ items, ∀ s, Dr rest s → Ev (evE φ body (setEnv (wipeE ρ own) j x) s) (fun v s' => isOut v = some v ∧ P x v ∧ Dr rest s')) (hd : Dr rest st1) :
    Ev (evE φ (.lc own (.v j) it .yes body) ρ st) (fun v s' => ∃ vs, v = .new vs ∧ vs.length = items.length ∧ (∀ v ∈ vs, ∃ x ∈ items, P x v) ∧ (∀ x ∈ items, ∃ v ∈ vs, P x v) ∧ Dr rest s') := by
  rw [evE, hi]
  show Ev (if items.length ≤ 16777216 then (lcL (lcF φ (.v j) (wipeE ρ own) .yes body) items st1).bind fun xs st2 => Res.ok (Va.new xs) st2 else .stuck) _
  rw [if_pos (by omega), Ev_bind]
  refine (lcL_rel (Dr rest) P items st1 (fun x hx s hs => ?_) hd).imp fun vs s' ⟨h1, h2, h3, h4⟩ => ⟨vs, rfl, h2, h3, h4, h1⟩
  have o := ho x hx
  have e : lcF φ (.v j) (wipeE ρ own) .yes body x s = (evE φ body (setEnv (wipeE ρ own) j x) s).bind fun v s2 => match isOut v with | some v => Res.ok (some v) s2 | none => .stuck := by
    cases x with
    | new _ => cases o
    | dat d => rfl
    | ref k => rfl
  rw [e, Ev_bind]
  refine (hf x hx s hs).imp fun v s2 ⟨ov, pv, hd2⟩ => ?_
  rw [ov]
  exact ⟨hd2, v, rfl, pv⟩
theorem ints_of : ∀ {vs : List Va}, (∀ v ∈ vs, ∃ i : Int, v = .dat (.int i)) → ∃ ns : List Int, vs = ns.map fun i => .dat (.int i)
  | [], _ => ⟨[], rfl⟩
  | v :: vs, h => by
    obtain ⟨i, rfl⟩ := h _ List.mem_cons_self
    obtain ⟨ns, rfl⟩ := ints_of fun w m => h w (List.mem_cons_of_mem _ m)
    exact ⟨i :: ns, rfl⟩
theorem rows_of {P : List Num → Prop} : ∀ {vs : List Va}, (∀ v ∈ vs, ∃ s, v = .dat (TD s) ∧ P s) → ∃ R : List (List Num), vs = (R.map fun s => .dat (TD s)) ∧ ∀ s ∈ R, P s
  | [], _ => ⟨[], rfl, fun _ h => nomatch h⟩
  | v :: vs, h => by
    obtain ⟨s, rfl, hs⟩ := h _ List.mem_cons_self
    obtain ⟨R, rfl, hR⟩ := rows_of fun w m => h w (List.mem_cons_of_mem _ m)
    exact ⟨s :: R, rfl, fun t m => (List.mem_cons.mp m).elim (fun z => z ▸ hs) (hR t)⟩
theorem frz_ints (ns : List Int) (st : Sto) : frzV (.new (ns.map fun i => .dat (.int i))) st = .ok (.dat (.list (ns.map .int))) st := by
  have := frz_dats (ns.map PyData.int) st
  rwa [List.map_map] at this
theorem frz_rows (R : List (List Num)) (st : Sto) : frzV (.new (R.map fun s => .dat (TD s))) st = .ok (.dat (.list (R.map TD))) st := by
  have := frz_dats (R.map TD) st
  rwa [List.map_map] at this
theorem view_rows (R : List (List Num)) (st : Sto) : view st (.new (R.map fun s => .dat (TD s))) = some (.list (R.map TD)) := by
  have := view_new st (R.map TD)
  rwa [List.map_map] at this
theorem b_sorted (ns : List Int) : biF .sorted (.list (ns.map .int)) = some (.new ((sortI ns).map fun n => .dat (.int n))) := by
  show (isInts (ns.map .int)).map _ = _
  rw [isInts_map]; rfl
theorem b_tupleR (R : List (List Num)) : biF .tuple (.list (R.map TD)) = some (.dat (RD R)) := rfl
/-- least and greatest of numbers in order -/
theorem sort_ends (ns : List Int) (h : ns ≠ []) : ∃ lo hi, opIdx [] (.dat (.list ((sortI ns).map .int))) (.int 0) = some (.dat (.int lo)) ∧ (∀ st, opIdx st (.dat (.list ((sortI ns).map .int))) (.int 0) = some (.dat (.int lo))) ∧ (∀ st, opIdx st (.dat (.list ((sortI ns).map .int))) (.int (-1)) = some (.dat (.int hi))) ∧
    lo ∈ sortI ns ∧ hi ∈ sortI ns ∧ ∀ x ∈ sortI ns, lo ≤ x ∧ x ≤ hi := by
  have hp : (sortI ns).Pairwise fun a b => (decide (a ≤ b)) = true := List.pairwise_mergeSort (fun a b c h1 h2 => by simp only [decide_eq_true_eq] at *; omega) (fun a b => by simp only [Bool.or_eq_true, decide_eq_true_eq]; omega) ns
  have hl : (sortI ns).length = ns.length := List.length_mergeSort ns
  have h0 : 0 < (sortI ns).length := by rw [hl]; exact List.length_pos_iff.mpr h
  generalize sortI ns = xs at *
  refine ⟨xs[0], xs[xs.length - 1], ?_, fun st => ?_, fun st => ?_, List.getElem_mem _, List.getElem_mem _, fun x hx => ?_⟩
  · show L2.atI ((xs.map PyData.int).map Va.dat) 0 = _
    refine atI_pos (by omega) ?_
    rw [List.getElem?_map, List.getElem?_map, Int.toNat_zero, List.getElem?_eq_getElem h0]; rfl
  · show L2.atI ((xs.map PyData.int).map Va.dat) 0 = _
    refine atI_pos (by omega) ?_
    rw [List.getElem?_map, List.getElem?_map, Int.toNat_zero, List.getElem?_eq_getElem h0]; rfl
  · show L2.atI ((xs.map PyData.int).map Va.dat) (-1) = _
    unfold L2.atI L2.ixN
    rw [if_neg (by omega), if_pos (by simp only [List.length_map]; omega)]
    simp only [List.length_map, Option.bind_some]
    rw [show ((-1 : Int) + (xs.length : Int)).toNat = xs.length - 1 by omega, List.getElem?_map, List.getElem?_map, List.getElem?_eq_getElem (by omega)]; rfl
  · obtain ⟨i, hi, rfl⟩ := List.mem_iff_getElem.mp hx
    constructor
    · by_cases z : i = 0
      · subst z; omega
      · exact of_decide_eq_true (List.pairwise_iff_getElem.mp hp 0 i h0 hi (by omega))
    · by_cases z : i = xs.length - 1
      · subst z; omega
      · exact of_decide_eq_true (List.pairwise_iff_getElem.mp hp i (xs.length - 1) hi (by omega) (by omega))
end PK

/-! PKR: what texts of rows weigh. -/
namespace PK
open PySem RS
open PyProof.Rows (mem_cps_append mem_join signs_ofString int_sign digit_range)
theorem log_small {i : Int} (h : -(100 * M1) ≤ i ∧ i ≤ 100 * M1) : i.natAbs.log2 < 2900 := by
  have e : (100 * M1 : Int) < 2 ^ 2900 := by unfold M1; decide +kernel
  by_cases h0 : i.natAbs = 0
  · rw [h0]; decide
  · rw [Nat.log2_lt h0]
    have : (i.natAbs : Int) < 2 ^ 2900 := by omega
    exact_mod_cast this
theorem wt_D {a : Num} (h : Sn (100 * M1) a) : wt (D a) ≤ 2903 := by
  cases a with
  | none => show 4 ≤ 2903; decide
  | some i =>
    have := log_small (h i rfl)
    show (if i.natAbs.log2 < 12900 then i.natAbs.log2 + 3 else 16777216) ≤ 2903
    rw [if_pos (by omega)]; omega
theorem wts_D : ∀ {s : List Num}, Sm (100 * M1) s → wts (s.map D) ≤ 2905 * s.length
  | [], _ => Nat.le_refl _
  | a :: s, h => by
    have h1 := wt_D (h a List.mem_cons_self)
    have h2 := wts_D fun y hy => h y (List.mem_cons_of_mem _ hy)
    show wt (D a) + 2 + wts (s.map D) ≤ 2905 * (s.length + 1)
    omega
theorem wt_TD {s : List Num} (h : s.length ≤ 4) (g : Sm (100 * M1) s) : wt (TD s) ≤ 11900 := by
  have := wts_D g
  show wts (s.map D) + 3 ≤ 11900
  omega
theorem wts_T : ∀ {ss : List (List Num)}, (∀ s ∈ ss, s.length ≤ 4 ∧ Sm (100 * M1) s) → wts (ss.map TD) ≤ 12000 * ss.length
  | [], _ => Nat.le_refl _
  | s :: ss, h => by
    have h1 := wt_TD (h s List.mem_cons_self).1 (h s List.mem_cons_self).2
    have h3 := wts_T fun y hy => h y (List.mem_cons_of_mem _ hy)
    show wt (TD s) + 2 + wts (ss.map TD) ≤ 12000 * (ss.length + 1)
    omega
theorem wt_RD {ss : List (List Num)} (h : ∀ s ∈ ss, s.length ≤ 4 ∧ Sm (100 * M1) s) : wt (RD ss) ≤ 12000 * ss.length + 3 := by
  have := wts_T h
  show wts (ss.map TD) + 3 ≤ _
  omega
theorem repr_of {d : PyData} (h : flatD 60 d = true) (hw : wt d ≤ 16000000) : biF .repr d = some (.dat (.str (PyData.shown d))) := by
  have e : biF .repr d = if flatD 60 d = true ∧ wt d ≤ 16000000 then some (.dat (.str (PyData.shown d))) else none := by cases d <;> rfl
  rw [e, if_pos ⟨h, hw⟩]
theorem wts_B : ∀ bs : List Bool, wts (bs.map PyData.bool) ≤ 7 * bs.length
  | [] => Nat.le_refl _
  | b :: bs => by
    have := wts_B bs
    show 5 + 2 + wts (bs.map PyData.bool) ≤ 7 * (bs.length + 1)
    omega
theorem flat_bools (n : Nat) (bs : List Bool) : flatD (n + 1) (.list (bs.map .bool)) = true := by
  show (bs.map PyData.bool).all (flatD n) = true
  refine List.all_eq_true.mpr fun x hx => ?_
  obtain ⟨s, _, rfl⟩ := List.mem_map.mp hx
  unfold flatD; rfl
theorem flat_RD (n : Nat) (ss : List (List Num)) : flatD (n + 2) (RD ss) = true := by
  show (ss.map TD).all (flatD (n + 1)) = true
  refine List.all_eq_true.mpr fun x hx => ?_
  obtain ⟨s, _, rfl⟩ := List.mem_map.mp hx
  exact flat_TD n s
theorem repr_bools {bs : List Bool} (hl : bs.length ≤ 100) : biF .repr (.list (bs.map .bool)) = some (.dat (.str (PyData.shown (.list (bs.map .bool))))) := by
  refine repr_of (flat_bools 59 bs) ?_
  have := wts_B bs
  show wts (bs.map PyData.bool) + 3 ≤ 16000000
  omega
theorem repr_bool (b : Bool) : biF .repr (.bool b) = some (.dat (.str (PyData.shown (.bool b)))) := by
  refine repr_of (by unfold flatD; rfl) ?_
  show 5 ≤ 16000000; decide
theorem str_ne (x : Str) : opCmp .ne (.str x) (.str x) = some false := by
  show (if flatD 60 (.str x) = true ∧ flatD 60 (.str x) = true then some (!PyData.eqv (.str x) (.str x)) else none) = _
  rw [if_pos ⟨by unfold flatD; rfl, by unfold flatD; rfl⟩]
  simp [PyData.eqv]
theorem str_eq (x : Str) : opCmp .eq (.str x) (.str x) = some true := by
  show (if flatD 60 (.str x) = true ∧ flatD 60 (.str x) = true then some (PyData.eqv (.str x) (.str x)) else none) = _
  rw [if_pos ⟨by unfold flatD; rfl, by unfold flatD; rfl⟩]
  simp [PyData.eqv]
/-! ### texts within texts -/
def Asc (x : Str) : Prop := ∀ c ∈ x.cps.toList, c < 128
theorem asc_app {a b : Str} (h : Asc a) (g : Asc b) : Asc (a ++ b) := fun c hc => (mem_cps_append.mp hc).elim (h c) (g c)
theorem asc_join {sep : Str} (h : Asc sep) {ts : List Str} (g : ∀ t ∈ ts, Asc t) : Asc (Str.join sep ts) := fun c hc => by
  rcases (mem_join sep c ts).mp hc with ⟨t, ht, m⟩ | ⟨_, m⟩
  · exact g t ht c m
  · exact h c m
theorem asc_lit {x : Str} (h : x.cps.toList.all (fun c => decide (c < 128)) = true) : Asc x := fun c hc => of_decide_eq_true (List.all_eq_true.mp h c hc)
theorem asc_int (i : Int) : Asc ((toString i : String) : Str) := fun c hc => by
  rw [signs_ofString] at hc
  obtain ⟨ch, hm, e⟩ := List.mem_map.mp hc
  rcases int_sign i ch hm with hd | hd
  · have := digit_range hd; omega
  · rw [hd] at e; rw [← e]; decide
theorem asc_list {ts : List Str} (h : ∀ t ∈ ts, Asc t) : Asc (listText ts) := by
  rw [listText_eq_join]
  exact asc_app (asc_app (asc_lit (by decide)) (asc_join (asc_lit (by decide)) h)) (asc_lit (by decide))
theorem asc_tuple {ts : List Str} (h : ∀ t ∈ ts, Asc t) : Asc (tupleText ts) := by
  unfold tupleText
  refine asc_app (asc_app (asc_lit (by decide)) (asc_join (asc_lit (by decide)) h)) ?_
  cases ts.length == 1
  · exact asc_lit (by decide)
  · exact asc_lit (by decide)
theorem asc_all : ∀ {xs : List PyData}, (∀ x ∈ xs, Asc x.shown) → ∀ t ∈ PyData.shownAll xs, Asc t
  | [], _, t, ht => by simp only [PyData.shownAll] at ht; exact nomatch ht
  | x :: r, h, t, ht => by
    simp only [PyData.shownAll] at ht
    rcases List.mem_cons.mp ht with rfl | ht
    · exact h x List.mem_cons_self
    · exact asc_all (fun y hy => h y (List.mem_cons_of_mem _ hy)) t ht
theorem asc_L {xs : List PyData} (h : ∀ x ∈ xs, Asc x.shown) : Asc (PyData.list xs).shown := by
  simp only [PyData.shown]
  exact asc_list (asc_all h)
theorem asc_T {xs : List PyData} (h : ∀ x ∈ xs, Asc x.shown) : Asc (PyData.tuple xs).shown := by
  simp only [PyData.shown]
  exact asc_tuple (asc_all h)
theorem asc_D (a : Num) : Asc (D a).shown := by
  cases a with
  | none => show Asc (PyData.none).shown; simp only [PyData.shown]; exact asc_lit (by decide)
  | some i => show Asc (PyData.int i).shown; simp only [PyData.shown]; exact asc_int i
theorem asc_TD (s : List Num) : Asc (TD s).shown := asc_T fun x hx => by
  obtain ⟨a, _, rfl⟩ := List.mem_map.mp hx
  exact asc_D a
theorem asc_RD (ss : List (List Num)) : Asc (RD ss).shown := asc_T fun x hx => by
  obtain ⟨a, _, rfl⟩ := List.mem_map.mp hx
  exact asc_TD a
theorem hex_len : ∀ c < 128, (Nat.toDigits 16 c).length ≤ 2 := by decide +kernel
theorem reprChar_len (q c : Nat) (h : c < 128) : (Builtin.Str.reprChar q c).length ≤ 4 := by
  have hx := hex_len c h
  unfold Builtin.Str.reprChar
  dsimp only
  split
  · show _ ≤ 4; simp only [List.length_cons, List.length_nil]; omega
  split
  · show _ ≤ 4; simp only [List.length_cons, List.length_nil]; omega
  split
  · show _ ≤ 4; simp only [List.length_cons, List.length_nil]; omega
  split
  · show _ ≤ 4; simp only [List.length_cons, List.length_nil]; omega
  split
  · show _ ≤ 4; simp only [List.length_cons, List.length_nil]; omega
  split
  · simp only [List.length_append, List.length_cons, List.length_nil, List.length_replicate, List.length_map]; omega
  rw [if_pos (by omega)]
  simp only [List.length_append, List.length_cons, List.length_nil, List.length_replicate, List.length_map]; omega
theorem foldl_len (q : Nat) : ∀ (l : List Nat) (n : Nat), (∀ c ∈ l, c < 128) → l.foldl (fun n c => n + (Builtin.Str.reprChar q c).length) n ≤ n + 4 * l.length
  | [], n, _ => Nat.le_refl _
  | c :: l, n, h => by
    have h1 := reprChar_len q c (h c List.mem_cons_self)
    have h2 := foldl_len q l (n + (Builtin.Str.reprChar q c).length) fun d hd => h d (List.mem_cons_of_mem _ hd)
    rw [List.foldl_cons, List.length_cons]
    omega
theorem wt_str {x : Str} (h : Asc x) : wt (.str x) ≤ 4 * x.length + 2 := by
  show (reprText x).length ≤ _
  rw [← reprLen_eq, ← Array.foldl_toList]
  have := foldl_len (reprQuote x) x.cps.toList 2 h
  have e : x.cps.toList.length = x.length := Array.length_toList
  omega
theorem wt_shown {d : PyData} (h : Asc d.shown) (hw : wt d ≤ 3000000) : wt (.str d.shown) ≤ 4 * wt d + 2 := by
  have := wt_str h
  have := shown_wt d (by omega)
  omega
end PK

/-! PKN: rows that begin with 0; those that are needed. -/
namespace PK
open PySem RS
def first (s : List Num) : Int := (pres s).headD 0
def bgn (s : List Num) : List Num := sh s (some (-first s))
/-- begun -/
def Bg (s : List Num) : Prop := (pres s).head? = some 0
theorem pres_sh (s : List Num) (k : Int) : pres (sh s (some k)) = (pres s).map (· + k) := by
  induction s with
  | nil => rfl
  | cons a s ih =>
    cases a with
    | none => exact ih
    | some i =>
      show (i + k) :: pres (sh s (some k)) = _
      rw [ih]; rfl
theorem bgn_Bg {s : List Num} (h : pres s ≠ []) : Bg (bgn s) := by
  unfold Bg bgn first
  rw [pres_sh]
  cases e : pres s with
  | nil => exact absurd e h
  | cons a r =>
    show some (a + -a) = some 0
    congr 1; omega
theorem Bg.ne {s : List Num} (h : Bg s) : pres s ≠ [] := by
  intro z; unfold Bg at h; rw [z] at h; cases h
theorem bg_sh {s : List Num} {k : Int} (h : Bg s) (g : Bg (sh s (some k))) : k = 0 := by
  unfold Bg at h g
  rw [pres_sh] at g
  cases e : pres s with
  | nil => rw [e] at h; cases h
  | cons a r =>
    rw [e] at h g
    have h : some a = some 0 := h
    have g : some (a + k) = some 0 := g
    have := Option.some.inj h
    have := Option.some.inj g
    omega
theorem bgn_of_Bg {s : List Num} (h : Bg s) : bgn s = s := by
  unfold bgn first
  unfold Bg at h
  cases e : pres s with
  | nil => rw [e] at h; cases h
  | cons a r =>
    rw [e] at h
    have h : some a = some 0 := h
    have := Option.some.inj h
    subst this
    exact sh_0 s
theorem bgn_len (s : List Num) : (bgn s).length = s.length := sh_len _ _
theorem bgn_sh {s : List Num} (h : pres s ≠ []) (k : Int) : bgn (sh s (some k)) = bgn s := by
  have e : sh s (some k) = sh (bgn s) (some (first s + k)) := by
    unfold bgn
    rw [sh_sh]; congr 2; omega
  have b := bgn_Bg h
  have : pres (sh s (some k)) ≠ [] := by rw [pres_sh]; intro z; exact h (List.map_eq_nil_iff.mp z)
  have b2 := bgn_Bg this
  unfold bgn at b2 ⊢
  rw [e, sh_sh] at b2 ⊢
  have := bg_sh (s := sh s (some (-first s))) b b2
  rw [show first s + k + -first (sh (bgn s) (some (first s + k))) = 0 from this, sh_0]
  rfl
/-- each above the other: alike but for a shift -/
theorem und_both {r s : List Num} {a : Int} (l : r.length = s.length) (h : Und r s a) (g : Und s r (-a)) : s = sh r (some a) := by
  refine List.ext_getElem? fun i => ?_
  by_cases hi : i < s.length
  · have er : r[i]? = some r[i] := List.getElem?_eq_getElem (by omega)
    have es : s[i]? = some s[i] := List.getElem?_eq_getElem hi
    unfold sh
    rw [List.getElem?_map, er, es]
    cases q : r[i] with
    | none =>
      cases q2 : s[i] with
      | none => rfl
      | some y =>
        obtain ⟨b, e, _⟩ := g i y (by rw [es, q2])
        rw [er, q] at e; cases e
    | some x =>
      obtain ⟨b, e, l1⟩ := h i x (by rw [er, q])
      rw [es] at e
      have e := Option.some.inj e
      obtain ⟨c, e2, l2⟩ := g i b (by rw [es, e])
      rw [er, q] at e2
      have e2 := Option.some.inj (Option.some.inj e2)
      rw [e]
      show some (some b) = some (some (x + a))
      congr 2; omega
  · rw [List.getElem?_eq_none (by omega), List.getElem?_eq_none (by rw [sh_len]; omega)]
/-- s, shifted, is nowhere above t and as high at i -/
def At (s t : List Num) (i : Nat) : Prop := ∃ sv tv, s[i]? = some (some sv) ∧ t[i]? = some (some tv) ∧ Und s t (tv - sv)
theorem At.trans {s t u : List Num} {i : Nat} (h : At s t i) (g : At t u i) : At s u i := by
  obtain ⟨sv, tv, e1, e2, u1⟩ := h
  obtain ⟨tv', uv, e3, e4, u2⟩ := g
  rw [e2] at e3
  have : tv = tv' := Option.some.inj (Option.some.inj e3)
  subst this
  exact ⟨sv, uv, e1, e4, (u1.trans u2).mono (by omega)⟩
theorem At.anti {s t : List Num} {i : Nat} (l : s.length = t.length) (h : At s t i) (g : At t s i) : ∃ a, t = sh s (some a) := by
  obtain ⟨sv, tv, e1, e2, u1⟩ := h
  obtain ⟨tv', sv', e3, e4, u2⟩ := g
  rw [e2] at e3
  rw [e1] at e4
  have h1 : tv = tv' := Option.some.inj (Option.some.inj e3)
  have h2 : sv = sv' := Option.some.inj (Option.some.inj e4)
  subst h1 h2
  exact ⟨tv - sv, und_both l u1 (u2.mono (by omega))⟩
theorem At.same {s t : List Num} {i : Nat} (l : s.length = t.length) (b : Bg s) (c : Bg t) (h : At s t i) (g : At t s i) : s = t := by
  obtain ⟨a, rfl⟩ := h.anti l g
  rw [bg_sh b c, sh_0]
theorem md_at {rows : List (List Num)} {t : List Num} : Md rows t ↔ ∀ (i : Nat) (tv : Int), t[i]? = some (some tv) → ∃ s ∈ rows, At s t i := by
  constructor
  · intro h i tv e
    obtain ⟨s, hs, sv, e1, u⟩ := h i tv e
    exact ⟨s, hs, sv, tv, e1, e, u⟩
  · intro h i tv e
    obtain ⟨s, hs, sv, tv', e1, e2, u⟩ := h i tv e
    rw [e] at e2
    have : tv = tv' := Option.some.inj (Option.some.inj e2)
    subst this
    exact ⟨s, hs, sv, e1, u⟩
theorem Md.at {rows : List (List Num)} {t u : List Num} {i : Nat} (h : Md rows t) (g : At t u i) : ∃ s ∈ rows, At s u i := by
  obtain ⟨tv, _, e, _⟩ := id g
  obtain ⟨s, hs, a⟩ := md_at.mp h i tv e
  exact ⟨s, hs, a.trans g⟩
theorem Md.trans {rows rows' : List (List Num)} {t : List Num} (h : ∀ s ∈ rows, Md rows' s) (g : Md rows t) : Md rows' t := md_at.mpr fun i tv e => by
  obtain ⟨s, hs, a⟩ := md_at.mp g i tv e
  exact (h s hs).at a
/-- the others -/
def oth (U : List (List Num)) (r : List Num) : List (List Num) := U.filter fun s => decide (s ≠ r)
theorem mem_oth {U : List (List Num)} {r s : List Num} : s ∈ oth U r ↔ s ∈ U ∧ s ≠ r := by
  unfold oth
  rw [List.mem_filter]
  simp
structure Rws (w : Nat) (U : List (List Num)) : Prop where
  len : ∀ s ∈ U, s.length = w
  beg : ∀ s ∈ U, Bg s
/-- who is needed in L is needed in U, where L is of U and makes it -/
theorem need_iff {w : Nat} {U L : List (List Num)} (hU : Rws w U) (sub : ∀ s ∈ L, s ∈ U) (span : ∀ u ∈ U, Md L u) {r : List Num} (hr : r ∈ U) : Md (oth L r) r ↔ Md (oth U r) r := by
  constructor
  · intro h
    exact h.sub fun s hs => mem_oth.mpr ⟨sub s (mem_oth.mp hs).1, (mem_oth.mp hs).2⟩
  · intro h
    refine md_at.mpr fun i tv e => ?_
    obtain ⟨s, hs, a⟩ := md_at.mp h i tv e
    obtain ⟨hs', hn⟩ := mem_oth.mp hs
    have a0 := a
    obtain ⟨sv, _, e1, _, _⟩ := a0
    obtain ⟨l, hl, b⟩ := md_at.mp (span s hs') i sv e1
    by_cases q : l = r
    · subst q
      exact absurd (At.same ((hU.len s hs').trans (hU.len l hr).symm) (hU.beg s hs') (hU.beg l hr) a b) hn
    · exact ⟨l, mem_oth.mpr ⟨hl, q⟩, b.trans a⟩
/-- leaving out who is made by the others -/
def tidyL (S : List (List Num)) : List (List Num) := S.foldl (fun L r => if isIn (oth L r) r = true then oth L r else L) S
theorem isIn_oth {w : Nat} {U L : List (List Num)} (hU : Rws w U) (sub : ∀ s ∈ L, s ∈ U) {r : List Num} (hr : r ∈ U) : isIn (oth L r) r = true ↔ Md (oth L r) r := by
  have hl : ∀ s ∈ oth L r, s.length = r.length := fun s hs => by rw [hU.len s (sub s (mem_oth.mp hs).1), hU.len r hr]
  rw [isIn_made _ _ hl (hU.beg r hr).ne, made_iff hl]
theorem tidy_eq {w : Nat} {S : List (List Num)} (hS : Rws w S) (nd : S.Nodup) : tidyL S = S.filter (fun r => !isIn (oth S r) r) ∧ ∀ u ∈ S, Md (tidyL S) u := by
  have key : ∀ (Q P : List (List Num)), S = P ++ Q → (∀ u ∈ S, Md (P.filter (fun r => !isIn (oth S r) r) ++ Q) u) →
      Q.foldl (fun L r => if isIn (oth L r) r = true then oth L r else L) (P.filter (fun r => !isIn (oth S r) r) ++ Q) = S.filter (fun r => !isIn (oth S r) r) ∧ ∀ u ∈ S, Md (S.filter (fun r => !isIn (oth S r) r)) u := by
    intro Q
    induction Q with
    | nil =>
      intro P e h
      rw [List.append_nil] at e h
      subst e
      rw [List.append_nil]
      exact ⟨rfl, h⟩
    | cons r Q ih =>
      intro P e h
      have hr : r ∈ S := by rw [e]; simp
      have sub : ∀ s ∈ P.filter (fun r => !isIn (oth S r) r) ++ r :: Q, s ∈ S := fun s hs => by
        rw [e]
        rcases List.mem_append.mp hs with hs | hs
        · exact List.mem_append_left _ (List.mem_filter.mp hs).1
        · exact List.mem_append_right _ hs
      have nd' : (P ++ r :: Q).Nodup := by rw [← e]; exact nd
      have rP : r ∉ P := fun z => (List.nodup_append.mp nd').2.2 r z r List.mem_cons_self rfl
      have rQ : r ∉ Q := (List.nodup_cons.mp (List.nodup_append.mp nd').2.1).1
      have ol : oth (P.filter (fun r => !isIn (oth S r) r) ++ r :: Q) r = P.filter (fun r => !isIn (oth S r) r) ++ Q := by
        unfold oth
        rw [List.filter_append, List.filter_cons]
        simp only [ne_eq, not_true_eq_false, decide_false, Bool.false_eq_true, if_false]
        congr 1
        · rw [List.filter_eq_self]
          intro s hs
          exact decide_eq_true fun z => rP (z ▸ (List.mem_filter.mp hs).1)
        · rw [List.filter_eq_self]
          intro s hs
          exact decide_eq_true fun z => rQ (z ▸ hs)
      have dec : isIn (oth (P.filter (fun r => !isIn (oth S r) r) ++ r :: Q) r) r = isIn (oth S r) r := by
        rw [Bool.eq_iff_iff, isIn_oth hS sub hr, isIn_oth hS (fun _ z => z) hr]
        exact need_iff hS sub h hr
      have e2 : S = (P ++ [r]) ++ Q := by rw [e]; simp
      rw [List.foldl_cons, dec]
      cases q : isIn (oth S r) r with
      | true =>
        rw [if_pos rfl, ol]
        have f : (P ++ [r]).filter (fun r => !isIn (oth S r) r) = P.filter (fun r => !isIn (oth S r) r) := by
          rw [List.filter_append, List.filter_cons, q]; simp
        rw [← f]
        refine ih (P ++ [r]) e2 fun u hu => ?_
        rw [f]
        refine Md.trans (fun s hs => ?_) (h u hu)
        by_cases z : s = r
        · subst z
          have := (isIn_oth hS sub hr).mp (dec.trans q)
          rwa [ol] at this
        · refine Md.self ?_
          rw [← ol]
          exact mem_oth.mpr ⟨hs, z⟩
      | false =>
        rw [if_neg Bool.false_ne_true]
        have f : P.filter (fun r => !isIn (oth S r) r) ++ r :: Q = (P ++ [r]).filter (fun r => !isIn (oth S r) r) ++ Q := by
          rw [List.filter_append, List.filter_cons, q]; simp
        rw [f]
        refine ih (P ++ [r]) e2 fun u hu => ?_
        rw [← f]
        exact h u hu
  have k := key S [] rfl fun u hu => Md.self hu
  have k1 : tidyL S = S.filter (fun r => !isIn (oth S r) r) := k.1
  exact ⟨k1, fun u hu => by rw [k1]; exact k.2 u hu⟩
/-- each once -/
def uniqL (xs acc : List (List Num)) : List (List Num) := xs.foldl (fun acc x => if x ∈ acc then acc else acc ++ [x]) acc
theorem mem_uniq : ∀ (xs acc : List (List Num)) (x : List Num), x ∈ uniqL xs acc ↔ x ∈ acc ∨ x ∈ xs
  | [], acc, x => by simp [uniqL]
  | y :: xs, acc, x => by
    show x ∈ uniqL xs (if y ∈ acc then acc else acc ++ [y]) ↔ _
    rw [mem_uniq xs]
    by_cases h : y ∈ acc
    · rw [if_pos h]
      constructor
      · rintro (q | q)
        · exact .inl q
        · exact .inr (List.mem_cons_of_mem _ q)
      · rintro (q | q)
        · exact .inl q
        · rcases List.mem_cons.mp q with rfl | q
          · exact .inl h
          · exact .inr q
    · rw [if_neg h, List.mem_append, List.mem_singleton, List.mem_cons, or_assoc]
theorem nodup_uniq : ∀ (xs acc : List (List Num)), acc.Nodup → (uniqL xs acc).Nodup
  | [], acc, h => h
  | y :: xs, acc, h => by
    show (uniqL xs (if y ∈ acc then acc else acc ++ [y])).Nodup
    by_cases q : y ∈ acc
    · rw [if_pos q]; exact nodup_uniq xs acc h
    · rw [if_neg q]
      refine nodup_uniq xs _ (List.nodup_append.mpr ⟨h, by simp, fun a ha b hb => ?_⟩)
      rw [List.mem_singleton.mp hb]
      rintro rfl
      exact q ha
def begs (rows : List (List Num)) : List (List Num) := uniqL (rows.map bgn) []
theorem mem_begs {rows : List (List Num)} {x : List Num} : x ∈ begs rows ↔ ∃ s ∈ rows, bgn s = x := by
  unfold begs
  rw [mem_uniq, List.mem_map]
  simp
theorem begs_rws {w : Nat} {rows : List (List Num)} (hl : ∀ s ∈ rows, s.length = w) (hp : ∀ s ∈ rows, pres s ≠ []) : Rws w (begs rows) where
  len := fun x hx => by
    obtain ⟨s, hs, rfl⟩ := mem_begs.mp hx
    rw [bgn_len]; exact hl s hs
  beg := fun x hx => by
    obtain ⟨s, hs, rfl⟩ := mem_begs.mp hx
    exact bgn_Bg (hp s hs)
theorem Md.bgn {rows : List (List Num)} {t : List Num} : Md rows (PK.bgn t) ↔ Md rows t := ⟨Md.of_sh, fun h => h.sh _⟩
/-- a row and it begun make the same -/
theorem md_begs {rows : List (List Num)} {t : List Num} : Md (begs rows) t ↔ Md rows t := by
  constructor
  · refine Md.trans fun s hs => ?_
    obtain ⟨r, hr, rfl⟩ := mem_begs.mp hs
    exact (Md.self hr).sh _
  · refine Md.trans fun s hs => ?_
    exact Md.bgn.mp (Md.self (mem_begs.mpr ⟨s, hs, rfl⟩))
/-- those that are needed -/
def needs (rows : List (List Num)) : List (List Num) := (begs rows).filter fun r => !isIn (oth (begs rows) r) r
theorem mem_needs {w : Nat} {rows : List (List Num)} (hl : ∀ s ∈ rows, s.length = w) (hp : ∀ s ∈ rows, pres s ≠ []) {x : List Num} : x ∈ needs rows ↔ x ∈ begs rows ∧ ¬ Md (oth (begs rows) x) x := by
  unfold needs
  rw [List.mem_filter]
  constructor
  · rintro ⟨h, q⟩
    refine ⟨h, fun z => ?_⟩
    rw [(isIn_oth (begs_rws hl hp) (fun _ z => z) h).mpr z] at q
    cases q
  · rintro ⟨h, q⟩
    refine ⟨h, ?_⟩
    cases z : isIn (oth (begs rows) x) x with
    | false => rfl
    | true => exact absurd ((isIn_oth (begs_rws hl hp) (fun _ z => z) h).mp z) q
/-- of one span: the same are needed -/
theorem needs_same {w : Nat} {A B : List (List Num)} (la : ∀ s ∈ A, s.length = w) (pa : ∀ s ∈ A, pres s ≠ []) (lb : ∀ s ∈ B, s.length = w) (pb : ∀ s ∈ B, pres s ≠ []) (ab : ∀ s ∈ A, Md B s) (ba : ∀ s ∈ B, Md A s) {x : List Num} (h : x ∈ needs A) : x ∈ needs B := by
  have RA := begs_rws la pa
  have RB := begs_rws lb pb
  have AB : ∀ s ∈ begs A, Md (begs B) s := fun s hs => by
    obtain ⟨r, hr, rfl⟩ := mem_begs.mp hs
    exact md_begs.mpr ((ab r hr).sh _)
  have BA : ∀ s ∈ begs B, Md (begs A) s := fun s hs => by
    obtain ⟨r, hr, rfl⟩ := mem_begs.mp hs
    exact md_begs.mpr ((ba r hr).sh _)
  obtain ⟨hx, hn⟩ := (mem_needs la pa).mp h
  -- a place at which no other one reaches x
  obtain ⟨i, tv, e, ne⟩ : ∃ (i : Nat) (tv : Int), x[i]? = some (some tv) ∧ ∀ s ∈ begs A, At s x i → s = x := by
    refine Classical.byContradiction fun z => hn (md_at.mpr fun i tv e => ?_)
    refine Classical.byContradiction fun q => z ⟨i, tv, e, fun s hs a => Classical.byContradiction fun ns => q ⟨s, mem_oth.mpr ⟨hs, ns⟩, a⟩⟩
  have only : ∀ s ∈ begs B, At s x i → s = x := fun s hs a => by
    obtain ⟨u, hu, b⟩ := (BA s hs).at a
    have := ne u hu b
    subst this
    obtain ⟨sv, _, e1, _, _⟩ := id a
    obtain ⟨u', hu', c⟩ := md_at.mp (BA s hs) i sv e1
    have := ne u' hu' (c.trans a)
    subst this
    exact At.same ((RB.len s hs).trans (RA.len u' hx).symm) (RB.beg s hs) (RA.beg u' hx) a c
  obtain ⟨s, hs, a⟩ := md_at.mp (AB x hx) i tv e
  have := only s hs a
  subst this
  refine (mem_needs lb pb).mpr ⟨hs, fun m => ?_⟩
  obtain ⟨t, ht, b⟩ := md_at.mp m i tv e
  obtain ⟨ht, hn⟩ := mem_oth.mp ht
  exact hn (only t ht b)
end PK

/-! PKT: defs that laws share; their callees are their parameters. -/
namespace PK
open PySem RS
/-- key_of -/
def F_key_of : FnT :=
  ⟨"key_of", ["side"], ["side", "number"], false,
   (.seq (.ret (.bi .tuple (.lc [("number", 1)] (.v 1) (.iseq (.var 0)) .yes (.ife (.cmp .isN (.var 1) (.lit .none)) (.tup (.acons (.lit (.int 0)) (.acons (.lit (.int 0)) .anil))) (.tup (.acons (.lit (.int 1)) (.acons (.var 1) .anil)))))))
    .nil)⟩
/-- begun -/
def F_begun (i_shifted : Nat) : FnT :=
  ⟨"begun", ["row"], ["row", "whole", "number"], false,
   (.seq (.set 1 (.frz (.lc [("number", 2)] (.v 2) (.iseq (.var 0)) (.cmp .notN (.var 2) (.lit .none)) (.var 2))))
    (.seq (.ret (.call i_shifted (.acons (.var 0) (.acons (.bin .sub (.lit (.int 0)) (.idx (.var 1) (.lit (.int 0)))) .anil))))
    .nil))⟩
/-- tidied -/
def F_tidied (i_begun : Nat) (i_key_of : Nat) (i_laid_below : Nat) : FnT :=
  ⟨"tidied", ["rows"], ["rows", "some", "row", "own", "left", "others", "other"], false,
   (.seq (.set 1 (.mut (.lst .anil)))
    (.seq (.forS (.v 2) (.iseq (.var 0))
    (.seq (.set 3 (.call i_begun (.acons (.var 2) .anil)))
    (.seq (.ifs (.cmp .nin (.var 3) (.var 1))
    (.seq (.expr (.app (.var 1) (.var 3)))
    .nil)
    .nil)
    .nil)))
    (.seq (.set 4 (.frz (.sortk i_key_of (.var 1))))
    (.seq (.forS (.v 2) (.iseq (.bi .list (.var 4)))
    (.seq (.set 5 (.frz (.lc [("other", 6)] (.v 6) (.iseq (.var 4)) (.cmp .ne (.var 6) (.var 2)) (.var 6))))
    (.seq (.ifs (.cmp .eq (.call i_laid_below (.acons (.var 5) (.acons (.var 2) .anil))) (.var 2))
    (.seq (.set 4 (.var 5))
    .nil)
    .nil)
    .nil)))
    (.seq (.ret (.var 4))
    .nil)))))⟩
/-- least_lot -/
def F_least_lot (i_tidied : Nat) : FnT :=
  ⟨"least_lot", ["lot"], ["lot"], false,
   (.seq (.ret (.tup (.acons (.idx (.var 0) (.lit (.int 0))) (.acons (.bi .tuple (.call i_tidied (.acons (.idx (.var 0) (.lit (.int 1))) .anil))) .anil))))
    .nil)⟩
/-- joined -/
def F_joined (i_need_places : Nat) (i_tidied : Nat) : FnT :=
  ⟨"joined", ["one", "other"], ["one", "other"], false,
   (.seq (.expr (.call i_need_places (.acons (.idx (.var 0) (.lit (.int 0))) (.acons (.idx (.var 1) (.lit (.int 0))) .anil))))
    (.seq (.ret (.tup (.acons (.idx (.var 0) (.lit (.int 0))) (.acons (.bi .tuple (.call i_tidied (.acons (.frz (.bin .add (.idx (.var 0) (.lit (.int 1))) (.idx (.var 1) (.lit (.int 1))))) .anil))) .anil))))
    .nil))⟩
/-- within -/
def F_within (i_need_places : Nat) (i_laid_below : Nat) : FnT :=
  ⟨"within", ["one", "other"], ["one", "other", "row"], false,
   (.seq (.expr (.call i_need_places (.acons (.idx (.var 0) (.lit (.int 0))) (.acons (.idx (.var 1) (.lit (.int 0))) .anil))))
    (.seq (.ret (.bi .all (.lc [("row", 2)] (.v 2) (.iseq (.idx (.var 0) (.lit (.int 1)))) .yes (.cmp .eq (.call i_laid_below (.acons (.idx (.var 1) (.lit (.int 1))) (.acons (.var 2) .anil))) (.var 2)))))
    .nil))⟩
/-- alike -/
def F_alike (i_within : Nat) : FnT :=
  ⟨"alike", ["one", "other"], ["one", "other"], false,
   (.seq (.ret (.and (.call i_within (.acons (.var 0) (.acons (.var 1) .anil))) (.last (.call i_within (.acons (.var 1) (.acons (.var 0) .anil))))))
    .nil)⟩
/-- highest_below -/
def F_highest_below (i_need_places : Nat) (i_laid_below : Nat) : FnT :=
  ⟨"highest_below", ["lot", "row"], ["lot", "row"], false,
   (.seq (.expr (.call i_need_places (.acons (.idx (.var 0) (.lit (.int 0))) (.acons (.bi .len (.var 1)) .anil))))
    (.seq (.ret (.call i_laid_below (.acons (.idx (.var 0) (.lit (.int 1))) (.acons (.var 1) .anil))))
    .nil))⟩
/-- are_level -/
def F_are_level : FnT :=
  ⟨"are_level", ["one_row", "other_row"], ["one_row", "other_row", "number"], false,
   (.seq (.ret (.cmp .eq (.lc [("number", 2)] (.v 2) (.iseq (.var 0)) .yes (.cmp .isN (.var 2) (.lit .none))) (.lc [("number", 2)] (.v 2) (.iseq (.var 1)) .yes (.cmp .isN (.var 2) (.lit .none)))))
    .nil)⟩
/-- spread -/
def F_spread (i_are_level : Nat) : FnT :=
  ⟨"spread", ["one_row", "other_row"], ["one_row", "other_row", "some", "number", "other"], false,
   (.seq (.ifs (.not (.call i_are_level (.acons (.var 0) (.acons (.var 1) .anil))))
    (.seq (.raise "Unfit" [(.str "Unfit"), (.str "RidgeError")])
    .nil)
    .nil)
    (.seq (.set 2 (.frz (.lc [("number", 3), ("other", 4)] (.t [3, 4]) (.izip (.var 0) (.var 1)) (.cmp .notN (.var 3) (.lit .none)) (.bin .sub (.var 3) (.var 4)))))
    (.seq (.ret (.bin .sub (.bi .maxL (.var 2)) (.bi .minL (.var 2))))
    .nil)))⟩
/-- gap -/
def F_gap (i_highest_below : Nat) (i_are_level : Nat) (i_spread : Nat) : FnT :=
  ⟨"gap", ["lot", "row"], ["lot", "row", "found"], false,
   (.seq (.set 2 (.call i_highest_below (.acons (.var 0) (.acons (.var 1) .anil))))
    (.seq (.ret (.ife (.or (.cmp .isN (.var 2) (.lit .none)) (.last (.not (.call i_are_level (.acons (.var 2) (.acons (.var 1) .anil)))))) (.lit .none) (.call i_spread (.acons (.var 1) (.acons (.var 2) .anil)))))
    .nil))⟩
/-- shifts_of -/
def F_shifts_of (i_need_places : Nat) (i_shift_under : Nat) : FnT :=
  ⟨"shifts_of", ["lot", "row"], ["lot", "row", "own"], false,
   (.seq (.expr (.call i_need_places (.acons (.idx (.var 0) (.lit (.int 0))) (.acons (.bi .len (.var 1)) .anil))))
    (.seq (.ret (.bi .tuple (.lc [("own", 2)] (.v 2) (.iseq (.idx (.var 0) (.lit (.int 1)))) .yes (.call i_shift_under (.acons (.var 2) (.acons (.var 1) .anil))))))
    .nil))⟩
/-- parting -/
def F_parting (i_need_places : Nat) (i_tidied : Nat) (i_laid_below : Nat) : FnT :=
  ⟨"parting", ["one", "other"], ["one", "other", "row"], false,
   (.seq (.expr (.call i_need_places (.acons (.idx (.var 0) (.lit (.int 0))) (.acons (.idx (.var 1) (.lit (.int 0))) .anil))))
    (.seq (.forS (.v 2) (.iseq (.call i_tidied (.acons (.idx (.var 0) (.lit (.int 1))) .anil)))
    (.seq (.ifs (.cmp .ne (.call i_laid_below (.acons (.idx (.var 1) (.lit (.int 1))) (.acons (.var 2) .anil))) (.var 2))
    (.seq (.ret (.var 2))
    .nil)
    .nil)
    .nil))
    (.seq (.ret (.lit .none))
    .nil)))⟩
end PK

/-! PKL: the order of rows; least lots. -/
namespace PK
open PySem RS
open PySem.W (dataLe alike alikeAll keyToks keyToksAll)
variable {tb : List FnT}
def keyP : Num → PyData
  | none => .tuple [.int 0, .int 0]
  | some i => .tuple [.int 1, .int i]
def keyD (s : List Num) : PyData := .tuple (s.map keyP)
def leR : List Num → List Num → Bool := dataLe false keyD
def sortR (xs : List (List Num)) : List (List Num) := xs.mergeSort leR
theorem toks_P (a : Num) : ∃ u v : Int, keyToks (keyP a) = [.inl 1, .inl u, .inl 1, .inl v, .inl 0] := by
  cases a with
  | none => exact ⟨0, 0, by simp [keyP, keyToks, keyToksAll]⟩
  | some i => exact ⟨1, i, by simp [keyP, keyToks, keyToksAll]⟩
theorem toks_Pinj {a b : Num} (h : keyToks (keyP a) = keyToks (keyP b)) : a = b := by
  cases a <;> cases b <;> simp [keyP, keyToks, keyToksAll] at h ⊢
  exact h
theorem toks_inj : ∀ {s t : List Num}, keyToksAll (s.map keyP) = keyToksAll (t.map keyP) → s = t
  | [], [], _ => rfl
  | [], b :: t, h => by simp [keyToksAll] at h
  | a :: s, [], h => by simp [keyToksAll] at h
  | a :: s, b :: t, h => by
    simp only [List.map_cons, keyToksAll] at h
    have h := (List.cons.inj h).2
    obtain ⟨u, v, e⟩ := toks_P a
    obtain ⟨u', v', e'⟩ := toks_P b
    have hl : (keyToks (keyP a)).length = (keyToks (keyP b)).length := by rw [e, e']; rfl
    obtain ⟨h1, h2⟩ := List.append_inj h hl
    rw [toks_Pinj h1, toks_inj h2]
theorem leR_total : PySem.W.TotalLe leR := PySem.W.sortLe_total (PyProof.Rows.listOrd PyProof.Rows.itemOrd) false fun s => keyToks (keyD s)
theorem leR_anti {a b : List Num} (h : leR a b = true) (g : leR b a = true) : a = b := by
  have h : (!PyProof.Rows.lexLt PyProof.Rows.itemOrd (keyToks (keyD b)) (keyToks (keyD a))) = true := h
  have g : (!PyProof.Rows.lexLt PyProof.Rows.itemOrd (keyToks (keyD a)) (keyToks (keyD b))) = true := g
  have e := PyProof.Rows.lex_total (O := PyProof.Rows.itemOrd) (keyToks (keyD a)) (keyToks (keyD b)) (by simpa using g) (by simpa using h)
  exact toks_inj (by simpa [keyD, keyToks] using e)
theorem sortR_pw (xs : List (List Num)) : (sortR xs).Pairwise fun a b => leR a b = true := List.pairwise_mergeSort leR_total.trans (fun a b => by rw [Bool.or_eq_true]; exact leR_total.total a b) xs
theorem sortR_perm (xs : List (List Num)) : (sortR xs).Perm xs := List.mergeSort_perm xs _
theorem sorted_uniq {a b : List (List Num)} (h : a.Pairwise fun a b => leR a b = true) (g : b.Pairwise fun a b => leR a b = true) (p : a.Perm b) : a = b :=
  List.Perm.eq_of_pairwise (le := fun a b => leR a b = true) (fun _ _ _ _ h1 h2 => leR_anti h1 h2) h g p
theorem sortR_of_perm {a b : List (List Num)} (p : a.Perm b) : sortR a = sortR b := sorted_uniq (sortR_pw a) (sortR_pw b) ((sortR_perm a).trans (p.trans (sortR_perm b).symm))
theorem sortR_filter (p : List Num → Bool) (xs : List (List Num)) : (sortR xs).filter p = sortR (xs.filter p) :=
  sorted_uniq ((sortR_pw xs).filter p) (sortR_pw _) (((sortR_perm xs).filter p).trans (sortR_perm _).symm)
theorem sortR_id {xs : List (List Num)} (h : xs.Pairwise fun a b => leR a b = true) : sortR xs = xs := sorted_uniq (sortR_pw xs) h (sortR_perm xs)
theorem mem_sortR {xs : List (List Num)} {x : List Num} : x ∈ sortR xs ↔ x ∈ xs := (sortR_perm xs).mem_iff
theorem sortK_rows (xs : List (List Num)) : sortK (xs.map TD) (xs.map keyD) = (sortR xs).map TD := by
  unfold sortK sortR
  have e : (xs.map TD).zip (xs.map keyD) = xs.map fun s => (TD s, keyD s) := by
    rw [List.zip, List.zipWith_map, List.zipWith_self]
  rw [e, ← List.map_mergeSort (r := leR) (s := dataLe false Prod.snd) (f := fun s => (TD s, keyD s)) (fun a _ b _ => rfl), List.map_map]; rfl
theorem alike_P (a b : Num) : alike (keyP a) (keyP b) = true := by cases a <;> cases b <;> simp [keyP, alike, alikeAll]
theorem alike_D : ∀ s t : List Num, alikeAll (s.map keyP) (t.map keyP) = true
  | [], _ => by simp [alikeAll]
  | _ :: _, [] => by simp [alikeAll]
  | a :: s, b :: t => by
    rw [List.map_cons, List.map_cons, alikeAll, alike_P, alike_D s t]; rfl
theorem depth_D : ∀ s : List Num, PyData.depthAll (s.map keyP) ≤ 1
  | [] => by simp [PyData.depthAll]
  | a :: s => by
    have := depth_D s
    rw [List.map_cons, PyData.depthAll]
    cases a <;> simp [keyP, PyData.depth, PyData.depthAll] <;> omega
theorem keys_ok {xs : List (List Num)} (h : ∀ s ∈ xs, s ≠ []) : keysOk (xs.map keyD) = true := by
  unfold keysOk
  simp only [Bool.and_eq_true, Bool.or_eq_true]
  refine ⟨⟨List.all_eq_true.mpr fun k hk => List.all_eq_true.mpr fun k' hk' => ?_, .inl (List.all_eq_true.mpr fun k hk => ?_)⟩, List.all_eq_true.mpr fun k hk => ?_⟩
  · obtain ⟨s, _, rfl⟩ := List.mem_map.mp hk
    obtain ⟨t, _, rfl⟩ := List.mem_map.mp hk'
    show alike (.tuple (s.map keyP)) (.tuple (t.map keyP)) = true
    rw [alike]; exact alike_D s t
  · obtain ⟨s, hs, rfl⟩ := List.mem_map.mp hk
    cases s with
    | nil => exact absurd rfl (h _ hs)
    | cons a r => rfl
  · obtain ⟨s, _, rfl⟩ := List.mem_map.mp hk
    have := depth_D s
    refine decide_eq_true ?_
    show (PyData.tuple (s.map keyP)).depth ≤ 60
    rw [PyData.depth]
    omega
theorem keysL_map {g : List Va → Sto → Res Va} {f : List Num → PyData} {st : Sto} : ∀ (xs : List (List Num)), (∀ s ∈ xs, g [.dat (TD s)] st = .ok (.dat (f s)) st) → keysL g (xs.map TD) st = .ok (xs.map f) st
  | [], _ => rfl
  | s :: xs, h => by
    rw [List.map_cons, keysL, h s List.mem_cons_self]
    simp only [Res.calm_ok, Res.bind_ok]
    rw [keysL_map xs fun t ht => h t (List.mem_cons_of_mem _ ht)]
    rfl
/-- the least lot's rows -/
def leastR (rows : List (List Num)) : List (List Num) := sortR (needs rows)
theorem tidy_least {w : Nat} {rows : List (List Num)} (hl : ∀ s ∈ rows, s.length = w) (hp : ∀ s ∈ rows, pres s ≠ []) : tidyL (sortR (begs rows)) = leastR rows ∧ ∀ u ∈ rows, Md (leastR rows) u := by
  have RB := begs_rws hl hp
  have RS' : Rws w (sortR (begs rows)) := ⟨fun s hs => RB.len s (mem_sortR.mp hs), fun s hs => RB.beg s (mem_sortR.mp hs)⟩
  have nd : (sortR (begs rows)).Nodup := (sortR_perm _).nodup_iff.mpr (nodup_uniq _ _ List.nodup_nil)
  obtain ⟨e, sp⟩ := tidy_eq RS' nd
  have f : (sortR (begs rows)).filter (fun r => !isIn (oth (sortR (begs rows)) r) r) = (sortR (begs rows)).filter (fun r => !isIn (oth (begs rows) r) r) := by
    refine List.filter_congr fun r hr => ?_
    congr 1
    rw [Bool.eq_iff_iff, isIn_oth RS' (fun _ z => z) hr, isIn_oth RB (fun _ z => z) (mem_sortR.mp hr)]
    constructor
    · exact fun h => h.sub fun s hs => mem_oth.mpr ⟨mem_sortR.mp (mem_oth.mp hs).1, (mem_oth.mp hs).2⟩
    · exact fun h => h.sub fun s hs => mem_oth.mpr ⟨mem_sortR.mpr (mem_oth.mp hs).1, (mem_oth.mp hs).2⟩
  have e2 : tidyL (sortR (begs rows)) = leastR rows := by rw [e, f, sortR_filter]; rfl
  refine ⟨e2, fun u hu => ?_⟩
  rw [← e2]
  exact Md.bgn.mp (sp _ (mem_sortR.mpr (mem_begs.mpr ⟨u, hu, rfl⟩)))
theorem mem_least {rows : List (List Num)} {x : List Num} : x ∈ leastR rows ↔ x ∈ needs rows := mem_sortR
theorem least_rws {w : Nat} {rows : List (List Num)} (hl : ∀ s ∈ rows, s.length = w) (hp : ∀ s ∈ rows, pres s ≠ []) : Rws w (leastR rows) := by
  have RB := begs_rws hl hp
  exact ⟨fun s hs => RB.len s (List.mem_filter.mp (mem_least.mp hs)).1, fun s hs => RB.beg s (List.mem_filter.mp (mem_least.mp hs)).1⟩
theorem least_md {rows : List (List Num)} {x : List Num} (h : x ∈ leastR rows) : Md rows x := md_begs.mp (Md.self (List.mem_filter.mp (mem_least.mp h)).1)
theorem needs_nodup (rows : List (List Num)) : (needs rows).Nodup := (nodup_uniq _ _ List.nodup_nil).filter _
theorem least_same {w : Nat} {A B : List (List Num)} (la : ∀ s ∈ A, s.length = w) (pa : ∀ s ∈ A, pres s ≠ []) (lb : ∀ s ∈ B, s.length = w) (pb : ∀ s ∈ B, pres s ≠ []) (ab : ∀ s ∈ A, Md B s) (ba : ∀ s ∈ B, Md A s) : leastR A = leastR B :=
  sortR_of_perm ((List.perm_ext_iff_of_nodup (needs_nodup A) (needs_nodup B)).mpr fun x => ⟨needs_same la pa lb pb ab ba, needs_same lb pb la pa ba ab⟩)
end PK

/-! PKO: what the defs about least lots tell. -/
namespace PK
open PySem RS
variable {tb : List FnT}
theorem call_eq2 {n f : Nat} {F : FnT} {args : List Va} {ρ : RS.Env} {st st' : Sto} {d : PyData} (hF : tb[f]? = some F) (hl : args.length = F.params.length) (hk : F.keep = false) (hρ : args.map some ++ List.replicate (F.names.length - args.length) none = ρ)
    (h : evS (callF tb n) F.body ρ st = .ok (.rt (.dat d)) st') (ht : st'.take st.length = st) : callF tb (n + 1) f args st = .ok (.dat d) st := by
  show (match tb[f]? with | some F => runFn (callF tb n) F args st | none => .stuck) = _
  rw [hF]
  show runFn (callF tb n) F args st = _
  unfold runFn
  rw [if_pos hl, hρ, h, hk]
  show fin false st.length (.dat d) st' = _
  rw [fin_dat, ht]
theorem key_ok {ik : Nat} (hk : tb[ik]? = some F_key_of) (n : Nat) (s : List Num) (st : Sto) (hs : s.length ≤ 1000) : callF tb (n + 1) ik [.dat (TD s)] st = .ok (.dat (keyD s)) st := by
  refine call_eq (F := F_key_of) (ρ := [some (.dat (TD s)), none]) hk rfl rfl rfl (ret_eq (bi_eq (v := .new ((s.map keyP).map .dat)) (d := .list (s.map keyP)) ?_ (view_new _ _) rfl))
  rw [ev_lc_map (xs := s) (F := VD) (G := fun a => some (.dat (keyP a))) (by rw [← items_TD]; rfl) hs fun a _ => ?_]
  · rw [fm_some, List.map_map]; rfl
  · cases a <;> rfl
theorem begun_ok {ib ish ip : Nat} (hb : tb[ib]? = some (F_begun ish)) (hsh : tb[ish]? = some (F_shifted ip)) (hp : tb[ip]? = some F_plus) (n : Nat) (s : List Num) (st : Sto) (hs : s.length ≤ 1000) (h0 : pres s ≠ []) : callF tb (n + 3) ib [.dat (TD s)] st = .ok (.dat (TD (bgn s))) st := by
  refine call_eq (F := F_begun ish) (ρ := [some (.dat (TD s)), none, none]) hb rfl rfl rfl ?_
  unfold F_begun
  dsimp only
  have lc := pres_ok (callF tb (n + 2)) [("number", 2)] 0 2 [some (.dat (TD s)), none, none] s st hs rfl (by show 2 < 3; omega)
  have ix : opIdx st (.dat (.list ((pres s).map .int))) (.int 0) = some (.dat (.int (first s))) := by
    unfold first
    cases e : pres s with
    | nil => exact absurd e h0
    | cons a r => exact opIdx_zero st (.int a) (r.map .int)
  have sk := shifted_ok hsh hp n s (some (0 - first s)) st hs
  have sk : callF tb (n + 2) ish [.dat (TD s), .dat (.int (0 - first s))] st = _ := sk
  simp only [S_seq, S_set, S_ret, E_frz, lc, frz_ints, E_call, E_bin, E_idx, A_cons, A_nil, E_var, E_lit, Res.bind_ok, Res.of_some, List.getElem?_cons_zero, List.getElem?_cons_succ, Option.bind_some, id_eq, isOut_dat, view_dat, ix, a_sub, sk, setEnv, List.set_cons_succ, List.set_cons_zero]
  rw [Int.zero_sub]; rfl
/-- the numbers at which the defs of least lots stand -/
structure Tidy (tb : List FnT) (ii it : Nat) where
  (S : Span tb ii)
  (ig ik : Nat)
  hT : tb[it]? = some (F_tidied ig ik S.ib)
  hg : tb[ig]? = some (F_begun S.ish)
  hk : tb[ik]? = some F_key_of
theorem nin_rows (x : List Num) (xs : List (List Num)) : opCmp .nin (TD x) (.list (xs.map TD)) = some (!decide (x ∈ xs)) := by
  show (if flatD 60 (TD x) = true ∧ flatD 60 (.list (xs.map TD)) = true then some (!(xs.map TD).any fun z => PyData.eqv z (TD x)) else none) = _
  have fl : flatD 60 (.list (xs.map TD)) = true := by
    show (xs.map TD).all (flatD 59) = true
    refine List.all_eq_true.mpr fun y hy => ?_
    obtain ⟨s, _, rfl⟩ := List.mem_map.mp hy
    exact flat_TD 58 s
  rw [if_pos ⟨flat_TD 59 x, fl⟩]
  congr 2
  induction xs with
  | nil => simp
  | cons y xs ih =>
    rw [List.map_cons, List.any_cons, ih (by
      show (xs.map TD).all (flatD 59) = true
      refine List.all_eq_true.mpr fun y hy => ?_
      obtain ⟨s, _, rfl⟩ := List.mem_map.mp hy
      exact flat_TD 58 s)]
    have e : PyData.eqv (TD y) (TD x) = decide (y = x) := td_eq y x
    rw [e, Bool.eq_iff_iff, Bool.or_eq_true, decide_eq_true_eq, decide_eq_true_eq, decide_eq_true_eq, List.mem_cons]
    constructor
    · rintro (h | h)
      · exact .inl h.symm
      · exact .inr h
    · rintro (h | h)
      · exact .inl h.symm
      · exact .inr h
theorem fm_filter {α β : Type} (p : α → Bool) (f : α → β) (xs : List α) : xs.filterMap (fun a => if p a = true then some (f a) else none) = (xs.filter p).map f := by
  induction xs with
  | nil => rfl
  | cons x xs ih =>
    rw [List.filterMap_cons, List.filter_cons, ih]
    cases p x <;> rfl
theorem E_app (φ : Nat → List Va → Sto → Res Va) (ρ : RS.Env) (st : Sto) (a x : T) : evE φ (.app a x) ρ st = (evE φ a ρ st).bind fun l st1 => if isLst st1 l = true then (evE φ x ρ st1).bind fun v st2 => appV l v st2 else .stuck := by first | (rw [evE]; done) | (rw [evE]; rfl)
theorem E_sortk (φ : Nat → List Va → Sto → Res Va) (ρ : RS.Env) (st : Sto) (f : Nat) (a : T) : evE φ (.sortk f a) ρ st = (evE φ a ρ st).bind fun x st1 => match view st1 x with
      | some (.list ds) => (keysL (fun xs s => φ f xs s) ds st1).bind fun ks st2 => if keysOk ks = true then .ok (.new ((sortK ds ks).map .dat)) st2 else .stuck
      | _ => .stuck := by first | (rw [evE]; done) | (rw [evE]; rfl)
theorem view_cell (st : Sto) (ds : List PyData) : view (st ++ [.lst (ds.map .dat)]) (.ref st.length) = some (.list ds) := by
  show (cellItems (st ++ [.lst (ds.map .dat)])[st.length]?).bind _ = _
  rw [get_last]
  show (undat (ds.map .dat)).map _ = _
  rw [undat_map]; rfl
theorem rows_dats (xs : List (List Num)) : (xs.map fun s => Va.dat (TD s)) = (xs.map TD).map .dat := by rw [List.map_map]; rfl
def gb (ig : Nat) : S := .seq (.set 3 (.call ig (.acons (.var 2) .anil)))
    (.seq (.ifs (.cmp .nin (.var 3) (.var 1))
    (.seq (.expr (.app (.var 1) (.var 3)))
    .nil)
    .nil)
    .nil)
def hb' (ibe : Nat) : S := .seq (.set 5 (.frz (.lc [("other", 6)] (.v 6) (.iseq (.var 4)) (.cmp .ne (.var 6) (.var 2)) (.var 6))))
    (.seq (.ifs (.cmp .eq (.call ibe (.acons (.var 5) (.acons (.var 2) .anil))) (.var 2))
    (.seq (.set 4 (.var 5))
    .nil)
    .nil)
    .nil)
section
variable {ii it : Nat} (Y : Tidy tb ii it)
theorem some_loop (n : Nat) (R : PyData) (st : Sto) (y5 y6 y4 : Option Va) : ∀ (rows acc : List (List Num)) (x y : Option Va), (∀ s ∈ rows, s.length ≤ 1000 ∧ pres s ≠ []) → acc.length + rows.length ≤ 1000 → ∃ x' y',
    forL (fun ρ s => evS (callF tb (n + 3)) (gb Y.ig) ρ s) (.v 2) (rows.map fun s => .dat (TD s)) [some (.dat R), some (.ref st.length), x, y, y4, y5, y6] (st ++ [.lst ((acc.map TD).map .dat)]) =
      .ok (.nx [some (.dat R), some (.ref st.length), x', y', y4, y5, y6]) (st ++ [.lst (((uniqL (rows.map bgn) acc).map TD).map .dat)])
  | [], acc, x, y, _, _ => ⟨x, y, rfl⟩
  | s :: rows, acc, x, y, h, hz => by
    obtain ⟨hs, hp⟩ := h s List.mem_cons_self
    obtain ⟨x', y', ih⟩ := some_loop n R st y5 y6 y4 rows (if bgn s ∈ acc then acc else acc ++ [bgn s]) (some (.dat (TD s))) (some (.dat (TD (bgn s)))) (fun t ht => h t (List.mem_cons_of_mem _ ht)) (by
      have : (s :: rows).length = rows.length + 1 := rfl
      split
      · omega
      · rw [List.length_append, List.length_singleton]; omega)
    refine ⟨x', y', ?_⟩
    rw [List.map_cons, forL]
    show ((evS (callF tb (n + 3)) (gb Y.ig) [some (.dat R), some (.ref st.length), some (.dat (TD s)), y, y4, y5, y6] (st ++ [.lst ((acc.map TD).map .dat)])).bind _) = _
    have b := begun_ok Y.hg Y.S.hsh Y.S.hp n s (st ++ [.lst ((acc.map TD).map .dat)]) hs hp
    have vc := view_cell st (acc.map TD)
    have step : evS (callF tb (n + 3)) (gb Y.ig) [some (.dat R), some (.ref st.length), some (.dat (TD s)), y, y4, y5, y6] (st ++ [.lst ((acc.map TD).map .dat)]) =
        .ok (.nx [some (.dat R), some (.ref st.length), some (.dat (TD s)), some (.dat (TD (bgn s))), y4, y5, y6]) (st ++ [.lst (((if bgn s ∈ acc then acc else acc ++ [bgn s]).map TD).map .dat)]) := by
      rw [gb, S_seq, S_set]
      simp only [E_call, A_cons, A_nil, E_var, Res.bind_ok, Res.of_some, List.getElem?_cons_zero, List.getElem?_cons_succ, Option.bind_some, id_eq, isOut_dat, b, setEnv, List.set_cons_succ, List.set_cons_zero]
      rw [S_seq, S_ifs]
      simp only [T_cmp, E_var, Res.bind_ok, Res.of_some, List.getElem?_cons_zero, List.getElem?_cons_succ, Option.bind_some, id_eq, view_dat, vc, nin_rows]
      by_cases q : bgn s ∈ acc
      · simp only [decide_eq_true q, Bool.not_true, S_nil, Res.bind_ok]
        rw [if_pos q]
      · have il : isLst (st ++ [.lst ((acc.map TD).map .dat)]) (.ref st.length) = true := by
          show (cellItems (st ++ [.lst ((acc.map TD).map .dat)])[st.length]?).isSome = true
          rw [get_last]; rfl
        have ap : appV (.ref st.length) (.dat (TD (bgn s))) (st ++ [.lst ((acc.map TD).map .dat)]) = .ok (.dat .none) (st ++ [.lst (((acc ++ [bgn s]).map TD).map .dat)]) := by
          unfold appV
          dsimp only
          rw [get_last]
          dsimp only
          rw [if_pos ⟨rfl, by simp only [List.length_map]; omega⟩, set_last]
          simp only [List.map_append, List.map_cons, List.map_nil]
        simp only [decide_eq_false q, Bool.not_false, S_seq, S_expr, S_nil, E_app, E_var, Res.bind_ok, Res.of_some, List.getElem?_cons_zero, List.getElem?_cons_succ, Option.bind_some, id_eq, il, if_true, ap]
        rw [if_neg q]
    rw [step]
    exact ih
theorem left_loop (n : Nat) (R U : Option Va) (st : Sto) : ∀ (rs L : List (List Num)) (x y z : Option Va), (∀ s ∈ L, s.length ≤ 1000) → (∀ s ∈ rs, s.length ≤ 1000) → L.length ≤ 1000 → ∃ x' z',
    forL (fun ρ s => evS (callF tb (n + 3)) (hb' Y.S.ib) ρ s) (.v 2) (rs.map fun s => .dat (TD s)) [R, U, x, y, some (.dat (.list (L.map TD))), z, none] st =
      .ok (.nx [R, U, x', y, some (.dat (.list ((rs.foldl (fun L r => if isIn (oth L r) r = true then oth L r else L) L).map TD))), z', none]) st
  | [], L, x, y, z, _, _, _ => ⟨x, z, rfl⟩
  | r :: rs, L, x, y, z, hL, hr, hz => by
    have ho : ∀ s ∈ oth L r, s.length ≤ 1000 := fun s hs => hL s (mem_oth.mp hs).1
    have lo : (oth L r).length ≤ L.length := List.length_filter_le _ _
    obtain ⟨x', z', ih⟩ := left_loop n R U st rs (if isIn (oth L r) r = true then oth L r else L) (some (.dat (TD r))) y (some (.dat (.list ((oth L r).map TD)))) (by split <;> assumption) (fun s hs => hr s (List.mem_cons_of_mem _ hs)) (by split <;> omega)
    refine ⟨x', z', ?_⟩
    have hrl := hr r List.mem_cons_self
    have lc : evE (callF tb (n + 3)) (.lc [("other", 6)] (.v 6) (.iseq (.var 4)) (.cmp .ne (.var 6) (.var 2)) (.var 6)) [R, U, some (.dat (TD r)), y, some (.dat (.list (L.map TD))), z, none] st = .ok (.new ((oth L r).map fun s => .dat (TD s))) st := by
      rw [ev_lc_map (xs := L) (F := fun s => .dat (TD s)) (G := fun s => if decide (s ≠ r) = true then some (.dat (TD s)) else none) ?_ hz fun s _ => ?_]
      · congr 2
        exact fm_filter (fun s => decide (s ≠ r)) (fun s => Va.dat (TD s)) L
      · rw [I_seq, E_var]
        show Res.ok (Src.mk ((L.map TD).map Va.dat) none) st = _
        rw [RD_items]
      · show ((evT (callF tb (n + 3)) (.cmp .ne (.var 6) (.var 2)) [R, U, some (.dat (TD r)), y, some (.dat (.list (L.map TD))), z, some (.dat (TD s))] st).bind fun t s1 => match t with
          | true => (evE (callF tb (n + 3)) (.var 6) [R, U, some (.dat (TD r)), y, some (.dat (.list (L.map TD))), z, some (.dat (TD s))] s1).bind fun v s2 => match isOut v with
            | some v => Res.ok (some v) s2
            | none => .stuck
          | false => .ok none s1) = _
        simp only [T_cmp, E_var, Res.bind_ok, Res.of_some, List.getElem?_cons_zero, List.getElem?_cons_succ, Option.bind_some, id_eq, view_dat, c_neT]
        by_cases q : s = r <;> simp [q]
    have bl := below_okL Y.S.hb Y.S.hl Y.S.ht Y.S.hsh Y.S.hp Y.S.hu n (oth L r) r st ho hrl
    rw [List.map_cons, forL]
    show ((evS (callF tb (n + 3)) (hb' Y.S.ib) [R, U, some (.dat (TD r)), y, some (.dat (.list (L.map TD))), z, none] st).bind _) = _
    have step : evS (callF tb (n + 3)) (hb' Y.S.ib) [R, U, some (.dat (TD r)), y, some (.dat (.list (L.map TD))), z, none] st =
        .ok (.nx [R, U, some (.dat (TD r)), y, some (.dat (.list ((if isIn (oth L r) r = true then oth L r else L).map TD))), some (.dat (.list ((oth L r).map TD))), none]) st := by
      rw [hb', S_seq, S_set, E_frz, lc]
      simp only [frz_rows, Res.bind_ok, isOut_dat, setEnv, List.set_cons_succ, List.set_cons_zero]
      rw [S_seq, S_ifs]
      simp only [T_cmp, E_call, A_cons, A_nil, E_var, Res.bind_ok, Res.of_some, List.getElem?_cons_zero, List.getElem?_cons_succ, Option.bind_some, id_eq, isOut_dat, view_dat, bl, cmp_below]
      cases isIn (oth L r) r with
      | true => simp only [if_true, S_seq, S_set, S_nil, E_var, Res.bind_ok, Res.of_some, List.getElem?_cons_zero, List.getElem?_cons_succ, Option.bind_some, id_eq, isOut_dat, setEnv, List.set_cons_succ, List.set_cons_zero]
      | false => simp only [Bool.false_eq_true, if_false, S_nil, Res.bind_ok]
    rw [step]
    exact ih
include Y in
theorem tidied_ok (n w : Nat) (rows : List (List Num)) (st : Sto) (h0 : 1 ≤ w) (hw : w ≤ 1000) (hl : ∀ s ∈ rows, s.length = w) (hp : ∀ s ∈ rows, pres s ≠ []) (hz : rows.length ≤ 1000) : callF tb (n + 4) it [.dat (RD rows)] st = .ok (.dat (.list ((leastR rows).map TD))) st := by
  have RB := begs_rws hl hp
  have lb : (begs rows).length ≤ 1000 := by
    have : ∀ (xs acc : List (List Num)), (uniqL xs acc).length ≤ acc.length + xs.length := by
      intro xs
      induction xs with
      | nil => intro acc; exact Nat.le_refl _
      | cons x xs ih =>
        intro acc
        have := ih (if x ∈ acc then acc else acc ++ [x])
        have e : (x :: xs).length = xs.length + 1 := rfl
        show (uniqL xs (if x ∈ acc then acc else acc ++ [x])).length ≤ _
        split at this
        · rename_i q; rw [if_pos q]; omega
        · rename_i q
          rw [if_neg q]
          rw [List.length_append, List.length_singleton] at this
          omega
    have := this (rows.map bgn) []
    rw [List.length_map] at this
    show (uniqL (rows.map bgn) []).length ≤ 1000
    simp only [List.length_nil] at this
    omega
  obtain ⟨x1, y1, e1⟩ := some_loop Y n (RD rows) st none none none rows [] none none (fun s hs => ⟨by rw [hl s hs]; exact hw, hp s hs⟩) (by simp only [List.length_nil]; omega)
  have ls : (sortR (begs rows)).length = (begs rows).length := (sortR_perm _).length_eq
  let st1 : Sto := st ++ [.lst (((begs rows).map TD).map .dat)]
  obtain ⟨x2, z2, e2⟩ := left_loop Y n (some (.dat (RD rows))) (some (.ref st.length)) st1 (sortR (begs rows)) (sortR (begs rows)) x1 y1 none (fun s hs => by rw [RB.len s (mem_sortR.mp hs)]; exact hw) (fun s hs => by rw [RB.len s (mem_sortR.mp hs)]; exact hw) (by omega)
  have e2 : forL (fun ρ s => evS (callF tb (n + 3)) (hb' Y.S.ib) ρ s) (.v 2) ((sortR (begs rows)).map fun s => .dat (TD s)) [some (.dat (RD rows)), some (.ref st.length), x1, y1, some (.dat (.list ((sortR (begs rows)).map TD))), none, none] st1 =
      .ok (.nx [some (.dat (RD rows)), some (.ref st.length), x2, y1, some (.dat (.list ((leastR rows).map TD))), z2, none]) st1 := by
    rw [← (tidy_least hl hp).1]; exact e2
  refine call_eq2 (F := F_tidied Y.ig Y.ik Y.S.ib) (ρ := [some (.dat (RD rows)), none, none, none, none, none, none]) (st' := st1) Y.hT rfl rfl rfl ?_ (by show (st ++ _).take st.length = st; rw [List.take_left'] <;> rfl)
  show evS (callF tb (n + 3)) (.seq (.set 1 (.mut (.lst .anil))) (.seq (.forS (.v 2) (.iseq (.var 0)) (gb Y.ig)) (.seq (.set 4 (.frz (.sortk Y.ik (.var 1)))) (.seq (.forS (.v 2) (.iseq (.bi .list (.var 4))) (hb' Y.S.ib)) (.seq (.ret (.var 4)) .nil))))) _ st = _
  have mu : mutV (.new []) st = .ok (.ref st.length) (st ++ [.lst []]) := rfl
  have i0 : ∀ st', itemsOf st' (.dat (RD rows)) = some (rows.map fun s => .dat (TD s)) := fun _ => by
    show some ((rows.map TD).map Va.dat) = _
    rw [RD_items]
  have il : biF .list (.list ((sortR (begs rows)).map TD)) = some (.new ((sortR (begs rows)).map fun s => .dat (TD s))) := by
    show some (Va.new (((sortR (begs rows)).map TD).map .dat)) = _
    rw [RD_items]
  have kl : keysL (fun xs s => callF tb (n + 3) Y.ik xs s) ((begs rows).map TD) st1 = .ok ((begs rows).map keyD) st1 := keysL_map (begs rows) fun s hs => key_ok Y.hk (n + 2) s st1 (by rw [RB.len s hs]; exact hw)
  have ko : keysOk ((begs rows).map keyD) = true := keys_ok fun s hs z => by
    have := RB.len s hs
    rw [z] at this
    simp at this; omega
  rw [S_seq, S_set]
  simp only [E_mut, E_lst, A_nil, Res.bind_ok, mu, isOut_ref, setEnv, List.set_cons_succ, List.set_cons_zero]
  rw [S_seq, S_forS]
  simp only [I_seq, E_var, Res.bind_ok, Res.of_some, List.getElem?_cons_zero, Option.bind_some, id_eq, i0]
  have e1 : forL (fun ρ s => evS (callF tb (n + 3)) (gb Y.ig) ρ s) (.v 2) (rows.map fun s => .dat (TD s)) [some (.dat (RD rows)), some (.ref st.length), none, none, none, none, none] (st ++ [.lst []]) = .ok (.nx [some (.dat (RD rows)), some (.ref st.length), x1, y1, none, none, none]) st1 := e1
  rw [e1]
  simp only [Res.bind_ok]
  rw [S_seq, S_set, E_frz, E_sortk]
  have vc : view st1 (.ref st.length) = some (.list ((begs rows).map TD)) := view_cell st _
  simp only [E_var, Res.bind_ok, Res.of_some, List.getElem?_cons_zero, List.getElem?_cons_succ, Option.bind_some, id_eq, vc, kl, ko, if_true, sortK_rows, frz_dats, isOut_dat, setEnv, List.set_cons_succ, List.set_cons_zero]
  rw [S_seq, S_forS]
  have itn : ∀ (st' : Sto) (xs : List Va), itemsOf st' (.new xs) = some xs := fun _ _ => rfl
  simp only [I_seq, E_bi, E_var, Res.bind_ok, Res.of_some, List.getElem?_cons_zero, List.getElem?_cons_succ, Option.bind_some, id_eq, view_dat, il, itn]
  rw [e2]
  simp only [S_seq, S_ret, E_var, Res.bind_ok, Res.of_some, List.getElem?_cons_zero, List.getElem?_cons_succ, Option.bind_some, id_eq, isOut_dat]
include Y in
theorem least_ok {io : Nat} (ho : tb[io]? = some (F_least_lot it)) (n w : Nat) (rows : List (List Num)) (st : Sto) (h0 : 1 ≤ w) (hw : w ≤ 1000) (hl : ∀ s ∈ rows, s.length = w) (hp : ∀ s ∈ rows, pres s ≠ []) (hz : rows.length ≤ 1000) :
    callF tb (n + 5) io [.dat (LD w rows)] st = .ok (.dat (LD w (leastR rows))) st := by
  refine call_eq (F := F_least_lot it) (ρ := [some (.dat (LD w rows))]) ho rfl rfl rfl (ret_eq ?_)
  have i0 : opIdx st (.dat (LD w rows)) (.int 0) = some (.dat (.int w)) := rfl
  have i1 : opIdx st (.dat (LD w rows)) (.int 1) = some (.dat (RD rows)) := rfl
  have t := tidied_ok Y n w rows st h0 hw hl hp hz
  have u : undat [Va.dat (.int w), Va.dat (RD (leastR rows))] = some [.int w, RD (leastR rows)] := rfl
  simp only [E_tup, E_bi, E_idx, E_call, A_cons, A_nil, E_var, E_lit, Res.bind_ok, Res.of_some, List.getElem?_cons_zero, Option.bind_some, id_eq, isOut_dat, view_dat, i0, i1, t, b_tupleR, u]
  rfl
theorem add_RR {as bs : List (List Num)} (h : as.length + bs.length ≤ 1000) : opBin .add (RD as) (RD bs) = some (.dat (RD (as ++ bs))) := by
  show (if (as.map TD).length + (bs.map TD).length ≤ 16777216 then some (Va.dat (.tuple (as.map TD ++ bs.map TD))) else none) = _
  rw [if_pos (by simp only [List.length_map]; omega), ← List.map_append]; rfl
include Y in
theorem joined_ok {io : Nat} (ho : tb[io]? = some (F_joined Y.S.ne it)) (n w : Nat) (A B : List (List Num)) (st : Sto) (h0 : 1 ≤ w) (hw : w ≤ 1000) (hl : ∀ s ∈ A ++ B, s.length = w) (hp : ∀ s ∈ A ++ B, pres s ≠ []) (hz : A.length + B.length ≤ 1000) :
    callF tb (n + 5) io [.dat (LD w A), .dat (LD w B)] st = .ok (.dat (LD w (leastR (A ++ B)))) st := by
  refine call_eq (F := F_joined Y.S.ne it) (ρ := [some (.dat (LD w A)), some (.dat (LD w B))]) ho rfl rfl rfl ?_
  unfold F_joined
  dsimp only
  have i0 : ∀ R, opIdx st (.dat (LD w R)) (.int 0) = some (.dat (.int w)) := fun _ => rfl
  have i1 : ∀ R, opIdx st (.dat (LD w R)) (.int 1) = some (.dat (RD R)) := fun _ => rfl
  have t := tidied_ok Y n w (A ++ B) st h0 hw hl hp (by rw [List.length_append]; exact hz)
  have u : undat [Va.dat (.int w), Va.dat (RD (leastR (A ++ B)))] = some [.int w, RD (leastR (A ++ B))] := rfl
  have fz : frzV (.dat (RD (A ++ B))) st = .ok (.dat (RD (A ++ B))) st := rfl
  simp only [S_seq, S_expr, S_ret, E_frz, E_bin, E_tup, E_bi, E_idx, E_call, A_cons, A_nil, E_var, E_lit, Res.bind_ok, Res.of_some, List.getElem?_cons_zero, List.getElem?_cons_succ, Option.bind_some, id_eq, isOut_dat, view_dat, i0, i1, need_ok Y.S.hn (n + 3), add_RR hz, fz, t, b_tupleR, u]
  rfl
theorem within_ok {io : Nat} (S : Span tb ii) (ho : tb[io]? = some (F_within S.ne S.ib)) (n : Nat) (w : Int) (A B : List (List Num)) (st : Sto) (ha : ∀ s ∈ A, s.length ≤ 1000) (hb : ∀ s ∈ B, s.length ≤ 1000) (hz : A.length ≤ 1000) :
    callF tb (n + 4) io [.dat (LD w A), .dat (LD w B)] st = .ok (.dat (.bool (A.all fun s => isIn B s))) st := by
  refine call_eq (F := F_within S.ne S.ib) (ρ := [some (.dat (LD w A)), some (.dat (LD w B)), none]) ho rfl rfl rfl ?_
  unfold F_within
  dsimp only
  have i0 : ∀ R, opIdx st (.dat (LD w R)) (.int 0) = some (.dat (.int w)) := fun _ => rfl
  have i1 : ∀ R, opIdx st (.dat (LD w R)) (.int 1) = some (.dat (RD R)) := fun _ => rfl
  have lc : evE (callF tb (n + 3)) (.lc [("row", 2)] (.v 2) (.iseq (.idx (.var 0) (.lit (.int 1)))) .yes (.cmp .eq (.call S.ib (.acons (.idx (.var 1) (.lit (.int 1))) (.acons (.var 2) .anil))) (.var 2))) [some (.dat (LD w A)), some (.dat (LD w B)), none] st = .ok (.new (((A.map fun s => isIn B s).map PyData.bool).map .dat)) st := by
    rw [ev_lc_map (xs := A) (F := fun s => .dat (TD s)) (G := fun s => some (.dat (.bool (isIn B s)))) ?_ hz fun s hs => ?_]
    · rw [fm_some, List.map_map, List.map_map]; rfl
    · rw [I_seq, E_idx, E_var]
      show Res.ok (Src.mk ((A.map TD).map Va.dat) none) st = _
      rw [RD_items]
    · show ((evE (callF tb (n + 3)) (.cmp .eq (.call S.ib (.acons (.idx (.var 1) (.lit (.int 1))) (.acons (.var 2) .anil))) (.var 2)) [some (.dat (LD w A)), some (.dat (LD w B)), some (.dat (TD s))] st).bind fun v s2 => match isOut v with | some v => Res.ok (some v) s2 | none => .stuck) = _
      simp only [E_cmp, E_call, E_idx, A_cons, A_nil, E_var, E_lit, Res.bind_ok, Res.of_some, List.getElem?_cons_zero, List.getElem?_cons_succ, Option.bind_some, id_eq, isOut_dat, view_dat, i1, below_ok S.hb S.hl S.ht S.hsh S.hp S.hu n B s st hb (ha s hs), cmp_below, Option.map_some]
  have ba : biF .all (.list ((A.map fun s => isIn B s).map PyData.bool)) = some (.dat (.bool (A.all fun s => isIn B s))) := by
    show (isBools _).map _ = _
    rw [isBools_map]
    show some (Va.dat (.bool ((A.map fun s => isIn B s).all id))) = _
    rw [List.all_map]; rfl
  simp only [S_seq, S_expr, S_ret, E_idx, E_call, E_bi, A_cons, A_nil, E_var, E_lit, Res.bind_ok, Res.of_some, List.getElem?_cons_zero, List.getElem?_cons_succ, Option.bind_some, id_eq, isOut_dat, view_dat, i0, need_ok S.hn (n + 2), lc, view_new, ba]
theorem alike_ok {io iw : Nat} (S : Span tb ii) (ho : tb[io]? = some (F_alike iw)) (hw : tb[iw]? = some (F_within S.ne S.ib)) (n : Nat) (w : Int) (A B : List (List Num)) (st : Sto) (ha : ∀ s ∈ A, s.length ≤ 1000) (hb : ∀ s ∈ B, s.length ≤ 1000) (hz : A.length ≤ 1000) (hy : B.length ≤ 1000) :
    callF tb (n + 5) io [.dat (LD w A), .dat (LD w B)] st = .ok (.dat (.bool ((A.all fun s => isIn B s) && B.all fun s => isIn A s))) st := by
  refine call_eq (F := F_alike iw) (ρ := [some (.dat (LD w A)), some (.dat (LD w B))]) ho rfl rfl rfl (ret_eq ?_)
  simp only [E_and, E_last, E_call, A_cons, A_nil, E_var, Res.bind_ok, Res.of_some, List.getElem?_cons_zero, List.getElem?_cons_succ, Option.bind_some, id_eq, isOut_dat, within_ok S hw n w A B st ha hb hz, within_ok S hw n w B A st hb ha hy, asBool_bool]
  cases A.all fun s => isIn B s <;> rfl
end
end PK

/-! PKJ: unlike rows have unlike texts. -/
namespace PK
open PySem RS
open PyProof.Rows (mem_cps_append mem_join signs_ofString int_sign digit_range cps_toList_append signs_sep join_nil join_one join_cons_cons signs_lparen)
/-- the signs of a text -/
def sg (x : Str) : List Nat := x.cps.toList
theorem sg_app (a b : Str) : sg (a ++ b) = sg a ++ sg b := cps_toList_append a b
theorem split_at (c : Nat) : ∀ (l l' r r' : List Nat), c ∉ l → c ∉ l' → l ++ c :: r = l' ++ c :: r' → l = l' ∧ r = r'
  | [], [], r, r', _, _, h => ⟨rfl, (List.cons.inj h).2⟩
  | [], x :: l', r, r', _, h2, h => absurd (by rw [(List.cons.inj h).1]; exact List.mem_cons_self) h2
  | x :: l, [], r, r', h1, _, h => absurd (by rw [← (List.cons.inj h).1]; exact List.mem_cons_self) h1
  | x :: l, y :: l', r, r', h1, h2, h => by
    obtain ⟨e1, e2⟩ := List.cons.inj h
    obtain ⟨e3, e4⟩ := split_at c l l' r r' (fun z => h1 (List.mem_cons_of_mem _ z)) (fun z => h2 (List.mem_cons_of_mem _ z)) e2
    exact ⟨by rw [e1, e3], e4⟩
theorem none_sg : sg (PyData.shown .none) = [78, 111, 110, 101] := by simp only [PyData.shown]; decide
theorem int_sg (i : Int) : sg (PyData.shown (.int i)) = (toString i).toList.map Char.toNat := by
  simp only [PyData.shown]
  exact signs_ofString _
theorem num_chars (a : Num) : ∀ c ∈ sg (PyData.shown (D a)), c ≠ 44 ∧ c ≠ 41 ∧ c ≠ 40 := by
  intro c hc
  cases a with
  | none =>
    have hc : c ∈ sg (PyData.shown .none) := hc
    rw [none_sg] at hc
    simp only [List.mem_cons, List.mem_nil_iff, or_false] at hc
    rcases hc with rfl | rfl | rfl | rfl <;> decide
  | some i =>
    have hc : c ∈ sg (PyData.shown (.int i)) := hc
    rw [int_sg] at hc
    obtain ⟨ch, hm, e⟩ := List.mem_map.mp hc
    rcases int_sign i ch hm with hd | hd
    · have := digit_range hd; omega
    · rw [hd] at e
      have : c = 45 := by rw [← e]; decide
      omega
theorem toNat_inj {x y : Char} (h : x.toNat = y.toNat) : x = y := Char.ext (UInt32.toNat_inj.mp h)
theorem map_toNat_inj : ∀ {x y : List Char}, x.map Char.toNat = y.map Char.toNat → x = y
  | [], [], _ => rfl
  | [], _ :: _, h => by cases h
  | _ :: _, [], h => by cases h
  | a :: x, b :: y, h => by
    obtain ⟨h1, h2⟩ := List.cons.inj h
    rw [toNat_inj h1, map_toNat_inj h2]
theorem num_inj {a b : Num} (h : sg (PyData.shown (D a)) = sg (PyData.shown (D b))) : a = b := by
  have no78 : ∀ i : Int, 78 ∉ sg (PyData.shown (.int i)) := fun i hm => by
    rw [int_sg] at hm
    obtain ⟨ch, hc, e⟩ := List.mem_map.mp hm
    rcases int_sign i ch hc with hd | hd
    · have := digit_range hd; omega
    · rw [hd] at e; exact absurd e (by decide)
  cases a with
  | none =>
    cases b with
    | none => rfl
    | some j =>
      have h : sg (PyData.shown .none) = sg (PyData.shown (.int j)) := h
      refine absurd ?_ (no78 j)
      rw [← h, none_sg]; exact List.mem_cons_self
  | some i =>
    cases b with
    | none =>
      have h : sg (PyData.shown (.int i)) = sg (PyData.shown .none) := h
      refine absurd ?_ (no78 i)
      rw [h, none_sg]; exact List.mem_cons_self
    | some j =>
      have h : sg (PyData.shown (.int i)) = sg (PyData.shown (.int j)) := h
      rw [int_sg, int_sg] at h
      have e := String.ext (map_toNat_inj h)
      have e : Int.repr i = Int.repr j := e
      rw [Int.repr_inj.mp e]
theorem shownAll_map {α : Type} (f : α → PyData) : ∀ xs : List α, PyData.shownAll (xs.map f) = xs.map fun a => PyData.shown (f a)
  | [] => by simp [PyData.shownAll]
  | x :: xs => by rw [List.map_cons, PyData.shownAll, shownAll_map f xs, List.map_cons]
/-- texts with a comma between them -/
def J : List (List Nat) → List Nat
  | [] => []
  | [x] => x
  | x :: y :: r => x ++ 44 :: 32 :: J (y :: r)
theorem sg_join : ∀ ts : List Str, sg (Str.join ", " ts) = J (ts.map sg)
  | [] => by rw [join_nil]; rfl
  | [x] => by rw [join_one]; rfl
  | x :: y :: r => by
    rw [join_cons_cons, sg_app, sg_app, sg_join (y :: r)]
    show sg x ++ sg (", " : Str) ++ J _ = sg x ++ 44 :: 32 :: J _
    rw [show sg (", " : Str) = [44, 32] from signs_sep]
    simp
/-- a tuple's end -/
def tl (n : Nat) : List Nat := if n = 1 then [44, 41] else [41]
theorem sg_tuple (ts : List Str) : sg (tupleText ts) = 40 :: (J (ts.map sg) ++ tl ts.length) := by
  unfold tupleText
  rw [sg_app, sg_app, sg_join]
  have e1 : sg ("(" : Str) = [40] := signs_lparen
  rw [e1]
  unfold tl
  by_cases h : ts.length = 1
  · rw [if_pos h]
    have : (ts.length == 1) = true := by rw [h]; rfl
    rw [this]
    have e2 : sg (((if true = true then ",)" else ")" : String)) : Str) = [44, 41] := by decide
    rw [e2]; simp
  · rw [if_neg h]
    have : (ts.length == 1) = false := by simpa using h
    rw [this]
    have e2 : sg (((if false = true then ",)" else ")" : String)) : Str) = [41] := by decide
    rw [e2]; simp
theorem sg_TD (s : List Num) : sg (PyData.shown (TD s)) = 40 :: (J (s.map fun a => sg (PyData.shown (D a))) ++ tl s.length) := by
  show sg (PyData.shown (.tuple (s.map D))) = _
  simp only [PyData.shown]
  rw [sg_tuple, shownAll_map, List.map_map, List.length_map]; rfl
theorem sg_RD (A : List (List Num)) : sg (PyData.shown (RD A)) = 40 :: (J (A.map fun s => sg (PyData.shown (TD s))) ++ tl A.length) := by
  show sg (PyData.shown (.tuple (A.map TD))) = _
  simp only [PyData.shown]
  rw [sg_tuple, shownAll_map, List.map_map, List.length_map]; rfl
theorem nums_inj : ∀ {s t : List Num}, s.length = t.length → J (s.map fun a => sg (PyData.shown (D a))) = J (t.map fun a => sg (PyData.shown (D a))) → s = t
  | [], [], _, _ => rfl
  | [], _ :: _, h, _ => by cases h
  | _ :: _, [], h, _ => by cases h
  | [a], [b], _, h => by rw [num_inj h]
  | [_], _ :: _ :: _, h, _ => by cases h
  | _ :: _ :: _, [_], h, _ => by cases h
  | a :: a' :: s, b :: b' :: t, l, h => by
    have h : sg (PyData.shown (D a)) ++ 44 :: 32 :: J ((a' :: s).map fun a => sg (PyData.shown (D a))) = sg (PyData.shown (D b)) ++ 44 :: 32 :: J ((b' :: t).map fun a => sg (PyData.shown (D a))) := h
    obtain ⟨e1, e2⟩ := split_at 44 _ _ _ _ (fun z => (num_chars a 44 z).1 rfl) (fun z => (num_chars b 44 z).1 rfl) h
    rw [num_inj e1, nums_inj (by simpa using l) (List.cons.inj e2).2]
theorem mem_J {c : Nat} (hc : c ≠ 44 ∧ c ≠ 32) : ∀ {ts : List (List Nat)}, (∀ t ∈ ts, c ∉ t) → c ∉ J ts
  | [], _ => by simp [J]
  | [x], h => h x List.mem_cons_self
  | x :: y :: r, h => by
    show c ∉ x ++ 44 :: 32 :: J (y :: r)
    intro z
    rcases List.mem_append.mp z with z | z
    · exact h x List.mem_cons_self z
    · rcases List.mem_cons.mp z with z | z
      · exact hc.1 z
      · rcases List.mem_cons.mp z with z | z
        · exact hc.2 z
        · exact mem_J hc (fun t ht => h t (List.mem_cons_of_mem _ ht)) z
/-- a row's text ends where it ends -/
theorem row_pre {s t : List Num} (l : s.length = t.length) {r r' : List Nat} (h : sg (PyData.shown (TD s)) ++ r = sg (PyData.shown (TD t)) ++ r') : s = t ∧ r = r' := by
  have cut : ∀ s : List Num, ∃ b, sg (PyData.shown (TD s)) = b ++ [41] ∧ 41 ∉ b ∧ b = 40 :: (J (s.map fun a => sg (PyData.shown (D a))) ++ (if s.length = 1 then [44] else [])) := fun s => by
    refine ⟨_, ?_, ?_, rfl⟩
    · rw [sg_TD]
      unfold tl
      by_cases h : s.length = 1
      · rw [if_pos h, if_pos h]; simp
      · rw [if_neg h, if_neg h]; simp
    · intro z
      rcases List.mem_cons.mp z with z | z
      · exact absurd z (by decide)
      · rcases List.mem_append.mp z with z | z
        · exact mem_J (c := 41) ⟨by decide, by decide⟩ (fun t ht q => by
            obtain ⟨a, _, rfl⟩ := List.mem_map.mp ht
            exact (num_chars a 41 q).2.1 rfl) z
        · split at z
          · simp at z
          · cases z
  obtain ⟨b1, e1, n1, d1⟩ := cut s
  obtain ⟨b2, e2, n2, d2⟩ := cut t
  rw [e1, e2, List.append_assoc, List.append_assoc] at h
  obtain ⟨q1, q2⟩ := split_at 41 b1 b2 r r' n1 n2 h
  refine ⟨?_, q2⟩
  rw [d1, d2, l] at q1
  exact nums_inj l (List.append_cancel_right (List.cons.inj q1).2)
theorem rows_inj : ∀ (A B : List (List Num)) (e1 e2 : List Nat), (e1 = [41] ∨ e1 = [44, 41]) → (e2 = [41] ∨ e2 = [44, 41]) → (∀ s ∈ A, ∀ t ∈ B, s.length = t.length) →
    J (A.map fun s => sg (PyData.shown (TD s))) ++ e1 = J (B.map fun s => sg (PyData.shown (TD s))) ++ e2 → A = B
  | [], [], _, _, _, _, _, _ => rfl
  | [], t :: B, e1, e2, h1, h2, _, h => by
    have : ∃ r, J ((t :: B).map fun s => sg (PyData.shown (TD s))) ++ e2 = 40 :: r := by
      cases B with
      | nil =>
        show ∃ r, sg (PyData.shown (TD t)) ++ e2 = 40 :: r
        rw [sg_TD]; exact ⟨_, rfl⟩
      | cons t' B =>
        show ∃ r, (sg (PyData.shown (TD t)) ++ 44 :: 32 :: J ((t' :: B).map fun s => sg (PyData.shown (TD s)))) ++ e2 = 40 :: r
        rw [sg_TD]; exact ⟨_, rfl⟩
    obtain ⟨r, e⟩ := this
    rw [e] at h
    have h : e1 = 40 :: r := h
    rcases h1 with rfl | rfl <;> cases h
  | s :: A, [], e1, e2, h1, h2, _, h => by
    have : ∃ r, J ((s :: A).map fun s => sg (PyData.shown (TD s))) ++ e1 = 40 :: r := by
      cases A with
      | nil =>
        show ∃ r, sg (PyData.shown (TD s)) ++ e1 = 40 :: r
        rw [sg_TD]; exact ⟨_, rfl⟩
      | cons t' B =>
        show ∃ r, (sg (PyData.shown (TD s)) ++ 44 :: 32 :: J ((t' :: B).map fun s => sg (PyData.shown (TD s)))) ++ e1 = 40 :: r
        rw [sg_TD]; exact ⟨_, rfl⟩
    obtain ⟨r, e⟩ := this
    rw [e] at h
    have h : 40 :: r = e2 := h
    rcases h2 with rfl | rfl <;> cases h
  | [s], [t], e1, e2, h1, h2, hl, h => by
    rw [(row_pre (hl s List.mem_cons_self t List.mem_cons_self) h).1]
  | [s], t :: t' :: B, e1, e2, h1, h2, hl, h => by
    have h : sg (PyData.shown (TD s)) ++ e1 = (sg (PyData.shown (TD t)) ++ 44 :: 32 :: J ((t' :: B).map fun s => sg (PyData.shown (TD s)))) ++ e2 := h
    rw [List.append_assoc] at h
    have := (row_pre (hl s List.mem_cons_self t List.mem_cons_self) h).2
    rcases h1 with rfl | rfl <;> cases this
  | s :: s' :: A, [t], e1, e2, h1, h2, hl, h => by
    have h : (sg (PyData.shown (TD s)) ++ 44 :: 32 :: J ((s' :: A).map fun s => sg (PyData.shown (TD s)))) ++ e1 = sg (PyData.shown (TD t)) ++ e2 := h
    rw [List.append_assoc] at h
    have := (row_pre (hl s List.mem_cons_self t List.mem_cons_self) h).2
    rcases h2 with rfl | rfl <;> cases this
  | s :: s' :: A, t :: t' :: B, e1, e2, h1, h2, hl, h => by
    have h : (sg (PyData.shown (TD s)) ++ 44 :: 32 :: J ((s' :: A).map fun s => sg (PyData.shown (TD s)))) ++ e1 = (sg (PyData.shown (TD t)) ++ 44 :: 32 :: J ((t' :: B).map fun s => sg (PyData.shown (TD s)))) ++ e2 := h
    rw [List.append_assoc, List.append_assoc] at h
    obtain ⟨q1, q2⟩ := row_pre (hl s List.mem_cons_self t List.mem_cons_self) h
    have q2 := (List.cons.inj (List.cons.inj q2).2).2
    rw [q1, rows_inj (s' :: A) (t' :: B) e1 e2 h1 h2 (fun x hx y hy => hl x (List.mem_cons_of_mem _ hx) y (List.mem_cons_of_mem _ hy)) q2]
theorem RD_inj {w : Nat} {A B : List (List Num)} (ha : ∀ s ∈ A, s.length = w) (hb : ∀ s ∈ B, s.length = w) (h : PyData.shown (RD A) = PyData.shown (RD B)) : A = B := by
  have h := congrArg sg h
  rw [sg_RD, sg_RD] at h
  have two : ∀ n, tl n = [41] ∨ tl n = [44, 41] := fun n => by
    unfold tl
    split
    · exact .inr rfl
    · exact .inl rfl
  exact rows_inj A B _ _ (two _) (two _) (fun s hs t ht => by rw [ha s hs, hb t ht]) (List.cons.inj h).2
end PK

/-! PKP: spreads and gaps, in plain Lean. -/
namespace PK
open PySem RS
def maxI : List Int → Int
  | [] => 0
  | n :: r => r.foldl max n
def minZ : List Int → Int
  | [] => 0
  | n :: r => r.foldl min n
theorem foldl_max_le : ∀ (r : List Int) (n : Int), n ≤ r.foldl max n ∧ ∀ y ∈ r, y ≤ r.foldl max n
  | [], n => ⟨Int.le_refl _, fun _ m => nomatch m⟩
  | a :: r, n => by
    obtain ⟨h1, h2⟩ := foldl_max_le r (max n a)
    rw [List.foldl_cons]
    refine ⟨by omega, fun y m => ?_⟩
    rcases List.mem_cons.mp m with rfl | m
    · omega
    · exact h2 y m
theorem foldl_max_mem : ∀ (r : List Int) (n : Int), r.foldl max n = n ∨ r.foldl max n ∈ r
  | [], n => .inl rfl
  | a :: r, n => by
    rw [List.foldl_cons]
    rcases foldl_max_mem r (max n a) with h | h
    · rw [h]
      by_cases q : n ≤ a
      · exact .inr (by rw [show max n a = a by omega]; exact List.mem_cons_self)
      · exact .inl (by omega)
    · exact .inr (List.mem_cons_of_mem _ h)
theorem maxI_le {L : List Int} {y : Int} (h : y ∈ L) : y ≤ maxI L := by
  cases L with
  | nil => nomatch h
  | cons a r =>
    rcases List.mem_cons.mp h with rfl | m
    · exact (foldl_max_le r _).1
    · exact (foldl_max_le r _).2 y m
theorem maxI_mem {L : List Int} (h : L ≠ []) : maxI L ∈ L := by
  cases L with
  | nil => exact absurd rfl h
  | cons a r =>
    show r.foldl max a ∈ a :: r
    rcases foldl_max_mem r a with q | q
    · rw [q]; exact List.mem_cons_self
    · exact List.mem_cons_of_mem _ q
theorem minZ_le {L : List Int} {y : Int} (h : y ∈ L) : minZ L ≤ y := by
  cases L with
  | nil => nomatch h
  | cons a r =>
    rcases List.mem_cons.mp h with rfl | m
    · exact (foldl_min_le r _).1
    · exact (foldl_min_le r _).2 y m
theorem minZ_mem {L : List Int} (h : L ≠ []) : minZ L ∈ L := by
  cases L with
  | nil => exact absurd rfl h
  | cons a r =>
    show r.foldl min a ∈ a :: r
    rcases foldl_min_mem r a with q | q
    · rw [q]; exact List.mem_cons_self
    · exact List.mem_cons_of_mem _ q
/-- integers at the same places -/
def Lv (s t : List Num) : Prop := s.map Option.isNone = t.map Option.isNone
instance (s t : List Num) : Decidable (Lv s t) := inferInstanceAs (Decidable (s.map Option.isNone = t.map Option.isNone))
theorem Lv.len {s t : List Num} (h : Lv s t) : s.length = t.length := by
  have := congrArg List.length h
  rwa [List.length_map, List.length_map] at this
theorem Lv.symm {s t : List Num} (h : Lv s t) : Lv t s := Eq.symm h
theorem Lv.trans {s t u : List Num} (h : Lv s t) (g : Lv t u) : Lv s u := Eq.trans h g
theorem Lv.refl (s : List Num) : Lv s s := rfl
theorem Lv.get {s t : List Num} (h : Lv s t) {i : Nat} {a : Int} (e : s[i]? = some (some a)) : ∃ b, t[i]? = some (some b) := by
  have q : (s.map Option.isNone)[i]? = (t.map Option.isNone)[i]? := by rw [show s.map Option.isNone = t.map Option.isNone from h]
  rw [List.getElem?_map, List.getElem?_map, e] at q
  cases w : t[i]? with
  | none => rw [w] at q; cases q
  | some x =>
    rw [w] at q
    cases x with
    | none => cases q
    | some b => exact ⟨b, rfl⟩
theorem Lv.of {s t : List Num} (l : s.length = t.length) (h : ∀ (i : Nat) (a : Int), s[i]? = some (some a) → ∃ b : Int, t[i]? = some (some b)) (g : ∀ (i : Nat) (a : Int), t[i]? = some (some a) → ∃ b : Int, s[i]? = some (some b)) : Lv s t := by
  unfold Lv
  apply List.ext_getElem?
  intro i
  rw [List.getElem?_map, List.getElem?_map]
  by_cases hi : i < s.length
  · have es : s[i]? = some s[i] := List.getElem?_eq_getElem hi
    have et : t[i]? = some t[i] := List.getElem?_eq_getElem (by omega)
    rw [es, et]
    cases a : s[i] with
    | none =>
      cases b : t[i] with
      | none => rfl
      | some y =>
        obtain ⟨b', e⟩ := g i y (by rw [et, b])
        rw [es, a] at e; cases e
    | some x =>
      cases b : t[i] with
      | some y => rfl
      | none =>
        obtain ⟨b', e⟩ := h i x (by rw [es, a])
        rw [et, b] at e; cases e
  · rw [List.getElem?_eq_none (by omega), List.getElem?_eq_none (by omega)]
theorem Lv.und {s t : List Num} {k l : Int} (e : s.length = t.length) (h : Und s t k) (g : Und t s l) : Lv s t :=
  Lv.of e (fun i a q => (h i a q).imp fun b z => z.1) fun i a q => (g i a q).imp fun b z => z.1
theorem lv_sh (s : List Num) (k : Int) : Lv s (sh s (some k)) := Lv.und (sh_len s _).symm (und_sh s k) (und_sh' s k)
theorem Lv.ne {s t : List Num} (h : Lv s t) (p : pres s ≠ []) : pres t ≠ [] := fun z => p (by
  have z := pres_nil.mp z
  refine pres_nil.mpr ?_
  apply List.ext_getElem?
  intro i
  by_cases hi : i < s.length
  · have es : s[i]? = some s[i] := List.getElem?_eq_getElem hi
    rw [es, nones, List.getElem?_replicate, if_pos hi]
    cases a : s[i] with
    | none => rfl
    | some x =>
      obtain ⟨b, e⟩ := h.get (by rw [es, a])
      rw [z, nones, List.getElem?_replicate] at e
      split at e <;> cases e
  · rw [List.getElem?_eq_none (by omega), List.getElem?_eq_none (by rw [nones, List.length_replicate]; omega)])
theorem pres_get {s : List Num} : pres s ≠ [] ↔ ∃ (i : Nat) (x : Int), s[i]? = some (some x) := by
  unfold pres
  rw [ne_eq, List.filterMap_eq_nil_iff]
  constructor
  · intro h
    have : ∃ a ∈ s, a ≠ none := Classical.byContradiction fun z => h fun a ha => Classical.byContradiction fun q => z ⟨a, ha, q⟩
    obtain ⟨a, ha, q⟩ := this
    obtain ⟨i, hi, e⟩ := List.mem_iff_getElem.mp ha
    cases a with
    | none => exact absurd rfl q
    | some x => exact ⟨i, x, by rw [List.getElem?_eq_getElem hi, e]⟩
  · rintro ⟨i, x, e⟩ q
    have := q (some x) (List.mem_of_getElem? e)
    cases this
/-- the differences, where both have integers -/
def dd (s t : List Num) : List Int := (List.zip s t).filterMap fun p => p.1.bind fun a => p.2.map fun b => a - b
theorem mem_dd {s t : List Num} {x : Int} : x ∈ dd s t ↔ ∃ (i : Nat) (a b : Int), s[i]? = some (some a) ∧ t[i]? = some (some b) ∧ x = a - b := by
  unfold dd
  rw [List.mem_filterMap]
  constructor
  · rintro ⟨⟨p, q⟩, m, e⟩
    obtain ⟨i, hi⟩ := List.mem_iff_getElem?.mp m
    obtain ⟨h1, h2⟩ := List.getElem?_zip_eq_some.mp hi
    cases p with
    | none => cases e
    | some a =>
      cases q with
      | none => cases e
      | some b => cases e; exact ⟨i, a, b, h1, h2, rfl⟩
  · rintro ⟨i, a, b, h1, h2, rfl⟩
    exact ⟨(some a, some b), List.mem_iff_getElem?.mpr ⟨i, List.getElem?_zip_eq_some.mpr ⟨h1, h2⟩⟩, rfl⟩
/-- the spread of two level rows -/
def sprd (s t : List Num) : Int := maxI (dd s t) - minZ (dd s t)
/-- the greatest shift by which s is nowhere higher than t -/
structure Gr (s t : List Num) (k : Int) : Prop where
  und : Und s t k
  top : ∀ l, Und s t l → l ≤ k
theorem Gr.uniq {s t : List Num} {k l : Int} (h : Gr s t k) (g : Gr s t l) : k = l := by
  have := h.top l g.und
  have := g.top k h.und
  omega
theorem Gr.shl {s t : List Num} {k : Int} (c : Int) (h : Gr s t k) : Gr (sh s (some c)) t (k - c) where
  und := by have := (und_sh' s c).trans h.und; rwa [show -c + k = k - c by omega] at this
  top := fun l g => by have := h.top (c + l) ((und_sh s c).trans g); omega
theorem Gr.shr {s t : List Num} {k : Int} (c : Int) (h : Gr s t k) : Gr s (sh t (some c)) (k + c) where
  und := h.und.trans (und_sh t c)
  top := fun l g => by have := h.top (l + -c) (g.trans (und_sh' t c)); omega
theorem Gr.self {s : List Num} (p : pres s ≠ []) : Gr s s 0 where
  und := Und.refl s
  top := fun l g => by
    obtain ⟨i, x, e⟩ := pres_get.mp p
    obtain ⟨y, e2, h⟩ := g i x e
    rw [e] at e2
    cases e2; omega
theorem sprd_gr {s t : List Num} (h : Lv s t) (p : pres s ≠ []) : ∃ k l, Gr s t k ∧ Gr t s l ∧ sprd s t = -(k + l) := by
  have ne : dd s t ≠ [] := fun z => by
    obtain ⟨i, x, e⟩ := pres_get.mp p
    obtain ⟨b, e2⟩ := h.get e
    have : x - b ∈ dd s t := mem_dd.mpr ⟨i, x, b, e, e2, rfl⟩
    rw [z] at this; nomatch this
  refine ⟨-maxI (dd s t), minZ (dd s t), ⟨fun j a e => ?_, fun l g => ?_⟩, ⟨fun j b e => ?_, fun l g => ?_⟩, by unfold sprd; omega⟩
  · obtain ⟨b, e2⟩ := h.get e
    exact ⟨b, e2, by have := maxI_le (mem_dd.mpr ⟨j, a, b, e, e2, rfl⟩); omega⟩
  · obtain ⟨i, a, b, e1, e2, ex⟩ := mem_dd.mp (maxI_mem ne)
    obtain ⟨b', e3, q⟩ := g i a e1
    rw [e2] at e3; cases e3; omega
  · obtain ⟨a, e2⟩ := h.symm.get e
    exact ⟨a, e2, by have := minZ_le (mem_dd.mpr ⟨j, a, b, e2, e, rfl⟩); omega⟩
  · obtain ⟨i, a, b, e1, e2, ex⟩ := mem_dd.mp (minZ_mem ne)
    obtain ⟨a', e3, q⟩ := g i b e2
    rw [e1] at e3; cases e3; omega
theorem sprd_eq {s t : List Num} {k l : Int} (h : Lv s t) (p : pres s ≠ []) (a : Gr s t k) (b : Gr t s l) : sprd s t = -(k + l) := by
  obtain ⟨k', l', a', b', e⟩ := sprd_gr h p
  rw [e, a.uniq a', b.uniq b']
theorem sprd_comm {s t : List Num} (h : Lv s t) (p : pres s ≠ []) : sprd t s = sprd s t := by
  obtain ⟨k, l, a, b, e⟩ := sprd_gr h p
  rw [e, sprd_eq h.symm (h.ne p) b a]; omega
theorem sh_ne {s : List Num} (p : pres s ≠ []) (k : Int) : pres (sh s (some k)) ≠ [] := (lv_sh s k).ne p
theorem sprd_shl {s t : List Num} (h : Lv s t) (p : pres s ≠ []) (c : Int) : sprd (sh s (some c)) t = sprd s t := by
  obtain ⟨k, l, a, b, e⟩ := sprd_gr h p
  rw [e, sprd_eq ((lv_sh s c).symm.trans h) (sh_ne p c) (a.shl c) (b.shr c)]; omega
theorem sprd_shr {s t : List Num} (h : Lv s t) (p : pres s ≠ []) (c : Int) : sprd s (sh t (some c)) = sprd s t := by
  obtain ⟨k, l, a, b, e⟩ := sprd_gr h p
  rw [e, sprd_eq (h.trans (lv_sh t c)) p (a.shr c) (b.shl c)]; omega
theorem sprd_self {s : List Num} (p : pres s ≠ []) (c : Int) : sprd s (sh s (some c)) = 0 := by
  rw [sprd_shr (Lv.refl s) p, sprd_eq (Lv.refl s) p (Gr.self p) (Gr.self p)]; omega
theorem sprd_tri {s t u : List Num} (h : Lv s u) (g : Lv u t) (p : pres s ≠ []) : sprd s t ≤ sprd s u + sprd u t := by
  obtain ⟨k, l, a, b, e⟩ := sprd_gr h p
  obtain ⟨k2, l2, a2, b2, e2⟩ := sprd_gr g (h.ne p)
  obtain ⟨k3, l3, a3, b3, e3⟩ := sprd_gr (h.trans g) p
  have := a3.top _ (a.und.trans a2.und)
  have := b3.top _ (b2.und.trans b.und)
  omega
theorem sh_first {s : List Num} {c : Int} (p : pres s ≠ []) : first (sh s (some c)) = first s + c := by
  unfold first
  rw [pres_sh]
  cases q : pres s with
  | nil => exact absurd q p
  | cons a r => rfl
theorem sprd_zero {s t : List Num} (h : Lv s t) (p : pres s ≠ []) : sprd s t = 0 ↔ sh s (some (first t)) = sh t (some (first s)) := by
  constructor
  · intro z
    obtain ⟨k, l, a, b, e⟩ := sprd_gr h p
    have hl : l = -k := by omega
    subst hl
    have : t = sh s (some k) := und_both h.len a.und b.und
    subst this
    rw [sh_first p, sh_sh]
    congr 2; omega
  · intro z
    have : t = sh s (some (first t - first s)) := by
      have q : sh (sh s (some (first t))) (some (-first s)) = sh (sh t (some (first s))) (some (-first s)) := by rw [z]
      rw [sh_sh, sh_sh, show first s + -first s = 0 by omega, sh_0] at q
      rw [show first t - first s = first t + -first s by omega]; exact q.symm
    rw [this]
    exact sprd_self p _
/-! ### gaps -/
theorem belowR_len {rows : List (List Num)} {t : List Num} (hr : ∀ s ∈ rows, s.length = t.length) : (belowR rows t).length = t.length := by
  have : ∀ (rows : List (List Num)) (f : List Num), (∀ s ∈ rows, s.length = t.length) → f.length = t.length → (belows rows t f).length = t.length := by
    intro rows
    induction rows with
    | nil => intro f _ h; exact h
    | cons s rows ih => intro f q h; exact ih _ (fun z hz => q z (List.mem_cons_of_mem _ hz)) (by have := q s List.mem_cons_self; rw [lay_len, sh_len]; omega)
  exact this rows _ hr (by rw [nones, List.length_replicate])
theorem fold_some : ∀ (ns : List Num) (x : Num) (v : Int), ns.foldl topN x = some v → x = some v ∨ some v ∈ ns
  | [], x, v, e => .inl e
  | a :: ns, x, v, e => by
    rw [List.foldl_cons] at e
    rcases fold_some ns _ v e with h | h
    · cases x with
      | none => exact .inr (by rw [← show a = some v from h]; exact List.mem_cons_self)
      | some x =>
        cases a with
        | none => exact .inl h
        | some a =>
          have h : some (max x a) = some v := h
          have h := Option.some.inj h
          by_cases q : x ≤ a
          · exact .inr (by rw [show a = v by omega]; exact List.mem_cons_self)
          · exact .inl (by rw [show x = v by omega])
    · exact .inr (List.mem_cons_of_mem _ h)
theorem fold_up : ∀ (ns : List Num) (x : Num) (v : Int), (x = some v ∨ some v ∈ ns) → ∃ u, ns.foldl topN x = some u ∧ v ≤ u
  | [], x, v, h => by
    rcases h with h | h
    · exact ⟨v, h, Int.le_refl _⟩
    · nomatch h
  | a :: ns, x, v, h => by
    rw [List.foldl_cons]
    have key : (∃ w, topN x a = some w ∧ v ≤ w) ∨ some v ∈ ns := by
      rcases h with h | h
      · subst h
        cases a with
        | none => exact .inl ⟨v, rfl, Int.le_refl _⟩
        | some a => exact .inl ⟨max v a, rfl, by omega⟩
      · rcases List.mem_cons.mp h with h | h
        · subst h
          cases x with
          | none => exact .inl ⟨v, rfl, Int.le_refl _⟩
          | some x => exact .inl ⟨max x v, rfl, by omega⟩
        · exact .inr h
    rcases key with ⟨w, e, l⟩ | m
    · obtain ⟨u, e2, l2⟩ := fold_up ns (topN x a) w (.inl e)
      exact ⟨u, e2, by omega⟩
    · exact fold_up ns (topN x a) v (.inr m)
theorem belowR_get {rows : List (List Num)} {t : List Num} (hr : ∀ s ∈ rows, s.length = t.length) {i : Nat} (hi : i < t.length) : (belowR rows t)[i]? = some ((rows.map fun s => plusN (s[i]?.getD none) (under s t)).foldl topN none) := by
  have n0 : (nones t.length)[i]?.getD none = none := by
    rw [nones, List.getElem?_replicate]
    split <;> rfl
  rw [belowR, belows_get t i hi rows _ hr (by rw [nones, List.length_replicate]), n0, ← List.foldl_map (f := fun s : List Num => plusN (s[i]?.getD none) (under s t)) (g := topN)]
theorem under_gr {s t : List Num} {k : Int} (l : s.length = t.length) (h : under s t = some k) : Gr s t k := by
  obtain ⟨h1, h2⟩ := under_spec.mp h
  obtain ⟨a, b, m, e⟩ := mem_difs.mp h1
  obtain ⟨i, hi⟩ := List.mem_iff_getElem?.mp m
  obtain ⟨z1, z2⟩ := List.getElem?_zip_eq_some.mp hi
  refine ⟨fun j x q => ?_, fun k' g => ?_⟩
  · have hj : j < t.length := by have := (List.getElem?_eq_some_iff.mp q).1; omega
    have mz : (some x, t[j]) ∈ List.zip s t := List.mem_iff_getElem?.mpr ⟨j, List.getElem?_zip_eq_some.mpr ⟨q, List.getElem?_eq_getElem hj⟩⟩
    obtain ⟨d, e1, e2⟩ := h2 _ (mem_difs.mpr ⟨x, t[j], mz, rfl⟩)
    cases ht : t[j] with
    | none => rw [ht] at e1; cases e1
    | some y =>
      rw [ht] at e1
      have e1 : some (y - x) = some d := e1
      cases e1
      exact ⟨y, by rw [List.getElem?_eq_getElem hj, ht], by omega⟩
  · obtain ⟨y, q1, q2⟩ := g i a z1
    rw [show t[i]? = some b from z2] at q1
    cases q1
    have e : some k = some (y - a) := e
    cases e; omega
theorem gr_under {s t : List Num} {k : Int} (l : s.length = t.length) (p : pres s ≠ []) (h : Und s t k) : ∃ k', under s t = some k' ∧ k ≤ k' := by
  cases u : under s t with
  | some k' => exact ⟨k', rfl, (under_gr l u).top k h⟩
  | none =>
    exfalso
    unfold under at u
    split at u
    · rename_i m
      obtain ⟨a, b, mz, e⟩ := mem_difs.mp m
      obtain ⟨i, hi⟩ := List.mem_iff_getElem?.mp mz
      obtain ⟨z1, z2⟩ := List.getElem?_zip_eq_some.mp hi
      obtain ⟨y, q1, q2⟩ := h i a z1
      rw [show t[i]? = some b from z2] at q1
      cases q1
      cases e
    · rename_i m
      cases q : (difs s t).filterMap id with
      | nil =>
        obtain ⟨i, x, e⟩ := pres_get.mp p
        obtain ⟨y, e2, _⟩ := h i x e
        have : some (y - x) ∈ difs s t := mem_difs.mpr ⟨x, some y, List.mem_iff_getElem?.mpr ⟨i, List.getElem?_zip_eq_some.mpr ⟨e, e2⟩⟩, rfl⟩
        have : y - x ∈ (difs s t).filterMap id := List.mem_filterMap.mpr ⟨_, this, rfl⟩
        rw [q] at this; nomatch this
      | cons a r => rw [q] at u; cases u
section
variable {rows : List (List Num)} {t : List Num} (hr : ∀ s ∈ rows, s.length = t.length)
include hr
theorem below_und : Und (belowR rows t) t 0 := fun i x e => by
  have hi : i < t.length := by have := (List.getElem?_eq_some_iff.mp e).1; rwa [belowR_len hr] at this
  rw [belowR_get hr hi] at e
  rcases fold_some _ _ _ (Option.some.inj e) with h | h
  · cases h
  · obtain ⟨s, hs, e2⟩ := List.mem_map.mp h
    obtain ⟨y, q1, q2⟩ := under_le (zip_get (hr s hs) hi) x e2
    refine ⟨y, ?_, by omega⟩
    rw [List.getElem?_eq_getElem hi] at q1 ⊢
    exact congrArg some q1
theorem below_md : Md rows (belowR rows t) := fun i x e => by
  have hi : i < t.length := by have := (List.getElem?_eq_some_iff.mp e).1; rwa [belowR_len hr] at this
  have e' := e
  rw [belowR_get hr hi] at e
  rcases fold_some _ _ _ (Option.some.inj e) with h | h
  · cases h
  · obtain ⟨s, hs, e2⟩ := List.mem_map.mp h
    have his : i < s.length := by rw [hr s hs]; exact hi
    have es : s[i]? = some s[i] := List.getElem?_eq_getElem his
    rw [es, Option.getD_some] at e2
    cases a : s[i] with
    | none => rw [a] at e2; cases e2
    | some sv =>
      cases u : under s t with
      | none => rw [a, u] at e2; cases e2
      | some k =>
        rw [a, u] at e2
        have e2 : some (sv + k) = some x := e2
        have e2 := Option.some.inj e2
        refine ⟨s, hs, sv, by rw [es, a], fun j y q => ?_⟩
        have hj : j < t.length := by have := (List.getElem?_eq_some_iff.mp q).1; have := hr s hs; omega
        rw [belowR_get hr hj]
        obtain ⟨w, e3, l3⟩ := fold_up (rows.map fun s => plusN (s[j]?.getD none) (under s t)) none (y + k) (.inr (List.mem_map.mpr ⟨s, hs, by rw [q, u]; rfl⟩))
        exact ⟨w, congrArg some e3, by omega⟩
theorem below_top (hp : ∀ s ∈ rows, pres s ≠ []) {u : List Num} {c : Int} (m : Md rows u) (h : Und u t c) : Und u (belowR rows t) c := fun i x e => by
  obtain ⟨s, hs, sv, e1, g⟩ := m i x e
  obtain ⟨k, eu, lk⟩ := gr_under (hr s hs) (hp s hs) (g.trans h)
  obtain ⟨y, q, _⟩ := h i x e
  have hi := (List.getElem?_eq_some_iff.mp q).1
  rw [belowR_get hr hi]
  obtain ⟨w, e3, l3⟩ := fold_up (rows.map fun s => plusN (s[i]?.getD none) (under s t)) none (sv + k) (.inr (List.mem_map.mpr ⟨s, hs, by rw [e1, eu]; rfl⟩))
  exact ⟨w, congrArg some e3, by omega⟩
end
/-- some row of the span is within g below t -/
def Ach (rows : List (List Num)) (t : List Num) (g : Int) : Prop := ∃ u, u.length = t.length ∧ Md rows u ∧ Und u t 0 ∧ Und t u (-g)
def gapN (rows : List (List Num)) (t : List Num) : Num := if pres (belowR rows t) ≠ [] ∧ Lv (belowR rows t) t then some (sprd t (belowR rows t)) else none
/-- g is the least of these, none if there is none -/
def Lst (P : Int → Prop) : Num → Prop
  | none => ∀ g, ¬ P g
  | some g => P g ∧ ∀ g', P g' → g ≤ g'
theorem Lst.uniq {P Q : Int → Prop} {a b : Num} (e : ∀ g, P g ↔ Q g) (h : Lst P a) (k : Lst Q b) : a = b := by
  cases a with
  | none =>
    cases b with
    | none => rfl
    | some g => exact absurd ((e g).mpr k.1) (h g)
  | some g =>
    cases b with
    | none => exact absurd ((e g).mp h.1) (k g)
    | some g' =>
      have := h.2 g' ((e _).mpr k.1)
      have := k.2 g ((e _).mp h.1)
      rw [show g = g' by omega]
theorem gapN_lst {rows : List (List Num)} {t : List Num} (hr : ∀ s ∈ rows, s.length = t.length) (hp : ∀ s ∈ rows, pres s ≠ []) (pt : pres t ≠ []) : Lst (Ach rows t) (gapN rows t) := by
  have hl := belowR_len hr
  unfold gapN
  by_cases c : pres (belowR rows t) ≠ [] ∧ Lv (belowR rows t) t
  · rw [if_pos c]
    obtain ⟨k, l, a, b, e⟩ := sprd_gr c.2.symm pt
    have l0 : 0 ≤ l := b.top 0 (below_und hr)
    have l1 : l ≤ 0 := by
      have := below_top hr hp (u := sh (belowR rows t) (some l)) ((below_md hr).sh l) (c := 0) (by have := (und_sh' (belowR rows t) l).trans b.und; rwa [show -l + l = 0 by omega] at this)
      have := (Gr.self c.1).top l (by have := (und_sh (belowR rows t) l).trans this; rwa [show l + 0 = l by omega] at this)
      exact this
    refine ⟨⟨belowR rows t, hl, below_md hr, below_und hr, by rw [e]; have := a.und; rwa [show - -(k + l) = k by omega]⟩, fun g' ⟨u, lu, m, h1, h2⟩ => ?_⟩
    have := a.top _ (h2.trans (below_top hr hp m h1))
    omega
  · rw [if_neg c]
    rintro g ⟨u, lu, m, h1, h2⟩
    have h3 := h2.trans (below_top hr hp m h1)
    have lv := Lv.und hl (below_und hr) h3
    exact c ⟨lv.symm.ne pt, lv⟩
theorem Ach.nonneg {rows : List (List Num)} {t : List Num} {g : Int} (pt : pres t ≠ []) (h : Ach rows t g) : 0 ≤ g := by
  obtain ⟨u, _, _, h1, h2⟩ := h
  have := (Gr.self pt).top _ (h2.trans h1)
  omega
theorem ach_sh {rows : List (List Num)} {t : List Num} {g : Int} (c : Int) (h : Ach rows t g) : Ach rows (sh t (some c)) g := by
  obtain ⟨u, l, m, h1, h2⟩ := h
  refine ⟨sh u (some c), by rw [sh_len, sh_len, l], m.sh c, ?_, ?_⟩
  · have := ((und_sh' u c).trans h1).trans (und_sh t c)
    rwa [show -c + 0 + c = 0 by omega] at this
  · have := ((und_sh' t c).trans h2).trans (und_sh u c)
    rwa [show -c + -g + c = -g by omega] at this
theorem ach_sh_iff {rows : List (List Num)} {t : List Num} {g : Int} (c : Int) : Ach rows (sh t (some c)) g ↔ Ach rows t g := by
  refine ⟨fun h => ?_, ach_sh c⟩
  have := ach_sh (-c) h
  rwa [sh_sh, show c + -c = 0 by omega, sh_0] at this
theorem Ach.mono {A B : List (List Num)} {t : List Num} {g : Int} (q : ∀ u, Md A u → Md B u) (h : Ach A t g) : Ach B t g := by
  obtain ⟨u, l, m, h1, h2⟩ := h
  exact ⟨u, l, q u m, h1, h2⟩
theorem ach_zero {rows : List (List Num)} {t : List Num} : Ach rows t 0 ↔ Md rows t := by
  constructor
  · rintro ⟨u, l, m, h1, h2⟩
    have h2 : Und t u (-0) := h2
    have := und_both l h1 h2
    rw [this]
    exact m.sh 0
  · intro m
    exact ⟨t, rfl, m, Und.refl t, Und.refl t⟩
theorem ach_sprd {rows : List (List Num)} {t u : List Num} (h : Lv u t) (p : pres u ≠ []) (m : Md rows u) : Ach rows t (sprd u t) := by
  obtain ⟨k, l, a, b, e⟩ := sprd_gr h p
  refine ⟨sh u (some k), by rw [sh_len, h.len], m.sh k, ?_, ?_⟩
  · have := (und_sh' u k).trans a.und
    rwa [show -k + k = 0 by omega] at this
  · have := b.und.trans (und_sh u k)
    rwa [show l + k = -sprd u t by omega] at this
end PK

/-! PKQ: are_level, spread, highest_below, gap. -/
namespace PK
open PySem RS
variable {tb : List FnT}
theorem b_eq : ∀ s t : List Bool, PyData.eqvAll (s.map PyData.bool) (t.map PyData.bool) = decide (s = t)
  | [], [] => rfl
  | [], _ :: _ => rfl
  | _ :: _, [] => rfl
  | a :: s, b :: t => by
    show (PyData.eqv (.bool a) (.bool b) && PyData.eqvAll (s.map PyData.bool) (t.map PyData.bool)) = _
    rw [b_eq s t]
    have e : PyData.eqv (.bool a) (.bool b) = decide (a = b) := by
      cases a <;> cases b <;> rfl
    rw [e]
    by_cases h1 : a = b <;> by_cases h2 : s = t <;> simp [h1, h2]
theorem c_eqB (bs cs : List Bool) : opCmp .eq (.list (bs.map .bool)) (.list (cs.map .bool)) = some (decide (bs = cs)) := by
  have fl : ∀ bs : List Bool, flatD 60 (.list (bs.map .bool)) = true := fun bs => by
    show (bs.map PyData.bool).all (flatD 59) = true
    refine List.all_eq_true.mpr fun x hx => ?_
    obtain ⟨a, _, rfl⟩ := List.mem_map.mp hx
    unfold flatD; rfl
  show (if flatD 60 (.list (bs.map .bool)) = true ∧ flatD 60 (.list (cs.map .bool)) = true then some (PyData.eqv (.list (bs.map .bool)) (.list (cs.map .bool))) else none) = _
  rw [if_pos ⟨fl bs, fl cs⟩]
  show some (PyData.eqvAll (bs.map .bool) (cs.map .bool)) = _
  rw [b_eq]
theorem lvl_ok {i : Nat} (x nm p q : Str) (hF : tb[i]? = some ⟨nm, [p, q], [p, q, x], false, .seq (.ret (.cmp .eq (.lc [(x, 2)] (.v 2) (.iseq (.var 0)) .yes (.cmp .isN (.var 2) (.lit .none))) (.lc [(x, 2)] (.v 2) (.iseq (.var 1)) .yes (.cmp .isN (.var 2) (.lit .none))))) .nil⟩)
    (n : Nat) (s t : List Num) (st : Sto) (hs : s.length ≤ 1000) (ht : t.length ≤ 1000) : callF tb (n + 1) i [.dat (TD s), .dat (TD t)] st = .ok (.dat (.bool (decide (Lv s t)))) st := by
  refine call_eq (ρ := [some (.dat (TD s)), some (.dat (TD t)), none]) hF rfl rfl rfl ?_
  dsimp only
  have lc : ∀ (k : Nat) (u : List Num), u.length ≤ 1000 → evI (callF tb n) (.iseq (.var k)) [some (.dat (TD s)), some (.dat (TD t)), none] st = .ok ⟨u.map VD, none⟩ st →
      evE (callF tb n) (.lc [(x, 2)] (.v 2) (.iseq (.var k)) .yes (.cmp .isN (.var 2) (.lit .none))) [some (.dat (TD s)), some (.dat (TD t)), none] st = .ok (.new (((u.map Option.isNone).map PyData.bool).map .dat)) st := fun k u hu hi => by
    rw [ev_lc_map (xs := u) (F := VD) (G := fun a => some (.dat (.bool a.isNone))) hi hu fun a _ => ?_]
    · rw [fm_some, List.map_map, List.map_map]; rfl
    · show ((evE (callF tb n) (.cmp .isN (.var 2) (.lit .none)) [some (.dat (TD s)), some (.dat (TD t)), some (VD a)] st).bind fun v s2 => match isOut v with | some v => Res.ok (some v) s2 | none => .stuck) = _
      rw [E_cmp]; cases a <;> rfl
  have h0 : evI (callF tb n) (.iseq (.var 0)) [some (.dat (TD s)), some (.dat (TD t)), none] st = .ok ⟨s.map VD, none⟩ st := by rw [I_seq, E_var, ← items_TD]; rfl
  have h1 : evI (callF tb n) (.iseq (.var 1)) [some (.dat (TD s)), some (.dat (TD t)), none] st = .ok ⟨t.map VD, none⟩ st := by rw [I_seq, E_var, ← items_TD]; rfl
  refine ret_eq ?_
  rw [E_cmp, lc 0 s hs h0]
  simp only [Res.bind_ok]
  rw [lc 1 t ht h1]
  simp only [Res.bind_ok, view_new, c_eqB]
  rfl
theorem level_ok' {i : Nat} (hF : tb[i]? = some F_are_level) (n : Nat) (s t : List Num) (st : Sto) (hs : s.length ≤ 1000) (ht : t.length ≤ 1000) : callF tb (n + 1) i [.dat (TD s), .dat (TD t)] st = .ok (.dat (.bool (decide (Lv s t)))) st :=
  lvl_ok "number" "are_level" "one_row" "other_row" hF n s t st hs ht
theorem max_ints {L : List Int} (h : L ≠ []) : biF .maxL (.list (L.map .int)) = some (.dat (.int (maxI L))) := by
  show (isInts (L.map PyData.int)).bind _ = _
  rw [isInts_map]
  cases L with
  | nil => exact absurd rfl h
  | cons a r => rfl
theorem min_ints {L : List Int} (h : L ≠ []) : biF .minL (.list (L.map .int)) = some (.dat (.int (minZ L))) := by
  show (isInts (L.map PyData.int)).bind _ = _
  rw [isInts_map]
  cases L with
  | nil => exact absurd rfl h
  | cons a r => rfl
theorem dd_ne {s t : List Num} (h : Lv s t) (p : pres s ≠ []) : dd s t ≠ [] := fun z => by
  obtain ⟨i, x, e⟩ := pres_get.mp p
  obtain ⟨b, e2⟩ := h.get e
  have : x - b ∈ dd s t := mem_dd.mpr ⟨i, x, b, e, e2, rfl⟩
  rw [z] at this; nomatch this
/-- the differences of two level rows -/
theorem dd_lc (φ : Nat → List Va → Sto → Res Va) (nx ny : Str) (x : Option Va) (s t : List Num) (st : Sto) (h : Lv s t) (hs : s.length ≤ 1000) :
    evE φ (.lc [(nx, 3), (ny, 4)] (.t [3, 4]) (.izip (.var 0) (.var 1)) (.cmp .notN (.var 3) (.lit .none)) (.bin .sub (.var 3) (.var 4))) [some (.dat (TD s)), some (.dat (TD t)), x, none, none] st = .ok (.new (((dd s t).map PyData.int).map .dat)) st := by
  rw [ev_lc_map (xs := List.zip s t) (F := fun p => .dat (.tuple [D p.1, D p.2])) (G := fun p => (p.1.bind fun a => p.2.map fun b => a - b).map fun i => .dat (.int i)) ?_ (by rw [List.length_zip]; omega) fun a ha => ?_]
  · rw [dd, List.map_map, List.map_filterMap]; rfl
  · rw [evI]
    show (match zipD (viewN (.dat (TD s))) (viewN (.dat (TD t))) with | some zs => Res.ok (Src.mk zs none) st | none => .stuck) = _
    rw [items_zip]
  · obtain ⟨a, b⟩ := a
    show ((evT φ (.cmp .notN (.var 3) (.lit .none)) [some (.dat (TD s)), some (.dat (TD t)), x, some (VD a), some (VD b)] st).bind fun z s1 => match z with
      | true => (evE φ (.bin .sub (.var 3) (.var 4)) [some (.dat (TD s)), some (.dat (TD t)), x, some (VD a), some (VD b)] s1).bind fun v s2 => match isOut v with | some v => Res.ok (some v) s2 | none => .stuck
      | false => .ok none s1) = _
    have te : evT φ (.cmp .notN (.var 3) (.lit .none)) [some (.dat (TD s)), some (.dat (TD t)), x, some (VD a), some (VD b)] st = .ok a.isSome st := by
      rw [T_cmp]; cases a <;> rfl
    rw [te]
    cases a with
    | none => rfl
    | some i =>
      obtain ⟨j, hj⟩ := List.mem_iff_getElem?.mp ha
      obtain ⟨z1, z2⟩ := List.getElem?_zip_eq_some.mp hj
      obtain ⟨w, e2⟩ := h.get z1
      rw [show t[j]? = some b from z2] at e2
      cases e2
      simp only [Option.isSome_some, Res.bind_ok]
      rw [E_bin]; rfl
theorem spread_ok {is il : Nat} (hs' : tb[is]? = some (F_spread il)) (hl : tb[il]? = some F_are_level) (n : Nat) (s t : List Num) (st : Sto) (h : Lv s t) (p : pres s ≠ []) (hs : s.length ≤ 1000) :
    callF tb (n + 2) is [.dat (TD s), .dat (TD t)] st = .ok (.dat (.int (sprd s t))) st := by
  refine call_eq (F := F_spread il) (ρ := [some (.dat (TD s)), some (.dat (TD t)), none, none, none]) hs' rfl rfl rfl ?_
  unfold F_spread
  dsimp only
  have te : evT (callF tb (n + 1)) (.not (.call il (.acons (.var 0) (.acons (.var 1) .anil)))) [some (.dat (TD s)), some (.dat (TD t)), none, none, none] st = .ok false st := by
    simp only [T_not, T_call, A_cons, A_nil, E_var, Res.bind_ok, Res.of_some, List.getElem?_cons_zero, List.getElem?_cons_succ, Option.bind_some, id_eq, isOut_dat, level_ok' hl n s t st hs (by rw [← h.len]; exact hs), decide_eq_true h, asBool_bool, Bool.not_true]
  rw [S_seq, S_ifs, te]
  simp only [Res.bind_ok, S_nil]
  rw [S_seq, S_set, E_frz, dd_lc _ "number" "other" none s t st h hs]
  simp only [Res.bind_ok, frz_dats, isOut_dat, setEnv, List.set_cons_succ, List.set_cons_zero]
  simp only [S_seq, S_ret, E_bin, E_bi, E_var, Res.bind_ok, Res.of_some, List.getElem?_cons_zero, List.getElem?_cons_succ, Option.bind_some, id_eq, isOut_dat, view_dat, max_ints (dd_ne h p), min_ints (dd_ne h p), a_sub]
  rfl
abbrev Xu : Ex := ⟨"Unfit", [.str "Unfit", .str "RidgeError"], none⟩
theorem spread_exc {is il : Nat} (hs' : tb[is]? = some (F_spread il)) (hl : tb[il]? = some F_are_level) (n : Nat) (s t : List Num) (st : Sto) (h : ¬ Lv s t) (hs : s.length ≤ 1000) (ht : t.length ≤ 1000) :
    callF tb (n + 2) is [.dat (TD s), .dat (TD t)] st = .exc ⟨"Unfit", [.str "Unfit", .str "RidgeError"], none⟩ st := by
  show (match tb[is]? with | some F => runFn (callF tb (n + 1)) F [.dat (TD s), .dat (TD t)] st | none => .stuck) = _
  rw [hs']
  show runFn (callF tb (n + 1)) (F_spread il) _ st = _
  unfold runFn F_spread
  dsimp only
  refine (if_pos (by rfl)).trans ?_
  show ((evS (callF tb (n + 1)) (.seq (.ifs (.not (.call il _)) _ .nil) _) [some (.dat (TD s)), some (.dat (TD t)), none, none, none] st).bind _) = _
  have te : evT (callF tb (n + 1)) (.not (.call il (.acons (.var 0) (.acons (.var 1) .anil)))) [some (.dat (TD s)), some (.dat (TD t)), none, none, none] st = .ok true st := by
    simp only [T_not, T_call, A_cons, A_nil, E_var, Res.bind_ok, Res.of_some, List.getElem?_cons_zero, List.getElem?_cons_succ, Option.bind_some, id_eq, isOut_dat, level_ok' hl n s t st hs ht, decide_eq_false h, asBool_bool, Bool.not_false]
  rw [S_seq, S_ifs, te]
  simp only [Res.bind_ok]
  rw [S_seq, evS]
  rfl
/-- the numbers at which the defs of gaps stand -/
structure Gaps (tb : List FnT) (ig : Nat) where
  (ii ih il is : Nat)
  S : Span tb ii
  hg : tb[ig]? = some (F_gap ih il is)
  hh : tb[ih]? = some (F_highest_below S.ne S.ib)
  hl : tb[il]? = some F_are_level
  hs : tb[is]? = some (F_spread il)
section
variable {ig : Nat} (Y : Gaps tb ig)
include Y
theorem high_ok (n : Nat) (rows : List (List Num)) (t : List Num) (st : Sto) (hr : ∀ s ∈ rows, s.length ≤ 1000) (hs : t.length ≤ 1000) : callF tb (n + 4) Y.ih [.dat (LD t.length rows), .dat (TD t)] st = .ok (.dat (belowD rows t)) st := by
  refine call_eq (F := F_highest_below Y.S.ne Y.S.ib) (ρ := [some (.dat (LD t.length rows)), some (.dat (TD t))]) Y.hh rfl rfl rfl ?_
  unfold F_highest_below
  dsimp only
  have i0 : opIdx st (.dat (LD t.length rows)) (.int 0) = some (.dat (.int t.length)) := rfl
  have i1 : opIdx st (.dat (LD t.length rows)) (.int 1) = some (.dat (RD rows)) := rfl
  simp only [S_seq, S_expr, S_ret, S_nil, E_call, E_idx, E_bi, A_cons, A_nil, E_var, E_lit, Res.bind_ok, Res.of_some, List.getElem?_cons_zero, List.getElem?_cons_succ, Option.bind_some, id_eq, isOut_dat, view_dat, i0, i1, len_TD, need_ok Y.S.hn (n + 2), below_ok Y.S.hb Y.S.hl Y.S.ht Y.S.hsh Y.S.hp Y.S.hu n rows t st hr hs]
theorem high_exc (n : Nat) (w : Int) (rows : List (List Num)) (t : List Num) (st : Sto) (hw : w ≠ t.length) : callF tb (n + 4) Y.ih [.dat (LD w rows), .dat (TD t)] st = .exc ⟨"Unfit", [.str "Unfit", .str "RidgeError"], none⟩ st := by
  show (match tb[Y.ih]? with | some F => runFn (callF tb (n + 3)) F [.dat (LD w rows), .dat (TD t)] st | none => .stuck) = _
  rw [Y.hh]
  show runFn (callF tb (n + 3)) (F_highest_below Y.S.ne Y.S.ib) _ st = _
  unfold runFn F_highest_below
  dsimp only
  refine (if_pos (by rfl)).trans ?_
  have i0 : opIdx st (.dat (LD w rows)) (.int 0) = some (.dat (.int w)) := rfl
  show ((evS (callF tb (n + 3)) (.seq (.expr _) _) [some (.dat (LD w rows)), some (.dat (TD t))] st).bind _) = _
  rw [S_seq, S_expr]
  simp only [E_call, E_idx, E_bi, A_cons, A_nil, E_var, E_lit, Res.bind_ok, Res.of_some, List.getElem?_cons_zero, List.getElem?_cons_succ, Option.bind_some, id_eq, isOut_dat, view_dat, i0, len_TD, need_exc Y.S.hn (n + 2) w _ st hw, Res.bind_exc]
theorem gap_exc (n : Nat) (w : Int) (rows : List (List Num)) (t : List Num) (st : Sto) (hw : w ≠ t.length) : callF tb (n + 5) ig [.dat (LD w rows), .dat (TD t)] st = .exc ⟨"Unfit", [.str "Unfit", .str "RidgeError"], none⟩ st := by
  show (match tb[ig]? with | some F => runFn (callF tb (n + 4)) F [.dat (LD w rows), .dat (TD t)] st | none => .stuck) = _
  rw [Y.hg]
  show runFn (callF tb (n + 4)) (F_gap Y.ih Y.il Y.is) _ st = _
  unfold runFn F_gap
  dsimp only
  refine (if_pos (by rfl)).trans ?_
  show ((evS (callF tb (n + 4)) (.seq (.set 2 _) _) [some (.dat (LD w rows)), some (.dat (TD t)), none] st).bind _) = _
  rw [S_seq, S_set]
  simp only [E_call, A_cons, A_nil, E_var, Res.bind_ok, Res.of_some, List.getElem?_cons_zero, List.getElem?_cons_succ, Option.bind_some, id_eq, isOut_dat, high_exc Y n w rows t st hw, Res.bind_exc]
theorem gap_ok (n : Nat) (rows : List (List Num)) (t : List Num) (st : Sto) (hr : ∀ s ∈ rows, s.length = t.length) (hs : t.length ≤ 1000) (pt : pres t ≠ []) : callF tb (n + 5) ig [.dat (LD t.length rows), .dat (TD t)] st = .ok (VD (gapN rows t)) st := by
  have hr' : ∀ s ∈ rows, s.length ≤ 1000 := fun s h => by rw [hr s h]; exact hs
  have bl := belowR_len hr
  have e1 : evS (callF tb (n + 4)) (.set 2 (.call Y.ih (.acons (.var 0) (.acons (.var 1) .anil)))) [some (.dat (LD t.length rows)), some (.dat (TD t)), none] st = .ok (.nx [some (.dat (LD t.length rows)), some (.dat (TD t)), some (.dat (belowD rows t))]) st := by
    rw [S_set]
    simp only [E_call, A_cons, A_nil, E_var, Res.bind_ok, Res.of_some, List.getElem?_cons_zero, List.getElem?_cons_succ, Option.bind_some, id_eq, isOut_dat, high_ok Y n rows t st hr' hs, setEnv, List.set_cons_succ, List.set_cons_zero]
  refine call_eq (F := F_gap Y.ih Y.il Y.is) (ρ := [some (.dat (LD t.length rows)), some (.dat (TD t)), none]) Y.hg rfl rfl rfl ?_
  unfold F_gap
  dsimp only
  rw [S_seq, e1]
  simp only [Res.bind_ok]
  have cn : ∀ u : List Num, opCmp .isN (TD u) .none = some false := fun _ => rfl
  have c0 : opCmp .isN .none .none = some true := rfl
  by_cases h : pres (belowR rows t) = []
  · have eb : belowD rows t = .none := if_pos h
    have eg : gapN rows t = none := if_neg fun z => z.1 h
    rw [eb, eg]
    simp only [S_seq, S_ret, E_ife, T_or, T_cmp, E_var, E_lit, Res.bind_ok, Res.of_some, List.getElem?_cons_zero, List.getElem?_cons_succ, Option.bind_some, id_eq, isOut_dat, view_dat, c0]
    rfl
  · have eb : belowD rows t = TD (belowR rows t) := if_neg h
    rw [eb]
    have te : evT (callF tb (n + 4)) (.or (.cmp .isN (.var 2) (.lit .none)) (.last (.not (.call Y.il (.acons (.var 2) (.acons (.var 1) .anil)))))) [some (.dat (LD t.length rows)), some (.dat (TD t)), some (.dat (TD (belowR rows t)))] st = .ok (!decide (Lv (belowR rows t) t)) st := by
      simp only [T_or, T_last, T_not, T_call, T_cmp, A_cons, A_nil, E_var, E_lit, Res.bind_ok, Res.of_some, List.getElem?_cons_zero, List.getElem?_cons_succ, Option.bind_some, id_eq, isOut_dat, view_dat, cn, level_ok' Y.hl (n + 3) (belowR rows t) t st (by omega) hs, asBool_bool]
    rw [S_seq, S_ret, E_ife, te]
    by_cases l : Lv (belowR rows t) t
    · have eg : gapN rows t = some (sprd t (belowR rows t)) := if_pos ⟨h, l⟩
      rw [eg, decide_eq_true l]
      simp only [Bool.not_true, Res.bind_ok, E_call, A_cons, A_nil, E_var, Res.of_some, List.getElem?_cons_zero, List.getElem?_cons_succ, Option.bind_some, id_eq, isOut_dat, spread_ok Y.hs Y.hl (n + 2) t _ st l.symm pt hs]
      rfl
    · have eg : gapN rows t = none := if_neg fun z => l z.2
      rw [eg, decide_eq_false l]
      simp only [Bool.not_false, Res.bind_ok, E_lit, isOut_dat]
      rfl
end
end PK

/-! K12T: the law's defs, printed. -/
namespace K12
open PySem RS
/-- plus -/
def f0 : FnT := PK.F_plus
/-- top -/
def f1 : FnT := PK.F_top
/-- key_of -/
def f2 : FnT := PK.F_key_of
/-- shifted -/
def f3 : FnT := PK.F_shifted 0
/-- laid -/
def f4 : FnT := PK.F_laid 1
/-- begun -/
def f5 : FnT := PK.F_begun 3
/-- need_places -/
def f6 : FnT := PK.F_need_places
/-- shift_under -/
def f7 : FnT := PK.F_shift_under
/-- laid_below -/
def f8 : FnT := PK.F_laid_below 4 3 7
/-- tidied -/
def f9 : FnT := PK.F_tidied 5 2 8
/-- highest_below -/
def f10 : FnT := PK.F_highest_below 6 8
/-- is_in -/
def f11 : FnT := PK.F_is_in 6 8
/-- least_lot -/
def f12 : FnT := PK.F_least_lot 9
/-- are_level -/
def f13 : FnT := PK.F_are_level
/-- spread -/
def f14 : FnT := PK.F_spread 13
/-- gap -/
def f15 : FnT := PK.F_gap 10 13 14
/-- _law_urn -/
def f16 : FnT := PK.F_law_urn
/-- _law_take -/
def f17 : FnT := PK.F_law_take
/-- _law_one -/
def f18 : FnT := PK.F_law_one 17
/-- _law_whole -/
def f19 : FnT := PK.F_law_whole 17
/-- _law_row_of -/
def f20 : FnT := PK.F_law_row_of 18 17 19
/-- _law_level_to -/
def f21 : FnT :=
  ⟨"_law_level_to", ["urn", "line", "world"], ["urn", "line", "world", "own"], false,
   (.seq (.ret (.bi .tuple (.lc [("own", 3)] (.v 3) (.iseq (.var 1)) .yes (.ife (.cmp .isN (.var 3) (.lit .none)) (.lit .none) (.call 19 (.acons (.var 0) (.acons (.var 2) .anil)))))))
    .nil)⟩
/-- _law_plus -/
def f22 : FnT := PK.F_law_plus2
/-- _law_more -/
def f23 : FnT := PK.F_law_more3
/-- _law_made -/
def f24 : FnT :=
  ⟨"_law_made", ["urn", "rows", "world"], ["urn", "rows", "world", "found", "turn", "own", "low", "far"], false,
   (.seq (.set 3 (.call 22 (.acons (.idx (.var 1) (.call 17 (.acons (.var 0) (.acons (.bi .len (.var 1)) .anil)))) (.acons (.call 19 (.acons (.var 0) (.acons (.var 2) .anil))) .anil))))
    (.seq (.forS (.v 4) (.irange1 (.call 17 (.acons (.var 0) (.acons (.lit (.int 4)) .anil))))
    (.seq (.set 5 (.call 22 (.acons (.idx (.var 1) (.call 17 (.acons (.var 0) (.acons (.bi .len (.var 1)) .anil)))) (.acons (.call 19 (.acons (.var 0) (.acons (.var 2) .anil))) .anil))))
    (.seq (.set 3 (.bi .tuple (.lc [("low", 6), ("far", 7)] (.t [6, 7]) (.izip (.var 3) (.var 5)) .yes (.call 23 (.acons (.var 6) (.acons (.var 7) .anil))))))
    .nil)))
    (.seq (.ret (.var 3))
    .nil)))⟩
/-- _law_near -/
def f25 : FnT :=
  ⟨"_law_near", ["urn", "line", "world"], ["urn", "line", "world", "at", "own", "found"], false,
   (.seq (.set 3 (.call 17 (.acons (.var 0) (.acons (.bi .len (.var 1)) .anil))))
    (.seq (.set 4 (.ife (.cmp .notN (.idx (.var 1) (.var 3)) (.lit .none)) (.idx (.var 1) (.var 3)) (.call 19 (.acons (.var 0) (.acons (.var 2) .anil)))))
    (.seq (.set 5 (.frz (.bin .add (.bin .add (.slc (.var 1) .nopart (.var 3)) (.tup (.acons (.call 18 (.acons (.var 0) (.acons (.frz (.lst (.acons (.frz (.bin .add (.var 4) (.lit (.int 1)))) (.acons (.bin .sub (.var 4) (.lit (.int 1))) (.acons (.frz (.bin .add (.var 4) (.call 19 (.acons (.var 0) (.acons (.var 2) .anil))))) (.acons (.lit .none) .anil)))))) .anil))) .anil))) (.slc (.var 1) (.bin .add (.var 3) (.lit (.int 1))) .nopart))))
    (.seq (.ret (.ife (.cmp .ne (.var 5) (.bin .mul (.tup (.acons (.lit .none) .anil)) (.bi .len (.var 1)))) (.var 5) (.var 1)))
    .nil))))⟩
/-- _law_is_level -/
def f26 : FnT :=
  ⟨"_law_is_level", ["line", "far"], ["line", "far", "own"], false,
   (.seq (.ret (.cmp .eq (.lc [("own", 2)] (.v 2) (.iseq (.var 0)) .yes (.cmp .isN (.var 2) (.lit .none))) (.lc [("own", 2)] (.v 2) (.iseq (.var 1)) .yes (.cmp .isN (.var 2) (.lit .none)))))
    .nil)⟩
/-- _law_spread -/
def f27 : FnT :=
  ⟨"_law_spread", ["line", "far"], ["line", "far", "rest", "low", "top_v"], false,
   (.seq (.ifs (.not (.call 26 (.acons (.var 0) (.acons (.var 1) .anil))))
    (.seq (.ret (.lit .none))
    .nil)
    .nil)
    (.seq (.set 2 (.frz (.lc [("low", 3), ("top_v", 4)] (.t [3, 4]) (.izip (.var 0) (.var 1)) (.cmp .notN (.var 3) (.lit .none)) (.bin .sub (.var 3) (.var 4)))))
    (.seq (.ret (.bin .sub (.bi .maxL (.var 2)) (.bi .minL (.var 2))))
    .nil)))⟩
/-- _law_told -/
def f28 : FnT :=
  ⟨"_law_told", ["line", "far", "is_named"], ["line", "far", "is_named"], false,
   (.seq (.tryR (.seq (.ret (.ife (.var 2) (.callk 14 .anil ["other_row", "one_row"] [1, 0] (.acons (.var 1) (.acons (.var 0) .anil))) (.call 14 (.acons (.var 0) (.acons (.var 1) .anil)))))
    .nil) "Unfit" (.lit .none))
    .nil)⟩
/-- _law_gap -/
def f29 : FnT :=
  ⟨"_law_gap", ["rows", "line"], ["rows", "line", "some", "own", "worst", "at", "left", "low", "top_v"], false,
   (.seq (.set 2 (.mut (.lst .anil)))
    (.seq (.fz (.forS (.v 3) (.iseq (.var 0))
    (.seq (.ifs (.cmp .eq (.lc [("low", 7), ("top_v", 8)] (.t [7, 8]) (.izip (.var 3) (.var 1)) (.and (.cmp .notN (.var 7) (.lit .none)) (.last (.cmp .isN (.var 8) (.lit .none)))) (.lit (.int 1))) (.lst .anil))
    (.seq (.expr (.app (.var 2) (.frz (.lc [("low", 7), ("top_v", 8)] (.t [7, 8]) (.izip (.var 3) (.var 1)) .yes (.ife (.cmp .isN (.var 7) (.lit .none)) (.lit .none) (.bin .sub (.var 7) (.var 8)))))))
    .nil)
    .nil)
    .nil)) 2)
    (.seq (.set 4 (.lit (.int 0)))
    (.seq (.forS (.v 5) (.irange1 (.bi .len (.var 1)))
    (.seq (.ifs (.cmp .notN (.idx (.var 1) (.var 5)) (.lit .none))
    (.seq (.set 6 (.frz (.lc [("own", 3)] (.v 3) (.iseq (.var 2)) (.cmp .notN (.idx (.var 3) (.var 5)) (.lit .none)) (.bin .sub (.bi .maxL (.lc [("low", 7)] (.v 7) (.iseq (.var 3)) (.cmp .notN (.var 7) (.lit .none)) (.var 7))) (.idx (.var 3) (.var 5))))))
    (.seq (.ifs (.cmp .eq (.var 6) (.lst .anil))
    (.seq (.ret (.lit .none))
    .nil)
    .nil)
    (.seq (.set 4 (.bi2 .max (.var 4) (.bi .minL (.var 6))))
    .nil)))
    .nil)
    .nil))
    (.seq (.ret (.var 4))
    .nil)))))⟩
/-- _law_are_spread -/
def f30 : FnT :=
  ⟨"_law_are_spread", ["urn", "wide", "world"], ["urn", "wide", "world", "line", "far", "third", "by", "due", "found", "longer", "thin", "own", "one"], false,
   (.seq (.set 3 (.call 20 (.acons (.var 0) (.acons (.var 1) (.acons (.var 2) .anil)))))
    (.seq (.set 4 (.call 18 (.acons (.var 0) (.acons (.frz (.lst (.acons (.call 21 (.acons (.var 0) (.acons (.var 3) (.acons (.var 2) .anil)))) (.acons (.call 22 (.acons (.var 3) (.acons (.call 19 (.acons (.var 0) (.acons (.var 2) .anil))) .anil))) (.acons (.var 3) .anil))))) .anil))))
    (.seq (.set 4 (.ife (.cmp .eq (.call 17 (.acons (.var 0) (.acons (.lit (.int 3)) .anil))) (.lit (.int 0))) (.call 25 (.acons (.var 0) (.acons (.var 4) (.acons (.var 2) .anil)))) (.var 4)))
    (.seq (.par 5 6 (.call 21 (.acons (.var 0) (.acons (.var 3) (.acons (.var 2) .anil)))) (.call 19 (.acons (.var 0) (.acons (.var 2) .anil))))
    (.seq (.set 7 (.call 27 (.acons (.var 3) (.acons (.var 4) .anil))))
    (.seq (.set 8 (.frz (.lst (.acons (.call 28 (.acons (.var 3) (.acons (.var 4) (.acons (.lit (.bool false)) .anil)))) (.acons (.call 28 (.acons (.var 3) (.acons (.var 4) (.acons (.lit (.bool true)) .anil)))) (.acons (.call 28 (.acons (.var 4) (.acons (.var 3) (.acons (.lit (.bool false)) .anil)))) .anil))))))
    (.seq (.set 8 (.frz (.bin .add (.var 8) (.lst (.acons (.call 28 (.acons (.call 22 (.acons (.var 3) (.acons (.var 6) .anil))) (.acons (.var 4) (.acons (.lit (.bool false)) .anil)))) (.acons (.call 28 (.acons (.var 3) (.acons (.call 22 (.acons (.var 4) (.acons (.neg (.var 6)) .anil))) (.acons (.lit (.bool true)) .anil)))) .anil))))))
    (.seq (.ifs (.or (.cmp .ne (.bi .repr (.var 8)) (.bi .repr (.bin .mul (.lst (.acons (.var 7) .anil)) (.lit (.int 5))))) (.last (.cmp .ne (.bi .repr (.call 14 (.acons (.var 3) (.acons (.call 22 (.acons (.var 3) (.acons (.var 6) .anil))) .anil)))) (.lit (.str "0")))))
    (.seq (.ret (.lit (.bool false)))
    .nil)
    .nil)
    (.seq (.ifs (.cmp .notN (.var 7) (.lit .none))
    (.seq (.ifs (.cmp .ne (.cmp .eq (.var 7) (.lit (.int 0))) (.cmp .eq (.call 22 (.acons (.var 3) (.acons (.idx (.lc [("own", 11)] (.v 11) (.iseq (.var 4)) (.cmp .notN (.var 11) (.lit .none)) (.var 11)) (.lit (.int 0))) .anil))) (.call 22 (.acons (.var 4) (.acons (.idx (.lc [("own", 11)] (.v 11) (.iseq (.var 3)) (.cmp .notN (.var 11) (.lit .none)) (.var 11)) (.lit (.int 0))) .anil)))))
    (.seq (.ret (.lit (.bool false)))
    .nil)
    .nil)
    (.seq (.ifs (.cmp .gt (.call 14 (.acons (.var 3) (.acons (.var 4) .anil))) (.bin .add (.call 14 (.acons (.var 3) (.acons (.var 5) .anil))) (.call 14 (.acons (.var 5) (.acons (.var 4) .anil)))))
    (.seq (.ret (.lit (.bool false)))
    .nil)
    .nil)
    .nil))
    .nil)
    (.seq (.par 9 10 (.frz (.bin .add (.slc (.var 4) .nopart (.var 1)) (.tup (.acons (.call 19 (.acons (.var 0) (.acons (.var 2) .anil))) .anil)))) (.frz (.bin .add (.var 3) (.tup (.acons (.lit .none) .anil)))))
    (.seq (.set 8 (.ife (.cmp .lt (.var 1) (.lit (.int 4))) (.frz (.lst (.acons (.call 28 (.acons (.var 3) (.acons (.var 9) (.acons (.lit (.bool false)) .anil)))) (.acons (.call 28 (.acons (.var 9) (.acons (.var 3) (.acons (.lit (.bool false)) .anil)))) .anil)))) (.frz (.lst .anil))))
    (.seq (.set 8 (.frz (.bin .add (.var 8) (.ife (.cmp .lt (.var 1) (.lit (.int 4))) (.lst (.acons (.call 28 (.acons (.var 3) (.acons (.var 10) (.acons (.lit (.bool false)) .anil)))) (.acons (.call 28 (.acons (.var 10) (.acons (.var 3) (.acons (.lit (.bool true)) .anil)))) .anil))) (.lst .anil)))))
    (.seq (.ret (.cmp .eq (.lc [("one", 12)] (.v 12) (.iseq (.var 8)) (.cmp .notN (.var 12) (.lit .none)) (.var 12)) (.lst .anil)))
    .nil)))))))))))))⟩
/-- _law_is_right -/
def f31 : FnT :=
  ⟨"_law_is_right", ["urn", "rows", "line", "world"], ["urn", "rows", "line", "world", "wide", "due", "known", "pile", "by", "found", "high", "turn", "own", "more"], false,
   (.seq (.par3 4 5 6 (.bi .len (.var 2)) (.call 29 (.acons (.var 1) (.acons (.var 2) .anil))) (.bi .repr (.lst (.acons (.var 1) (.acons (.var 2) .anil)))))
    (.seq (.par 7 8 (.tup (.acons (.var 4) (.acons (.var 1) .anil))) (.call 19 (.acons (.var 0) (.acons (.var 3) .anil))))
    (.seq (.set 9 (.frz (.lst (.acons (.call 15 (.acons (.var 7) (.acons (.var 2) .anil))) (.acons (.callk 15 .anil ["row", "lot"] [1, 0] (.acons (.var 2) (.acons (.var 7) .anil))) (.acons (.call 15 (.acons (.var 7) (.acons (.call 22 (.acons (.var 2) (.acons (.var 8) .anil))) .anil))) (.acons (.call 15 (.acons (.call 12 (.acons (.var 7) .anil)) (.acons (.var 2) .anil))) .anil)))))))
    (.seq (.set 9 (.frz (.bin .add (.var 9) (.lst (.acons (.call 15 (.acons (.tup (.acons (.var 4) (.acons (.frz (.bin .add (.rev (.var 1)) (.slc (.var 1) .nopart (.lit (.int 1))))) .anil))) (.acons (.var 2) .anil))) (.acons (.call 15 (.acons (.var 7) (.acons (.var 2) .anil))) .anil))))))
    (.seq (.ifs (.or (.cmp .ne (.bi .repr (.var 9)) (.bi .repr (.bin .mul (.lst (.acons (.var 5) .anil)) (.lit (.int 6))))) (.last (.cmp .ne (.bi .repr (.lst (.acons (.var 1) (.acons (.var 2) .anil)))) (.var 6))))
    (.seq (.ret (.lit (.bool false)))
    .nil)
    .nil)
    (.seq (.ifs (.cmp .ne (.bi .repr (.call 11 (.acons (.var 7) (.acons (.var 2) .anil)))) (.bi .repr (.and (.cmp .notN (.var 5) (.lit .none)) (.last (.cmp .eq (.var 5) (.lit (.int 0)))))))
    (.seq (.ret (.lit (.bool false)))
    .nil)
    .nil)
    (.seq (.set 10 (.call 10 (.acons (.var 7) (.acons (.var 2) .anil))))
    (.seq (.ifs (.and (.cmp .notN (.var 5) (.lit .none)) (.last (.cmp .ne (.bi .repr (.call 14 (.acons (.var 2) (.acons (.var 10) .anil)))) (.bi .repr (.var 5)))))
    (.seq (.ret (.lit (.bool false)))
    .nil)
    .nil)
    (.seq (.ifs (.and (.cmp .isN (.var 5) (.lit .none)) (.and (.cmp .notN (.var 10) (.lit .none)) (.last (.call 26 (.acons (.var 2) (.acons (.var 10) .anil))))))
    (.seq (.ret (.lit (.bool false)))
    .nil)
    .nil)
    (.seq (.ifs (.cmp .ne (.var 1) (.tup .anil))
    (.seq (.forS (.v 11) (.irange1 (.lit (.int 3)))
    (.seq (.set 12 (.call 24 (.acons (.var 0) (.acons (.var 1) (.acons (.var 3) .anil)))))
    (.seq (.ifs (.and (.call 26 (.acons (.var 2) (.acons (.var 12) .anil))) (.last (.or (.cmp .isN (.var 5) (.lit .none)) (.last (.cmp .lt (.call 14 (.acons (.var 12) (.acons (.var 2) .anil))) (.var 5))))))
    (.seq (.ret (.lit (.bool false)))
    .nil)
    .nil)
    .nil)))
    .nil)
    .nil)
    (.seq (.set 13 (.call 15 (.acons (.tup (.acons (.var 4) (.acons (.frz (.bin .add (.var 1) (.tup (.acons (.call 20 (.acons (.var 0) (.acons (.var 4) (.acons (.var 3) .anil)))) .anil)))) .anil))) (.acons (.var 2) .anil))))
    (.seq (.ret (.or (.cmp .isN (.var 5) (.lit .none)) (.last (.and (.cmp .notN (.var 13) (.lit .none)) (.last (.chain .le .le (.lit (.int 0)) (.var 13) (.var 5)))))))
    .nil))))))))))))⟩
/-- _law_is_unfit -/
def f32 : FnT :=
  ⟨"_law_is_unfit", ["pile", "line"], ["pile", "line"], false,
   (.seq (.tryR (.seq (.expr (.call 15 (.acons (.var 0) (.acons (.var 1) .anil))))
    .nil) "Unfit" (.lit (.bool true)))
    (.seq (.ret (.lit (.bool false)))
    .nil))⟩
/-- _law_is_long -/
def f33 : FnT :=
  ⟨"_law_is_long", ["urn"], ["urn", "wide", "world", "at", "few", "line", "rows", "whole", "found", "k"], false,
   (.seq (.unpack [1, 2, 3] (.tup (.acons (.bin .add (.lit (.int 2)) (.call 17 (.acons (.var 0) (.acons (.lit (.int 3)) .anil)))) (.acons (.frz (.lst (.acons (.lit (.int 5)) (.acons (.call 18 (.acons (.var 0) (.acons (.frz (.lst (.acons (.lit (.int 0)) (.acons (.lit (.int 1)) (.acons (.bin .pow (.lit (.int 10)) (.lit (.int 30))) .anil))))) .anil))) .anil)))) (.acons (.call 17 (.acons (.var 0) (.acons (.lit (.int 40)) .anil))) .anil)))))
    (.seq (.unpack [4, 5] (.tup (.acons (.frz (.lc [("k", 9)] (.v 9) (.irange1 (.lit (.int 3))) .yes (.call 20 (.acons (.var 0) (.acons (.var 1) (.acons (.var 2) .anil)))))) (.acons (.call 20 (.acons (.var 0) (.acons (.var 1) (.acons (.var 2) .anil)))) .anil))))
    (.seq (.set 6 (.frz (.lc [("k", 9)] (.v 9) (.irange1 (.lit (.int 39))) .yes (.idx (.var 4) (.bin .mod (.bi .int (.bin .add (.bin .mul (.var 9) (.var 9)) (.var 3))) (.lit (.int 3)))))))
    (.seq (.set 7 (.bi .tuple (.bin .add (.bin .add (.slc (.var 6) .nopart (.var 3)) (.lst (.acons (.call 22 (.acons (.var 5) (.acons (.call 19 (.acons (.var 0) (.acons (.var 2) .anil))) .anil))) .anil))) (.slc (.var 6) (.var 3) .nopart))))
    (.seq (.set 8 (.frz (.lst (.acons (.call 15 (.acons (.tup (.acons (.var 1) (.acons (.var 7) .anil))) (.acons (.var 5) .anil))) (.acons (.call 15 (.acons (.tup (.acons (.var 1) (.acons (.bi .tuple (.var 6)) .anil))) (.acons (.var 5) .anil))) (.acons (.call 15 (.acons (.tup (.acons (.var 1) (.acons (.frz (.rev (.var 7))) .anil))) (.acons (.var 5) .anil))) .anil))))))
    (.seq (.ret (.cmp .eq (.bi .repr (.var 8)) (.bi .repr (.lst (.acons (.lit (.int 0)) (.acons (.call 29 (.acons (.var 6) (.acons (.var 5) .anil))) (.acons (.lit (.int 0)) .anil)))))))
    .nil))))))⟩
/-- law -/
def f34 : FnT :=
  ⟨"law", ["script"], ["script", "urn", "turn", "world", "wide", "line", "rows", "other", "k"], false,
   (.seq (.set 1 (.call 16 (.acons (.var 0) .anil)))
    (.seq (.forS (.v 2) (.irange1 (.lit (.int 5)))
    (.seq (.set 3 (.frz (.lst (.acons (.call 18 (.acons (.var 1) (.acons (.frz (.lst (.acons (.lit (.int 0)) (.acons (.lit (.int 1)) (.acons (.lit (.int 2)) (.acons (.lit (.int 5)) (.acons (.lit (.int 60)) .anil))))))) .anil))) (.acons (.call 18 (.acons (.var 1) (.acons (.frz (.lst (.acons (.lit (.int 0)) (.acons (.lit (.int 0)) (.acons (.lit (.int 1)) (.acons (.bin .pow (.lit (.int 10)) (.lit (.int 9))) (.acons (.bin .pow (.lit (.int 10)) (.lit (.int 30))) (.acons (.bin .pow (.bin .pow (.lit (.int 10)) (.lit (.int 60))) (.lit (.int 14))) .anil)))))))) .anil))) .anil)))))
    (.seq (.set 4 (.bin .add (.lit (.int 1)) (.call 17 (.acons (.var 1) (.acons (.lit (.int 4)) .anil)))))
    (.seq (.set 5 (.call 20 (.acons (.var 1) (.acons (.var 4) (.acons (.var 3) .anil)))))
    (.seq (.set 6 (.frz (.lc [("k", 8)] (.v 8) (.irange1 (.call 18 (.acons (.var 1) (.acons (.frz (.lst (.acons (.lit (.int 0)) (.acons (.lit (.int 1)) (.acons (.lit (.int 2)) (.acons (.lit (.int 3)) (.acons (.lit (.int 5)) .anil))))))) .anil)))) .yes (.call 20 (.acons (.var 1) (.acons (.var 4) (.acons (.var 3) .anil)))))))
    (.seq (.set 6 (.frz (.bin .add (.var 6) (.lc [("k", 8)] (.v 8) (.irange1 (.call 18 (.acons (.var 1) (.acons (.frz (.lst (.acons (.lit (.int 0)) (.acons (.lit (.int 0)) (.acons (.lit (.int 1)) (.acons (.lit (.int 2)) (.acons (.lit (.int 4)) .anil))))))) .anil)))) .yes (.call 21 (.acons (.var 1) (.acons (.var 5) (.acons (.var 3) .anil))))))))
    (.seq (.set 6 (.bi .tuple (.var 6)))
    (.seq (.ifs (.and (.cmp .ne (.var 6) (.tup .anil)) (.last (.cmp .eq (.call 17 (.acons (.var 1) (.acons (.lit (.int 3)) .anil))) (.lit (.int 0)))))
    (.seq (.set 5 (.call 24 (.acons (.var 1) (.acons (.var 6) (.acons (.var 3) .anil)))))
    (.seq (.set 5 (.ife (.cmp .eq (.call 17 (.acons (.var 1) (.acons (.lit (.int 2)) .anil))) (.lit (.int 0))) (.call 25 (.acons (.var 1) (.acons (.var 5) (.acons (.var 3) .anil)))) (.var 5)))
    .nil))
    .nil)
    (.seq (.ifs (.or (.not (.call 30 (.acons (.var 1) (.acons (.var 4) (.acons (.var 3) .anil))))) (.last (.not (.call 31 (.acons (.var 1) (.acons (.var 6) (.acons (.var 5) (.acons (.var 3) .anil))))))))
    (.seq (.ret (.lit (.bool false)))
    .nil)
    .nil)
    (.seq (.set 7 (.call 20 (.acons (.var 1) (.acons (.bin .add (.lit (.int 1)) (.bin .mod (.bi .int (.bin .add (.var 4) (.call 17 (.acons (.var 1) (.acons (.lit (.int 3)) .anil))))) (.lit (.int 4)))) (.acons (.var 3) .anil)))))
    (.seq (.ifs (.not (.call 32 (.acons (.tup (.acons (.var 4) (.acons (.var 6) .anil))) (.acons (.var 7) .anil))))
    (.seq (.ret (.lit (.bool false)))
    .nil)
    .nil)
    .nil)))))))))))
    (.seq (.ret (.call 33 (.acons (.var 1) .anil)))
    .nil)))⟩
def tb : List FnT := [f0, f1, f2, f3, f4, f5, f6, f7, f8, f9, f10, f11, f12, f13, f14, f15, f16, f17, f18, f19, f20, f21, f22, f23, f24, f25, f26, f27, f28, f29, f30, f31, f32, f33, f34]
def gl : List (Str × PyData) := [("RidgeError", (.list [(.str "RidgeError")])), ("Unfit", (.list [(.str "Unfit"), (.str "RidgeError")]))]
end K12

/-! K12A: what is drawn. -/
namespace K12
open PySem RS PK
def span : Span tb 11 := { ne := 6, ib := 8, il := 4, it := 1, ish := 3, ip := 0, iu := 7, hi := rfl, hn := rfl, hb := rfl, hl := rfl, ht := rfl, hsh := rfl, hp := rfl, hu := rfl }
def tidy : Tidy tb 11 9 := { S := span, ig := 5, ik := 2, hT := rfl, hg := rfl, hk := rfl }
theorem tk {n : Nat} (size : Int) (rest st : Sto) (h0 : 0 < size) (h1 : size < 1073741824) (hd : Dr rest st) : Ev (callF tb (n + 1) 17 [.ref 1, .dat (.int size)] st) (fun v st' => ∃ r, v = .dat (.int r) ∧ 0 ≤ r ∧ r < size ∧ Dr rest st') := take_ok (it := 17) rfl n size rest st h0 h1 hd
theorem wh {n : Nat} (a b : Int) (rest st : Sto) (hw : Wd a b) (hd : Dr rest st) : Ev (callF tb (n + 2) 19 [.ref 1, .dat (.list [.int a, .int b])] st) (fun v st' => ∃ i, v = .dat (.int i) ∧ (-M1 ≤ i ∧ i ≤ M1) ∧ Dr rest st') := whole_ok (it := 17) (iw := 19) rfl rfl n a b rest st hw hd
theorem on {n : Nat} (ds : List PyData) (rest st : Sto) (h0 : ds ≠ []) (h1 : ds.length ≤ 1000) (hd : Dr rest st) : Ev (callF tb (n + 2) 18 [.ref 1, .dat (.list ds)] st) (fun v st' => ∃ d, v = .dat d ∧ d ∈ ds ∧ Dr rest st') := one_ok (io := 18) (it := 17) rfl rfl n ds rest st h0 h1 hd
theorem forL_nx {b : RS.Env → Sto → Res Fl} {i : Nat} {d : PyData} {xs : List Va} {ρ ρ1 : RS.Env} {st st1 : Sto} (h : b (setEnv ρ i (.dat d)) st = .ok (.nx ρ1) st1) : forL b (.v i) (.dat d :: xs) ρ st = forL b (.v i) xs ρ1 st1 := by
  rw [forL]
  show ((b (setEnv ρ i (.dat d)) st).bind _) = _
  rw [h]
  rfl
theorem S_fz (φ : Nat → List Va → Sto → Res Va) (ρ : RS.Env) (st : Sto) (a : S) (i : Nat) : evS φ (.fz a i) ρ st = (evS φ a ρ st).bind fun f st1 => match f with
    | .nx ρ1 => match ρ1[i]?.bind id with
      | some (.ref k) => (frzV (.ref k) st1).bind fun v st2 => .ok (.nx (setEnv ρ1 i v)) st2
      | _ => .stuck
    | _ => .stuck := by first | (rw [evS]; done) | (rw [evS]; rfl)
/-- a row: an integer somewhere, none beyond m -/
def Rw (m : Int) (w : Nat) (s : List Num) : Prop := Sd m w s ∧ pres s ≠ []
theorem rw' {n : Nat} (w : Nat) (a b : Int) (rest st : Sto) (hw : Wd a b) (h1 : 1 ≤ w) (h4 : w ≤ 4) (hd : Dr rest st) :
    Ev (callF tb (n + 3) 20 [.ref 1, .dat (.int w), .dat (.list [.int a, .int b])] st) (fun v st' => ∃ s, v = .dat (TD s) ∧ Rw M1 w s ∧ Dr rest st') :=
  (row_ok (io := 18) (it := 17) (iw := 19) (ir := 20) (x1 := 2) (x2 := 4) (x3 := 30) _ rfl rfl rfl rfl rfl ⟨by decide, by decide⟩ ⟨by decide, by decide⟩ ⟨by decide, by decide⟩ n w a b rest st hw h1 h4 hd).imp fun v st' ⟨s, e, h, p, d⟩ => ⟨s, e, ⟨h, p⟩, d⟩
theorem Rw.sh {m k l : Int} {w : Nat} {s : List Num} (h : Rw m w s) (hk : -l ≤ k ∧ k ≤ l) : Rw (m + l) w (sh s (some k)) := by
  obtain ⟨⟨h1, h2⟩, h3⟩ := h
  refine ⟨⟨by rw [sh_len, h1], fun x hx => ?_⟩, fun z => ?_⟩
  · obtain ⟨a, ha, rfl⟩ := List.mem_map.mp hx
    intro i e
    cases a with
    | none => cases e
    | some a =>
      have := h2 _ ha a rfl
      have e : some (a + k) = some i := e
      cases e; omega
  · rw [pres_sh, List.map_eq_nil_iff] at z
    exact h3 z
theorem pres_ne {s : List Num} : pres s ≠ [] ↔ ∃ (i : Nat) (x : Int), s[i]? = some (some x) := by
  unfold pres
  rw [ne_eq, List.filterMap_eq_nil_iff]
  constructor
  · intro h
    have : ∃ a ∈ s, a ≠ none := Classical.byContradiction fun z => h fun a ha => Classical.byContradiction fun q => z ⟨a, ha, q⟩
    obtain ⟨a, ha, q⟩ := this
    obtain ⟨i, hi, e⟩ := List.mem_iff_getElem.mp ha
    cases a with
    | none => exact absurd rfl q
    | some x => exact ⟨i, x, by rw [List.getElem?_eq_getElem hi, e]⟩
  · rintro ⟨i, x, e⟩ q
    have := q (some x) (List.mem_of_getElem? e)
    cases this
theorem Rw.lay {m : Int} {w : Nat} {s t : List Num} (h : Rw m w s) (g : Rw m w t) : Rw m w (lay s t) := by
  obtain ⟨⟨h1, h2⟩, h3⟩ := h
  obtain ⟨⟨g1, g2⟩, _⟩ := g
  refine ⟨⟨by rw [lay_len, h1, g1, Nat.min_self], fun x hx => ?_⟩, ?_⟩
  · obtain ⟨i, hi, rfl⟩ := List.mem_iff_getElem.mp hx
    have hi2 := hi
    rw [lay_len] at hi2
    have is : i < s.length := by omega
    have it : i < t.length := by omega
    have ee : (PK.lay s t)[i] = topN s[i] t[i] := List.getElem_zipWith
    rw [ee]
    have a1 := h2 _ (List.getElem_mem is)
    have a2 := g2 _ (List.getElem_mem it)
    intro k e
    generalize s[i] = a at a1 e
    generalize t[i] = b at a2 e
    cases a with
    | none => exact a2 k e
    | some a =>
      cases b with
      | none => exact a1 k e
      | some b =>
        have a1 := a1 a rfl
        have a2 := a2 b rfl
        have e : some (max a b) = some k := e
        cases e; omega
  · obtain ⟨i, x, e⟩ := pres_ne.mp h3
    have hi : i < t.length := by have := (List.getElem?_eq_some_iff.mp e).1; omega
    refine pres_ne.mpr ⟨i, ?_⟩
    unfold PK.lay
    rw [List.getElem?_zipWith, e, List.getElem?_eq_getElem hi]
    cases t[i] with
    | none => exact ⟨x, rfl⟩
    | some y => exact ⟨max x y, rfl⟩
theorem Rw.up {m l : Int} {w : Nat} {s : List Num} (h : Rw m w s) (q : m ≤ l) : Rw l w s := ⟨⟨h.1.1, fun a ha k e => by have := h.1.2 a ha k e; omega⟩, h.2⟩
theorem more3_ok (n : Nat) (a b : Num) (st : Sto) : callF tb (n + 1) 23 [VD a, VD b] st = .ok (VD (topN a b)) st := by
  refine call_eq (F := F_law_more3) (ρ := [some (VD a), some (VD b)]) rfl rfl rfl rfl ?_
  cases a with
  | none => cases b <;> rfl
  | some i =>
    cases b with
    | none => rfl
    | some j =>
      show evS _ (.seq (.ifs _ _ _) (.seq (.ret (.ife (.cmp .gt (.var 0) (.var 1)) (.var 0) (.var 1))) .nil)) _ st = _
      rw [S_seq]
      show evS _ (.seq (.ret (.ife (.cmp .gt (.var 0) (.var 1)) (.var 0) (.var 1))) .nil) [some (.dat (.int i)), some (.dat (.int j))] st = _
      refine ret_eq ?_
      rw [E_ife]
      have e : evT (callF tb n) (.cmp .gt (.var 0) (.var 1)) [some (.dat (.int i)), some (.dat (.int j))] st = .ok (decide (j < i)) st := by rw [T_cmp]; rfl
      rw [e]
      by_cases h : j < i
      · rw [decide_eq_true h]
        show Res.ok (Va.dat (.int i)) st = Res.ok (Va.dat (.int (max i j))) st
        rw [show max i j = i by omega]
      · rw [decide_eq_false h]
        show Res.ok (Va.dat (.int j)) st = Res.ok (Va.dat (.int (max i j))) st
        rw [show max i j = j by omega]
theorem lp (n : Nat) (s : List Num) (b : Int) (st : Sto) (hs : s.length ≤ 1000) : callF tb (n + 1) 22 [.dat (TD s), .dat (.int b)] st = .ok (.dat (TD (sh s (some b)))) st := lplus_ok (ip := 22) rfl n s b st hs
theorem more_lc (n : Nat) (own : List (Str × Nat)) (i j x y : Nat) (ρ : RS.Env) (s t : List Num) (st : Sto) (hs : s.length ≤ 1000) (h1 : ρ[i]? = some (some (.dat (TD s)))) (h2 : ρ[j]? = some (some (.dat (TD t)))) (hx : x < (wipeE ρ own).length) (hy : y < (wipeE ρ own).length) (hxy : y ≠ x) :
    evE (callF tb (n + 1)) (.lc own (.t [x, y]) (.izip (.var i) (.var j)) .yes (.call 23 (.acons (.var x) (.acons (.var y) .anil)))) ρ st = .ok (.new ((lay s t).map VD)) st := by
  rw [ev_lc_map (xs := List.zip s t) (F := fun p => .dat (.tuple [D p.1, D p.2])) (G := fun p => some (VD (topN p.1 p.2))) ?_ (by rw [List.length_zip]; omega) fun a _ => ?_]
  · rw [fm_some, lay, List.zip, List.map_zipWith, List.map_zipWith]
  · rw [evI, E_var, h1]
    show ((evE (callF tb (n + 1)) (.var j) ρ st).bind _) = _
    rw [E_var, h2]
    show (match zipD (viewN (.dat (TD s))) (viewN (.dat (TD t))) with | some zs => Res.ok (Src.mk zs none) st | none => .stuck) = _
    rw [items_zip]
  · have e1 : (setEnv (setEnv (wipeE ρ own) x (VD a.1)) y (VD a.2))[x]? = some (some (VD a.1)) := by
      unfold setEnv
      rw [List.getElem?_set_ne hxy, List.getElem?_set_self hx]
    have e2 : (setEnv (setEnv (wipeE ρ own) x (VD a.1)) y (VD a.2))[y]? = some (some (VD a.2)) := by
      unfold setEnv
      rw [List.getElem?_set_self (by rw [List.length_set]; exact hy)]
    show ((evE (callF tb (n + 1)) (.call 23 (.acons (.var x) (.acons (.var y) .anil))) (setEnv (setEnv (wipeE ρ own) x (VD a.1)) y (VD a.2)) st).bind fun v s2 => match isOut v with | some v => Res.ok (some v) s2 | none => .stuck) = _
    simp only [E_call, A_cons, A_nil, E_var, Res.bind_ok, Res.of_some, e1, e2, Option.bind_some, id_eq, isOut_dat, more3_ok]
theorem pick_row (rows : List (List Num)) (r : Int) (r0 : 0 ≤ r) (r1 : r < rows.length) (st : Sto) : ∃ s ∈ rows, opIdx st (.dat (RD rows)) (.int r) = some (.dat (TD s)) := by
  have hr : r.toNat < rows.length := by omega
  refine ⟨rows[r.toNat], List.getElem_mem hr, ?_⟩
  show L2.atI ((rows.map TD).map Va.dat) r = _
  refine atI_pos r0 ?_
  rw [RD_items, List.getElem?_map, List.getElem?_eq_getElem hr]; rfl
theorem len_RD (rows : List (List Num)) : biF .len (RD rows) = some (.dat (.int rows.length)) := by
  show some (Va.dat (.int (rows.map TD).length)) = _
  rw [List.length_map]
theorem M1_pos : 1 ≤ M1 := by unfold M1; decide +kernel
def lb : S := .seq (.set 5 (.call 22 (.acons (.idx (.var 1) (.call 17 (.acons (.var 0) (.acons (.bi .len (.var 1)) .anil)))) (.acons (.call 19 (.acons (.var 0) (.acons (.var 2) .anil))) .anil))))
    (.seq (.set 3 (.bi .tuple (.lc [("low", 6), ("far", 7)] (.t [6, 7]) (.izip (.var 3) (.var 5)) .yes (.call 23 (.acons (.var 6) (.acons (.var 7) .anil))))))
    .nil)
theorem bt (s : List Num) : biF .tuple (.list (s.map D)) = some (.dat (TD s)) := rfl
/-- a row of a lot, shifted -/
theorem own_ev (n w : Nat) (m a b : Int) (rows : List (List Num)) (rest st : Sto) (ρ : RS.Env) (i0 : ρ[0]? = some (some (.ref 1))) (i1 : ρ[1]? = some (some (.dat (RD rows)))) (i2 : ρ[2]? = some (some (.dat (.list [.int a, .int b])))) (hw : Wd a b) (h4 : w ≤ 4) (hr : ∀ s ∈ rows, Rw m w s) (hn : 1 ≤ rows.length) (hz : rows.length ≤ 1000) (hd : Dr rest st) :
    Ev (evE (callF tb (n + 2)) (.call 22 (.acons (.idx (.var 1) (.call 17 (.acons (.var 0) (.acons (.bi .len (.var 1)) .anil)))) (.acons (.call 19 (.acons (.var 0) (.acons (.var 2) .anil))) .anil))) ρ st)
      (fun v st' => ∃ t, v = .dat (TD t) ∧ Rw (m + M1) w t ∧ Md rows t ∧ Dr rest st') := by
  obtain ⟨v1, st1, e1, r, rfl, r0, r1, hd1⟩ := (tk (n := n + 1) rows.length rest st (by omega) (by omega) hd).get
  obtain ⟨v2, st2, e2, k, rfl, hk, hd2⟩ := (wh (n := n) a b rest st1 hw hd1).get
  obtain ⟨s, hs, ix⟩ := pick_row rows r r0 r1 st1
  have rs := hr s hs
  have ls : s.length ≤ 1000 := by have := rs.1.1; omega
  simp only [E_call, E_bi, E_idx, A_cons, A_nil, E_var, E_lit, Res.bind_ok, Res.of_some, i0, i1, i2, Option.bind_some, id_eq, isOut_dat, isOut_ref, view_dat, len_RD, e1, e2, ix, lp (n + 1) s k _ ls, Ev_ok]
  exact ⟨_, rfl, rs.sh hk, (Md.self hs).sh k, hd2⟩
theorem made_step (n w : Nat) (m a b : Int) (rows : List (List Num)) (rest st : Sto) (hw : Wd a b) (h4 : w ≤ 4) (hr : ∀ s ∈ rows, Rw m w s) (hn : 1 ≤ rows.length) (hz : rows.length ≤ 1000) (f : List Num) (x y : Option Va) (hf : Rw (m + M1) w f ∧ Md rows f) (hd : Dr rest st) :
    Ev (evS (callF tb (n + 2)) lb [some (.ref 1), some (.dat (RD rows)), some (.dat (.list [.int a, .int b])), some (.dat (TD f)), x, y, none, none] st)
      (fun fl st' => ∃ g y', fl = .nx [some (.ref 1), some (.dat (RD rows)), some (.dat (.list [.int a, .int b])), some (.dat (TD g)), x, y', none, none] ∧ (Rw (m + M1) w g ∧ Md rows g) ∧ Dr rest st') := by
  obtain ⟨v1, st1, e1, t, rfl, ht, hmd, hd1⟩ := (own_ev n w m a b rows rest st [some (.ref 1), some (.dat (RD rows)), some (.dat (.list [.int a, .int b])), some (.dat (TD f)), x, y, none, none] rfl rfl rfl hw h4 hr hn hz hd).get
  have lf := hf.1.1.1
  rw [lb, S_seq, S_set, e1]
  simp only [Res.bind_ok, isOut_dat, setEnv, List.set_cons_succ, List.set_cons_zero]
  rw [S_seq, S_set, E_bi, more_lc (n + 1) _ 3 5 6 7 _ f t st1 (by omega) rfl rfl (by show 6 < 8; omega) (by show 7 < 8; omega) (by decide)]
  simp only [Res.bind_ok, view_VD, bt, Res.of_some, isOut_dat, S_nil, setEnv, List.set_cons_succ, List.set_cons_zero, Ev_ok]
  exact ⟨_, _, rfl, ⟨hf.1.lay ht, Md.lay (by rw [ht.1.1, lf]) hf.2 hmd⟩, hd1⟩
theorem made_turns (n w : Nat) (m a b : Int) (rows : List (List Num)) (rest : Sto) (hw : Wd a b) (h4 : w ≤ 4) (hr : ∀ s ∈ rows, Rw m w s) (hn : 1 ≤ rows.length) (hz : rows.length ≤ 1000) : ∀ (k : Nat) (i : Int) (st : Sto) (f : List Num) (x y : Option Va), (Rw (m + M1) w f ∧ Md rows f) → Dr rest st →
    Ev (forL (fun ρ s => evS (callF tb (n + 2)) lb ρ s) (.v 4) (upto i k) [some (.ref 1), some (.dat (RD rows)), some (.dat (.list [.int a, .int b])), some (.dat (TD f)), x, y, none, none] st)
      (fun fl st' => ∃ g x' y', fl = .nx [some (.ref 1), some (.dat (RD rows)), some (.dat (.list [.int a, .int b])), some (.dat (TD g)), x', y', none, none] ∧ (Rw (m + M1) w g ∧ Md rows g) ∧ Dr rest st')
  | 0, i, st, f, x, y, hf, hd => ⟨f, x, y, rfl, hf, hd⟩
  | k + 1, i, st, f, x, y, hf, hd => by
    obtain ⟨fl, st1, e1, g, y', rfl, hg, hd1⟩ := (made_step n w m a b rows rest st hw h4 hr hn hz f (some (.dat (.int i))) y hf hd).get
    rw [upto, forL_nx (b := fun ρ s => evS (callF tb (n + 2)) lb ρ s) (i := 4) (ρ := [some (.ref 1), some (.dat (RD rows)), some (.dat (.list [.int a, .int b])), some (.dat (TD f)), x, y, none, none]) e1]
    exact made_turns n w m a b rows rest hw h4 hr hn hz k (i + 1) st1 g _ y' hg hd1
theorem lmade_ok (n w : Nat) (m a b : Int) (rows : List (List Num)) (rest st : Sto) (hw : Wd a b) (h4 : w ≤ 4) (hr : ∀ s ∈ rows, Rw m w s) (hn : 1 ≤ rows.length) (hz : rows.length ≤ 1000) (hd : Dr rest st) :
    Ev (callF tb (n + 3) 24 [.ref 1, .dat (RD rows), .dat (.list [.int a, .int b])] st) (fun v st' => ∃ t, v = .dat (TD t) ∧ Rw (m + M1) w t ∧ Md rows t ∧ Dr rest st') := by
  obtain ⟨v1, st1, e1, f, rfl, hf, hmd, hd1⟩ := (own_ev n w m a b rows rest st [some (.ref 1), some (.dat (RD rows)), some (.dat (.list [.int a, .int b])), none, none, none, none, none] rfl rfl rfl hw h4 hr hn hz hd).get
  obtain ⟨v2, st2, e2, q, rfl, q0, q1, hd2⟩ := (tk (n := n + 1) 4 rest st1 (by omega) (by omega) hd1).get
  obtain ⟨fl, st3, e3, g, x', y', rfl, hg, hd3⟩ := (made_turns n w m a b rows rest hw h4 hr hn hz q.toNat 0 st2 f none none ⟨hf, hmd⟩ hd2).get
  refine ev_call (F := f24) rfl rfl ?_
  show Ev (evS (callF tb (n + 2)) (.seq (.set 3 (.call 22 (.acons (.idx (.var 1) (.call 17 (.acons (.var 0) (.acons (.bi .len (.var 1)) .anil)))) (.acons (.call 19 (.acons (.var 0) (.acons (.var 2) .anil))) .anil)))) (.seq (.forS (.v 4) (.irange1 (.call 17 (.acons (.var 0) (.acons (.lit (.int 4)) .anil)))) lb) (.seq (.ret (.var 3)) .nil))) [some (.ref 1), some (.dat (RD rows)), some (.dat (.list [.int a, .int b])), none, none, none, none, none] st) (finE false st.length _)
  rw [S_seq, S_set, e1]
  simp only [Res.bind_ok, isOut_dat, setEnv, List.set_cons_succ, List.set_cons_zero]
  rw [S_seq, S_forS]
  simp only [I_range, E_bin, E_call, A_cons, A_nil, E_var, E_lit, Res.bind_ok, Res.of_some, List.getElem?_cons_zero, List.getElem?_cons_succ, Option.bind_some, id_eq, isOut_dat, isOut_ref, view_dat, e2, a_add]
  rw [if_pos ⟨by omega, by omega⟩]
  simp only [Res.bind_ok, e3]
  simp only [S_seq, S_ret, E_var, Res.bind_ok, Res.of_some, List.getElem?_cons_zero, List.getElem?_cons_succ, Option.bind_some, id_eq, isOut_dat, Ev_ok, finE_rt, fin_dat, dr_len hd hd3]
  exact ⟨_, rfl, hg.1, hg.2, hd3⟩
end K12

/-! K12B: near and level rows. -/
namespace K12
open PySem RS PK
theorem near_ok (n w : Nat) (m : Int) (a b : Int) (s : List Num) (rest st : Sto) (hw : Wd a b) (h4 : w ≤ 4) (hs : Rw m w s) (hm : M1 ≤ m) (hd : Dr rest st) :
    Ev (callF tb (n + 3) 25 [.ref 1, .dat (TD s), .dat (.list [.int a, .int b])] st) (fun v st' => ∃ t, v = .dat (TD t) ∧ Rw (m + M1) w t ∧ Dr rest st') := by
  have hM := M1_pos
  have hl := hs.1.1
  have h1 : 1 ≤ w := by
    obtain ⟨i, x, e⟩ := pres_ne.mp hs.2
    have := (List.getElem?_eq_some_iff.mp e).1
    omega
  obtain ⟨v1, st1, e1, r, rfl, r0, r1, hd1⟩ := (tk (n := n + 1) w rest st (by omega) (by omega) hd).get
  refine ev_call (F := f25) rfl rfl ?_
  show Ev (evS (callF tb (n + 2)) f25.body [some (.ref 1), some (.dat (TD s)), some (.dat (.list [.int a, .int b])), none, none, none] st) (finE false st.length _)
  have hrl : r.toNat < s.length := by omega
  have bl : biF .len (TD s) = some (.dat (.int w)) := by rw [len_TD, hl]
  have ix : ∀ st, opIdx st (.dat (TD s)) (.int r) = some (VD s[r.toNat]) := fun st => by
    show L2.atI ((s.map D).map Va.dat) r = _
    refine atI_pos r0 ?_
    rw [items_TD, List.getElem?_map, List.getElem?_eq_getElem hrl]; rfl
  have er : (r.toNat : Int) = r := by omega
  have er1 : ((r.toNat + 1 : Nat) : Int) = r + 1 := by omega
  have sl1 : ∀ st, opSlc st (.dat (TD s)) none (some r) = some (.dat (.tuple ((s.take r.toNat).map D))) := fun st => by
    show some (Va.dat (.tuple (cut (s.map D) none (some r)))) = _
    rw [← er, cut_take, List.map_take, er]
  have sl2 : ∀ st, opSlc st (.dat (TD s)) (some (r + 1)) none = some (.dat (.tuple ((s.drop (r.toNat + 1)).map D))) := fun st => by
    show some (Va.dat (.tuple (cut (s.map D) (some (r + 1)) none))) = _
    rw [← er1, cut_drop, List.map_drop]
  -- from what stands there, or is drawn
  have go : ∀ (o : Int) (st2 : Sto), (-m ≤ o ∧ o ≤ m) → Dr rest st2 → Ev (evS (callF tb (n + 2)) (match f25.body with | .seq _ (.seq _ r) => r | r => r)
      [some (.ref 1), some (.dat (TD s)), some (.dat (.list [.int a, .int b])), some (.dat (.int r)), some (.dat (.int o)), none] st2) (finE false st.length fun v st' => ∃ t, v = .dat (TD t) ∧ Rw (m + M1) w t ∧ Dr rest st') := fun o st2 ho h2 => by
    obtain ⟨vk, st3, ek, k, rfl, hk, h3⟩ := (wh (n := n) a b rest st2 hw h2).get
    obtain ⟨v3, st4, e3, d, rfl, hmem, hd3⟩ := (on (n := n) [D (some (o + 1)), D (some (o - 1)), D (some (o + k)), D none] rest st3 (by simp) (by simp) h3).get
    obtain ⟨x, rfl, hx⟩ : ∃ x : Num, d = D x ∧ Sn (m + M1) x := by
      simp only [List.mem_cons, List.mem_nil_iff, or_false] at hmem
      rcases hmem with rfl | rfl | rfl | rfl
      · exact ⟨some (o + 1), rfl, fun k e => by cases e; omega⟩
      · exact ⟨some (o - 1), rfl, fun k e => by cases e; omega⟩
      · exact ⟨some (o + k), rfl, fun k e => by cases e; omega⟩
      · exact ⟨none, rfl, sn_none⟩
    have fz : ∀ (i : Int) (st : Sto), frzV (.dat (.int i)) st = .ok (.dat (.int i)) st := fun _ _ => rfl
    have z1 : frzV (.new [.dat (.int (o + 1)), .dat (.int (o - 1)), .dat (.int (o + k)), .dat .none]) st3 = .ok (.dat (.list [D (some (o + 1)), D (some (o - 1)), D (some (o + k)), D none])) st3 := rfl
    have pn : partV (.dat .none) = some none := rfl
    have pi : ∀ i : Int, partV (.dat (.int i)) = some (some i) := fun _ => rfl
    have ud : undat [VD x] = some [D x] := rfl
    have un : undat [Va.dat .none] = some [.none] := rfl
    have t1 : opBin .add (.tuple ((s.take r.toNat).map D)) (.tuple [D x]) = some (.dat (.tuple ((s.take r.toNat).map D ++ [D x]))) := by
      show (if ((s.take r.toNat).map D).length + 1 ≤ 16777216 then some (Va.dat (.tuple ((s.take r.toNat).map D ++ [D x]))) else none) = _
      rw [if_pos (by rw [List.length_map, List.length_take]; omega)]
    have t2 : opBin .add (.tuple ((s.take r.toNat).map D ++ [D x])) (.tuple ((s.drop (r.toNat + 1)).map D)) = some (.dat (TD (s.set r.toNat x))) := by
      show (if ((s.take r.toNat).map D ++ [D x]).length + ((s.drop (r.toNat + 1)).map D).length ≤ 16777216 then some (Va.dat (.tuple ((s.take r.toNat).map D ++ [D x] ++ (s.drop (r.toNat + 1)).map D))) else none) = _
      rw [if_pos (by simp only [List.length_append, List.length_map, List.length_take, List.length_drop, List.length_cons, List.length_nil]; omega)]
      show _ = some (Va.dat (.tuple ((s.set r.toNat x).map D)))
      rw [List.set_eq_take_append_cons_drop, if_pos hrl]
      simp
    have z2 : ∀ st, frzV (.dat (TD (s.set r.toNat x))) st = .ok (.dat (TD (s.set r.toNat x))) st := fun _ => rfl
    unfold f25
    dsimp only
    rw [S_seq, S_set]
    simp only [E_frz, E_bin, E_slc, E_nopart, E_tup, E_call, E_lst, A_cons, A_nil, E_var, E_lit, Res.bind_ok, Res.of_some, List.getElem?_cons_zero, List.getElem?_cons_succ, Option.bind_some, id_eq, isOut_dat, isOut_ref, view_dat, pn, pi, sl1, sl2, a_add, a_sub, fz, ek, z1, e3, ud, t1, t2, z2, setEnv, List.set_cons_succ, List.set_cons_zero]
    have test : evT (callF tb (n + 2)) (.cmp .ne (.var 5) (.bin .mul (.tup (.acons (.lit .none) .anil)) (.bi .len (.var 1)))) [some (.ref 1), some (.dat (TD s)), some (.dat (.list [.int a, .int b])), some (.dat (.int r)), some (.dat (.int o)), some (.dat (TD (s.set r.toNat x)))] st4 = .ok (!decide (s.set r.toNat x = nones w)) st4 := by
      simp only [T_cmp, E_bin, E_bi, E_tup, A_cons, A_nil, E_var, E_lit, Res.bind_ok, Res.of_some, List.getElem?_cons_zero, List.getElem?_cons_succ, Option.bind_some, id_eq, isOut_dat, view_dat, un, bl, mul_none w (by omega), c_neT]
    rw [S_seq, S_ret, E_ife, test]
    by_cases hz : s.set r.toNat x = nones w
    · simp only [decide_eq_true hz, Bool.not_true, E_var, Res.bind_ok, Res.of_some, List.getElem?_cons_zero, List.getElem?_cons_succ, Option.bind_some, id_eq, isOut_dat, Ev_ok, finE_rt, fin_dat, dr_len hd hd3]
      exact ⟨_, rfl, hs.up (by omega), hd3⟩
    · simp only [decide_eq_false hz, Bool.not_false, E_var, Res.bind_ok, Res.of_some, List.getElem?_cons_zero, List.getElem?_cons_succ, Option.bind_some, id_eq, isOut_dat, Ev_ok, finE_rt, fin_dat, dr_len hd hd3]
      refine ⟨_, rfl, ⟨⟨by rw [List.length_set]; exact hl, fun y hy => ?_⟩, fun z => hz ?_⟩, hd3⟩
      · rcases List.mem_or_eq_of_mem_set hy with h | rfl
        · intro k e; have := hs.1.2 y h k e; omega
        · exact hx
      · have := pres_nil.mp z
        rw [List.length_set, hl] at this
        exact this
  unfold f25 at go ⊢
  dsimp only at go ⊢
  rw [S_seq, S_set]
  simp only [E_bi, E_call, A_cons, A_nil, E_var, Res.bind_ok, Res.of_some, List.getElem?_cons_zero, List.getElem?_cons_succ, Option.bind_some, id_eq, isOut_dat, isOut_ref, view_dat, bl, e1, setEnv, List.set_cons_succ, List.set_cons_zero]
  rw [S_seq, S_set]
  have cn : ∀ x : Num, opCmp .notN (D x) .none = some x.isSome := fun x => by cases x <;> rfl
  simp only [E_ife, T_cmp, E_idx, E_call, A_cons, A_nil, E_var, E_lit, Res.bind_ok, Res.of_some, List.getElem?_cons_zero, List.getElem?_cons_succ, Option.bind_some, id_eq, isOut_dat, isOut_ref, view_dat, ix, cn]
  cases hx : s[r.toNat] with
  | none =>
    obtain ⟨v2, st2, e2, i, rfl, hi, hd2⟩ := (wh (n := n) a b rest st1 hw hd1).get
    simp only [Option.isSome_none, Res.bind_ok, e2, isOut_dat, setEnv, List.set_cons_succ, List.set_cons_zero]
    exact go i st2 (by omega) hd2
  | some o =>
    simp only [Option.isSome_some, Res.bind_ok, isOut_dat, setEnv, List.set_cons_succ, List.set_cons_zero]
    exact go o st1 (hs.1.2 _ (List.getElem_mem hrl) o hx) hd1

theorem lcL_idx {f : Va → Sto → Res (Option Va)} (I : Sto → Prop) (P : Va → Va → Prop) : ∀ (xs : List Va) (st : Sto), (∀ x ∈ xs, ∀ s, I s → Ev (f x s) fun o s' => I s' ∧ ∃ v, o = some v ∧ P x v) → I st →
    Ev (lcL f xs st) fun vs s' => I s' ∧ vs.length = xs.length ∧ ∀ (i : Nat) x, xs[i]? = some x → ∃ v, vs[i]? = some v ∧ P x v
  | [], st, _, h => ⟨h, rfl, fun i x m => by simp at m⟩
  | x :: xs, st, hf, h => by
    rw [lcL, Ev_bind, Ev_calm]
    refine (hf x List.mem_cons_self st h).imp fun o s1 ⟨h1, v, e, p⟩ => ?_
    subst e
    rw [Ev_bind]
    refine (lcL_idx I P xs s1 (fun y m => hf y (List.mem_cons_of_mem _ m)) h1).imp fun r s2 ⟨h2, l, q⟩ => ?_
    rw [Ev_ok]
    refine ⟨h2, by rw [List.length_cons, l, List.length_cons], fun i y m => ?_⟩
    cases i with
    | zero => cases m; exact ⟨v, rfl, p⟩
    | succ i => exact q i y m
theorem lc_drawsI {φ : Nat → List Va → Sto → Res Va} {own : List (Str × Nat)} {j : Nat} {it body : T} {ρ : RS.Env} {st st1 rest : Sto} {items : List Va} (P : Va → Va → Prop) (hi : evI φ it ρ st = .ok ⟨items, none⟩ st1) (hz : items.length ≤ 1000) (ho : ∀ x ∈ items, isOut x = some x)
    (hf : ∀ x ∈ items, ∀ s, Dr rest s → Ev (evE φ body (setEnv (wipeE ρ own) j x) s) (fun v s' => isOut v = some v ∧ P x v ∧ Dr rest s')) (hd : Dr rest st1) :
    Ev (evE φ (.lc own (.v j) it .yes body) ρ st) (fun v s' => ∃ vs, v = .new vs ∧ vs.length = items.length ∧ (∀ (i : Nat) x, items[i]? = some x → ∃ v, vs[i]? = some v ∧ P x v) ∧ Dr rest s') := by
  rw [evE, hi]
  show Ev (if items.length ≤ 16777216 then (lcL (lcF φ (.v j) (wipeE ρ own) .yes body) items st1).bind fun xs st2 => Res.ok (Va.new xs) st2 else .stuck) _
  rw [if_pos (by omega), Ev_bind]
  refine (lcL_idx (Dr rest) P items st1 (fun x hx s hs => ?_) hd).imp fun vs s' ⟨h1, h2, h3⟩ => ⟨vs, rfl, h2, h3, h1⟩
  have o := ho x hx
  have e : lcF φ (.v j) (wipeE ρ own) .yes body x s = (evE φ body (setEnv (wipeE ρ own) j x) s).bind fun v s2 => match isOut v with | some v => Res.ok (some v) s2 | none => .stuck := by
    cases x with
    | new _ => cases o
    | dat d => rfl
    | ref k => rfl
  rw [e, Ev_bind]
  refine (hf x hx s hs).imp fun v s2 ⟨ov, pv, hd2⟩ => ?_
  rw [ov]
  exact ⟨hd2, v, rfl, pv⟩
theorem D_inj {a b : Num} (h : D a = D b) : a = b := by
  cases a <;> cases b <;> cases h <;> rfl
/-- a row level with another -/
theorem level_ok (n w : Nat) (a b : Int) (s : List Num) (rest st : Sto) (hw : Wd a b) (hs : s.length = w) (h4 : w ≤ 4) (hd : Dr rest st) :
    Ev (callF tb (n + 3) 21 [.ref 1, .dat (TD s), .dat (.list [.int a, .int b])] st) (fun v st' => ∃ t, v = .dat (TD t) ∧ t.length = w ∧ Sm M1 t ∧ t.map Option.isNone = s.map Option.isNone ∧ Dr rest st') := by
  have hi : ∀ st, evI (callF tb (n + 2)) (.iseq (.var 1)) [some (.ref 1), some (.dat (TD s)), some (.dat (.list [.int a, .int b])), none] st = .ok ⟨s.map VD, none⟩ st := fun st => by
    rw [I_seq, E_var]
    show Res.ok (Src.mk ((s.map D).map Va.dat) none) st = _
    rw [items_TD]
  have cn : ∀ x : Num, opCmp .isN (D x) .none = some x.isNone := fun x => by cases x <;> rfl
  obtain ⟨v1, st1, e1, vs, rfl, l1, q1, hd1⟩ := (lc_drawsI (φ := callF tb (n + 2)) (own := [("own", 3)]) (j := 3) (it := .iseq (.var 1)) (body := .ife (.cmp .isN (.var 3) (.lit .none)) (.lit .none) (.call 19 (.acons (.var 0) (.acons (.var 2) .anil))))
    (ρ := [some (.ref 1), some (.dat (TD s)), some (.dat (.list [.int a, .int b])), none]) (st := st) (rest := rest) (fun x v => ∃ p q : Num, x = VD q ∧ v = VD p ∧ Sn M1 p ∧ p.isNone = q.isNone) (hi st) (by rw [List.length_map]; omega)
    (fun x hx => by obtain ⟨y, _, rfl⟩ := List.mem_map.mp hx; rfl) (fun x hx s2 hs2 => by
      obtain ⟨y, _, rfl⟩ := List.mem_map.mp hx
      obtain ⟨v2, st2, e2, k, rfl, hk, hd2⟩ := (wh (n := n) a b rest s2 hw hs2).get
      simp only [wipeE, List.foldl_cons, List.foldl_nil, setEnv, List.set_cons_succ, List.set_cons_zero]
      simp only [E_ife, T_cmp, E_call, A_cons, A_nil, E_var, E_lit, Res.bind_ok, Res.of_some, List.getElem?_cons_zero, List.getElem?_cons_succ, Option.bind_some, id_eq, isOut_dat, isOut_ref, view_dat, cn]
      cases y with
      | none => exact ⟨rfl, ⟨none, none, rfl, rfl, sn_none, rfl⟩, hs2⟩
      | some y =>
        simp only [Option.isNone_some, Res.bind_ok, e2, Ev_ok]
        exact ⟨rfl, ⟨some k, some y, rfl, rfl, fun j e => by cases e; exact hk, rfl⟩, hd2⟩) hd).get
  obtain ⟨t, rfl, ht⟩ := nums_of (m := M1) (vs := vs) fun v hv => by
    obtain ⟨i, hi, rfl⟩ := List.mem_iff_getElem.mp hv
    have hi2 : i < (s.map VD).length := by omega
    obtain ⟨v, e, p, q, _, rfl, h, _⟩ := q1 i _ (List.getElem?_eq_getElem hi2)
    rw [List.getElem?_eq_getElem hi] at e
    exact ⟨p, Option.some.inj e, h⟩
  have lt : t.length = s.length := by rw [List.length_map, List.length_map] at l1; exact l1
  refine ev_call (F := f21) rfl rfl ?_
  unfold f21
  show Ev (evS (callF tb (n + 2)) (.seq (.ret (.bi .tuple _)) .nil) [some (.ref 1), some (.dat (TD s)), some (.dat (.list [.int a, .int b])), none] st) (finE false st.length _)
  rw [S_seq, S_ret, E_bi, e1]
  simp only [Res.bind_ok, view_VD, bt, Res.of_some, isOut_dat, Ev_ok, finE_rt, fin_dat, dr_len hd hd1]
  refine ⟨t, rfl, by omega, ht, ?_, hd1⟩
  apply List.ext_getElem?
  intro i
  rw [List.getElem?_map, List.getElem?_map]
  by_cases hi : i < s.length
  · obtain ⟨v, e, p, q, e2, e3, _, h⟩ := q1 i (VD s[i]) (by rw [List.getElem?_map, List.getElem?_eq_getElem hi]; rfl)
    have hit : i < t.length := by omega
    rw [List.getElem?_map, List.getElem?_eq_getElem hit] at e
    have e4 : VD t[i] = VD p := by rw [← e3]; exact Option.some.inj e
    have e5 : D t[i] = D p := by injection e4
    have e6 : D s[i] = D q := by injection e2
    rw [List.getElem?_eq_getElem hi, List.getElem?_eq_getElem hit, D_inj e5, D_inj e6]
    exact congrArg some h
  · rw [List.getElem?_eq_none (by omega), List.getElem?_eq_none (by omega)]
end K12

/-! K12C: the law's own gap. -/
namespace K12
open PySem RS PK
/-! ### in plain Lean -/
def badN (s t : List Num) : Nat := ((List.zip s t).filter fun p => p.1.isSome && p.2.isNone).length
def fit (s t : List Num) : Bool := decide (badN s t = 0)
theorem fit_iff {s t : List Num} (l : s.length = t.length) : fit s t = true ↔ ∀ (i : Nat) (a : Int), s[i]? = some (some a) → ∃ b : Int, t[i]? = some (some b) := by
  unfold fit badN
  rw [decide_eq_true_eq, List.length_eq_zero_iff, List.filter_eq_nil_iff]
  constructor
  · intro h i a e
    have hi : i < t.length := by have := (List.getElem?_eq_some_iff.mp e).1; omega
    have et := List.getElem?_eq_getElem hi
    have := h (some a, t[i]) (List.mem_iff_getElem?.mpr ⟨i, List.getElem?_zip_eq_some.mpr ⟨e, et⟩⟩)
    cases b : t[i] with
    | none => rw [b] at this; exact absurd rfl this
    | some y => exact ⟨y, by rw [et, b]⟩
  · rintro h ⟨p, q⟩ m
    obtain ⟨i, hi⟩ := List.mem_iff_getElem?.mp m
    obtain ⟨z1, z2⟩ := List.getElem?_zip_eq_some.mp hi
    cases p with
    | none => exact Bool.false_ne_true
    | some a =>
      obtain ⟨b, e⟩ := h i a z1
      rw [show t[i]? = some q from z2] at e
      cases e
      exact Bool.false_ne_true
def df (s t : List Num) : List Num := List.zipWith (fun a b => a.bind fun x => b.map fun y => x - y) s t
theorem df_get {s t : List Num} {i : Nat} {d : Int} : (df s t)[i]? = some (some d) ↔ ∃ a b : Int, s[i]? = some (some a) ∧ t[i]? = some (some b) ∧ d = a - b := by
  unfold df
  rw [List.getElem?_zipWith]
  constructor
  · intro h
    cases e1 : s[i]? with
    | none => rw [e1] at h; cases h
    | some p =>
      cases e2 : t[i]? with
      | none => rw [e1, e2] at h; cases h
      | some q =>
        rw [e1, e2] at h
        cases p with
        | none => cases h
        | some a =>
          cases q with
          | none => cases h
          | some b => cases h; exact ⟨a, b, rfl, rfl, rfl⟩
  · rintro ⟨a, b, e1, e2, rfl⟩
    rw [e1, e2]; rfl
theorem df_len {s t : List Num} (l : s.length = t.length) : (df s t).length = t.length := by
  unfold df
  rw [List.length_zipWith, l, Nat.min_self]
theorem mem_pres {d : List Num} {y : Int} : y ∈ pres d ↔ ∃ i : Nat, d[i]? = some (some y) := by
  unfold pres
  rw [List.mem_filterMap]
  constructor
  · rintro ⟨a, m, e⟩
    have e : a = some y := e
    subst e
    exact List.mem_iff_getElem?.mp m
  · rintro ⟨i, e⟩
    exact ⟨some y, List.mem_iff_getElem?.mpr ⟨i, e⟩, rfl⟩
theorem df_gr {s t : List Num} (l : s.length = t.length) (f : fit s t = true) (p : pres (df s t) ≠ []) : Gr s t (-maxI (pres (df s t))) where
  und := fun j a e => by
    obtain ⟨b, e2⟩ := (fit_iff l).mp f j a e
    have := maxI_le (mem_pres.mpr ⟨j, df_get.mpr ⟨a, b, e, e2, rfl⟩⟩)
    exact ⟨b, e2, by omega⟩
  top := fun k g => by
    obtain ⟨j, e⟩ := mem_pres.mp (maxI_mem p)
    obtain ⟨a, b, e1, e2, e3⟩ := df_get.mp e
    obtain ⟨b', e4, q⟩ := g j a e1
    rw [e2] at e4; cases e4; omega
def leftD (ds : List (List Num)) (i : Nat) : List Int := ds.filterMap fun d => (d[i]?.getD none).map fun x => maxI (pres d) - x
def somes (rows : List (List Num)) (t : List Num) : List (List Num) := (rows.filter fun s => fit s t).map fun s => df s t
theorem mem_left {rows : List (List Num)} {t : List Num} (hr : ∀ s ∈ rows, s.length = t.length) {i : Nat} {x : Int} : x ∈ leftD (somes rows t) i ↔ ∃ s ∈ rows, ∃ k a b : Int, Gr s t k ∧ s[i]? = some (some a) ∧ t[i]? = some (some b) ∧ x = b - (a + k) := by
  unfold leftD somes
  rw [List.mem_filterMap]
  constructor
  · rintro ⟨d, m, e⟩
    obtain ⟨s, ms, rfl⟩ := List.mem_map.mp m
    obtain ⟨hs, f⟩ := List.mem_filter.mp ms
    cases q : (df s t)[i]? with
    | none => rw [q] at e; cases e
    | some y =>
      rw [q] at e
      cases y with
      | none => cases e
      | some y =>
        have e : some (maxI (pres (df s t)) - y) = some x := e
        cases e
        obtain ⟨a, b, e1, e2, rfl⟩ := df_get.mp q
        have p : pres (df s t) ≠ [] := fun z => by
          have := mem_pres.mpr ⟨i, q⟩
          rw [z] at this; nomatch this
        exact ⟨s, hs, _, a, b, df_gr (hr s hs) f p, e1, e2, by omega⟩
  · rintro ⟨s, hs, k, a, b, g, e1, e2, rfl⟩
    have f : fit s t = true := (fit_iff (hr s hs)).mpr fun j y e => (g.und j y e).imp fun _ z => z.1
    have q : (df s t)[i]? = some (some (a - b)) := df_get.mpr ⟨a, b, e1, e2, rfl⟩
    have p : pres (df s t) ≠ [] := fun z => by
      have := mem_pres.mpr ⟨i, q⟩
      rw [z] at this; nomatch this
    refine ⟨df s t, List.mem_map.mpr ⟨s, List.mem_filter.mpr ⟨hs, f⟩, rfl⟩, ?_⟩
    have := g.uniq (df_gr (hr s hs) f p)
    rw [q]
    show some (maxI (pres (df s t)) - (a - b)) = _
    congr 1; omega
def lgapG (ds : List (List Num)) (t : List Num) : List Nat → Int → Num
  | [], w => some w
  | i :: is, w => match t[i]?.getD none with
    | none => lgapG ds t is w
    | some _ => if leftD ds i = [] then none else lgapG ds t is (max w (minZ (leftD ds i)))
def lgapN (rows : List (List Num)) (t : List Num) : Num := lgapG (somes rows t) t (List.range t.length) 0
theorem lgapG_none {ds : List (List Num)} {t : List Num} : ∀ (is : List Nat) (w : Int), lgapG ds t is w = none → ∃ i ∈ is, ∃ tv : Int, t[i]? = some (some tv) ∧ leftD ds i = []
  | [], w, e => nomatch e
  | i :: is, w, e => by
    rw [lgapG] at e
    cases q : t[i]? with
    | none =>
      rw [q] at e
      obtain ⟨j, m, z⟩ := lgapG_none is w e
      exact ⟨j, List.mem_cons_of_mem _ m, z⟩
    | some y =>
      rw [q] at e
      cases y with
      | none =>
        obtain ⟨j, m, z⟩ := lgapG_none is w e
        exact ⟨j, List.mem_cons_of_mem _ m, z⟩
      | some y =>
        simp only [Option.getD_some] at e
        split at e
        · rename_i z; exact ⟨i, List.mem_cons_self, y, q, z⟩
        · obtain ⟨j, m, z⟩ := lgapG_none is _ e
          exact ⟨j, List.mem_cons_of_mem _ m, z⟩
theorem lgapG_some {ds : List (List Num)} {t : List Num} : ∀ (is : List Nat) (w g : Int), lgapG ds t is w = some g → w ≤ g ∧ (∀ i ∈ is, ∀ tv : Int, t[i]? = some (some tv) → ∃ x ∈ leftD ds i, x ≤ g) ∧ (g = w ∨ ∃ i ∈ is, ∃ tv : Int, t[i]? = some (some tv) ∧ ∀ x ∈ leftD ds i, g ≤ x)
  | [], w, g, e => by cases e; exact ⟨Int.le_refl _, fun _ m => (nomatch m), .inl rfl⟩
  | i :: is, w, g, e => by
    rw [lgapG] at e
    have skip : t[i]?.getD none = none → lgapG ds t is w = some g → w ≤ g ∧ (∀ j ∈ i :: is, ∀ tv : Int, t[j]? = some (some tv) → ∃ x ∈ leftD ds j, x ≤ g) ∧ (g = w ∨ ∃ j ∈ i :: is, ∃ tv : Int, t[j]? = some (some tv) ∧ ∀ x ∈ leftD ds j, g ≤ x) := fun q e => by
      obtain ⟨h1, h2, h3⟩ := lgapG_some is w g e
      refine ⟨h1, fun j m tv z => ?_, h3.imp id fun ⟨j, m, z⟩ => ⟨j, List.mem_cons_of_mem _ m, z⟩⟩
      rcases List.mem_cons.mp m with rfl | m
      · rw [z] at q; cases q
      · exact h2 j m tv z
    cases q : t[i]? with
    | none => rw [q] at e; exact skip (by rw [q]; rfl) e
    | some y =>
      rw [q] at e
      cases y with
      | none => exact skip (by rw [q]; rfl) e
      | some y =>
        simp only [Option.getD_some] at e
        split at e
        · cases e
        · rename_i ne
          obtain ⟨h1, h2, h3⟩ := lgapG_some is _ g e
          refine ⟨by omega, fun j m tv z => ?_, ?_⟩
          · rcases List.mem_cons.mp m with rfl | m
            · exact ⟨_, minZ_mem ne, by omega⟩
            · exact h2 j m tv z
          · rcases h3 with h3 | ⟨j, m, z⟩
            · by_cases c : w ≤ minZ (leftD ds i)
              · exact .inr ⟨i, List.mem_cons_self, y, q, fun x hx => by have := minZ_le hx; omega⟩
              · exact .inl (by omega)
            · exact .inr ⟨j, List.mem_cons_of_mem _ m, z⟩
theorem lgap_lst {rows : List (List Num)} {t : List Num} (hr : ∀ s ∈ rows, s.length = t.length) (hp : ∀ s ∈ rows, pres s ≠ []) (pt : pres t ≠ []) : Lst (Ach rows t) (lgapN rows t) := by
  have low : ∀ (g' : Int) (i : Nat) (tv : Int), t[i]? = some (some tv) → Ach rows t g' → ∃ x ∈ leftD (somes rows t) i, x ≤ g' := fun g' i tv e ⟨u, lu, m, h1, h2⟩ => by
    obtain ⟨uv, e1, l1⟩ := h2 i tv e
    obtain ⟨s, hs, sv, e2, us⟩ := m i uv e1
    obtain ⟨k, ek, lk⟩ := gr_under (hr s hs) (hp s hs) (us.trans h1)
    exact ⟨tv - (sv + k), (mem_left hr).mpr ⟨s, hs, k, sv, tv, under_gr (hr s hs) ek, e2, e, rfl⟩, by omega⟩
  cases q : lgapN rows t with
  | none =>
    intro g h
    obtain ⟨i, _, tv, e, z⟩ := lgapG_none _ _ q
    obtain ⟨x, m, _⟩ := low g i tv e h
    rw [z] at m; nomatch m
  | some g =>
    obtain ⟨h1, h2, h3⟩ := lgapG_some _ _ _ q
    refine ⟨⟨belowR rows t, belowR_len hr, below_md hr, below_und hr, fun i tv e => ?_⟩, fun g' h => ?_⟩
    · have hi := (List.getElem?_eq_some_iff.mp e).1
      obtain ⟨x, m, l⟩ := h2 i (List.mem_range.mpr hi) tv e
      obtain ⟨s, hs, k, a, b, gr, e1, e2, rfl⟩ := (mem_left hr).mp m
      rw [e] at e2; cases e2
      obtain ⟨y, e3, l3⟩ := below_top hr hp (Md.self hs) gr.und i a e1
      exact ⟨y, e3, by omega⟩
    · rcases h3 with rfl | ⟨i, _, tv, e, z⟩
      · exact h.nonneg pt
      · obtain ⟨x, m, l⟩ := low g' i tv e h
        have := z x m
        omega
theorem lgap_gap {rows : List (List Num)} {t : List Num} (hr : ∀ s ∈ rows, s.length = t.length) (hp : ∀ s ∈ rows, pres s ≠ []) (pt : pres t ≠ []) : gapN rows t = lgapN rows t :=
  Lst.uniq (fun _ => Iff.rfl) (gapN_lst hr hp pt) (lgap_lst hr hp pt)
/-! ### what the def computes -/
theorem E_bi2 (φ : Nat → List Va → Sto → Res Va) (ρ : RS.Env) (st : Sto) (b : Bi2) (a c : T) : evE φ (.bi2 b a c) ρ st = (evE φ a ρ st).bind fun x st1 => (evE φ c ρ st1).bind fun y st2 => match x, y with
      | .dat d, .dat e => .of ((bi2F b d e).map .dat) st2
      | _, _ => .stuck := by first | (rw [evE]; done) | (rw [evE]; rfl)
theorem ones_nil (k : Nat) : opCmp .eq (.list (List.replicate k (.int 1))) (.list []) = some (decide (k = 0)) := by
  show (if flatD 60 (.list (List.replicate k (.int 1))) = true ∧ flatD 60 (.list []) = true then some (PyData.eqv (.list (List.replicate k (.int 1))) (.list [])) else none) = _
  have fl : flatD 60 (.list (List.replicate k (.int 1))) = true := by
    show (List.replicate k (PyData.int 1)).all (flatD 59) = true
    refine List.all_eq_true.mpr fun x hx => ?_
    rw [List.eq_of_mem_replicate hx]
    unfold flatD; rfl
  rw [if_pos ⟨fl, by unfold flatD; rfl⟩]
  cases k <;> rfl
theorem fm_ones {α : Type} (g : α → Bool) (xs : List α) : xs.filterMap (fun s => if g s = true then some (Va.dat (.int 1)) else none) = (List.replicate (xs.filter g).length (PyData.int 1)).map .dat := by
  induction xs with
  | nil => rfl
  | cons s rs ih =>
    rw [List.filterMap_cons, List.filter_cons]
    by_cases h : g s = true
    · rw [if_pos h, if_pos h]
      simp only [List.length_cons, List.replicate_succ, List.map_cons, ih]
    · rw [if_neg h, if_neg h]
      exact ih
theorem ints_nil (L : List Int) : opCmp .eq (.list (L.map .int)) (.list []) = some (decide (L = [])) := by
  have h := c_eqL (L.map some) []
  rw [List.map_map] at h
  have e : decide (L.map some = ([] : List Num)) = decide (L = []) := by cases L <;> rfl
  rw [e] at h
  exact h
abbrev LSd (d : List Num) : PyData := .list (d.map D)
theorem presL_ok (φ : Nat → List Va → Sto → Res Va) (own : List (Str × Nat)) (i j : Nat) (ρ : RS.Env) (s : List Num) (st : Sto) (hs : s.length ≤ 1000) (hi : ρ[i]? = some (some (.dat (LSd s)))) (hj : j < (wipeE ρ own).length) :
    evE φ (.lc own (.v j) (.iseq (.var i)) (.cmp .notN (.var j) (.lit .none)) (.var j)) ρ st = .ok (.new ((pres s).map fun k => .dat (.int k))) st := by
  rw [ev_lc_map (xs := s) (F := VD) (G := fun a => a.map fun k => .dat (.int k)) ?_ hs fun a _ => ?_]
  · congr 2
    rw [pres, List.map_filterMap]
    rfl
  · rw [evI, E_var, hi]
    show Res.ok _ _ = _
    rw [← items_TD]
  · have e : (setEnv (wipeE ρ own) j (VD a))[j]? = some (some (VD a)) := List.getElem?_set_self hj
    show ((evT φ (.cmp .notN (.var j) (.lit .none)) (setEnv (wipeE ρ own) j (VD a)) st).bind _) = _
    rw [T_cmp, E_var, e]
    cases a with
    | none => rfl
    | some k =>
      show (((evE φ (.var j) (setEnv (wipeE ρ own) j (VD (some k))) st)).bind fun v s2 => match isOut v with | some v => Res.ok (some v) s2 | none => .stuck) = _
      rw [E_var, e]; rfl
def g1 : S := .seq (.ifs (.cmp .eq (.lc [("low", 7), ("top_v", 8)] (.t [7, 8]) (.izip (.var 3) (.var 1)) (.and (.cmp .notN (.var 7) (.lit .none)) (.last (.cmp .isN (.var 8) (.lit .none)))) (.lit (.int 1))) (.lst .anil))
    (.seq (.expr (.app (.var 2) (.frz (.lc [("low", 7), ("top_v", 8)] (.t [7, 8]) (.izip (.var 3) (.var 1)) .yes (.ife (.cmp .isN (.var 7) (.lit .none)) (.lit .none) (.bin .sub (.var 7) (.var 8)))))))
    .nil)
    .nil)
    .nil
def g2 : S := .seq (.ifs (.cmp .notN (.idx (.var 1) (.var 5)) (.lit .none))
    (.seq (.set 6 (.frz (.lc [("own", 3)] (.v 3) (.iseq (.var 2)) (.cmp .notN (.idx (.var 3) (.var 5)) (.lit .none)) (.bin .sub (.bi .maxL (.lc [("low", 7)] (.v 7) (.iseq (.var 3)) (.cmp .notN (.var 7) (.lit .none)) (.var 7))) (.idx (.var 3) (.var 5))))))
    (.seq (.ifs (.cmp .eq (.var 6) (.lst .anil))
    (.seq (.ret (.lit .none))
    .nil)
    .nil)
    (.seq (.set 4 (.bi2 .max (.var 4) (.bi .minL (.var 6))))
    .nil)))
    .nil)
    .nil
theorem g1_step (n : Nat) (R : PyData) (s t : List Num) (acc : List (List Num)) (x4 x5 x6 : Option Va) (st : Sto) (l : s.length = t.length) (ht : t.length ≤ 1000) (hz : acc.length ≤ 1000) :
    evS (callF tb n) g1 [some (.dat R), some (.dat (TD t)), some (.ref st.length), some (.dat (TD s)), x4, x5, x6, none, none] (st ++ [.lst ((acc.map LSd).map .dat)]) =
      .ok (.nx [some (.dat R), some (.dat (TD t)), some (.ref st.length), some (.dat (TD s)), x4, x5, x6, none, none]) (st ++ [.lst (((if fit s t = true then acc ++ [df s t] else acc).map LSd).map .dat)]) := by
  generalize hst : st ++ [Cell.lst ((acc.map LSd).map .dat)] = st1
  have hi : evI (callF tb n) (.izip (.var 3) (.var 1)) [some (.dat R), some (.dat (TD t)), some (.ref st.length), some (.dat (TD s)), x4, x5, x6, none, none] st1 = .ok ⟨(List.zip s t).map fun p => .dat (.tuple [D p.1, D p.2]), none⟩ st1 := by
    rw [evI]
    show (match zipD (viewN (.dat (TD s))) (viewN (.dat (TD t))) with | some zs => Res.ok (Src.mk zs none) st1 | none => .stuck) = _
    rw [items_zip]
  have lz : (List.zip s t).length ≤ 1000 := by rw [List.length_zip]; omega
  have lc1 : evE (callF tb n) (.lc [("low", 7), ("top_v", 8)] (.t [7, 8]) (.izip (.var 3) (.var 1)) (.and (.cmp .notN (.var 7) (.lit .none)) (.last (.cmp .isN (.var 8) (.lit .none)))) (.lit (.int 1))) [some (.dat R), some (.dat (TD t)), some (.ref st.length), some (.dat (TD s)), x4, x5, x6, none, none] st1 = .ok (.new ((List.replicate (badN s t) (PyData.int 1)).map .dat)) st1 := by
    rw [ev_lc_map (xs := List.zip s t) (F := fun p => .dat (.tuple [D p.1, D p.2])) (G := fun p => if (p.1.isSome && p.2.isNone) = true then some (Va.dat (.int 1)) else none) hi lz fun a _ => ?_]
    · rw [fm_ones]; rfl
    · obtain ⟨a, b⟩ := a
      show ((evT (callF tb n) (.and (.cmp .notN (.var 7) (.lit .none)) (.last (.cmp .isN (.var 8) (.lit .none)))) [some (.dat R), some (.dat (TD t)), some (.ref st.length), some (.dat (TD s)), x4, x5, x6, some (VD a), some (VD b)] st1).bind fun z s1 => match z with
        | true => (evE (callF tb n) (.lit (.int 1)) [some (.dat R), some (.dat (TD t)), some (.ref st.length), some (.dat (TD s)), x4, x5, x6, some (VD a), some (VD b)] s1).bind fun v s2 => match isOut v with | some v => Res.ok (some v) s2 | none => .stuck
        | false => .ok none s1) = _
      have te : evT (callF tb n) (.and (.cmp .notN (.var 7) (.lit .none)) (.last (.cmp .isN (.var 8) (.lit .none)))) [some (.dat R), some (.dat (TD t)), some (.ref st.length), some (.dat (TD s)), x4, x5, x6, some (VD a), some (VD b)] st1 = .ok (a.isSome && b.isNone) st1 := by
        simp only [T_and, T_last, T_cmp]
        cases a <;> cases b <;> rfl
      rw [te]
      cases a <;> cases b <;> simp only [E_lit] <;> rfl
  have test : evT (callF tb n) (.cmp .eq (.lc [("low", 7), ("top_v", 8)] (.t [7, 8]) (.izip (.var 3) (.var 1)) (.and (.cmp .notN (.var 7) (.lit .none)) (.last (.cmp .isN (.var 8) (.lit .none)))) (.lit (.int 1))) (.lst .anil)) [some (.dat R), some (.dat (TD t)), some (.ref st.length), some (.dat (TD s)), x4, x5, x6, none, none] st1 = .ok (fit s t) st1 := by
    have vn : view st1 (.new []) = some (.list []) := rfl
    rw [T_cmp, lc1]
    simp only [E_lst, A_nil, Res.bind_ok, view_new, vn, ones_nil, Res.of_some]
    rfl
  rw [g1, S_seq, S_ifs, test]
  cases f : fit s t with
  | false =>
    simp only [Res.bind_ok, S_nil]
    rw [if_neg Bool.false_ne_true, hst]
  | true =>
    have lc2 : evE (callF tb n) (.lc [("low", 7), ("top_v", 8)] (.t [7, 8]) (.izip (.var 3) (.var 1)) .yes (.ife (.cmp .isN (.var 7) (.lit .none)) (.lit .none) (.bin .sub (.var 7) (.var 8)))) [some (.dat R), some (.dat (TD t)), some (.ref st.length), some (.dat (TD s)), x4, x5, x6, none, none] st1 = .ok (.new ((df s t).map VD)) st1 := by
      rw [ev_lc_map (xs := List.zip s t) (F := fun p => .dat (.tuple [D p.1, D p.2])) (G := fun p => some (VD (p.1.bind fun x => p.2.map fun y => x - y))) hi lz fun a ha => ?_]
      · rw [fm_some, df, List.zip, List.map_zipWith, List.map_zipWith]
      · obtain ⟨a, b⟩ := a
        show ((evE (callF tb n) (.ife (.cmp .isN (.var 7) (.lit .none)) (.lit .none) (.bin .sub (.var 7) (.var 8))) [some (.dat R), some (.dat (TD t)), some (.ref st.length), some (.dat (TD s)), x4, x5, x6, some (VD a), some (VD b)] st1).bind fun v s2 => match isOut v with | some v => Res.ok (some v) s2 | none => .stuck) = _
        have t2 : evT (callF tb n) (.cmp .isN (.var 7) (.lit .none)) [some (.dat R), some (.dat (TD t)), some (.ref st.length), some (.dat (TD s)), x4, x5, x6, some (VD a), some (VD b)] st1 = .ok a.isNone st1 := by
          rw [T_cmp]; cases a <;> rfl
        rw [E_ife, t2]
        cases a with
        | none => simp only [Option.isNone_none, Res.bind_ok, E_lit]; rfl
        | some i =>
          obtain ⟨j, hj⟩ := List.mem_iff_getElem?.mp ha
          obtain ⟨z1, z2⟩ := List.getElem?_zip_eq_some.mp hj
          obtain ⟨w, e2⟩ := (fit_iff l).mp f j i z1
          rw [show t[j]? = some b from z2] at e2
          cases e2
          simp only [Option.isNone_some, Res.bind_ok]
          rw [E_bin]; rfl
    have fz : frzV (.new ((df s t).map VD)) st1 = .ok (.dat (LSd (df s t))) st1 := by rw [← items_TD]; exact frz_dats _ _
    have il : isLst st1 (.ref st.length) = true := by
      rw [← hst]
      show (cellItems (st ++ [.lst ((acc.map LSd).map .dat)])[st.length]?).isSome = true
      rw [get_last]; rfl
    have ap : appV (.ref st.length) (.dat (LSd (df s t))) st1 = .ok (.dat .none) (st ++ [.lst (((acc ++ [df s t]).map LSd).map .dat)]) := by
      rw [← hst]
      unfold appV
      dsimp only
      rw [get_last]
      dsimp only
      rw [if_pos ⟨rfl, by simp only [List.length_map]; omega⟩, set_last]
      simp only [List.map_append, List.map_cons, List.map_nil]
    simp only [Res.bind_ok, S_seq, S_expr, S_nil, E_app, E_frz, lc2, fz, E_var, Res.of_some, List.getElem?_cons_zero, List.getElem?_cons_succ, Option.bind_some, id_eq, il, if_true, ap]
theorem g1_loop (n : Nat) (R : PyData) (t : List Num) (x4 x5 x6 : Option Va) (st : Sto) (ht : t.length ≤ 1000) : ∀ (rows acc : List (List Num)) (x : Option Va), (∀ s ∈ rows, s.length = t.length) → acc.length + rows.length ≤ 1000 → ∃ x',
    forL (fun ρ s => evS (callF tb n) g1 ρ s) (.v 3) (rows.map fun s => .dat (TD s)) [some (.dat R), some (.dat (TD t)), some (.ref st.length), x, x4, x5, x6, none, none] (st ++ [.lst ((acc.map LSd).map .dat)]) =
      .ok (.nx [some (.dat R), some (.dat (TD t)), some (.ref st.length), x', x4, x5, x6, none, none]) (st ++ [.lst (((acc ++ somes rows t).map LSd).map .dat)])
  | [], acc, x, _, _ => ⟨x, by
    have e : acc ++ somes [] t = acc := List.append_nil _
    rw [e, List.map_nil, forL]⟩
  | s :: rows, acc, x, h, hz => by
    have hz' : (s :: rows).length = rows.length + 1 := rfl
    obtain ⟨x', ih⟩ := g1_loop n R t x4 x5 x6 st ht rows (if fit s t = true then acc ++ [df s t] else acc) (some (.dat (TD s))) (fun u hu => h u (List.mem_cons_of_mem _ hu)) (by
      split
      · rw [List.length_append, List.length_singleton]; omega
      · omega)
    refine ⟨x', ?_⟩
    have step := g1_step n R s t acc x4 x5 x6 st (h s List.mem_cons_self) ht (by omega)
    rw [List.map_cons, forL_nx (b := fun ρ s => evS (callF tb n) g1 ρ s) (i := 3) (ρ := [some (.dat R), some (.dat (TD t)), some (.ref st.length), x, x4, x5, x6, none, none]) step, ih]
    congr 3
    unfold somes
    by_cases f : fit s t = true
    · rw [if_pos f, List.filter_cons_of_pos (p := fun s => fit s t) f, List.map_cons, List.append_assoc]; rfl
    · rw [if_neg f, List.filter_cons_of_neg (p := fun s => fit s t) f]
theorem bi2_max (i j : Int) : bi2F .max (.int i) (.int j) = some (.int (max i j)) := by
  show some (PyData.int (if j > i then j else i)) = _
  congr 2
  split <;> omega
theorem g2_step (n : Nat) (R : PyData) (t : List Num) (ds : List (List Num)) (x3 x6 : Option Va) (st : Sto) (hd : ∀ d ∈ ds, d.length = t.length) (ht : t.length ≤ 1000) (hz : ds.length ≤ 1000) (i : Nat) (hi : i < t.length) (w : Int) : ∃ y6,
    evS (callF tb n) g2 [some (.dat R), some (.dat (TD t)), some (.dat (.list (ds.map LSd))), x3, some (.dat (.int w)), some (.dat (.int i)), x6, none, none] st =
      .ok (match t[i]?.getD none with
        | none => .nx [some (.dat R), some (.dat (TD t)), some (.dat (.list (ds.map LSd))), x3, some (.dat (.int w)), some (.dat (.int i)), x6, none, none]
        | some _ => if leftD ds i = [] then .rt (.dat .none) else .nx [some (.dat R), some (.dat (TD t)), some (.dat (.list (ds.map LSd))), x3, some (.dat (.int (max w (minZ (leftD ds i))))), some (.dat (.int i)), y6, none, none]) st := by
  have et : t[i]? = some t[i] := List.getElem?_eq_getElem hi
  have ixL : ∀ (d : PyData) (u : List Num) (e : Num), (∀ st, itemsOf st (.dat d) = some (u.map VD)) → u[i]? = some e → ∀ st, opIdx st (.dat d) (.int i) = some (VD e) := fun d u e h q st => by
    show (itemsOf st (.dat d)).bind (fun xs => L2.atI xs (i : Int)) = _
    rw [h st]
    refine atI_pos (by omega) ?_
    rw [Int.toNat_natCast, List.getElem?_map, q]; rfl
  have it : ∀ st, opIdx st (.dat (TD t)) (.int i) = some (VD t[i]) := ixL (TD t) t _ (fun st => by rw [← items_TD]; rfl) et
  have cn : ∀ x : Num, opCmp .notN (D x) .none = some x.isSome := fun x => by cases x <;> rfl
  refine ⟨some (.dat (.list ((leftD ds i).map .int))), ?_⟩
  rw [g2, S_seq, S_ifs]
  simp only [T_cmp, E_idx, E_var, E_lit, Res.bind_ok, Res.of_some, List.getElem?_cons_zero, List.getElem?_cons_succ, Option.bind_some, id_eq, view_dat, it, cn]
  rw [et, Option.getD_some]
  cases t[i] with
  | none => simp only [Option.isSome_none, Res.bind_ok, S_nil]
  | some tv =>
    have lc : evE (callF tb n) (.lc [("own", 3)] (.v 3) (.iseq (.var 2)) (.cmp .notN (.idx (.var 3) (.var 5)) (.lit .none)) (.bin .sub (.bi .maxL (.lc [("low", 7)] (.v 7) (.iseq (.var 3)) (.cmp .notN (.var 7) (.lit .none)) (.var 7))) (.idx (.var 3) (.var 5))))
        [some (.dat R), some (.dat (TD t)), some (.dat (.list (ds.map LSd))), x3, some (.dat (.int w)), some (.dat (.int i)), x6, none, none] st = .ok (.new (((leftD ds i).map PyData.int).map .dat)) st := by
      rw [ev_lc_map (xs := ds) (F := fun d => .dat (LSd d)) (G := fun d => ((d[i]?.getD none).map fun x => maxI (pres d) - x).map fun i => .dat (.int i)) ?_ hz fun d hmem => ?_]
      · rw [leftD, List.map_map, List.map_filterMap]; rfl
      · rw [I_seq, E_var]
        show Res.ok (Src.mk ((ds.map LSd).map Va.dat) none) st = _
        rw [List.map_map]; rfl
      · have ld := hd d hmem
        have ed : d[i]? = some d[i] := List.getElem?_eq_getElem (by omega)
        have ixd : ∀ st, opIdx st (.dat (LSd d)) (.int i) = some (VD d[i]) := ixL (LSd d) d _ (fun st => by rw [← items_TD]; rfl) ed
        have pl := presL_ok (callF tb n) [("low", 7)] 3 7 [some (.dat R), some (.dat (TD t)), some (.dat (.list (ds.map LSd))), some (.dat (LSd d)), some (.dat (.int w)), some (.dat (.int i)), x6, none, none] d st (by omega) rfl (by show 7 < 9; omega)
        show ((evT (callF tb n) (.cmp .notN (.idx (.var 3) (.var 5)) (.lit .none)) [some (.dat R), some (.dat (TD t)), some (.dat (.list (ds.map LSd))), some (.dat (LSd d)), some (.dat (.int w)), some (.dat (.int i)), x6, none, none] st).bind fun z s1 => match z with
          | true => (evE (callF tb n) (.bin .sub (.bi .maxL (.lc [("low", 7)] (.v 7) (.iseq (.var 3)) (.cmp .notN (.var 7) (.lit .none)) (.var 7))) (.idx (.var 3) (.var 5))) [some (.dat R), some (.dat (TD t)), some (.dat (.list (ds.map LSd))), some (.dat (LSd d)), some (.dat (.int w)), some (.dat (.int i)), x6, none, none] s1).bind fun v s2 => match isOut v with | some v => Res.ok (some v) s2 | none => .stuck
          | false => .ok none s1) = _
        simp only [T_cmp, E_idx, E_var, E_lit, Res.bind_ok, Res.of_some, List.getElem?_cons_zero, List.getElem?_cons_succ, Option.bind_some, id_eq, view_dat, ixd, cn]
        rw [ed, Option.getD_some]
        have ed2 := ed
        cases hx : d[i] with
        | none => rfl
        | some x =>
          rw [hx] at ed2 ixd
          have p : pres d ≠ [] := fun z => by
            have := mem_pres.mpr ⟨i, ed2⟩
            rw [z] at this; nomatch this
          simp only [Option.isSome_some, Res.bind_ok, E_bin, E_bi, pl, view_ints, max_ints p, E_idx, E_var, Res.of_some, List.getElem?_cons_zero, List.getElem?_cons_succ, Option.bind_some, id_eq, view_dat, ixd]
          rfl
    have vn : view st (.new []) = some (.list []) := rfl
    simp only [Option.isSome_some, Res.bind_ok, S_seq, S_set, E_frz, lc, frz_dats, isOut_dat, setEnv, List.set_cons_succ, List.set_cons_zero, S_ifs, T_cmp, E_lst, A_nil, E_var, Res.of_some, List.getElem?_cons_zero, List.getElem?_cons_succ, Option.bind_some, id_eq, view_dat, vn, ints_nil]
    by_cases q : leftD ds i = []
    · simp only [decide_eq_true q, S_ret, E_lit, Res.bind_ok, isOut_dat]
      rw [if_pos q]
    · simp only [decide_eq_false q, S_nil, Res.bind_ok, E_bi2, E_bi, E_var, Res.of_some, List.getElem?_cons_zero, List.getElem?_cons_succ, Option.bind_some, id_eq, view_dat, min_ints q, bi2_max, Option.map_some, isOut_dat]
      rw [if_neg q]; rfl
theorem g2_loop (n : Nat) (R : PyData) (t : List Num) (ds : List (List Num)) (x3 : Option Va) (st : Sto) (hd : ∀ d ∈ ds, d.length = t.length) (ht : t.length ≤ 1000) (hz : ds.length ≤ 1000) : ∀ (k i : Nat) (w : Int) (y5 x6 : Option Va), i + k = t.length → ∃ z5 z6,
    forL (fun ρ s => evS (callF tb n) g2 ρ s) (.v 5) (upto i k) [some (.dat R), some (.dat (TD t)), some (.dat (.list (ds.map LSd))), x3, some (.dat (.int w)), y5, x6, none, none] st =
      .ok (match lgapG ds t ((List.range k).map (i + ·)) w with
        | none => .rt (.dat .none)
        | some g => .nx [some (.dat R), some (.dat (TD t)), some (.dat (.list (ds.map LSd))), x3, some (.dat (.int g)), z5, z6, none, none]) st
  | 0, i, w, y5, x6, _ => ⟨y5, x6, rfl⟩
  | k + 1, i, w, y5, x6, e => by
    obtain ⟨y6, h⟩ := g2_step n R t ds x3 x6 st hd ht hz i (by omega) w
    have er : (List.range (k + 1)).map (i + ·) = i :: (List.range k).map ((i + 1) + ·) := by
      rw [List.range_succ_eq_map, List.map_cons, List.map_map]
      congr 1
      apply List.map_congr_left
      intro j _
      show i + (j + 1) = i + 1 + j
      omega
    rw [er, lgapG, upto]
    have ei : (i : Int) + 1 = ((i + 1 : Nat) : Int) := by omega
    cases q : t[i]?.getD none with
    | none =>
      rw [q] at h
      obtain ⟨z5, z6, ih⟩ := g2_loop n R t ds x3 st hd ht hz k (i + 1) w (some (.dat (.int i))) x6 (by omega)
      refine ⟨z5, z6, ?_⟩
      rw [forL_nx (b := fun ρ s => evS (callF tb n) g2 ρ s) (i := 5) (ρ := [some (.dat R), some (.dat (TD t)), some (.dat (.list (ds.map LSd))), x3, some (.dat (.int w)), y5, x6, none, none]) h, ei, ih]
    | some tv =>
      rw [q] at h
      by_cases c : leftD ds i = []
      · simp only [if_pos c] at h ⊢
        refine ⟨none, none, ?_⟩
        rw [forL]
        show ((evS (callF tb n) g2 [some (.dat R), some (.dat (TD t)), some (.dat (.list (ds.map LSd))), x3, some (.dat (.int w)), some (.dat (.int i)), x6, none, none] st).bind _) = _
        rw [h]; rfl
      · simp only [if_neg c] at h ⊢
        obtain ⟨z5, z6, ih⟩ := g2_loop n R t ds x3 st hd ht hz k (i + 1) (max w (minZ (leftD ds i))) (some (.dat (.int i))) y6 (by omega)
        refine ⟨z5, z6, ?_⟩
        rw [forL_nx (b := fun ρ s => evS (callF tb n) g2 ρ s) (i := 5) (ρ := [some (.dat R), some (.dat (TD t)), some (.dat (.list (ds.map LSd))), x3, some (.dat (.int w)), y5, x6, none, none]) h, ei, ih]
theorem lgap_ok (n : Nat) (R : PyData) (rows : List (List Num)) (hR : ∀ st, itemsOf st (.dat R) = some (rows.map fun s => Va.dat (TD s))) (t : List Num) (st : Sto) (hr : ∀ s ∈ rows, s.length = t.length) (ht : t.length ≤ 1000) (hz : rows.length ≤ 1000) :
    callF tb (n + 1) 29 [.dat R, .dat (TD t)] st = .ok (.dat (D (lgapN rows t))) st := by
  obtain ⟨x1, e1⟩ := g1_loop n R t none none none st ht rows [] none hr (by simp only [List.length_nil]; omega)
  have hd : ∀ d ∈ somes rows t, d.length = t.length := fun d m => by
    obtain ⟨s, ms, rfl⟩ := List.mem_map.mp m
    exact df_len (hr s (List.mem_filter.mp ms).1)
  have lz : (somes rows t).length ≤ 1000 := by
    unfold somes
    rw [List.length_map]
    exact Nat.le_trans (List.length_filter_le _ _) hz
  obtain ⟨z5, z6, e2⟩ := g2_loop n R t (somes rows t) x1 (st ++ [.dead]) hd ht lz t.length 0 0 none none (by omega)
  have er : (List.range t.length).map (0 + ·) = List.range t.length := by
    rw [show ((0 + ·) : Nat → Nat) = id from funext fun k => Nat.zero_add k, List.map_id]
  rw [er] at e2
  have e1 : forL (fun ρ s => evS (callF tb n) g1 ρ s) (.v 3) (rows.map fun s => .dat (TD s)) [some (.dat R), some (.dat (TD t)), some (.ref st.length), none, none, none, none, none, none] (st ++ [.lst []]) = .ok (.nx [some (.dat R), some (.dat (TD t)), some (.ref st.length), x1, none, none, none, none, none]) (st ++ [.lst (((somes rows t).map LSd).map .dat)]) := e1
  refine call_eq2 (F := f29) (ρ := [some (.dat R), some (.dat (TD t)), none, none, none, none, none, none, none]) (st' := st ++ [.dead]) rfl rfl rfl rfl ?_ (by show (st ++ _).take st.length = st; rw [List.take_left'] <;> rfl)
  show evS (callF tb n) (.seq (.set 2 (.mut (.lst .anil))) (.seq (.fz (.forS (.v 3) (.iseq (.var 0)) g1) 2) (.seq (.set 4 (.lit (.int 0))) (.seq (.forS (.v 5) (.irange1 (.bi .len (.var 1))) g2) (.seq (.ret (.var 4)) .nil))))) _ st = _
  have mu : mutV (.new []) st = .ok (.ref st.length) (st ++ [.lst []]) := rfl
  have fz : frzV (.ref st.length) (st ++ [.lst (((somes rows t).map LSd).map .dat)]) = .ok (.dat (.list ((somes rows t).map LSd))) (st ++ [.dead]) := by
    unfold frzV
    dsimp only
    rw [get_last]
    dsimp only
    rw [undat_map]
    dsimp only
    rw [set_last]
  rw [S_seq, S_set]
  simp only [E_mut, E_lst, A_nil, Res.bind_ok, mu, isOut_ref, setEnv, List.set_cons_succ, List.set_cons_zero]
  rw [S_seq, S_fz, S_forS]
  simp only [I_seq, E_var, Res.bind_ok, Res.of_some, List.getElem?_cons_zero, Option.bind_some, id_eq, hR]
  rw [e1]
  simp only [Res.bind_ok, List.getElem?_cons_zero, List.getElem?_cons_succ, Option.bind_some, id_eq, fz, setEnv, List.set_cons_succ, List.set_cons_zero]
  rw [S_seq, S_set]
  simp only [E_lit, Res.bind_ok, isOut_dat, setEnv, List.set_cons_succ, List.set_cons_zero]
  rw [S_seq, S_forS]
  simp only [I_range, E_bi, E_var, Res.bind_ok, Res.of_some, List.getElem?_cons_zero, List.getElem?_cons_succ, Option.bind_some, id_eq, view_dat, len_TD]
  rw [if_pos ⟨by omega, by omega⟩]
  simp only [Res.bind_ok, Int.toNat_natCast]
  have e2 : forL (fun ρ s => evS (callF tb n) g2 ρ s) (.v 5) (upto 0 t.length) [some (.dat R), some (.dat (TD t)), some (.dat (.list ((somes rows t).map LSd))), x1, some (.dat (.int 0)), none, none, none, none] (st ++ [.dead]) = _ := e2
  rw [e2]
  show ((Res.ok (match lgapN rows t with | none => _ | some g => _) (st ++ [.dead])).bind _) = _
  cases lgapN rows t with
  | none => rfl
  | some g =>
    simp only [Res.bind_ok, S_seq, S_ret, E_var, Res.of_some, List.getElem?_cons_zero, List.getElem?_cons_succ, Option.bind_some, id_eq, isOut_dat]
    rfl
end K12

/-! K12D: _law_spread, _law_told, _law_are_spread. -/
namespace K12
open PySem RS PK
def gaps : Gaps tb 15 := { ii := 11, ih := 10, il := 13, is := 14, S := span, hg := rfl, hh := rfl, hl := rfl, hs := rfl }
theorem islevel_ok (n : Nat) (s t : List Num) (st : Sto) (hs : s.length ≤ 1000) (ht : t.length ≤ 1000) : callF tb (n + 1) 26 [.dat (TD s), .dat (TD t)] st = .ok (.dat (.bool (decide (Lv s t)))) st :=
  lvl_ok "own" "_law_is_level" "line" "far" rfl n s t st hs ht
theorem sp_ok (n : Nat) (s t : List Num) (st : Sto) (h : Lv s t) (p : pres s ≠ []) (hs : s.length ≤ 1000) : callF tb (n + 2) 14 [.dat (TD s), .dat (TD t)] st = .ok (.dat (.int (sprd s t))) st := spread_ok (is := 14) (il := 13) rfl rfl n s t st h p hs
theorem sp_exc (n : Nat) (s t : List Num) (st : Sto) (h : ¬ Lv s t) (hs : s.length ≤ 1000) (ht : t.length ≤ 1000) : callF tb (n + 2) 14 [.dat (TD s), .dat (TD t)] st = .exc ⟨"Unfit", [.str "Unfit", .str "RidgeError"], none⟩ st := spread_exc (is := 14) (il := 13) rfl rfl n s t st h hs ht
/-- the spread of two rows, none if they are not level -/
def spN (s t : List Num) : Num := if Lv s t then some (sprd s t) else none
theorem lspread_ok (n : Nat) (s t : List Num) (st : Sto) (p : pres s ≠ []) (hs : s.length ≤ 1000) (ht : t.length ≤ 1000) : callF tb (n + 2) 27 [.dat (TD s), .dat (TD t)] st = .ok (.dat (D (spN s t))) st := by
  refine call_eq (F := f27) (ρ := [some (.dat (TD s)), some (.dat (TD t)), none, none, none]) rfl rfl rfl rfl ?_
  unfold f27
  dsimp only
  have te : evT (callF tb (n + 1)) (.not (.call 26 (.acons (.var 0) (.acons (.var 1) .anil)))) [some (.dat (TD s)), some (.dat (TD t)), none, none, none] st = .ok (!decide (Lv s t)) st := by
    simp only [T_not, T_call, A_cons, A_nil, E_var, Res.bind_ok, Res.of_some, List.getElem?_cons_zero, List.getElem?_cons_succ, Option.bind_some, id_eq, isOut_dat, islevel_ok n s t st hs ht, asBool_bool]
  rw [S_seq, S_ifs, te]
  by_cases h : Lv s t
  · rw [decide_eq_true h, spN, if_pos h]
    simp only [Bool.not_true, Res.bind_ok, S_nil]
    rw [S_seq, S_set, E_frz, dd_lc _ "low" "top_v" none s t st h hs]
    simp only [Res.bind_ok, frz_dats, isOut_dat, setEnv, List.set_cons_succ, List.set_cons_zero]
    simp only [S_seq, S_ret, E_bin, E_bi, E_var, Res.bind_ok, Res.of_some, List.getElem?_cons_zero, List.getElem?_cons_succ, Option.bind_some, id_eq, isOut_dat, view_dat, max_ints (dd_ne h p), min_ints (dd_ne h p), a_sub]
    rfl
  · rw [decide_eq_false h, spN, if_neg h]
    simp only [Bool.not_false, Res.bind_ok, S_seq, S_ret, E_lit, isOut_dat]
    rfl
theorem told_ok (n : Nat) (s t : List Num) (b : Bool) (st : Sto) (p : Lv s t → pres s ≠ []) (hs : s.length ≤ 1000) (ht : t.length ≤ 1000) : callF tb (n + 3) 28 [.dat (TD s), .dat (TD t), .dat (.bool b)] st = .ok (.dat (D (spN s t))) st := by
  refine call_eq (F := f28) (ρ := [some (.dat (TD s)), some (.dat (TD t)), some (.dat (.bool b))]) rfl rfl rfl rfl ?_
  have inner : evE (callF tb (n + 2)) (.ife (.var 2) (.callk 14 .anil ["other_row", "one_row"] [1, 0] (.acons (.var 1) (.acons (.var 0) .anil))) (.call 14 (.acons (.var 0) (.acons (.var 1) .anil)))) [some (.dat (TD s)), some (.dat (TD t)), some (.dat (.bool b))] st = callF tb (n + 2) 14 [.dat (TD s), .dat (TD t)] st := by
    have tv : evT (callF tb (n + 2)) (.var 2) [some (.dat (TD s)), some (.dat (TD t)), some (.dat (.bool b))] st = .ok b st := by rw [evT]; rfl
    rw [E_ife, tv]
    cases b with
    | true =>
      simp only [Res.bind_ok, E_callk, A_cons, A_nil, E_var, Res.of_some, List.getElem?_cons_zero, List.getElem?_cons_succ, Option.bind_some, id_eq, isOut_dat]
      rfl
    | false =>
      simp only [Res.bind_ok, E_call, A_cons, A_nil, E_var, Res.of_some, List.getElem?_cons_zero, List.getElem?_cons_succ, Option.bind_some, id_eq, isOut_dat]
  show evS (callF tb (n + 2)) (.seq (.tryR (.seq (.ret (.ife (.var 2) (.callk 14 .anil ["other_row", "one_row"] [1, 0] (.acons (.var 1) (.acons (.var 0) .anil))) (.call 14 (.acons (.var 0) (.acons (.var 1) .anil))))) .nil) "Unfit" (.lit .none)) .nil) _ st = _
  by_cases h : Lv s t
  · rw [S_seq, evS, S_seq, S_ret, inner, sp_ok n s t st h (p h) hs, spN, if_pos h]
    rfl
  · rw [S_seq, evS, S_seq, S_ret, inner, sp_exc n s t st h hs ht, spN, if_neg h]
    simp only [Res.bind_exc]
    rw [if_pos (by rfl)]
    rfl
theorem sprd_sn {m l : Int} {s t : List Num} (hs : Sm m s) (ht : Sm l t) (h : Lv s t) (p : pres s ≠ []) : Sn (m + l + (m + l)) (some (sprd s t)) := fun i e => by
  have e : some (sprd s t) = some i := e
  cases e
  have ne := dd_ne h p
  obtain ⟨j, a, b, e1, e2, e3⟩ := mem_dd.mp (maxI_mem ne)
  obtain ⟨j', a', b', f1, f2, f3⟩ := mem_dd.mp (minZ_mem ne)
  have := hs _ (List.mem_of_getElem? e1) a rfl
  have := ht _ (List.mem_of_getElem? e2) b rfl
  have := hs _ (List.mem_of_getElem? f1) a' rfl
  have := ht _ (List.mem_of_getElem? f2) b' rfl
  unfold sprd
  omega
theorem repr_nums {L : List Num} (h : Sm (100 * M1) L) (hz : L.length ≤ 100) : biF .repr (.list (L.map D)) = some (.dat (.str (PyData.shown (.list (L.map D))))) := by
  have := wts_D h
  exact repr_of (flat_LD 59 L) (by show wts (L.map D) + 3 ≤ 16000000; omega)
theorem eq0 (r : Int) : opCmp .eq (.int r) (.int 0) = some (decide (r = 0)) := by
  show (if flatD 60 (.int r) = true ∧ flatD 60 (.int 0) = true then some (PyData.eqv (.int r) (.int 0)) else none) = _
  rw [if_pos ⟨by unfold flatD; rfl, by unfold flatD; rfl⟩]
  by_cases h : r = 0 <;> simp [PyData.eqv, h]
theorem neB (a b : Bool) : opCmp .ne (.bool a) (.bool b) = some (!decide (a = b)) := by
  show (if flatD 60 (.bool a) = true ∧ flatD 60 (.bool b) = true then some (!PyData.eqv (.bool a) (.bool b)) else none) = _
  rw [if_pos ⟨by unfold flatD; rfl, by unfold flatD; rfl⟩]
  cases a <;> cases b <;> rfl
theorem cn (x : Num) : opCmp .notN (D x) .none = some x.isSome := by cases x <;> rfl
theorem ci (x : Num) : opCmp .isN (D x) .none = some x.isNone := by cases x <;> rfl
/-- the other row -/
theorem far_ev (n w : Nat) (a b : Int) (s : List Num) (rest st : Sto) (ρ : RS.Env) (i0 : ρ[0]? = some (some (.ref 1))) (i2 : ρ[2]? = some (some (.dat (.list [.int a, .int b])))) (i3 : ρ[3]? = some (some (.dat (TD s)))) (hw : Wd a b) (h4 : w ≤ 4) (hs : Rw M1 w s) (hd : Dr rest st) :
    Ev (evE (callF tb (n + 3)) (.call 18 (.acons (.var 0) (.acons (.frz (.lst (.acons (.call 21 (.acons (.var 0) (.acons (.var 3) (.acons (.var 2) .anil)))) (.acons (.call 22 (.acons (.var 3) (.acons (.call 19 (.acons (.var 0) (.acons (.var 2) .anil))) .anil))) (.acons (.var 3) .anil))))) .anil))) ρ st)
      (fun v st' => ∃ t, v = .dat (TD t) ∧ Rw (M1 + M1) w t ∧ Dr rest st') := by
  have hM := M1_pos
  obtain ⟨v1, st1, e1, t, rfl, lt, st', lv, hd1⟩ := (level_ok n w a b s rest st hw hs.1.1 h4 hd).get
  obtain ⟨v2, st2, e2, k, rfl, hk, hd2⟩ := (wh (n := n + 1) a b rest st1 hw hd1).get
  obtain ⟨v3, st3, e3, d, rfl, m, hd3⟩ := (on (n := n + 1) [TD t, TD (sh s (some k)), TD s] rest st2 (by simp) (by simp) hd2).get
  have ls : s.length ≤ 1000 := by have := hs.1.1; omega
  have z : ∀ st, frzV (.new [.dat (TD t), .dat (TD (sh s (some k))), .dat (TD s)]) st = .ok (.dat (.list [TD t, TD (sh s (some k)), TD s])) st := fun _ => rfl
  simp only [E_call, E_frz, E_lst, A_cons, A_nil, E_var, Res.bind_ok, Res.of_some, i0, i2, i3, Option.bind_some, id_eq, isOut_dat, isOut_ref, e1, e2, lp (n + 2) s k _ ls, z, e3, Ev_ok]
  simp only [List.mem_cons, List.mem_nil_iff, or_false] at m
  have lv : Lv s t := lv.symm
  rcases m with rfl | rfl | rfl
  · exact ⟨t, rfl, ⟨⟨lt, fun x hx j e => by have := st' x hx j e; omega⟩, lv.ne hs.2⟩, hd3⟩
  · exact ⟨_, rfl, hs.sh hk, hd3⟩
  · exact ⟨s, rfl, hs.up (by omega), hd3⟩
end K12

/-! K12E: _law_are_spread, whole. -/
namespace K12
open PySem RS PK
theorem nl_len {s t : List Num} (h : s.length ≠ t.length) : spN s t = none := if_neg fun l => h l.len
/-- the spreads of level rows are as the law asks -/
theorem zero_test {s t : List Num} (h : Lv s t) (p : pres s ≠ []) : decide (sprd s t = 0) = decide (sh s (some (first t)) = sh t (some (first s))) := by
  by_cases c : sprd s t = 0
  · rw [decide_eq_true c, decide_eq_true ((sprd_zero h p).mp c)]
  · rw [decide_eq_false c, decide_eq_false fun z => c ((sprd_zero h p).mpr z)]
theorem first_idx {s : List Num} (p : pres s ≠ []) (st : Sto) : opIdx st (.new ((pres s).map fun k => .dat (.int k))) (.int 0) = some (.dat (.int (first s))) := by
  show L2.atI ((pres s).map fun k => Va.dat (.int k)) 0 = _
  unfold first
  cases q : pres s with
  | nil => exact absurd q p
  | cons a r => exact atI_zero _ _
def sB : S := match f30.body with
  | .seq _ (.seq _ (.seq _ (.seq _ r))) => r
  | r => r
def sT : S := match sB with
  | .seq _ (.seq _ (.seq _ (.seq _ (.seq _ r)))) => r
  | r => r
theorem checks_ok (n w : Nat) (k : Int) (s t u : List Num) (x0 x2 : Option Va) (st : Sto) (h4 : w ≤ 4) (hs : Rw M1 w s) (ht : Rw (M1 + M1 + M1) w t) (hu : Lv s u) (lu : u.length = w) :
    evS (callF tb (n + 3)) sB [x0, some (.dat (.int w)), x2, some (.dat (TD s)), some (.dat (TD t)), some (.dat (TD u)), some (.dat (.int k)), none, none, none, none, none, none] st =
      evS (callF tb (n + 3)) sT [x0, some (.dat (.int w)), x2, some (.dat (TD s)), some (.dat (TD t)), some (.dat (TD u)), some (.dat (.int k)), some (.dat (D (spN s t))), some (.dat (.list ((List.replicate 5 (spN s t)).map D))), none, none, none, none] st := by
  have hM := M1_pos
  have ls : s.length ≤ 1000 := by have := hs.1.1; omega
  have lt : t.length ≤ 1000 := by have := ht.1.1; omega
  have lu' : u.length ≤ 1000 := by omega
  have eq5 : spN t s = spN s t ∧ spN (sh s (some k)) t = spN s t ∧ spN s (sh t (some (-k))) = spN s t := by
    by_cases h : Lv s t
    · unfold spN
      rw [if_pos h, if_pos h.symm, if_pos ((lv_sh s k).symm.trans h), if_pos (h.trans (lv_sh t (-k))), sprd_comm h hs.2, sprd_shl h hs.2, sprd_shr h hs.2]
      exact ⟨rfl, rfl, rfl⟩
    · unfold spN
      rw [if_neg h, if_neg fun z => h z.symm, if_neg fun z => h ((lv_sh s k).trans z), if_neg fun z => h (z.trans (lv_sh t (-k)).symm)]
      exact ⟨rfl, rfl, rfl⟩
  obtain ⟨q1, q2, q3⟩ := eq5
  have A0 : ∀ st, callF tb (n + 3) 27 [.dat (TD s), .dat (TD t)] st = .ok (.dat (D (spN s t))) st := fun st => lspread_ok (n + 1) s t st hs.2 ls lt
  have A1 : ∀ (b : Bool) st, callF tb (n + 3) 28 [.dat (TD s), .dat (TD t), .dat (.bool b)] st = .ok (.dat (D (spN s t))) st := fun b st => told_ok n s t b st (fun _ => hs.2) ls lt
  have A2 : ∀ (b : Bool) st, callF tb (n + 3) 28 [.dat (TD t), .dat (TD s), .dat (.bool b)] st = .ok (.dat (D (spN s t))) st := fun b st => by
    have := told_ok n t s b st (fun _ => ht.2) lt ls
    rwa [q1] at this
  have A3 : ∀ (b : Bool) st, callF tb (n + 3) 28 [.dat (TD (sh s (some k))), .dat (TD t), .dat (.bool b)] st = .ok (.dat (D (spN s t))) st := fun b st => by
    have := told_ok n (sh s (some k)) t b st (fun _ => sh_ne hs.2 k) (by rw [sh_len]; exact ls) lt
    rwa [q2] at this
  have A4 : ∀ (b : Bool) st, callF tb (n + 3) 28 [.dat (TD s), .dat (TD (sh t (some (-k)))), .dat (.bool b)] st = .ok (.dat (D (spN s t))) st := fun b st => by
    have := told_ok n s (sh t (some (-k))) b st (fun _ => hs.2) ls (by rw [sh_len]; exact lt)
    rwa [q3] at this
  have A5 : ∀ st, callF tb (n + 3) 14 [.dat (TD s), .dat (TD (sh s (some k)))] st = .ok (.dat (.int 0)) st := fun st => by
    have := sp_ok (n + 1) s (sh s (some k)) st (lv_sh s k) hs.2 ls
    rwa [sprd_self hs.2 k] at this
  have sx : Sn (100 * M1) (spN s t) := by
    unfold spN
    by_cases h : Lv s t
    · rw [if_pos h]
      intro i e
      have := sprd_sn hs.1.2 ht.1.2 h hs.2 i e
      omega
    · rw [if_neg h]; exact sn_none
  have R5 : biF .repr (.list ((List.replicate 5 (spN s t)).map D)) = some (.dat (.str (PyData.shown (.list ((List.replicate 5 (spN s t)).map D))))) :=
    repr_nums (fun a ha => by rw [List.eq_of_mem_replicate ha]; exact sx) (by rw [List.length_replicate]; omega)
  have R0 : biF .repr (.int 0) = some (.dat (.str "0")) := by
    rw [repr_of (by unfold flatD; rfl) (by decide)]
    rfl
  generalize hX : PyData.shown (.list ((List.replicate 5 (spN s t)).map D)) = X at R5
  have z3 : ∀ st, frzV (.new [.dat (D (spN s t)), .dat (D (spN s t)), .dat (D (spN s t))]) st = .ok (.dat (.list [D (spN s t), D (spN s t), D (spN s t)])) st := fun _ => rfl
  have v2 : ∀ st, view st (.new [.dat (D (spN s t)), .dat (D (spN s t))]) = some (.list [D (spN s t), D (spN s t)]) := fun _ => rfl
  have v1 : ∀ st, view st (.new [.dat (D (spN s t))]) = some (.list [D (spN s t)]) := fun _ => rfl
  have ad : opBin .add (.list [D (spN s t), D (spN s t), D (spN s t)]) (.list [D (spN s t), D (spN s t)]) = some (.new (((List.replicate 5 (spN s t)).map D).map .dat)) := rfl
  have mu : opBin .mul (.list [D (spN s t)]) (.int 5) = some (.new (((List.replicate 5 (spN s t)).map D).map .dat)) := rfl
  have vs : ∀ st x, view st (.dat (.str x)) = some (.str x) := fun _ _ => rfl
  have nt : ∀ x : Str, opCmp .ne (.str x) (.str x) = some false := str_ne
  rw [sB]
  unfold f30
  dsimp only
  rw [S_seq, S_set]
  simp only [E_call, A_cons, A_nil, E_var, E_lit, Res.bind_ok, Res.of_some, List.getElem?_cons_zero, List.getElem?_cons_succ, Option.bind_some, id_eq, isOut_dat, A0, setEnv, List.set_cons_succ, List.set_cons_zero]
  rw [S_seq, S_set]
  simp only [E_call, E_frz, E_lst, A_cons, A_nil, E_var, E_lit, Res.bind_ok, Res.of_some, List.getElem?_cons_zero, List.getElem?_cons_succ, Option.bind_some, id_eq, isOut_dat, A1, A2, z3, setEnv, List.set_cons_succ, List.set_cons_zero]
  rw [S_seq, S_set]
  simp only [E_call, E_frz, E_lst, E_bin, E_neg, A_cons, A_nil, E_var, E_lit, Res.bind_ok, Res.of_some, List.getElem?_cons_zero, List.getElem?_cons_succ, Option.bind_some, id_eq, isOut_dat, view_dat, lp (n + 2) s k _ ls, lp (n + 2) t (-k) _ lt, A3, A4, v2, ad, frz_dats, setEnv, List.set_cons_succ, List.set_cons_zero]
  rw [S_seq, S_ifs]
  simp only [T_or, T_last, T_cmp, E_call, E_lst, E_bin, E_bi, A_cons, A_nil, E_var, E_lit, Res.bind_ok, Res.of_some, List.getElem?_cons_zero, List.getElem?_cons_succ, Option.bind_some, id_eq, isOut_dat, view_dat, view_new, R5, v1, mu, nt, lp (n + 2) s k _ ls, A5, R0, S_nil]
  rw [S_seq, S_ifs]
  simp only [T_cmp, E_var, E_lit, Res.bind_ok, Res.of_some, List.getElem?_cons_zero, List.getElem?_cons_succ, Option.bind_some, id_eq, view_dat, cn]
  rw [sT, sB]
  unfold f30
  dsimp only
  by_cases h : Lv s t
  · have e : spN s t = some (sprd s t) := if_pos h
    rw [e]
    simp only [Option.isSome_some]
    have p3 := presL_ok
    have ps : ∀ st, evE (callF tb (n + 3)) (.lc [("own", 11)] (.v 11) (.iseq (.var 3)) (.cmp .notN (.var 11) (.lit .none)) (.var 11)) [x0, some (.dat (.int w)), x2, some (.dat (TD s)), some (.dat (TD t)), some (.dat (TD u)), some (.dat (.int k)), some (.dat (.int (sprd s t))), some (.dat (.list ((List.replicate 5 (some (sprd s t))).map D))), none, none, none, none] st = .ok (.new ((pres s).map fun k => .dat (.int k))) st := fun st =>
      pres_ok (callF tb (n + 3)) [("own", 11)] 3 11 _ s st ls rfl (by show 11 < 13; omega)
    have pt : ∀ st, evE (callF tb (n + 3)) (.lc [("own", 11)] (.v 11) (.iseq (.var 4)) (.cmp .notN (.var 11) (.lit .none)) (.var 11)) [x0, some (.dat (.int w)), x2, some (.dat (TD s)), some (.dat (TD t)), some (.dat (TD u)), some (.dat (.int k)), some (.dat (.int (sprd s t))), some (.dat (.list ((List.replicate 5 (some (sprd s t))).map D))), none, none, none, none] st = .ok (.new ((pres t).map fun k => .dat (.int k))) st := fun st =>
      pres_ok (callF tb (n + 3)) [("own", 11)] 4 11 _ t st lt rfl (by show 11 < 13; omega)
    have B1 : ∀ st, callF tb (n + 3) 14 [.dat (TD s), .dat (TD t)] st = .ok (.dat (.int (sprd s t))) st := fun st => sp_ok (n + 1) s t st h hs.2 ls
    have B2 : ∀ st, callF tb (n + 3) 14 [.dat (TD s), .dat (TD u)] st = .ok (.dat (.int (sprd s u))) st := fun st => sp_ok (n + 1) s u st hu hs.2 ls
    have B3 : ∀ st, callF tb (n + 3) 14 [.dat (TD u), .dat (TD t)] st = .ok (.dat (.int (sprd u t))) st := fun st => sp_ok (n + 1) u t st (hu.symm.trans h) (hu.ne hs.2) lu'
    have tri := sprd_tri hu (hu.symm.trans h) hs.2
    have gt : opCmp .gt (.int (sprd s t)) (.int (sprd s u + sprd u t)) = some false := by
      show some (decide (sprd s u + sprd u t < sprd s t)) = _
      rw [decide_eq_false (by omega)]
    have zt := zero_test h hs.2
    rw [S_seq, S_ifs]
    have dI : ∀ i : Int, D (some i) = .int i := fun _ => rfl
    simp only [T_cmp, E_cmp, E_call, E_idx, A_cons, A_nil, E_var, E_lit, Res.bind_ok, Res.of_some, List.getElem?_cons_zero, List.getElem?_cons_succ, Option.bind_some, id_eq, isOut_dat, view_dat, dI, eq0, Option.map_some, ps, pt, first_idx hs.2, first_idx ht.2, lp (n + 2) s _ _ ls, lp (n + 2) t _ _ lt, c_eqT, neB, zt, decide_true, Bool.not_true, S_nil]
    rw [S_seq, S_ifs]
    simp only [T_cmp, E_call, E_bin, A_cons, A_nil, E_var, E_lit, Res.bind_ok, Res.of_some, List.getElem?_cons_zero, List.getElem?_cons_succ, Option.bind_some, id_eq, isOut_dat, view_dat, B1, B2, B3, a_add, gt, S_nil]
  · have e : spN s t = none := if_neg h
    rw [e]
    simp only [Option.isSome_none, S_nil, Res.bind_ok]
theorem add_T (s : List Num) (x : Num) (h : s.length ≤ 1000) : opBin .add (TD s) (.tuple [D x]) = some (.dat (TD (s ++ [x]))) := by
  show (if (s.map D).length + 1 ≤ 16777216 then some (Va.dat (.tuple (s.map D ++ [D x]))) else none) = _
  rw [if_pos (by rw [List.length_map]; omega)]
  show _ = some (Va.dat (.tuple ((s ++ [x]).map D)))
  rw [List.map_append]; rfl
theorem tail_ok (n w : Nat) (a b : Int) (s t : List Num) (x5 x6 x7 : Option Va) (L : List Num) (rest st : Sto) (hw : Wd a b) (h4 : w ≤ 4) (hs : Rw M1 w s) (ht : t.length = w) (hd : Dr rest st) :
    Ev (evS (callF tb (n + 3)) sT [some (.ref 1), some (.dat (.int w)), some (.dat (.list [.int a, .int b])), some (.dat (TD s)), some (.dat (TD t)), x5, x6, x7, some (.dat (.list (L.map D))), none, none, none, none] st)
      (fun fl st' => fl = .rt (.dat (.bool true)) ∧ Dr rest st') := by
  have lsw := hs.1.1
  obtain ⟨v1, st1, e1, k, rfl, hk, hd1⟩ := (wh (n := n + 1) a b rest st hw hd).get
  have ls : s.length ≤ 1000 := by omega
  have pn : partV (.dat .none) = some none := rfl
  have pi : ∀ i : Int, partV (.dat (.int i)) = some (some i) := fun _ => rfl
  have sl : ∀ st, opSlc st (.dat (TD t)) none (some (w : Int)) = some (.dat (TD t)) := fun st => by
    show some (Va.dat (.tuple (cut (t.map D) none (some (w : Int))))) = _
    rw [cut_take, ← ht, List.take_of_length_le (by rw [List.length_map]; exact Nat.le_refl _)]
    rfl
  have u1 : ∀ i : Int, undat [Va.dat (.int i)] = some [.int i] := fun _ => rfl
  have u0 : undat [Va.dat .none] = some [.none] := rfl
  have ad1 : opBin .add (TD t) (.tuple [.int k]) = some (.dat (TD (t ++ [some k]))) := add_T t (some k) (by omega)
  have ad0 : opBin .add (TD s) (.tuple [.none]) = some (.dat (TD (s ++ [none]))) := add_T s none ls
  have fz : ∀ (s : List Num) (st : Sto), frzV (.dat (TD s)) st = .ok (.dat (TD s)) st := fun _ _ => rfl
  have l1 : (t ++ [some k]).length = w + 1 := by rw [List.length_append, ht]; rfl
  have l2 : (s ++ [none]).length = w + 1 := by rw [List.length_append, lsw]; rfl
  have N1 := nl_len (s := s) (t := t ++ [some k]) (by omega)
  have N2 := nl_len (s := t ++ [some k]) (t := s) (by omega)
  have N3 := nl_len (s := s) (t := s ++ [none]) (by omega)
  have N4 := nl_len (s := s ++ [none]) (t := s) (by omega)
  have T1 : ∀ (b : Bool) st, callF tb (n + 3) 28 [.dat (TD s), .dat (TD (t ++ [some k])), .dat (.bool b)] st = .ok (.dat .none) st := fun b st => by
    have := told_ok n s (t ++ [some k]) b st (fun z => absurd z.len (by omega)) ls (by omega)
    rwa [N1] at this
  have T2 : ∀ (b : Bool) st, callF tb (n + 3) 28 [.dat (TD (t ++ [some k])), .dat (TD s), .dat (.bool b)] st = .ok (.dat .none) st := fun b st => by
    have := told_ok n (t ++ [some k]) s b st (fun z => absurd z.len (by omega)) (by omega) ls
    rwa [N2] at this
  have T3 : ∀ (b : Bool) st, callF tb (n + 3) 28 [.dat (TD s), .dat (TD (s ++ [none])), .dat (.bool b)] st = .ok (.dat .none) st := fun b st => by
    have := told_ok n s (s ++ [none]) b st (fun z => absurd z.len (by omega)) ls (by omega)
    rwa [N3] at this
  have T4 : ∀ (b : Bool) st, callF tb (n + 3) 28 [.dat (TD (s ++ [none])), .dat (TD s), .dat (.bool b)] st = .ok (.dat .none) st := fun b st => by
    have := told_ok n (s ++ [none]) s b st (fun z => absurd z.len (by omega)) (by omega) ls
    rwa [N4] at this
  have z2 : ∀ st, frzV (.new [.dat .none, .dat .none]) st = .ok (.dat (.list [.none, .none])) st := fun _ => rfl
  have z0 : ∀ st, frzV (.new []) st = .ok (.dat (.list [])) st := fun _ => rfl
  have v2 : ∀ st, view st (.new [.dat .none, .dat .none]) = some (.list [.none, .none]) := fun _ => rfl
  have v0 : ∀ st, view st (.new []) = some (.list []) := fun _ => rfl
  have a4 : opBin .add (.list [.none, .none]) (.list [.none, .none]) = some (.new (([none, none, none, none].map D).map .dat)) := rfl
  have a0 : opBin .add (.list []) (.list []) = some (.new (([].map D).map .dat)) := rfl
  have c4 : opCmp .lt (.int (w : Int)) (.int 4) = some (decide ((w : Int) < 4)) := rfl
  rw [sT, sB]
  unfold f30
  dsimp only
  rw [S_seq, S_par]
  simp only [E_frz, E_bin, E_slc, E_nopart, E_tup, E_call, A_cons, A_nil, E_var, E_lit, Res.bind_ok, Res.of_some, List.getElem?_cons_zero, List.getElem?_cons_succ, Option.bind_some, id_eq, isOut_dat, isOut_ref, view_dat, pn, pi, sl, e1, u1, u0, ad1, ad0, fz, setEnv, List.set_cons_succ, List.set_cons_zero]
  by_cases c : (w : Int) < 4
  · rw [S_seq, S_set]
    simp only [E_ife, T_cmp, E_frz, E_lst, E_call, A_cons, A_nil, E_var, E_lit, Res.bind_ok, Res.of_some, List.getElem?_cons_zero, List.getElem?_cons_succ, Option.bind_some, id_eq, isOut_dat, view_dat, c4, decide_eq_true c, T1, T2, z2, setEnv, List.set_cons_succ, List.set_cons_zero]
    rw [S_seq, S_set]
    simp only [E_ife, T_cmp, E_frz, E_bin, E_lst, E_call, A_cons, A_nil, E_var, E_lit, Res.bind_ok, Res.of_some, List.getElem?_cons_zero, List.getElem?_cons_succ, Option.bind_some, id_eq, isOut_dat, view_dat, c4, decide_eq_true c, T3, T4, v2, a4, frz_dats, setEnv, List.set_cons_succ, List.set_cons_zero]
    rw [S_seq, S_ret, E_cmp, presL_ok (callF tb (n + 3)) [("one", 12)] 8 12 _ [none, none, none, none] st1 (by decide) rfl (by show 12 < 13; omega)]
    have vi : view st1 (.new ((pres [none, none, none, none]).map fun k => .dat (.int k))) = some (.list []) := rfl
    have ce : opCmp .eq (.list []) (.list []) = some true := ints_nil []
    simp only [Res.bind_ok, E_lst, A_nil, vi, v0, ce, Option.map_some, Res.of_some, isOut_dat, Ev_ok]
    exact ⟨trivial, hd1⟩
  · rw [S_seq, S_set]
    simp only [E_ife, T_cmp, E_frz, E_lst, E_call, A_cons, A_nil, E_var, E_lit, Res.bind_ok, Res.of_some, List.getElem?_cons_zero, List.getElem?_cons_succ, Option.bind_some, id_eq, isOut_dat, view_dat, c4, decide_eq_false c, z0, setEnv, List.set_cons_succ, List.set_cons_zero]
    rw [S_seq, S_set]
    simp only [E_ife, T_cmp, E_frz, E_bin, E_lst, E_call, A_cons, A_nil, E_var, E_lit, Res.bind_ok, Res.of_some, List.getElem?_cons_zero, List.getElem?_cons_succ, Option.bind_some, id_eq, isOut_dat, view_dat, c4, decide_eq_false c, v0, a0, frz_dats, setEnv, List.set_cons_succ, List.set_cons_zero]
    rw [S_seq, S_ret, E_cmp, presL_ok (callF tb (n + 3)) [("one", 12)] 8 12 _ [] st1 (by decide) rfl (by show 12 < 13; omega)]
    have vi : view st1 (.new ((pres []).map fun k => .dat (.int k))) = some (.list []) := rfl
    have ce : opCmp .eq (.list []) (.list []) = some true := ints_nil []
    simp only [Res.bind_ok, E_lst, A_nil, vi, v0, ce, Option.map_some, Res.of_some, isOut_dat, Ev_ok]
    exact ⟨trivial, hd1⟩
theorem are_ok (n w : Nat) (a b : Int) (rest st : Sto) (hw : Wd a b) (h1 : 1 ≤ w) (h4 : w ≤ 4) (hd : Dr rest st) :
    Ev (callF tb (n + 4) 30 [.ref 1, .dat (.int w), .dat (.list [.int a, .int b])] st) (fun v st' => v = .dat (.bool true) ∧ Dr rest st') := by
  have hM := M1_pos
  obtain ⟨v1, st1, e1, s, rfl, hs, hd1⟩ := (rw' (n := n) w a b rest st hw h1 h4 hd).get
  obtain ⟨v2, st2, e2, t, rfl, ht, hd2⟩ := (far_ev n w a b s rest st1 [some (.ref 1), some (.dat (.int w)), some (.dat (.list [.int a, .int b])), some (.dat (TD s)), none, none, none, none, none, none, none, none, none] rfl rfl rfl hw h4 hs hd1).get
  obtain ⟨v3, st3, e3, r, rfl, _, _, hd3⟩ := (tk (n := n + 2) 3 rest st2 (by omega) (by omega) hd2).get
  have go : ∀ (t : List Num) (st4 : Sto), Rw (M1 + M1 + M1) w t → Dr rest st4 → Ev (evS (callF tb (n + 3)) (.seq (.par 5 6 (.call 21 (.acons (.var 0) (.acons (.var 3) (.acons (.var 2) .anil)))) (.call 19 (.acons (.var 0) (.acons (.var 2) .anil)))) sB)
      [some (.ref 1), some (.dat (.int w)), some (.dat (.list [.int a, .int b])), some (.dat (TD s)), some (.dat (TD t)), none, none, none, none, none, none, none, none] st4) (finE false st.length fun v st' => v = .dat (.bool true) ∧ Dr rest st') := fun t st4 ht hd4 => by
    obtain ⟨v5, st5, e5, u, rfl, lu, _, lv, hd5⟩ := (level_ok n w a b s rest st4 hw hs.1.1 h4 hd4).get
    obtain ⟨v6, st6, e6, k, rfl, hk, hd6⟩ := (wh (n := n + 1) a b rest st5 hw hd5).get
    have lv : Lv s u := Eq.symm lv
    obtain ⟨v7, st7, e7, rfl, hd7⟩ := (tail_ok n w a b s t (some (.dat (TD u))) (some (.dat (.int k))) (some (.dat (D (spN s t)))) (List.replicate 5 (spN s t)) rest st6 hw h4 hs ht.1.1 hd6).get
    rw [S_seq, S_par]
    simp only [E_call, A_cons, A_nil, E_var, Res.bind_ok, Res.of_some, List.getElem?_cons_zero, List.getElem?_cons_succ, Option.bind_some, id_eq, isOut_dat, isOut_ref, e5, e6, setEnv, List.set_cons_succ, List.set_cons_zero]
    rw [checks_ok n w k s t u (some (.ref 1)) (some (.dat (.list [.int a, .int b]))) st6 h4 hs ht lv lu, e7]
    simp only [Ev_ok, finE_rt, fin_dat, dr_len hd hd7]
    exact ⟨trivial, hd7⟩
  refine ev_call (F := f30) rfl rfl ?_
  show Ev (evS (callF tb (n + 3)) (.seq (.set 3 (.call 20 (.acons (.var 0) (.acons (.var 1) (.acons (.var 2) .anil))))) (.seq (.set 4 (.call 18 (.acons (.var 0) (.acons (.frz (.lst (.acons (.call 21 (.acons (.var 0) (.acons (.var 3) (.acons (.var 2) .anil)))) (.acons (.call 22 (.acons (.var 3) (.acons (.call 19 (.acons (.var 0) (.acons (.var 2) .anil))) .anil))) (.acons (.var 3) .anil))))) .anil))))
    (.seq (.set 4 (.ife (.cmp .eq (.call 17 (.acons (.var 0) (.acons (.lit (.int 3)) .anil))) (.lit (.int 0))) (.call 25 (.acons (.var 0) (.acons (.var 4) (.acons (.var 2) .anil)))) (.var 4)))
    (.seq (.par 5 6 (.call 21 (.acons (.var 0) (.acons (.var 3) (.acons (.var 2) .anil)))) (.call 19 (.acons (.var 0) (.acons (.var 2) .anil)))) sB)))) [some (.ref 1), some (.dat (.int w)), some (.dat (.list [.int a, .int b])), none, none, none, none, none, none, none, none, none, none] st) (finE false st.length _)
  rw [S_seq, S_set]
  simp only [E_call, A_cons, A_nil, E_var, Res.bind_ok, Res.of_some, List.getElem?_cons_zero, List.getElem?_cons_succ, Option.bind_some, id_eq, isOut_dat, isOut_ref, e1, setEnv, List.set_cons_succ, List.set_cons_zero]
  rw [S_seq, S_set, e2]
  simp only [Res.bind_ok, isOut_dat, setEnv, List.set_cons_succ, List.set_cons_zero]
  rw [S_seq, S_set]
  simp only [E_ife, T_cmp, E_call, A_cons, A_nil, E_var, E_lit, Res.bind_ok, Res.of_some, List.getElem?_cons_zero, List.getElem?_cons_succ, Option.bind_some, id_eq, isOut_dat, isOut_ref, view_dat, e3, eq0]
  by_cases c : r = 0
  · obtain ⟨v4, st4, e4, t', rfl, ht', hd4⟩ := (near_ok n w (M1 + M1) a b t rest st3 hw h4 ht (by omega) hd3).get
    simp only [decide_eq_true c, Res.bind_ok, e4, isOut_dat, setEnv, List.set_cons_succ, List.set_cons_zero]
    exact go t' st4 ht' hd4
  · simp only [decide_eq_false c, Res.bind_ok, Res.of_some, List.getElem?_cons_zero, List.getElem?_cons_succ, Option.bind_some, id_eq, isOut_dat, setEnv, List.set_cons_succ, List.set_cons_zero]
    exact go t st3 (ht.up (by omega)) hd3
end K12

/-! K12F: _law_is_right. -/
namespace K12
open PySem RS PK
section
variable (φ : Nat → List Va → Sto → Res Va) (ρ : RS.Env) (st : Sto)
theorem S_par3 (i j l : Nat) (a b c : T) : evS φ (.par3 i j l a b c) ρ st = (evE φ a ρ st).bind fun v st1 => match isOut v with
    | some v => (evE φ b ρ st1).bind fun w st2 => match isOut w with
      | some w => (evE φ c ρ st2).bind fun u st3 => match isOut u with
        | some u => .ok (.nx (setEnv (setEnv (setEnv ρ i v) j w) l u)) st3
        | none => .stuck
      | none => .stuck
    | none => .stuck := by first | (rw [evS]; done) | (rw [evS]; rfl)
theorem E_chain (o p : CmpO) (a b c : T) : evE φ (.chain o p a b c) ρ st = (evE φ a ρ st).bind fun x st1 => (evE φ b ρ st1).bind fun y st2 => match view st2 x, view st2 y with
      | some d, some e => match opCmp o d e with
        | some true => (evE φ c ρ st2).bind fun z st3 => match view st3 y, view st3 z with
          | some e, some g => .of ((opCmp p e g).map fun k => .dat (.bool k)) st3
          | _, _ => .stuck
        | some false => .ok (.dat (.bool false)) st2
        | none => .stuck
      | _, _ => .stuck := by first | (rw [evE]; done) | (rw [evE]; rfl)
end
theorem add_lists {xs ys : List PyData} (h : xs.length + ys.length ≤ 1000) : opBin .add (.list xs) (.list ys) = some (.new ((xs ++ ys).map .dat)) := by
  show (if xs.length + ys.length ≤ 16777216 then some (Va.new ((xs ++ ys).map .dat)) else none) = _
  rw [if_pos (by omega)]
theorem add_RD {as bs : List (List Num)} (h : as.length + bs.length ≤ 1000) : opBin .add (RD as) (RD bs) = some (.dat (RD (as ++ bs))) := by
  show (if (as.map TD).length + (bs.map TD).length ≤ 16777216 then some (Va.dat (.tuple (as.map TD ++ bs.map TD))) else none) = _
  rw [if_pos (by simp only [List.length_map]; omega), ← List.map_append]; rfl
theorem slc_hi (rows : List (List Num)) (r : Int) (r0 : 0 ≤ r) (st : Sto) : opSlc st (.dat (RD rows)) none (some r) = some (.dat (RD (rows.take r.toNat))) := by
  show some (Va.dat (.tuple (cut (rows.map TD) none (some r)))) = _
  have er : ((r.toNat : Nat) : Int) = r := by omega
  rw [← er, cut_take, ← List.map_take, er]; rfl
theorem isIn_iff {rows : List (List Num)} {t : List Num} (hr : ∀ s ∈ rows, s.length = t.length) (hp : pres t ≠ []) : isIn rows t = true ↔ Md rows t := by
  rw [isIn_made rows t hr hp, made_iff hr]
theorem repr_RT {rows : List (List Num)} {t : List Num} {w : Nat} (h4 : w ≤ 4) (hr : ∀ s ∈ rows, Sd (100 * M1) w s) (hz : rows.length ≤ 40) (ht : Sd (100 * M1) w t) : biF .repr (.list [RD rows, TD t]) = some (.dat (.str (PyData.shown (.list [RD rows, TD t])))) := by
  have h1 := wt_RD (ss := rows) fun s hs => ⟨by have := (hr s hs).1; omega, (hr s hs).2⟩
  have h2 := wt_TD (s := t) (by have := ht.1; omega) ht.2
  have h3 : wt (.list [RD rows, TD t]) ≤ 600000 := by
    show wt (RD rows) + 2 + (wt (TD t) + 2 + 0) + 3 ≤ _
    omega
  refine repr_of ?_ (by omega)
  show [RD rows, TD t].all (flatD 59) = true
  rw [List.all_cons, List.all_cons, flat_RD 57, flat_TD 58]; rfl
theorem ne_RD (R : List (List Num)) : opCmp .ne (RD R) (.tuple []) = some (!decide (R = [])) := by
  show (if flatD 60 (RD R) = true ∧ flatD 60 (.tuple []) = true then some (!PyData.eqv (RD R) (.tuple [])) else none) = _
  rw [if_pos ⟨flat_RD 58 R, by unfold flatD; rfl⟩]
  cases R <;> rfl
/-! ### gaps of one span -/
theorem gap_span {A B : List (List Num)} {t : List Num} (la : ∀ s ∈ A, s.length = t.length) (pa : ∀ s ∈ A, pres s ≠ []) (lb : ∀ s ∈ B, s.length = t.length) (pb : ∀ s ∈ B, pres s ≠ []) (pt : pres t ≠ []) (ab : ∀ s ∈ A, Md B s) (ba : ∀ s ∈ B, Md A s) : gapN A t = gapN B t :=
  Lst.uniq (fun _ => ⟨Ach.mono fun _ => Md.trans ab, Ach.mono fun _ => Md.trans ba⟩) (gapN_lst la pa pt) (gapN_lst lb pb pt)
theorem gap_sh {A : List (List Num)} {t : List Num} (la : ∀ s ∈ A, s.length = t.length) (pa : ∀ s ∈ A, pres s ≠ []) (pt : pres t ≠ []) (k : Int) : gapN A (sh t (some k)) = gapN A t :=
  Lst.uniq (fun _ => ach_sh_iff k) (gapN_lst (fun s hs => by rw [sh_len]; exact la s hs) pa (sh_ne pt k)) (gapN_lst la pa pt)
theorem gap_in {A : List (List Num)} {t : List Num} (la : ∀ s ∈ A, s.length = t.length) (pa : ∀ s ∈ A, pres s ≠ []) (pt : pres t ≠ []) : isIn A t = decide (gapN A t = some 0) := by
  have L := gapN_lst la pa pt
  rw [Bool.eq_iff_iff, isIn_iff la pt, decide_eq_true_eq, ← ach_zero]
  constructor
  · intro h
    cases e : gapN A t with
    | none => rw [e] at L; exact absurd h (L 0)
    | some g =>
      rw [e] at L
      have := L.2 0 h
      have := L.1.nonneg pt
      rw [show g = 0 by omega]
  · intro e
    rw [e] at L
    exact L.1
def rbE : S := .seq (.set 12 (.call 24 (.acons (.var 0) (.acons (.var 1) (.acons (.var 3) .anil)))))
    (.seq (.ifs (.and (.call 26 (.acons (.var 2) (.acons (.var 12) .anil))) (.last (.or (.cmp .isN (.var 5) (.lit .none)) (.last (.cmp .lt (.call 14 (.acons (.var 12) (.acons (.var 2) .anil))) (.var 5))))))
    (.seq (.ret (.lit (.bool false)))
    .nil)
    .nil)
    .nil)
section
variable (n w : Nat) (a b : Int) (rows : List (List Num)) (t : List Num) (rest : Sto) (hw : Wd a b) (h4 : w ≤ 4) (hr : ∀ s ∈ rows, Rw M1 w s) (hz : rows.length ≤ 20) (ht : Rw (M1 + M1 + M1) w t) (h0 : 1 ≤ rows.length) (x4 x6 x7 x8 x9 x10 : Option Va)
include hw h4 hr hz ht h0
theorem own_step (st : Sto) (i : Int) (o : Option Va) (hd : Dr rest st) :
    Ev (evS (callF tb (n + 5)) rbE [some (.ref 1), some (.dat (RD rows)), some (.dat (TD t)), some (.dat (.list [.int a, .int b])), x4, some (.dat (D (gapN rows t))), x6, x7, x8, x9, x10, some (.dat (.int i)), o, none] st)
      (fun fl st' => ∃ o', fl = .nx [some (.ref 1), some (.dat (RD rows)), some (.dat (TD t)), some (.dat (.list [.int a, .int b])), x4, some (.dat (D (gapN rows t))), x6, x7, x8, x9, x10, some (.dat (.int i)), o', none] ∧ Dr rest st') := by
  obtain ⟨v1, st1, e1, u, rfl, hu, md, hd1⟩ := (lmade_ok (n + 2) w M1 a b rows rest st hw h4 hr h0 (by omega) hd).get
  have lt : t.length ≤ 1000 := by have := ht.1.1; omega
  have lu : u.length ≤ 1000 := by have := hu.1.1; omega
  have la : ∀ s ∈ rows, s.length = t.length := fun s hs => by rw [(hr s hs).1.1, ht.1.1]
  have pa : ∀ s ∈ rows, pres s ≠ [] := fun s hs => (hr s hs).2
  have L := gapN_lst la pa ht.2
  rw [rbE, S_seq, S_set]
  simp only [E_call, A_cons, A_nil, E_var, Res.bind_ok, Res.of_some, List.getElem?_cons_zero, List.getElem?_cons_succ, Option.bind_some, id_eq, isOut_dat, isOut_ref, e1, setEnv, List.set_cons_succ, List.set_cons_zero]
  have B0 : ∀ st, callF tb (n + 5) 26 [.dat (TD t), .dat (TD u)] st = .ok (.dat (.bool (decide (Lv t u)))) st := fun st => islevel_ok (n + 4) t u st lt lu
  by_cases h : Lv t u
  · have A := ach_sprd h.symm hu.2 md
    have B1 : ∀ st, callF tb (n + 5) 14 [.dat (TD u), .dat (TD t)] st = .ok (.dat (.int (sprd u t))) st := fun st => sp_ok (n + 3) u t st h.symm hu.2 lu
    cases e : gapN rows t with
    | none => rw [e] at L; exact absurd A (L _)
    | some g =>
      rw [e] at L
      have le := L.2 _ A
      have c1 : opCmp .lt (.int (sprd u t)) (.int g) = some false := by
        show some (decide (sprd u t < g)) = _
        rw [decide_eq_false (by omega)]
      have c2 : opCmp .isN (.int g) .none = some false := rfl
      have dI : ∀ i : Int, D (some i) = .int i := fun _ => rfl
      rw [S_seq, S_ifs]
      simp only [T_and, T_or, T_last, T_call, T_cmp, E_call, A_cons, A_nil, E_var, E_lit, Res.bind_ok, Res.of_some, List.getElem?_cons_zero, List.getElem?_cons_succ, Option.bind_some, id_eq, isOut_dat, view_dat, B0, decide_eq_true h, asBool_bool, dI, c2, B1, c1, S_nil, Ev_ok]
      exact ⟨_, rfl, hd1⟩
  · rw [S_seq, S_ifs]
    simp only [T_and, T_or, T_last, T_call, T_cmp, E_call, A_cons, A_nil, E_var, E_lit, Res.bind_ok, Res.of_some, List.getElem?_cons_zero, List.getElem?_cons_succ, Option.bind_some, id_eq, isOut_dat, view_dat, B0, decide_eq_false h, asBool_bool, S_nil, Ev_ok]
    exact ⟨_, rfl, hd1⟩
theorem own_loop : ∀ (k : Nat) (i : Int) (st : Sto) (x o : Option Va), Dr rest st →
    Ev (forL (fun ρ s => evS (callF tb (n + 5)) rbE ρ s) (.v 11) (upto i k) [some (.ref 1), some (.dat (RD rows)), some (.dat (TD t)), some (.dat (.list [.int a, .int b])), x4, some (.dat (D (gapN rows t))), x6, x7, x8, x9, x10, x, o, none] st)
      (fun fl st' => ∃ x' o', fl = .nx [some (.ref 1), some (.dat (RD rows)), some (.dat (TD t)), some (.dat (.list [.int a, .int b])), x4, some (.dat (D (gapN rows t))), x6, x7, x8, x9, x10, x', o', none] ∧ Dr rest st')
  | 0, i, st, x, o, hd => ⟨x, o, rfl, hd⟩
  | k + 1, i, st, x, o, hd => by
    obtain ⟨fl, st1, e1, o', rfl, hd1⟩ := (own_step n w a b rows t rest hw h4 hr hz ht h0 x4 x6 x7 x8 x9 x10 st i o hd).get
    rw [upto, forL_nx (b := fun ρ s => evS (callF tb (n + 5)) rbE ρ s) (i := 11) (ρ := [some (.ref 1), some (.dat (RD rows)), some (.dat (TD t)), some (.dat (.list [.int a, .int b])), x4, some (.dat (D (gapN rows t))), x6, x7, x8, x9, x10, x, o, none]) e1]
    exact own_loop k (i + 1) st1 _ o' hd1
end
end K12

/-! K12G: _law_is_right, whole. -/
namespace K12
open PySem RS PK
def tE : S := match f31.body with
  | .seq _ (.seq _ (.seq _ (.seq _ (.seq _ (.seq _ (.seq _ (.seq _ (.seq _ r)))))))) => r
  | r => r
def mE : S := match f31.body with
  | .seq _ (.seq _ r) => r
  | r => r
section
variable (n w : Nat) (a b : Int) (rows : List (List Num)) (t : List Num) (h1 : 1 ≤ w) (h4 : w ≤ 4) (hr : ∀ s ∈ rows, Rw M1 w s) (hz : rows.length ≤ 20) (ht : Rw (M1 + M1 + M1) w t)
include h1 h4 hr hz ht
theorem mid_ok (k : Int) (hk : -M1 ≤ k ∧ k ≤ M1) (X : Str) (hX : biF .repr (.list [RD rows, TD t]) = some (.dat (.str X))) (u W : Option Va) (st : Sto) :
    evS (callF tb (n + 5)) mE [u, some (.dat (RD rows)), some (.dat (TD t)), W, some (.dat (.int w)), some (.dat (D (gapN rows t))), some (.dat (.str X)), some (.dat (.tuple [.int w, RD rows])), some (.dat (.int k)), none, none, none, none, none] st =
      evS (callF tb (n + 5)) tE [u, some (.dat (RD rows)), some (.dat (TD t)), W, some (.dat (.int w)), some (.dat (D (gapN rows t))), some (.dat (.str X)), some (.dat (.tuple [.int w, RD rows])), some (.dat (.int k)), some (.dat (.list ((List.replicate 6 (gapN rows t)).map D))), some (.dat (belowD rows t)), none, none, none] st := by
  have hM := M1_pos
  have ltw := ht.1.1
  have lt : t.length ≤ 1000 := by omega
  have hl : ∀ s ∈ rows, s.length = w := fun s hs => (hr s hs).1.1
  have la : ∀ s ∈ rows, s.length = t.length := fun s hs => by rw [hl s hs, ltw]
  have pa : ∀ s ∈ rows, pres s ≠ [] := fun s hs => (hr s hs).2
  have pt := ht.2
  -- the least lot
  have RL := least_rws hl pa
  have ll : ∀ s ∈ leastR rows, s.length = t.length := fun s hs => by rw [RL.len s hs, ltw]
  have lq : ∀ s ∈ leastR rows, pres s ≠ [] := fun s hs => (RL.beg s hs).ne
  have sp := (tidy_least hl pa).2
  have G2 := gap_sh la pa pt k
  have G3 : gapN (leastR rows) t = gapN rows t := gap_span ll lq la pa pt (fun s hs => least_md hs) sp
  have mR : ∀ s, s ∈ rows.reverse ++ rows.take 1 ↔ s ∈ rows := fun s => by
    rw [List.mem_append, List.mem_reverse]
    exact ⟨fun h => h.elim id List.mem_of_mem_take, .inl⟩
  have lR : ∀ s ∈ rows.reverse ++ rows.take 1, s.length = t.length := fun s hs => la s ((mR s).mp hs)
  have G4 : gapN (rows.reverse ++ rows.take 1) t = gapN rows t := gap_span lR (fun s hs => pa s ((mR s).mp hs)) la pa pt (fun s hs => Md.self ((mR s).mp hs)) (fun s hs => Md.self ((mR s).mpr hs))
  have C1 : ∀ st, callF tb (n + 5) 15 [.dat (.tuple [.int w, RD rows]), .dat (TD t)] st = .ok (.dat (D (gapN rows t))) st := fun st => by
    have := gap_ok gaps n rows t st la lt pt
    rwa [ltw] at this
  have C2 : ∀ st, callF tb (n + 5) 15 [.dat (.tuple [.int w, RD rows]), .dat (TD (sh t (some k)))] st = .ok (.dat (D (gapN rows t))) st := fun st => by
    have := gap_ok gaps n rows (sh t (some k)) st (fun s hs => by rw [sh_len]; exact la s hs) (by rw [sh_len]; exact lt) (sh_ne pt k)
    rwa [sh_len, ltw, G2] at this
  have C3 : ∀ st, callF tb (n + 5) 12 [.dat (.tuple [.int w, RD rows])] st = .ok (.dat (.tuple [.int w, RD (leastR rows)])) st := fun st => least_ok tidy rfl n w rows st h1 (by omega) hl pa (by omega)
  have C4 : ∀ st, callF tb (n + 5) 15 [.dat (.tuple [.int w, RD (leastR rows)]), .dat (TD t)] st = .ok (.dat (D (gapN rows t))) st := fun st => by
    have := gap_ok gaps n (leastR rows) t st ll lt pt
    rwa [ltw, G3] at this
  have C5 : ∀ st, callF tb (n + 5) 15 [.dat (.tuple [.int w, RD (rows.reverse ++ rows.take 1)]), .dat (TD t)] st = .ok (.dat (D (gapN rows t))) st := fun st => by
    have := gap_ok gaps n (rows.reverse ++ rows.take 1) t st lR lt pt
    rwa [ltw, G4] at this
  have C6 : ∀ st, callF tb (n + 5) 11 [.dat (.tuple [.int w, RD rows]), .dat (TD t)] st = .ok (.dat (.bool (decide (gapN rows t = some 0)))) st := fun st => by
    have := isin_ok span (n + 1) rows t st (fun s hs => by rw [la s hs]; exact lt) lt
    rwa [ltw, gap_in la pa pt] at this
  have C7 : ∀ st, callF tb (n + 5) 10 [.dat (.tuple [.int w, RD rows]), .dat (TD t)] st = .ok (.dat (belowD rows t)) st := fun st => by
    have := high_ok gaps (n + 1) rows t st (fun s hs => by rw [la s hs]; exact lt) lt
    rwa [ltw] at this
  have sx : Sn (100 * M1) (gapN rows t) := by
    intro i e
    have L := gapN_lst la pa pt
    rw [e] at L
    have l0 := L.1.nonneg pt
    -- the highest row below is a row of the span: its integers are of the rows, shifted
    obtain ⟨j, x, ex⟩ := pres_get.mp pt
    unfold gapN at e
    split at e
    · rename_i c
      cases e
      have Lb := belowR_len la
      have bound : Sm (7 * M1) (belowR rows t) := fun y hy v ey => by
        subst ey
        obtain ⟨j, hj⟩ := List.mem_iff_getElem?.mp hy
        obtain ⟨s, hs, sv, e1, us⟩ := below_md la j v hj
        obtain ⟨tv, e2, l2⟩ := below_und la j v hj
        have b2 := ht.1.2 _ (List.mem_of_getElem? e2) tv rfl
        have b1 := (hr s hs).1.2 _ (List.mem_of_getElem? e1) sv rfl
        -- some place of s is reached: there v - sv is what t has less what s has
        have us' := us.trans (below_und la)
        obtain ⟨kk, ek, lk⟩ := gr_under (la s hs) (pa s hs) us'
        have gk := under_gr (la s hs) ek
        have top := below_top la pa (Md.self hs) gk.und j sv e1
        obtain ⟨v', e3, l3⟩ := top
        rw [hj] at e3
        cases e3
        -- k is attained
        have ek2 := (under_spec.mp ek).1
        obtain ⟨p, q, m, eq⟩ := mem_difs.mp ek2
        obtain ⟨i', hi'⟩ := List.mem_iff_getElem?.mp m
        obtain ⟨z1, z2⟩ := List.getElem?_zip_eq_some.mp hi'
        cases q with
        | none => cases eq
        | some q =>
          have eq : some kk = some (q - p) := eq
          cases eq
          have b3 := (hr s hs).1.2 _ (List.mem_of_getElem? z1) p rfl
          have b4 := ht.1.2 _ (List.mem_of_getElem? z2) q rfl
          omega
      have := sprd_sn ht.1.2 bound c.2.symm pt _ rfl
      omega
    · cases e
  have R6 : biF .repr (.list ((List.replicate 6 (gapN rows t)).map D)) = some (.dat (.str (PyData.shown (.list ((List.replicate 6 (gapN rows t)).map D))))) :=
    repr_nums (fun y hy => by rw [List.eq_of_mem_replicate hy]; exact sx) (by rw [List.length_replicate]; omega)
  generalize hY : PyData.shown (.list ((List.replicate 6 (gapN rows t)).map D)) = Y at R6
  have bd : gapN rows t = none → (pres (belowR rows t) = [] ∨ ¬ Lv t (belowR rows t)) := fun e => by
    unfold gapN at e
    split at e
    · cases e
    · rename_i c
      by_cases q : pres (belowR rows t) = []
      · exact .inl q
      · exact .inr fun z => c ⟨q, z.symm⟩
  have bs : ∀ g, gapN rows t = some g → belowD rows t = TD (belowR rows t) ∧ Lv t (belowR rows t) ∧ sprd t (belowR rows t) = g := fun g e => by
    unfold gapN at e
    split at e
    · rename_i c
      exact ⟨if_neg c.1, c.2.symm, Option.some.inj e⟩
    · cases e
  have bN : pres (belowR rows t) = [] → belowD rows t = .none := fun q => if_pos q
  have bT : pres (belowR rows t) ≠ [] → belowD rows t = TD (belowR rows t) := fun q => if_neg q
  have Lb := belowR_len la
  generalize hg : gapN rows t = g at *
  have dI : ∀ i : Int, D (some i) = .int i := fun _ => rfl
  have z4 : ∀ st, frzV (.new [.dat (D g), .dat (D g), .dat (D g), .dat (D g)]) st = .ok (.dat (.list [D g, D g, D g, D g])) st := fun _ => rfl
  have v2 : ∀ st, view st (.new [.dat (D g), .dat (D g)]) = some (.list [D g, D g]) := fun _ => rfl
  have v1 : ∀ st, view st (.new [.dat (D g)]) = some (.list [D g]) := fun _ => rfl
  have vRT : ∀ st, view st (.new [.dat (RD rows), .dat (TD t)]) = some (.list [RD rows, TD t]) := fun _ => rfl
  have ad : opBin .add (.list [D g, D g, D g, D g]) (.list [D g, D g]) = some (.new (((List.replicate 6 g).map D).map .dat)) := rfl
  have mu : opBin .mul (.list [D g]) (.int 6) = some (.new (((List.replicate 6 g).map D).map .dat)) := rfl
  have pk : ∀ x y : Va, pick ([] ++ [x, y]) [1, 0] = some [y, x] := fun _ _ => rfl
  have pn : partV (.dat .none) = some none := rfl
  have pi : ∀ i : Int, partV (.dat (.int i)) = some (some i) := fun _ => rfl
  have t1s : ∀ st, opSlc st (.dat (RD rows)) none (some 1) = some (.dat (RD (rows.take 1))) := fun st => slc_hi rows 1 (by omega) st
  have rv : ∀ φ ρ st, ρ[1]? = some (some (.dat (RD rows))) → evE φ (.rev (.var 1)) ρ st = .ok (.dat (RD rows.reverse)) st := fun φ ρ st h => by
    rw [E_rev, E_var, h]
    show Res.ok (Va.dat (.tuple (rows.map TD).reverse)) st = _
    rw [← List.map_reverse]; rfl
  have ar : opBin .add (RD rows.reverse) (RD (rows.take 1)) = some (.dat (RD (rows.reverse ++ rows.take 1))) := add_RD (by rw [List.length_reverse, List.length_take]; omega)
  have fz2 : ∀ (rs : List (List Num)) (st : Sto), frzV (.dat (RD rs)) st = .ok (.dat (RD rs)) st := fun _ _ => rfl
  have uL : ∀ (rs : List (List Num)), undat [Va.dat (.int w), Va.dat (RD rs)] = some [.int w, RD rs] := fun _ => rfl
  have lpk := lp (n + 4) t k
  rw [mE]
  unfold f31
  dsimp only
  rw [S_seq, S_set]
  simp only [E_call, E_callk, E_frz, E_lst, A_cons, A_nil, E_var, E_lit, Res.bind_ok, Res.of_some, List.getElem?_cons_zero, List.getElem?_cons_succ, Option.bind_some, id_eq, isOut_dat, C1, pk, lp (n + 4) t k _ lt, C2, C3, C4, z4, setEnv, List.set_cons_succ, List.set_cons_zero]
  rw [S_seq, S_set]
  have re : evE (callF tb (n + 5)) (.frz (.bin .add (.rev (.var 1)) (.slc (.var 1) .nopart (.lit (.int 1))))) [u, some (.dat (RD rows)), some (.dat (TD t)), W, some (.dat (.int w)), some (.dat (D g)), some (.dat (.str X)), some (.dat (.tuple [.int w, RD rows])), some (.dat (.int k)), some (.dat (.list [D g, D g, D g, D g])), none, none, none, none] st = .ok (.dat (RD (rows.reverse ++ rows.take 1))) st := by
    rw [E_frz, E_bin, rv _ _ st (by rfl)]
    simp only [E_slc, E_nopart, E_var, E_lit, Res.bind_ok, Res.of_some, List.getElem?_cons_zero, List.getElem?_cons_succ, Option.bind_some, id_eq, view_dat, pn, pi, t1s, ar, fz2]
  rw [E_frz, E_bin, E_var]
  simp only [List.getElem?_cons_zero, List.getElem?_cons_succ, Option.bind_some, id_eq, Res.of_some, Res.bind_ok]
  rw [E_lst, A_cons, E_call, A_cons, E_tup, A_cons, E_var]
  simp only [List.getElem?_cons_zero, List.getElem?_cons_succ, Option.bind_some, id_eq, Res.of_some, Res.bind_ok, isOut_dat]
  rw [A_cons, re]
  simp only [E_call, A_cons, A_nil, E_var, E_lit, Res.bind_ok, Res.of_some, List.getElem?_cons_zero, List.getElem?_cons_succ, Option.bind_some, id_eq, isOut_dat, view_dat, uL, C5, C1, v2, ad, frz_dats, setEnv, List.set_cons_succ, List.set_cons_zero]
  rw [S_seq, S_ifs]
  simp only [T_or, T_last, T_cmp, E_lst, E_bin, E_bi, A_cons, A_nil, E_var, E_lit, Res.bind_ok, Res.of_some, List.getElem?_cons_zero, List.getElem?_cons_succ, Option.bind_some, id_eq, isOut_dat, view_dat, view_new, R6, v1, mu, vRT, hX, str_ne, S_nil]
  have an : evE (callF tb (n + 5)) (.and (.cmp .notN (.var 5) (.lit .none)) (.last (.cmp .eq (.var 5) (.lit (.int 0))))) [u, some (.dat (RD rows)), some (.dat (TD t)), W, some (.dat (.int w)), some (.dat (D g)), some (.dat (.str X)), some (.dat (.tuple [.int w, RD rows])), some (.dat (.int k)), some (.dat (.list ((List.replicate 6 g).map D))), none, none, none, none] st = .ok (.dat (.bool (decide (g = some 0)))) st := by
    rw [E_and]
    cases g with
    | none => simp only [E_cmp, E_var, E_lit, Res.bind_ok, Res.of_some, List.getElem?_cons_zero, List.getElem?_cons_succ, Option.bind_some, id_eq, view_dat, cn]; rfl
    | some i =>
      simp only [E_cmp, E_last, E_var, E_lit, Res.bind_ok, Res.of_some, List.getElem?_cons_zero, List.getElem?_cons_succ, Option.bind_some, id_eq, view_dat, cn, Option.map_some, dI, eq0]
      have : decide (some i = some (0 : Int)) = decide (i = 0) := by by_cases h : i = 0 <;> simp [h]
      rw [this]; rfl
  rw [S_seq, S_ifs]
  simp only [T_cmp, E_bi, an, E_call, A_cons, A_nil, E_var, E_lit, Res.bind_ok, Res.of_some, List.getElem?_cons_zero, List.getElem?_cons_succ, Option.bind_some, id_eq, isOut_dat, view_dat, C6, repr_bool, str_ne, S_nil]
  rw [S_seq, S_set]
  simp only [E_call, A_cons, A_nil, E_var, Res.bind_ok, Res.of_some, List.getElem?_cons_zero, List.getElem?_cons_succ, Option.bind_some, id_eq, isOut_dat, C7, setEnv, List.set_cons_succ, List.set_cons_zero]
  rw [tE]
  unfold f31
  dsimp only
  cases g with
  | some d =>
    obtain ⟨q1, q2, q3⟩ := bs d rfl
    have B1 : ∀ st, callF tb (n + 5) 14 [.dat (TD t), .dat (TD (belowR rows t))] st = .ok (.dat (.int d)) st := fun st => by
      have := sp_ok (n + 3) t (belowR rows t) st q2 pt lt
      rwa [q3] at this
    have Rd : biF .repr (.int d) = some (.dat (.str (PyData.shown (.int d)))) := by
      have := wt_D sx
      have fl : flatD 60 (.int d) = true := by unfold flatD; rfl
      exact repr_of fl (by show wt (D (some d)) ≤ 16000000; omega)
    have c1 : opCmp .notN (.int d) .none = some true := rfl
    have c2 : opCmp .isN (.int d) .none = some false := rfl
    rw [q1]
    rw [S_seq, S_ifs]
    simp only [T_and, T_last, T_cmp, E_bi, E_call, A_cons, A_nil, E_var, E_lit, Res.bind_ok, Res.of_some, List.getElem?_cons_zero, List.getElem?_cons_succ, Option.bind_some, id_eq, isOut_dat, view_dat, dI, c1, B1, Rd, str_ne, S_nil]
    rw [S_seq, S_ifs]
    simp only [T_and, T_last, T_cmp, E_var, E_lit, Res.bind_ok, Res.of_some, List.getElem?_cons_zero, List.getElem?_cons_succ, Option.bind_some, id_eq, view_dat, c2, S_nil]
  | none =>
    have c1 : opCmp .notN (D none) .none = some false := rfl
    have c2 : opCmp .isN (D none) .none = some true := rfl
    rw [S_seq, S_ifs]
    simp only [T_and, T_last, T_cmp, E_var, E_lit, Res.bind_ok, Res.of_some, List.getElem?_cons_zero, List.getElem?_cons_succ, Option.bind_some, id_eq, view_dat, c1, S_nil]
    rw [S_seq, S_ifs]
    by_cases q : pres (belowR rows t) = []
    · rw [bN q]
      have c3 : opCmp .notN .none .none = some false := rfl
      simp only [T_and, T_last, T_cmp, E_var, E_lit, Res.bind_ok, Res.of_some, List.getElem?_cons_zero, List.getElem?_cons_succ, Option.bind_some, id_eq, view_dat, c2, c3, S_nil]
    · rw [bT q]
      have nl := (bd rfl).resolve_left q
      have c3 : opCmp .notN (TD (belowR rows t)) .none = some true := rfl
      have B0 : ∀ st, callF tb (n + 5) 26 [.dat (TD t), .dat (TD (belowR rows t))] st = .ok (.dat (.bool false)) st := fun st => by
        have := islevel_ok (n + 4) t (belowR rows t) st lt (by omega)
        rwa [decide_eq_false nl] at this
      simp only [T_and, T_last, T_call, T_cmp, A_cons, A_nil, E_var, E_lit, Res.bind_ok, Res.of_some, List.getElem?_cons_zero, List.getElem?_cons_succ, Option.bind_some, id_eq, isOut_dat, view_dat, c2, c3, B0, asBool_bool, S_nil]
end
end K12

/-! K12I: _law_is_right joined; _law_is_unfit; _law_is_long. -/
namespace K12
open PySem RS PK
theorem gap_more {A B : List (List Num)} {t : List Num} {g : Int} (la : ∀ s ∈ A, s.length = t.length) (pa : ∀ s ∈ A, pres s ≠ []) (lb : ∀ s ∈ B, s.length = t.length) (pb : ∀ s ∈ B, pres s ≠ []) (pt : pres t ≠ []) (sub : ∀ s ∈ A, s ∈ B) (e : gapN A t = some g) : ∃ d, gapN B t = some d ∧ 0 ≤ d ∧ d ≤ g := by
  have L := gapN_lst la pa pt
  have L2 := gapN_lst lb pb pt
  rw [e] at L
  have A2 : Ach B t g := L.1.mono fun u m => m.sub sub
  cases e2 : gapN B t with
  | none => rw [e2] at L2; exact absurd A2 (L2 g)
  | some d =>
    rw [e2] at L2
    exact ⟨d, rfl, L2.1.nonneg pt, L2.2 g A2⟩
theorem tail2_ok (n w : Nat) (a b : Int) (rows : List (List Num)) (t : List Num) (rest : Sto) (hw : Wd a b) (h1 : 1 ≤ w) (h4 : w ≤ 4) (hr : ∀ s ∈ rows, Rw M1 w s) (hz : rows.length ≤ 20) (ht : Rw (M1 + M1 + M1) w t) (x6 x7 x8 x9 x10 : Option Va) (st : Sto) (hd : Dr rest st) :
    Ev (evS (callF tb (n + 5)) tE [some (.ref 1), some (.dat (RD rows)), some (.dat (TD t)), some (.dat (.list [.int a, .int b])), some (.dat (.int w)), some (.dat (D (gapN rows t))), x6, x7, x8, x9, x10, none, none, none] st)
      (fun fl st' => fl = .rt (.dat (.bool true)) ∧ Dr rest st') := by
  have hM := M1_pos
  have ltw := ht.1.1
  have lt : t.length ≤ 1000 := by omega
  have la : ∀ s ∈ rows, s.length = t.length := fun s hs => by rw [(hr s hs).1.1, ltw]
  have pa : ∀ s ∈ rows, pres s ≠ [] := fun s hs => (hr s hs).2
  have u0 : undat [] = some [] := rfl
  -- what comes behind the turns
  have go : ∀ (x11 x12 : Option Va) (st2 : Sto), Dr rest st2 → Ev (evS (callF tb (n + 5)) (match tE with | .seq _ r => r | r => r) [some (.ref 1), some (.dat (RD rows)), some (.dat (TD t)), some (.dat (.list [.int a, .int b])), some (.dat (.int w)), some (.dat (D (gapN rows t))), x6, x7, x8, x9, x10, x11, x12, none] st2)
      (fun fl st' => fl = .rt (.dat (.bool true)) ∧ Dr rest st') := fun x11 x12 st2 hd2 => by
    obtain ⟨v3, st3, e3, r, rfl, hr3, hd3⟩ := (rw' (n := n + 2) w a b rest st2 hw h1 h4 hd2).get
    have lb : ∀ s ∈ rows ++ [r], s.length = t.length := fun s hs => (List.mem_append.mp hs).elim (la s) fun q => by rw [List.mem_singleton.mp q, hr3.1.1, ltw]
    have pb : ∀ s ∈ rows ++ [r], pres s ≠ [] := fun s hs => (List.mem_append.mp hs).elim (pa s) fun q => by rw [List.mem_singleton.mp q]; exact hr3.2
    have C1 : ∀ st, callF tb (n + 5) 15 [.dat (.tuple [.int w, RD (rows ++ [r])]), .dat (TD t)] st = .ok (.dat (D (gapN (rows ++ [r]) t))) st := fun st => by
      have := gap_ok gaps n (rows ++ [r]) t st lb lt ht.2
      rwa [ltw] at this
    have ad : opBin .add (RD rows) (.tuple [TD r]) = some (.dat (RD (rows ++ [r]))) := add_RD (bs := [r]) (by simp; omega)
    have uT : undat [Va.dat (TD r)] = some [TD r] := rfl
    have uL : ∀ (rs : List (List Num)), undat [Va.dat (.int w), Va.dat (RD rs)] = some [.int w, RD rs] := fun _ => rfl
    have fz2 : ∀ (rs : List (List Num)) (st : Sto), frzV (.dat (RD rs)) st = .ok (.dat (RD rs)) st := fun _ _ => rfl
    unfold tE f31
    dsimp only
    rw [S_seq, S_set]
    simp only [E_call, E_tup, E_frz, E_bin, A_cons, A_nil, E_var, E_lit, Res.bind_ok, Res.of_some, List.getElem?_cons_zero, List.getElem?_cons_succ, Option.bind_some, id_eq, isOut_dat, isOut_ref, view_dat, e3, uT, ad, fz2, uL, C1, setEnv, List.set_cons_succ, List.set_cons_zero]
    rw [S_seq, S_ret, E_or]
    simp only [E_cmp, E_var, E_lit, Res.bind_ok, Res.of_some, List.getElem?_cons_zero, List.getElem?_cons_succ, Option.bind_some, id_eq, view_dat, ci, Option.map_some]
    cases e : gapN rows t with
    | none =>
      simp only [Option.isNone_none, asBool_bool, Res.bind_ok, isOut_dat, Ev_ok]
      exact ⟨trivial, hd3⟩
    | some g =>
      obtain ⟨d, e2, d0, dg⟩ := gap_more la pa lb pb ht.2 (fun s hs => List.mem_append.mpr (.inl hs)) e
      rw [e2]
      have dI : ∀ i : Int, D (some i) = .int i := fun _ => rfl
      have c1 : opCmp .le (.int 0) (.int d) = some true := by
        show some (decide ((0 : Int) ≤ d)) = _
        rw [decide_eq_true d0]
      have c2 : opCmp .le (.int d) (.int g) = some true := by
        show some (decide (d ≤ g)) = _
        rw [decide_eq_true dg]
      have c3 : opCmp .notN (.int d) .none = some true := rfl
      simp only [Option.isNone_some, asBool_bool, E_last, E_and, E_cmp, E_chain, E_var, E_lit, Res.bind_ok, Res.of_some, List.getElem?_cons_zero, List.getElem?_cons_succ, Option.bind_some, id_eq, view_dat, dI, c3, c1, c2, Option.map_some, isOut_dat, Ev_ok]
      exact ⟨trivial, hd3⟩
  have go' := go
  unfold tE f31 at go' ⊢
  dsimp only at go' ⊢
  rw [S_seq, S_ifs]
  simp only [T_cmp, E_tup, A_nil, E_var, Res.bind_ok, Res.of_some, List.getElem?_cons_zero, List.getElem?_cons_succ, Option.bind_some, id_eq, view_dat, u0, ne_RD]
  by_cases q : rows = []
  · simp only [decide_eq_true q, Bool.not_true, S_nil, Res.bind_ok]
    exact go' none none st hd
  · simp only [decide_eq_false q, Bool.not_false]
    have h0 : 1 ≤ rows.length := List.length_pos_iff.mpr q
    obtain ⟨fl, st2, e2, x', o', rfl, hd2⟩ := (own_loop n w a b rows t rest hw h4 hr hz ht h0 (some (.dat (.int w))) x6 x7 x8 x9 x10 3 0 st none none hd).get
    have it : ∀ ρ st, evI (callF tb (n + 5)) (.irange1 (.lit (.int 3))) ρ st = .ok ⟨upto 0 3, none⟩ st := fun ρ st => by rw [I_range, E_lit]; rfl
    have lpE : evS (callF tb (n + 5)) (.seq (.forS (.v 11) (.irange1 (.lit (.int 3))) rbE) .nil) [some (.ref 1), some (.dat (RD rows)), some (.dat (TD t)), some (.dat (.list [.int a, .int b])), some (.dat (.int w)), some (.dat (D (gapN rows t))), x6, x7, x8, x9, x10, none, none, none] st = .ok (.nx [some (.ref 1), some (.dat (RD rows)), some (.dat (TD t)), some (.dat (.list [.int a, .int b])), some (.dat (.int w)), some (.dat (D (gapN rows t))), x6, x7, x8, x9, x10, x', o', none]) st2 := by
      rw [S_seq, S_forS, it]
      simp only [Res.bind_ok]
      rw [e2]
      simp only [Res.bind_ok, S_nil]
    unfold rbE at lpE
    rw [lpE]
    simp only [Res.bind_ok]
    exact go' x' o' st2 hd2
theorem right_ok (n w : Nat) (a b : Int) (rows : List (List Num)) (t : List Num) (rest st : Sto) (hw : Wd a b) (h1 : 1 ≤ w) (h4 : w ≤ 4) (hr : ∀ s ∈ rows, Rw M1 w s) (hz : rows.length ≤ 20) (ht : Rw (M1 + M1 + M1) w t) (hd : Dr rest st) :
    Ev (callF tb (n + 6) 31 [.ref 1, .dat (RD rows), .dat (TD t), .dat (.list [.int a, .int b])] st) (fun v st' => v = .dat (.bool true) ∧ Dr rest st') := by
  have hM := M1_pos
  have ltw := ht.1.1
  have lt : t.length ≤ 1000 := by omega
  have la : ∀ s ∈ rows, s.length = t.length := fun s hs => by rw [(hr s hs).1.1, ltw]
  have pa : ∀ s ∈ rows, pres s ≠ [] := fun s hs => (hr s hs).2
  obtain ⟨v1, st1, e1, k, rfl, hk, hd1⟩ := (wh (n := n + 3) a b rest st hw hd).get
  have hX := repr_RT h4 (fun s hs => ((hr s hs).up (l := 100 * M1) (by omega)).1) (by omega : rows.length ≤ 40) (ht.up (l := 100 * M1) (by omega)).1
  generalize PyData.shown (.list [RD rows, TD t]) = X at hX
  have G : ∀ st, callF tb (n + 5) 29 [.dat (RD rows), .dat (TD t)] st = .ok (.dat (D (gapN rows t))) st := fun st => by
    rw [lgap_gap la pa ht.2]
    exact lgap_ok (n + 4) (RD rows) rows (fun _ => by
      show some ((rows.map TD).map Va.dat) = _
      rw [RD_items]) t st la lt (by omega)
  have bl : biF .len (TD t) = some (.dat (.int w)) := by rw [len_TD, ltw]
  have vRT : ∀ st, view st (.new [.dat (RD rows), .dat (TD t)]) = some (.list [RD rows, TD t]) := fun _ => rfl
  have uL : undat [Va.dat (.int w), Va.dat (RD rows)] = some [.int w, RD rows] := rfl
  obtain ⟨fl, st2, e2, rfl, hd2⟩ := (tail2_ok n w a b rows t rest hw h1 h4 hr hz ht (some (.dat (.str X))) (some (.dat (.tuple [.int w, RD rows]))) (some (.dat (.int k))) (some (.dat (.list ((List.replicate 6 (gapN rows t)).map D)))) (some (.dat (belowD rows t))) st1 hd1).get
  have md := mid_ok n w rows t h1 h4 hr hz ht k hk X hX (some (.ref 1)) (some (.dat (.list [.int a, .int b]))) st1
  refine ev_call (F := f31) rfl rfl ?_
  show Ev (evS (callF tb (n + 5)) (.seq (.par3 4 5 6 (.bi .len (.var 2)) (.call 29 (.acons (.var 1) (.acons (.var 2) .anil))) (.bi .repr (.lst (.acons (.var 1) (.acons (.var 2) .anil))))) (.seq (.par 7 8 (.tup (.acons (.var 4) (.acons (.var 1) .anil))) (.call 19 (.acons (.var 0) (.acons (.var 3) .anil)))) mE))
    [some (.ref 1), some (.dat (RD rows)), some (.dat (TD t)), some (.dat (.list [.int a, .int b])), none, none, none, none, none, none, none, none, none, none] st) (finE false st.length _)
  rw [S_seq, S_par3]
  simp only [E_bi, E_call, E_lst, A_cons, A_nil, E_var, Res.bind_ok, Res.of_some, List.getElem?_cons_zero, List.getElem?_cons_succ, Option.bind_some, id_eq, isOut_dat, view_dat, bl, G, vRT, hX, setEnv, List.set_cons_succ, List.set_cons_zero]
  rw [S_seq, S_par]
  simp only [E_tup, E_call, A_cons, A_nil, E_var, Res.bind_ok, Res.of_some, List.getElem?_cons_zero, List.getElem?_cons_succ, Option.bind_some, id_eq, isOut_dat, isOut_ref, uL, e1, setEnv, List.set_cons_succ, List.set_cons_zero]
  rw [md, e2]
  simp only [Ev_ok, finE_rt, fin_dat, dr_len hd hd2]
  exact ⟨trivial, hd2⟩
theorem unfit_ok (n : Nat) (w : Int) (rows : List (List Num)) (t : List Num) (st : Sto) (hw : w ≠ t.length) : callF tb (n + 6) 32 [.dat (.tuple [.int w, RD rows]), .dat (TD t)] st = .ok (.dat (.bool true)) st := by
  refine call_eq (F := f32) (ρ := [some (.dat (.tuple [.int w, RD rows])), some (.dat (TD t))]) rfl rfl rfl rfl ?_
  have ex := gap_exc gaps n w rows t st hw
  have ex : callF tb (n + 5) 15 [.dat (.tuple [.int w, RD rows]), .dat (TD t)] st = _ := ex
  have inner : evS (callF tb (n + 5)) (.seq (.expr (.call 15 (.acons (.var 0) (.acons (.var 1) .anil)))) .nil) [some (.dat (.tuple [.int w, RD rows])), some (.dat (TD t))] st = .exc ⟨"Unfit", [.str "Unfit", .str "RidgeError"], none⟩ st := by
    rw [S_seq, S_expr]
    simp only [E_call, A_cons, A_nil, E_var, Res.bind_ok, Res.of_some, List.getElem?_cons_zero, List.getElem?_cons_succ, Option.bind_some, id_eq, isOut_dat, ex, Res.bind_exc]
  show evS (callF tb (n + 5)) (.seq (.tryR _ _ _) _) _ st = _
  rw [S_seq, evS, inner]
  dsimp only
  rw [if_pos (by rfl)]
  rfl
end K12

/-! K12J: _law_is_long. -/
namespace K12
open PySem RS PK
theorem S_unpack (φ : Nat → List Va → Sto → Res Va) (ρ : RS.Env) (st : Sto) (is : List Nat) (e : T) : evS φ (.unpack is e) ρ st = (evE φ e ρ st).bind fun v st1 => match v with
    | .dat (.tuple ds) => if ds.length = is.length then .of ((setAll is ds ρ).map .nx) st1 else .stuck
    | _ => .stuck := by first | (rw [evS]; done) | (rw [evS]; rfl)
theorem upto_range : ∀ (m : Nat) (i : Int), upto i m = (List.range m).map fun k => .dat (.int (i + k))
  | 0, _ => rfl
  | m + 1, i => by
    rw [upto, upto_range m (i + 1), List.range_succ_eq_map, List.map_cons, List.map_map]
    congr 1
    · simp
    · refine List.map_congr_left fun k _ => ?_
      show Va.dat (.int (i + 1 + k)) = Va.dat (.int (i + (k + 1 : Nat)))
      congr 2; omega
/-- the rows drawn for the long lot -/
theorem few_ev (n w : Nat) (a b : Int) (rest st : Sto) (at' : Int) (hw : Wd a b) (h1 : 1 ≤ w) (h4 : w ≤ 4) (hd : Dr rest st) :
    Ev (evE (callF tb (n + 5)) (.frz (.lc [("k", 9)] (.v 9) (.irange1 (.lit (.int 3))) .yes (.call 20 (.acons (.var 0) (.acons (.var 1) (.acons (.var 2) .anil)))))) [some (.ref 1), some (.dat (.int w)), some (.dat (.list [.int a, .int b])), some (.dat (.int at')), none, none, none, none, none, none] st)
      (fun v st' => ∃ R : List (List Num), v = .dat (.list (R.map TD)) ∧ R.length = 3 ∧ (∀ s ∈ R, Rw M1 w s) ∧ Dr rest st') := by
  have hi : evI (callF tb (n + 5)) (.irange1 (.lit (.int 3))) [some (.ref 1), some (.dat (.int w)), some (.dat (.list [.int a, .int b])), some (.dat (.int at')), none, none, none, none, none, none] st = .ok ⟨upto 0 3, none⟩ st := by rw [I_range, E_lit]; rfl
  have lc := lc_draws (φ := callF tb (n + 5)) (own := [("k", 9)]) (j := 9) (body := .call 20 (.acons (.var 0) (.acons (.var 1) (.acons (.var 2) .anil)))) (rest := rest) (fun _ v => ∃ s, v = .dat (TD s) ∧ Rw M1 w s) hi (by rw [upto_len]; omega) (upto_out _ _) (fun x hx s hs => by
    obtain ⟨v2, st2, e2, t, rfl, ht, hd2⟩ := (rw' (n := n + 2) w a b rest s hw h1 h4 hs).get
    show Ev (evE (callF tb (n + 5)) (.call 20 (.acons (.var 0) (.acons (.var 1) (.acons (.var 2) .anil)))) [some (.ref 1), some (.dat (.int w)), some (.dat (.list [.int a, .int b])), some (.dat (.int at')), none, none, none, none, none, some x] s) _
    simp only [E_call, A_cons, A_nil, E_var, Res.bind_ok, Res.of_some, List.getElem?_cons_zero, List.getElem?_cons_succ, Option.bind_some, id_eq, isOut_dat, isOut_ref, e2, Ev_ok]
    exact ⟨trivial, ⟨t, rfl, ht⟩, hd2⟩) hd
  obtain ⟨v3, st3, e3, vs, rfl, l3, q3, _, hd3⟩ := lc.get
  obtain ⟨R, rfl, hR⟩ := rows_of (vs := vs) (P := Rw M1 w) fun v hv => by obtain ⟨_, _, h⟩ := q3 v hv; exact h
  rw [List.length_map, upto_len] at l3
  rw [E_frz, e3]
  simp only [Res.bind_ok, frz_rows, Ev_ok]
  exact ⟨R, rfl, l3, hR, hd3⟩
def Rm (m : Nat) (R : List (List Num)) (at' : Int) : List (List Num) := (List.range m).map fun (k : Nat) => R[(((k : Int) * k + at').fmod 3).toNat]?.getD []
theorem mem_Rm {m : Nat} {R : List (List Num)} {at' : Int} (l : R.length = 3) {s : List Num} (h : s ∈ Rm m R at') : s ∈ R := by
  obtain ⟨k, _, rfl⟩ := List.mem_map.mp h
  obtain ⟨q0, q1⟩ := fmod_in (i := (k : Int) * k + at') (j := 3) (by omega)
  have hk : (((k : Int) * k + at').fmod 3).toNat < R.length := by omega
  rw [List.getElem?_eq_getElem hk]
  exact List.getElem_mem hk
theorem Rm_len (m : Nat) (R : List (List Num)) (at' : Int) : (Rm m R at').length = m := by rw [Rm, List.length_map, List.length_range]
theorem rows_ev (φ : Nat → List Va → Sto → Res Va) (m : Nat) (hm : m ≤ 100) (R : List (List Num)) (at' : Int) (l : R.length = 3) (h0 : 0 ≤ at') (h1 : at' < 40) (u W L T : Option Va) (st : Sto) :
    evE φ (.frz (.lc [("k", 9)] (.v 9) (.irange1 (.lit (.int m))) .yes (.idx (.var 4) (.bin .mod (.bi .int (.bin .add (.bin .mul (.var 9) (.var 9)) (.var 3))) (.lit (.int 3)))))) [u, W, L, some (.dat (.int at')), some (.dat (.list (R.map TD))), T, none, none, none, none] st = .ok (.dat (.list ((Rm m R at').map TD))) st := by
  rw [E_frz, ev_lc_map (xs := List.range m) (F := fun (k : Nat) => .dat (.int k)) (G := fun (k : Nat) => some (.dat (TD (R[(((k : Int) * k + at').fmod 3).toNat]?.getD [])))) ?_ (by rw [List.length_range]; omega) fun k hk => ?_]
  · rw [fm_some]
    have := frz_rows (Rm m R at') st
    unfold Rm at this ⊢
    rw [List.map_map] at this
    exact this
  · rw [I_range, E_lit]
    simp only [Res.bind_ok]
    rw [if_pos ⟨by omega, by omega⟩, Int.toNat_natCast, upto_range]
    simp only [Int.zero_add]
  · have hk := List.mem_range.mp hk
    have ml : opBin .mul (.int k) (.int k) = some (.dat (.int ((k : Int) * k))) := a_mul (.inr (by unfold big; omega))
    have md : opBin .mod (.int ((k : Int) * k + at')) (.int 3) = some (.dat (.int (((k : Int) * k + at').fmod 3))) := a_mod (by omega)
    obtain ⟨q0, q1⟩ := fmod_in (i := (k : Int) * k + at') (j := 3) (by omega)
    generalize ((k : Int) * k + at').fmod 3 = q at md q0 q1 ⊢
    have hr : q.toNat < R.length := by omega
    obtain ⟨s, hs⟩ : ∃ s, R[q.toNat]? = some s := ⟨_, List.getElem?_eq_getElem hr⟩
    rw [hs, Option.getD_some]
    have ix : opIdx st (.dat (.list (R.map TD))) (.int q) = some (.dat (TD s)) := by
      show L2.atI ((R.map TD).map Va.dat) q = _
      refine atI_pos q0 ?_
      rw [RD_items, List.getElem?_map, hs]; rfl
    have key : evE φ (.idx (.var 4) (.bin .mod (.bi .int (.bin .add (.bin .mul (.var 9) (.var 9)) (.var 3))) (.lit (.int 3)))) [u, W, L, some (.dat (.int at')), some (.dat (.list (R.map TD))), T, none, none, none, some (.dat (.int k))] st = .ok (.dat (TD s)) st := by
      have x4 : evE φ (.var 4) [u, W, L, some (.dat (.int at')), some (.dat (.list (R.map TD))), T, none, none, none, some (.dat (.int k))] st = .ok (.dat (.list (R.map TD))) st := by rw [E_var]; rfl
      have x9 : evE φ (.var 9) [u, W, L, some (.dat (.int at')), some (.dat (.list (R.map TD))), T, none, none, none, some (.dat (.int k))] st = .ok (.dat (.int k)) st := by rw [E_var]; rfl
      have x3 : evE φ (.var 3) [u, W, L, some (.dat (.int at')), some (.dat (.list (R.map TD))), T, none, none, none, some (.dat (.int k))] st = .ok (.dat (.int at')) st := by rw [E_var]; rfl
      generalize [u, W, L, some (.dat (.int at')), some (.dat (.list (R.map TD))), T, none, none, none, some (.dat (.int k))] = ρ at x4 x9 x3 ⊢
      have y1 : evE φ (.bin .mul (.var 9) (.var 9)) ρ st = .ok (.dat (.int ((k : Int) * k))) st := by
        rw [E_bin, x9, Res.bind_ok, x9, Res.bind_ok, view_dat]
        dsimp only
        rw [ml, Res.of_some]
      have y2 : evE φ (.bin .add (.bin .mul (.var 9) (.var 9)) (.var 3)) ρ st = .ok (.dat (.int ((k : Int) * k + at'))) st := by
        rw [E_bin, y1, Res.bind_ok, x3, Res.bind_ok, view_dat, view_dat]
        dsimp only
        rw [a_add, Res.of_some]
      have y3 : evE φ (.bi .int (.bin .add (.bin .mul (.var 9) (.var 9)) (.var 3))) ρ st = .ok (.dat (.int ((k : Int) * k + at'))) st := by
        rw [E_bi, y2, Res.bind_ok, view_dat]
        dsimp only
        rw [b_int, Res.of_some]
      have y4 : evE φ (.bin .mod (.bi .int (.bin .add (.bin .mul (.var 9) (.var 9)) (.var 3))) (.lit (.int 3))) ρ st = .ok (.dat (.int q)) st := by
        rw [E_bin, y3, Res.bind_ok, E_lit, Res.bind_ok, view_dat, view_dat]
        dsimp only
        rw [md, Res.of_some]
      rw [E_idx, x4, Res.bind_ok, y4, Res.bind_ok]
      dsimp only
      rw [ix, Res.of_some]
    have ag : asgG (.v 9) (.dat (.int k)) (wipeE [u, W, L, some (.dat (.int at')), some (.dat (.list (R.map TD))), T, none, none, none, none] [("k", 9)]) = some [u, W, L, some (.dat (.int at')), some (.dat (.list (R.map TD))), T, none, none, none, some (.dat (.int k))] := rfl
    have ty : ∀ ρ, evT φ .yes ρ st = .ok true st := fun ρ => by rw [evT]
    unfold lcF
    rw [ag]
    dsimp only
    rw [ty, Res.bind_ok]
    dsimp only
    rw [key, Res.bind_ok]
    rfl
theorem slL_lo (rows : List (List Num)) (r : Int) (r0 : 0 ≤ r) (st : Sto) : opSlc st (.dat (.list (rows.map TD))) (some r) none = some (.new ((rows.drop r.toNat).map fun s => .dat (TD s))) := by
  show some (Va.new (cut ((rows.map TD).map Va.dat) (some r) none)) = _
  have er : ((r.toNat : Nat) : Int) = r := by omega
  rw [← er, cut_drop, RD_items, ← List.map_drop, er]
theorem slL_hi (rows : List (List Num)) (r : Int) (r0 : 0 ≤ r) (st : Sto) : opSlc st (.dat (.list (rows.map TD))) none (some r) = some (.new ((rows.take r.toNat).map fun s => .dat (TD s))) := by
  show some (Va.new (cut ((rows.map TD).map Va.dat) none (some r))) = _
  have er : ((r.toNat : Nat) : Int) = r := by omega
  rw [← er, cut_take, RD_items, ← List.map_take, er]
theorem add_RL {as bs : List (List Num)} (h : as.length + bs.length ≤ 1000) : opBin .add (.list (as.map TD)) (.list (bs.map TD)) = some (.new ((as ++ bs).map fun s => .dat (TD s))) := by
  rw [add_lists (by simp only [List.length_map]; exact h), ← List.map_append, List.map_map]; rfl
/-- a gap is no great number -/
theorem gap_sn {w : Nat} {rows : List (List Num)} {t : List Num} (hr : ∀ s ∈ rows, Rw M1 w s) (ht : Rw (M1 + M1 + M1) w t) : Sn (100 * M1) (gapN rows t) := by
  have hM := M1_pos
  have la : ∀ s ∈ rows, s.length = t.length := fun s hs => by rw [(hr s hs).1.1, ht.1.1]
  have pa : ∀ s ∈ rows, pres s ≠ [] := fun s hs => (hr s hs).2
  have pt := ht.2
  intro i e
  have L := gapN_lst la pa pt
  rw [e] at L
  have l0 := L.1.nonneg pt
  -- the highest row below is a row of the span: its integers are of the rows, shifted
  obtain ⟨j, x, ex⟩ := pres_get.mp pt
  unfold gapN at e
  split at e
  · rename_i c
    cases e
    have Lb := belowR_len la
    have bound : Sm (7 * M1) (belowR rows t) := fun y hy v ey => by
      subst ey
      obtain ⟨j, hj⟩ := List.mem_iff_getElem?.mp hy
      obtain ⟨s, hs, sv, e1, us⟩ := below_md la j v hj
      obtain ⟨tv, e2, l2⟩ := below_und la j v hj
      have b2 := ht.1.2 _ (List.mem_of_getElem? e2) tv rfl
      have b1 := (hr s hs).1.2 _ (List.mem_of_getElem? e1) sv rfl
      -- some place of s is reached: there v - sv is what t has less what s has
      have us' := us.trans (below_und la)
      obtain ⟨kk, ek, lk⟩ := gr_under (la s hs) (pa s hs) us'
      have gk := under_gr (la s hs) ek
      have top := below_top la pa (Md.self hs) gk.und j sv e1
      obtain ⟨v', e3, l3⟩ := top
      rw [hj] at e3
      cases e3
      -- k is attained
      have ek2 := (under_spec.mp ek).1
      obtain ⟨p, q, m, eq⟩ := mem_difs.mp ek2
      obtain ⟨i', hi'⟩ := List.mem_iff_getElem?.mp m
      obtain ⟨z1, z2⟩ := List.getElem?_zip_eq_some.mp hi'
      cases q with
      | none => cases eq
      | some q =>
        have eq : some kk = some (q - p) := eq
        cases eq
        have b3 := (hr s hs).1.2 _ (List.mem_of_getElem? z1) p rfl
        have b4 := ht.1.2 _ (List.mem_of_getElem? z2) q rfl
        omega
    have := sprd_sn ht.1.2 bound c.2.symm pt _ rfl
    omega
  · cases e
theorem long_ok (n : Nat) (rest st : Sto) (hd : Dr rest st) : Ev (callF tb (n + 6) 33 [.ref 1] st) (fun v st' => v = .dat (.bool true) ∧ Dr rest st') := by
  have hM := M1_pos
  obtain ⟨v1, st1, e1, r, rfl, r0, r1, hd1⟩ := (tk (n := n + 4) 3 rest st (by omega) (by omega) hd).get
  obtain ⟨v2, st2, e2, d, rfl, m2, hd2⟩ := (on (n := n + 3) [.int 0, .int 1, .int (10 ^ 30)] rest st1 (by simp) (by simp) hd1).get
  obtain ⟨b, rfl, hw⟩ : ∃ b : Int, d = .int b ∧ Wd 5 b := by
    simp only [List.mem_cons, List.mem_nil_iff, or_false] at m2
    rcases m2 with rfl | rfl | rfl <;> exact ⟨_, rfl, by unfold Wd; decide +kernel⟩
  obtain ⟨v3, st3, e3, p, rfl, p0, p1, hd3⟩ := (tk (n := n + 4) 40 rest st2 (by omega) (by omega) hd2).get
  obtain ⟨w, hwn, w1, w4⟩ : ∃ w : Nat, 2 + r = w ∧ 1 ≤ w ∧ w ≤ 4 := ⟨(2 + r).toNat, by omega, by omega, by omega⟩
  obtain ⟨v4, st4, e4, R, rfl, lR, hR, hd4⟩ := (few_ev n w 5 b rest st3 p hw w1 w4 hd3).get
  obtain ⟨v5, st5, e5, t, rfl, ht, hd5⟩ := (rw' (n := n + 2) w 5 b rest st4 hw w1 w4 hd4).get
  obtain ⟨v6, st6, e6, k, rfl, hk, hd6⟩ := (wh (n := n + 3) 5 b rest st5 hw hd5).get
  have ltw := ht.1.1
  have lt : t.length ≤ 1000 := by omega
  obtain ⟨Q, hQ⟩ : ∃ Q, Rm 39 R p = Q := ⟨_, rfl⟩
  have lQ : Q.length = 39 := by rw [← hQ]; exact Rm_len 39 R p
  have qw : ∀ s ∈ Q, Rw M1 w s := fun s hs => hR s (mem_Rm lR (by rw [hQ]; exact hs))
  have la : ∀ s ∈ Q, s.length = t.length := fun s hs => by rw [(qw s hs).1.1, ltw]
  have pa : ∀ s ∈ Q, pres s ≠ [] := fun s hs => (qw s hs).2
  obtain ⟨V, hV⟩ : ∃ V, Q.take p.toNat ++ [sh t (some k)] ++ Q.drop p.toNat = V := ⟨_, rfl⟩
  have vw : ∀ s ∈ V, s.length = t.length ∧ pres s ≠ [] := fun s hs => by
    rw [← hV] at hs
    simp only [List.mem_append, List.mem_singleton] at hs
    rcases hs with (h | rfl) | h
    · exact ⟨la s (List.mem_of_mem_take h), pa s (List.mem_of_mem_take h)⟩
    · exact ⟨sh_len _ _, sh_ne ht.2 k⟩
    · exact ⟨la s (List.mem_of_mem_drop h), pa s (List.mem_of_mem_drop h)⟩
  have mem : sh t (some k) ∈ V := by
    rw [← hV]
    exact List.mem_append.mpr (.inl (List.mem_append.mpr (.inr (List.mem_singleton.mpr rfl))))
  have z0 : ∀ U : List (List Num), (∀ s ∈ U, s.length = t.length ∧ pres s ≠ []) → sh t (some k) ∈ U → gapN U t = some 0 := fun U h m => by
    have := gap_in (A := U) (fun s hs => (h s hs).1) (fun s hs => (h s hs).2) ht.2
    rw [(isIn_iff (fun s hs => (h s hs).1) ht.2).mpr (Md.far m)] at this
    exact of_decide_eq_true this.symm
  have G0 : ∀ st, callF tb (n + 5) 15 [.dat (.tuple [.int w, RD V]), .dat (TD t)] st = .ok (.dat (.int 0)) st := fun st => by
    have := gap_ok gaps n V t st (fun s hs => (vw s hs).1) lt ht.2
    rw [ltw, z0 V vw mem] at this
    exact this
  have vr : ∀ s ∈ V.reverse, s.length = t.length ∧ pres s ≠ [] := fun s hs => vw s (List.mem_reverse.mp hs)
  have G2 : ∀ st, callF tb (n + 5) 15 [.dat (.tuple [.int w, RD V.reverse]), .dat (TD t)] st = .ok (.dat (.int 0)) st := fun st => by
    have := gap_ok gaps n V.reverse t st (fun s hs => (vr s hs).1) lt ht.2
    rw [ltw, z0 V.reverse vr (List.mem_reverse.mpr mem)] at this
    exact this
  have G1 : ∀ st, callF tb (n + 5) 15 [.dat (.tuple [.int w, RD Q]), .dat (TD t)] st = .ok (.dat (D (gapN Q t))) st := fun st => by
    have := gap_ok gaps n Q t st la lt ht.2
    rwa [ltw] at this
  have GL : ∀ st, callF tb (n + 5) 29 [.dat (.list (Q.map TD)), .dat (TD t)] st = .ok (.dat (D (gapN Q t))) st := fun st => by
    rw [lgap_gap la pa ht.2]
    exact lgap_ok (n + 4) (.list (Q.map TD)) Q (fun _ => by
      show some ((Q.map TD).map Va.dat) = _
      rw [RD_items]) t st la lt (by omega)
  have sx : Sn (100 * M1) (gapN Q t) := gap_sn qw (ht.up (by omega))
  have RX : biF .repr (.list [.int 0, D (gapN Q t), .int 0]) = some (.dat (.str (PyData.shown (.list [.int 0, D (gapN Q t), .int 0])))) :=
    repr_nums (L := [some 0, gapN Q t, some 0]) (fun y hy => by
      simp only [List.mem_cons, List.mem_nil_iff, or_false] at hy
      rcases hy with rfl | rfl | rfl
      · intro i e; cases e; omega
      · exact sx
      · intro i e; cases e; omega) (by simp only [List.length_cons, List.length_nil]; omega)
  generalize PyData.shown (.list [.int 0, D (gapN Q t), .int 0]) = X at RX
  generalize gapN Q t = g at *
  have z3 : ∀ (i j : Int) (b : Int) st, frzV (.new [.dat (.int i), .dat (.int j), .dat (.int b)]) st = .ok (.dat (.list [.int i, .int j, .int b])) st := fun _ _ _ _ => rfl
  have z2 : ∀ (i j : Int) st, frzV (.new [.dat (.int i), .dat (.int j)]) st = .ok (.dat (.list [.int i, .int j])) st := fun _ _ _ => rfl
  have zg : ∀ st, frzV (.new [.dat (.int 0), .dat (D g), .dat (.int 0)]) st = .ok (.dat (.list [.int 0, D g, .int 0])) st := fun _ => rfl
  have u3 : ∀ (i j : Int) (d : PyData), undat [Va.dat (.int i), Va.dat d, Va.dat (.int j)] = some [.int i, d, .int j] := fun _ _ _ => rfl
  have u2 : ∀ (d e : PyData), undat [Va.dat d, Va.dat e] = some [d, e] := fun _ _ => rfl
  have pn : partV (.dat .none) = some none := rfl
  have pi : ∀ i : Int, partV (.dat (.int i)) = some (some i) := fun _ => rfl
  have vR : ∀ st (u : List Num), view st (.new [.dat (TD u)]) = some (.list [TD u]) := fun _ _ => rfl
  have ad1 : opBin .add (.list ((Q.take p.toNat).map TD)) (.list [TD (sh t (some k))]) = some (.new ((Q.take p.toNat ++ [sh t (some k)]).map fun s => .dat (TD s))) := add_RL (bs := [sh t (some k)]) (by simp only [List.length_take, List.length_cons, List.length_nil]; omega)
  have ad2 : opBin .add (.list ((Q.take p.toNat ++ [sh t (some k)]).map TD)) (.list ((Q.drop p.toNat).map TD)) = some (.new (V.map fun s => .dat (TD s))) := by
    rw [← hV]
    exact add_RL (by simp only [List.length_append, List.length_take, List.length_drop, List.length_cons, List.length_nil]; omega)
  have bT : ∀ xs : List (List Num), biF .tuple (.list (xs.map TD)) = some (.dat (RD xs)) := fun _ => rfl
  have rv : ∀ φ ρ st, ρ[7]? = some (some (.dat (RD V))) → evE φ (.rev (.var 7)) ρ st = .ok (.dat (RD V.reverse)) st := fun φ ρ st h => by
    rw [E_rev, E_var, h]
    show Res.ok (Va.dat (.tuple (V.map TD).reverse)) st = _
    rw [← List.map_reverse]; rfl
  have fz2 : ∀ (rs : List (List Num)) (st : Sto), frzV (.dat (RD rs)) st = .ok (.dat (RD rs)) st := fun _ _ => rfl
  have vg : ∀ st, view st (.new [.dat (.int 0), .dat (D g), .dat (.int 0)]) = some (.list [.int 0, D g, .int 0]) := fun _ => rfl
  refine ev_call (F := f33) rfl rfl ?_
  show Ev (evS (callF tb (n + 5)) f33.body [some (.ref 1), none, none, none, none, none, none, none, none, none] st) (finE false st.length _)
  unfold f33
  dsimp only
  rw [S_seq, S_unpack]
  simp only [E_tup, E_bin, E_frz, E_lst, E_call, A_cons, A_nil, E_var, E_lit, Res.bind_ok, Res.of_some, List.getElem?_cons_zero, List.getElem?_cons_succ, Option.bind_some, id_eq, isOut_dat, isOut_ref, view_dat, e1, a_add, p30, z3, e2, z2, e3, u3]
  rw [hwn]
  have sa : setAll [1, 2, 3] [.int (w : Int), .list [.int 5, .int b], .int p] [some (.ref 1), none, none, none, none, none, none, none, none, none] = some [some (.ref 1), some (.dat (.int w)), some (.dat (.list [.int 5, .int b])), some (.dat (.int p)), none, none, none, none, none, none] := rfl
  rw [if_pos (by rfl), sa]
  simp only [Option.map_some, Res.of_some, Res.bind_ok]
  rw [S_seq, S_unpack, E_tup, A_cons, e4]
  simp only [E_call, A_cons, A_nil, E_var, E_lit, Res.bind_ok, Res.of_some, List.getElem?_cons_zero, List.getElem?_cons_succ, Option.bind_some, id_eq, isOut_dat, isOut_ref, e5, u2]
  have sa : setAll [4, 5] [.list (R.map TD), TD t] [some (.ref 1), some (.dat (.int w)), some (.dat (.list [.int 5, .int b])), some (.dat (.int p)), none, none, none, none, none, none] = some [some (.ref 1), some (.dat (.int w)), some (.dat (.list [.int 5, .int b])), some (.dat (.int p)), some (.dat (.list (R.map TD))), some (.dat (TD t)), none, none, none, none] := rfl
  rw [if_pos (by rfl), sa]
  simp only [Option.map_some, Res.of_some, Res.bind_ok]
  have re39 := rows_ev (callF tb (n + 5)) 39 (by omega) R p lR p0 p1 (some (.ref 1)) (some (.dat (.int w))) (some (.dat (.list [.int 5, .int b]))) (some (.dat (TD t))) st5
  have re39 : evE (callF tb (n + 5)) (.frz (.lc [("k", 9)] (.v 9) (.irange1 (.lit (.int 39))) .yes (.idx (.var 4) (.bin .mod (.bi .int (.bin .add (.bin .mul (.var 9) (.var 9)) (.var 3))) (.lit (.int 3)))))) _ st5 = _ := re39
  rw [S_seq, S_set, re39, hQ]
  simp only [Res.bind_ok, isOut_dat, setEnv, List.set_cons_succ, List.set_cons_zero]
  rw [S_seq, S_set]
  simp only [E_bi, E_bin, E_slc, E_nopart, E_lst, E_call, A_cons, A_nil, E_var, E_lit, Res.bind_ok, Res.of_some, List.getElem?_cons_zero, List.getElem?_cons_succ, Option.bind_some, id_eq, isOut_dat, isOut_ref, view_dat, view_rows, pn, pi, slL_hi _ p p0, slL_lo _ p p0, e6, lp (n + 4) t k _ lt, vR, ad1, ad2, bT, setEnv, List.set_cons_succ, List.set_cons_zero]
  rw [S_seq, S_set]
  have fnd : evE (callF tb (n + 5)) (.frz (.lst (.acons (.call 15 (.acons (.tup (.acons (.var 1) (.acons (.var 7) .anil))) (.acons (.var 5) .anil))) (.acons (.call 15 (.acons (.tup (.acons (.var 1) (.acons (.bi .tuple (.var 6)) .anil))) (.acons (.var 5) .anil))) (.acons (.call 15 (.acons (.tup (.acons (.var 1) (.acons (.frz (.rev (.var 7))) .anil))) (.acons (.var 5) .anil))) .anil)))))
      [some (.ref 1), some (.dat (.int w)), some (.dat (.list [.int 5, .int b])), some (.dat (.int p)), some (.dat (.list (R.map TD))), some (.dat (TD t)), some (.dat (.list (Q.map TD))), some (.dat (RD V)), none, none] st6 = .ok (.dat (.list [.int 0, D g, .int 0])) st6 := by
    have rr : evE (callF tb (n + 5)) (.frz (.rev (.var 7))) [some (.ref 1), some (.dat (.int w)), some (.dat (.list [.int 5, .int b])), some (.dat (.int p)), some (.dat (.list (R.map TD))), some (.dat (TD t)), some (.dat (.list (Q.map TD))), some (.dat (RD V)), none, none] st6 = .ok (.dat (RD V.reverse)) st6 := by
      rw [E_frz, rv _ _ st6 (by rfl)]
      simp only [Res.bind_ok, fz2]
    have c3 : evE (callF tb (n + 5)) (.call 15 (.acons (.tup (.acons (.var 1) (.acons (.frz (.rev (.var 7))) .anil))) (.acons (.var 5) .anil))) [some (.ref 1), some (.dat (.int w)), some (.dat (.list [.int 5, .int b])), some (.dat (.int p)), some (.dat (.list (R.map TD))), some (.dat (TD t)), some (.dat (.list (Q.map TD))), some (.dat (RD V)), none, none] st6 = .ok (.dat (.int 0)) st6 := by
      rw [E_call, A_cons, E_tup, A_cons, E_var]
      simp only [List.getElem?_cons_zero, List.getElem?_cons_succ, Option.bind_some, id_eq, Res.of_some, Res.bind_ok, isOut_dat]
      rw [A_cons, rr]
      simp only [A_cons, A_nil, E_var, Res.bind_ok, Res.of_some, List.getElem?_cons_zero, List.getElem?_cons_succ, Option.bind_some, id_eq, isOut_dat, u2, G2]
    have c1 : evE (callF tb (n + 5)) (.call 15 (.acons (.tup (.acons (.var 1) (.acons (.var 7) .anil))) (.acons (.var 5) .anil))) [some (.ref 1), some (.dat (.int w)), some (.dat (.list [.int 5, .int b])), some (.dat (.int p)), some (.dat (.list (R.map TD))), some (.dat (TD t)), some (.dat (.list (Q.map TD))), some (.dat (RD V)), none, none] st6 = .ok (.dat (.int 0)) st6 := by
      simp only [E_call, E_tup, A_cons, A_nil, E_var, Res.bind_ok, Res.of_some, List.getElem?_cons_zero, List.getElem?_cons_succ, Option.bind_some, id_eq, isOut_dat, u2, G0]
    have c2 : evE (callF tb (n + 5)) (.call 15 (.acons (.tup (.acons (.var 1) (.acons (.bi .tuple (.var 6)) .anil))) (.acons (.var 5) .anil))) [some (.ref 1), some (.dat (.int w)), some (.dat (.list [.int 5, .int b])), some (.dat (.int p)), some (.dat (.list (R.map TD))), some (.dat (TD t)), some (.dat (.list (Q.map TD))), some (.dat (RD V)), none, none] st6 = .ok (.dat (D g)) st6 := by
      simp only [E_call, E_tup, E_bi, A_cons, A_nil, E_var, Res.bind_ok, Res.of_some, List.getElem?_cons_zero, List.getElem?_cons_succ, Option.bind_some, id_eq, isOut_dat, view_dat, bT, u2, G1]
    simp only [E_frz, E_lst, A_cons, A_nil, c1, c2, c3, Res.bind_ok, isOut_dat, zg]
  rw [fnd]
  simp only [Res.bind_ok, isOut_dat, setEnv, List.set_cons_succ, List.set_cons_zero]
  simp only [S_seq, S_ret, E_cmp, E_bi, E_lst, E_call, A_cons, A_nil, E_var, E_lit, Res.bind_ok, Res.of_some, List.getElem?_cons_zero, List.getElem?_cons_succ, Option.bind_some, id_eq, isOut_dat, view_dat, RX, GL, vg, str_eq, Option.map_some, Ev_ok, finE_rt, fin_dat, dr_len hd hd6]
  exact ⟨trivial, hd6⟩
end K12

/-! K12K: the law's turn, the law. -/
namespace K12
open PySem RS PK
theorem world_ev (n : Nat) (rest st : Sto) (ρ : RS.Env) (i1 : ρ[1]? = some (some (.ref 1))) (hd : Dr rest st) :
    Ev (evE (callF tb (n + 6)) (.frz (.lst (.acons (.call 18 (.acons (.var 1) (.acons (.frz (.lst (.acons (.lit (.int 0)) (.acons (.lit (.int 1)) (.acons (.lit (.int 2)) (.acons (.lit (.int 5)) (.acons (.lit (.int 60)) .anil))))))) .anil))) (.acons (.call 18 (.acons (.var 1) (.acons (.frz (.lst (.acons (.lit (.int 0)) (.acons (.lit (.int 0)) (.acons (.lit (.int 1)) (.acons (.bin .pow (.lit (.int 10)) (.lit (.int 9))) (.acons (.bin .pow (.lit (.int 10)) (.lit (.int 30))) (.acons (.bin .pow (.bin .pow (.lit (.int 10)) (.lit (.int 60))) (.lit (.int 14))) .anil)))))))) .anil))) .anil)))) ρ st)
      (fun v st' => ∃ a b, v = .dat (.list [.int a, .int b]) ∧ Wd a b ∧ Dr rest st') := by
  obtain ⟨v1, st1, e1, d1, rfl, h1, hd1⟩ := (on (n := n + 4) [.int 0, .int 1, .int 2, .int 5, .int 60] rest st (by simp) (by simp) hd).get
  obtain ⟨v2, st2, e2, d2, rfl, h2, hd2⟩ := (on (n := n + 4) [.int 0, .int 0, .int 1, .int (10 ^ 9), .int (10 ^ 30), .int ((10 ^ 60) ^ 14)] rest st1 (by simp) (by simp) hd1).get
  have z1 : frzV (.new [.dat (.int 0), .dat (.int 1), .dat (.int 2), .dat (.int 5), .dat (.int 60)]) st = .ok (.dat (.list [.int 0, .int 1, .int 2, .int 5, .int 60])) st := rfl
  have z2 : frzV (.new [.dat (.int 0), .dat (.int 0), .dat (.int 1), .dat (.int (10 ^ 9)), .dat (.int (10 ^ 30)), .dat (.int ((10 ^ 60) ^ 14))]) st1 = .ok (.dat (.list [.int 0, .int 0, .int 1, .int (10 ^ 9), .int (10 ^ 30), .int ((10 ^ 60) ^ 14)])) st1 := rfl
  have z3 : frzV (.new [.dat d1, .dat d2]) st2 = .ok (.dat (.list [d1, d2])) st2 := rfl
  simp only [E_frz, E_lst, E_call, E_bin, A_cons, A_nil, E_var, E_lit, Res.bind_ok, Res.of_some, i1, Option.bind_some, id_eq, isOut_dat, isOut_ref, view_dat, p9, p30, p60, p14, z1, z2, z3, e1, e2, Ev_ok]
  simp only [List.mem_cons, List.mem_nil_iff, or_false] at h1 h2
  rcases h1 with rfl | rfl | rfl | rfl | rfl <;> rcases h2 with rfl | rfl | rfl | rfl | rfl | rfl <;> exact ⟨_, _, rfl, by unfold Wd; decide +kernel, hd2⟩
section
variable (n w : Nat) (a b : Int) (s : List Num) (rest : Sto) (sc tn x7 : Option Va) (hw : Wd a b) (h1 : 1 ≤ w) (h4 : w ≤ 4) (hs : Rw M1 w s)
include hw h1 h4 hs
/-- some rows that are drawn, one by one -/
theorem lots_ev (it body : T) (x6 : Option Va) (m : Nat) (st st0 : Sto) (hm : m ≤ 10)
    (hi : evI (callF tb (n + 6)) it [sc, some (.ref 1), tn, some (.dat (.list [.int a, .int b])), some (.dat (.int w)), some (.dat (TD s)), x6, x7, none] st = .ok ⟨upto 0 m, none⟩ st0)
    (hb : ∀ x st, Dr rest st → Ev (evE (callF tb (n + 6)) body [sc, some (.ref 1), tn, some (.dat (.list [.int a, .int b])), some (.dat (.int w)), some (.dat (TD s)), x6, x7, some x] st) fun v st' => ∃ t, v = .dat (TD t) ∧ Rw M1 w t ∧ Dr rest st') (hd0 : Dr rest st0) :
    Ev (evE (callF tb (n + 6)) (.lc [("k", 8)] (.v 8) it .yes body) [sc, some (.ref 1), tn, some (.dat (.list [.int a, .int b])), some (.dat (.int w)), some (.dat (TD s)), x6, x7, none] st)
      (fun v st' => ∃ R : List (List Num), v = .new (R.map fun t => .dat (TD t)) ∧ R.length = m ∧ (∀ t ∈ R, Rw M1 w t) ∧ Dr rest st') := by
  have lc := lc_draws (φ := callF tb (n + 6)) (own := [("k", 8)]) (j := 8) (body := body) (rest := rest) (fun _ v => ∃ t, v = .dat (TD t) ∧ Rw M1 w t) hi (by rw [upto_len]; omega) (upto_out _ _) (fun x hx s2 hs2 => by
    refine (hb x s2 hs2).imp fun v st' ⟨t, e, ht, hd⟩ => ?_
    subst e
    exact ⟨rfl, ⟨t, rfl, ht⟩, hd⟩) hd0
  obtain ⟨v3, st3, e3, vs, rfl, l3, q3, _, hd3⟩ := lc.get
  obtain ⟨R, rfl, hR⟩ := rows_of (vs := vs) (P := Rw M1 w) fun v hv => by obtain ⟨_, _, h⟩ := q3 v hv; exact h
  rw [List.length_map, upto_len] at l3
  rw [e3, Ev_ok]
  exact ⟨R, rfl, l3, hR, hd3⟩
theorem row_body (x6 : Option Va) (x : Va) (st : Sto) (hd : Dr rest st) : Ev (evE (callF tb (n + 6)) (.call 20 (.acons (.var 1) (.acons (.var 4) (.acons (.var 3) .anil)))) [sc, some (.ref 1), tn, some (.dat (.list [.int a, .int b])), some (.dat (.int w)), some (.dat (TD s)), x6, x7, some x] st) fun v st' => ∃ t, v = .dat (TD t) ∧ Rw M1 w t ∧ Dr rest st' := by
  obtain ⟨v2, st2, e2, t, rfl, ht, hd2⟩ := (rw' (n := n + 3) w a b rest st hw h1 h4 hd).get
  simp only [E_call, A_cons, A_nil, E_var, Res.bind_ok, Res.of_some, List.getElem?_cons_zero, List.getElem?_cons_succ, Option.bind_some, id_eq, isOut_dat, isOut_ref, e2, Ev_ok]
  exact ⟨t, rfl, ht, hd2⟩
theorem level_body (x6 : Option Va) (x : Va) (st : Sto) (hd : Dr rest st) : Ev (evE (callF tb (n + 6)) (.call 21 (.acons (.var 1) (.acons (.var 5) (.acons (.var 3) .anil)))) [sc, some (.ref 1), tn, some (.dat (.list [.int a, .int b])), some (.dat (.int w)), some (.dat (TD s)), x6, x7, some x] st) fun v st' => ∃ t, v = .dat (TD t) ∧ Rw M1 w t ∧ Dr rest st' := by
  obtain ⟨v2, st2, e2, t, rfl, lt, ht, lv, hd2⟩ := (level_ok (n + 3) w a b s rest st hw hs.1.1 h4 hd).get
  have lv : Lv s t := Eq.symm lv
  simp only [E_call, A_cons, A_nil, E_var, Res.bind_ok, Res.of_some, List.getElem?_cons_zero, List.getElem?_cons_succ, Option.bind_some, id_eq, isOut_dat, isOut_ref, e2, Ev_ok]
  exact ⟨t, rfl, ⟨⟨lt, ht⟩, lv.ne hs.2⟩, hd2⟩
end
/-- how many rows are drawn -/
theorem range_ev (n : Nat) (c1 c2 c3 c4 c5 : Nat) (hc : c1 ≤ 5 ∧ c2 ≤ 5 ∧ c3 ≤ 5 ∧ c4 ≤ 5 ∧ c5 ≤ 5) (rest st : Sto) (ρ : RS.Env) (i1 : ρ[1]? = some (some (.ref 1))) (hd : Dr rest st) :
    ∃ (m : Nat) (st0 : Sto), m ≤ 5 ∧ evI (callF tb (n + 6)) (.irange1 (.call 18 (.acons (.var 1) (.acons (.frz (.lst (.acons (.lit (.int c1)) (.acons (.lit (.int c2)) (.acons (.lit (.int c3)) (.acons (.lit (.int c4)) (.acons (.lit (.int c5)) .anil))))))) .anil)))) ρ st = .ok ⟨upto 0 m, none⟩ st0 ∧ Dr rest st0 := by
  obtain ⟨v0, st0, e0, d, rfl, h, hd0⟩ := (on (n := n + 4) [.int c1, .int c2, .int c3, .int c4, .int c5] rest st (by simp) (by simp) hd).get
  obtain ⟨m, rfl, hm⟩ : ∃ m : Nat, d = .int m ∧ m ≤ 5 := by
    simp only [List.mem_cons, List.mem_nil_iff, or_false] at h
    rcases h with rfl | rfl | rfl | rfl | rfl
    · exact ⟨c1, rfl, hc.1⟩
    · exact ⟨c2, rfl, hc.2.1⟩
    · exact ⟨c3, rfl, hc.2.2.1⟩
    · exact ⟨c4, rfl, hc.2.2.2.1⟩
    · exact ⟨c5, rfl, hc.2.2.2.2⟩
  have z1 : frzV (.new [.dat (.int c1), .dat (.int c2), .dat (.int c3), .dat (.int c4), .dat (.int c5)]) st = .ok (.dat (.list [.int c1, .int c2, .int c3, .int c4, .int c5])) st := rfl
  refine ⟨m, st0, hm, ?_, hd0⟩
  rw [I_range]
  simp only [E_call, E_frz, E_lst, A_cons, A_nil, E_var, E_lit, Res.bind_ok, Res.of_some, i1, Option.bind_some, id_eq, isOut_dat, isOut_ref, z1, e0]
  rw [if_pos ⟨by omega, by omega⟩, Int.toNat_natCast]
def Lp (sc : PyData) (ρ : RS.Env) (st : Sto) : Prop := ∃ o2 o3 o4 o5 o6 o7, ρ = [some (.dat sc), some (.ref 1), o2, o3, o4, o5, o6, o7, none] ∧ Dr [] st
def turnB : S := match f34.body with | .seq _ (.seq (.forS _ _ b) _) => b | r => r
def endB : S := match turnB with
  | .seq _ (.seq _ (.seq _ (.seq _ (.seq _ (.seq _ (.seq _ r)))))) => r
  | r => r
theorem other_ne {w : Nat} {r : Int} (h1 : 1 ≤ w) (h4 : w ≤ 4) (r0 : 0 ≤ r) (r1 : r < 3) : ∃ v : Nat, 1 + ((w : Int) + r).fmod 4 = v ∧ 1 ≤ v ∧ v ≤ 4 ∧ v ≠ w := by
  have e : ((w : Int) + r).fmod 4 = ((w : Int) + r) % 4 := Int.fmod_eq_emod_of_nonneg _ (by omega)
  rw [e]
  exact ⟨(1 + ((w : Int) + r) % 4).toNat, by omega, by omega, by omega, by omega⟩
theorem end_ok (n w : Nat) (a b : Int) (sc : PyData) (tn o7 : Option Va) (rows : List (List Num)) (t : List Num) (st : Sto) (hw : Wd a b) (h1 : 1 ≤ w) (h4 : w ≤ 4) (hr : ∀ s ∈ rows, Rw M1 w s) (hz : rows.length ≤ 20) (ht : Rw (M1 + M1 + M1) w t) (hd : Dr [] st) :
    Ev (evS (callF tb (n + 6)) endB [some (.dat sc), some (.ref 1), tn, some (.dat (.list [.int a, .int b])), some (.dat (.int w)), some (.dat (TD t)), some (.dat (RD rows)), o7, none] st) fun fl st' => ∃ ρ', fl = .nx ρ' ∧ Lp sc ρ' st' := by
  obtain ⟨v1, st1, e1, rfl, hd1⟩ := (are_ok (n + 2) w a b [] st hw h1 h4 hd).get
  obtain ⟨v2, st2, e2, rfl, hd2⟩ := (right_ok n w a b rows t [] st1 hw h1 h4 hr hz ht hd1).get
  obtain ⟨v3, st3, e3, r, rfl, r0, r1, hd3⟩ := (tk (n := n + 5) 3 [] st2 (by omega) (by omega) hd2).get
  obtain ⟨v, ev, v0, v4, vw⟩ := other_ne h1 h4 r0 r1
  obtain ⟨v5, st5, e5, u, rfl, hu, hd5⟩ := (rw' (n := n + 3) v a b [] st3 hw v0 v4 hd3).get
  have un := fun st => unfit_ok n w rows u st (by have := hu.1.1; omega)
  have md : opBin .mod (.int ((w : Int) + r)) (.int 4) = some (.dat (.int (((w : Int) + r).fmod 4))) := a_mod (by omega)
  have uL : undat [Va.dat (.int w), Va.dat (RD rows)] = some [.int w, RD rows] := rfl
  unfold endB turnB f34
  dsimp only
  rw [S_seq, S_ifs]
  simp only [T_or, T_last, T_not, T_call, A_cons, A_nil, E_var, Res.bind_ok, Res.of_some, List.getElem?_cons_zero, List.getElem?_cons_succ, Option.bind_some, id_eq, isOut_dat, isOut_ref, e1, e2, asBool_bool, Bool.not_true, S_nil]
  rw [S_seq, S_set]
  have xo : evE (callF tb (n + 6)) (.bin .add (.lit (.int 1)) (.bin .mod (.bi .int (.bin .add (.var 4) (.call 17 (.acons (.var 1) (.acons (.lit (.int 3)) .anil))))) (.lit (.int 4)))) [some (.dat sc), some (.ref 1), tn, some (.dat (.list [.int a, .int b])), some (.dat (.int w)), some (.dat (TD t)), some (.dat (RD rows)), o7, none] st2 = .ok (.dat (.int v)) st3 := by
    simp only [E_bin, E_bi, E_call, A_cons, A_nil, E_var, E_lit, Res.bind_ok, Res.of_some, List.getElem?_cons_zero, List.getElem?_cons_succ, Option.bind_some, id_eq, isOut_dat, isOut_ref, view_dat, e3, a_add, b_int, md, ev]
  rw [E_call, A_cons, E_var]
  simp only [List.getElem?_cons_zero, List.getElem?_cons_succ, Option.bind_some, id_eq, Res.of_some, Res.bind_ok, isOut_ref]
  rw [A_cons, xo]
  simp only [A_cons, A_nil, E_var, Res.bind_ok, Res.of_some, List.getElem?_cons_zero, List.getElem?_cons_succ, Option.bind_some, id_eq, isOut_dat, isOut_ref, e5, setEnv, List.set_cons_succ, List.set_cons_zero]
  rw [S_seq, S_ifs]
  simp only [T_not, T_call, E_tup, A_cons, A_nil, E_var, Res.bind_ok, Res.of_some, List.getElem?_cons_zero, List.getElem?_cons_succ, Option.bind_some, id_eq, isOut_dat, uL, un, asBool_bool, Bool.not_true, S_nil, Ev_ok]
  exact ⟨_, rfl, _, _, _, _, _, _, rfl, hd5⟩
theorem add_RL' {as bs : List (List Num)} (h : as.length + bs.length ≤ 1000) : opBin .add (.list (as.map TD)) (.list (bs.map TD)) = some (.new ((as ++ bs).map fun s => .dat (TD s))) := add_RL h
theorem turn_ok (n : Nat) (sc : PyData) (i : Int) (o3 o4 o5 o6 o7 : Option Va) (st : Sto) (hd : Dr [] st) :
    Ev (evS (callF tb (n + 6)) turnB [some (.dat sc), some (.ref 1), some (.dat (.int i)), o3, o4, o5, o6, o7, none] st) fun fl st' => ∃ ρ', fl = .nx ρ' ∧ Lp sc ρ' st' := by
  have hM := M1_pos
  obtain ⟨v1, st1, e1, a, b, rfl, hw, hd1⟩ := (world_ev n [] st [some (.dat sc), some (.ref 1), some (.dat (.int i)), o3, o4, o5, o6, o7, none] rfl hd).get
  obtain ⟨v2, st2, e2, r, rfl, r0, r1, hd2⟩ := (tk (n := n + 5) 4 [] st1 (by omega) (by omega) hd1).get
  obtain ⟨w, hwn, w1, w4⟩ : ∃ w : Nat, 1 + r = w ∧ 1 ≤ w ∧ w ≤ 4 := ⟨(1 + r).toNat, by omega, by omega, by omega⟩
  obtain ⟨v3, st3, e3, s, rfl, hs, hd3⟩ := (rw' (n := n + 3) w a b [] st2 hw w1 w4 hd2).get
  obtain ⟨m4, st4', m4le, i4, hd4'⟩ := range_ev n 0 1 2 3 5 (by omega) [] st3 [some (.dat sc), some (.ref 1), some (.dat (.int i)), some (.dat (.list [.int a, .int b])), some (.dat (.int w)), some (.dat (TD s)), o6, o7, none] rfl hd3
  obtain ⟨v4, st4, e4, R1, rfl, l1, hR1, hd4⟩ := (lots_ev n w a b s [] (some (.dat sc)) (some (.dat (.int i))) o7 hw w1 w4 hs _ (.call 20 (.acons (.var 1) (.acons (.var 4) (.acons (.var 3) .anil)))) o6 m4 st3 st4' (by omega) i4 (fun x st h => row_body n w a b s [] (some (.dat sc)) (some (.dat (.int i))) o7 hw w1 w4 hs o6 x st h) hd4').get
  obtain ⟨m5, st5', m5le, i5, hd5'⟩ := range_ev n 0 0 1 2 4 (by omega) [] st4 [some (.dat sc), some (.ref 1), some (.dat (.int i)), some (.dat (.list [.int a, .int b])), some (.dat (.int w)), some (.dat (TD s)), some (.dat (.list (R1.map TD))), o7, none] rfl hd4
  obtain ⟨v5, st5, e5, R2, rfl, l2, hR2, hd5⟩ := (lots_ev n w a b s [] (some (.dat sc)) (some (.dat (.int i))) o7 hw w1 w4 hs _ (.call 21 (.acons (.var 1) (.acons (.var 5) (.acons (.var 3) .anil)))) (some (.dat (.list (R1.map TD)))) m5 st4 st5' (by omega) i5 (fun x st h => level_body n w a b s [] (some (.dat sc)) (some (.dat (.int i))) o7 hw w1 w4 hs _ x st h) hd5').get
  have hR : ∀ t ∈ R1 ++ R2, Rw M1 w t := fun t ht => (List.mem_append.mp ht).elim (hR1 t) (hR2 t)
  have lR : (R1 ++ R2).length ≤ 20 := by rw [List.length_append]; omega
  have ad : opBin .add (.list (R1.map TD)) (.list (R2.map TD)) = some (.new ((R1 ++ R2).map fun s => .dat (TD s))) := add_RL (by omega)
  have bT : ∀ xs : List (List Num), biF .tuple (.list (xs.map TD)) = some (.dat (RD xs)) := fun _ => rfl
  have u0 : undat [] = some [] := rfl
  generalize hRR : R1 ++ R2 = R at hR lR ad
  unfold turnB f34
  dsimp only
  rw [S_seq, S_set, e1]
  simp only [Res.bind_ok, isOut_dat, setEnv, List.set_cons_succ, List.set_cons_zero]
  rw [S_seq, S_set]
  simp only [E_bin, E_call, A_cons, A_nil, E_var, E_lit, Res.bind_ok, Res.of_some, List.getElem?_cons_zero, List.getElem?_cons_succ, Option.bind_some, id_eq, isOut_dat, isOut_ref, view_dat, e2, a_add, hwn, setEnv, List.set_cons_succ, List.set_cons_zero]
  rw [S_seq, S_set]
  simp only [E_call, A_cons, A_nil, E_var, Res.bind_ok, Res.of_some, List.getElem?_cons_zero, List.getElem?_cons_succ, Option.bind_some, id_eq, isOut_dat, isOut_ref, e3, setEnv, List.set_cons_succ, List.set_cons_zero]
  have e4 : evE (callF tb (n + 6)) (.lc [("k", 8)] (.v 8) (.irange1 (.call 18 (.acons (.var 1) (.acons (.frz (.lst (.acons (.lit (.int 0)) (.acons (.lit (.int 1)) (.acons (.lit (.int 2)) (.acons (.lit (.int 3)) (.acons (.lit (.int 5)) .anil))))))) .anil)))) .yes (.call 20 (.acons (.var 1) (.acons (.var 4) (.acons (.var 3) .anil))))) _ st3 = _ := e4
  have e5 : evE (callF tb (n + 6)) (.lc [("k", 8)] (.v 8) (.irange1 (.call 18 (.acons (.var 1) (.acons (.frz (.lst (.acons (.lit (.int 0)) (.acons (.lit (.int 0)) (.acons (.lit (.int 1)) (.acons (.lit (.int 2)) (.acons (.lit (.int 4)) .anil))))))) .anil)))) .yes (.call 21 (.acons (.var 1) (.acons (.var 5) (.acons (.var 3) .anil))))) _ st4 = _ := e5
  rw [S_seq, S_set, E_frz, e4]
  simp only [Res.bind_ok, frz_rows, isOut_dat, setEnv, List.set_cons_succ, List.set_cons_zero]
  rw [S_seq, S_set, E_frz, E_bin, E_var]
  simp only [List.getElem?_cons_zero, List.getElem?_cons_succ, Option.bind_some, id_eq, Res.of_some, Res.bind_ok]
  rw [e5]
  simp only [Res.bind_ok, Res.of_some, view_dat, view_rows, ad, frz_rows, isOut_dat, setEnv, List.set_cons_succ, List.set_cons_zero]
  rw [S_seq, S_set]
  simp only [E_bi, E_var, Res.bind_ok, Res.of_some, List.getElem?_cons_zero, List.getElem?_cons_succ, Option.bind_some, id_eq, view_dat, bT, isOut_dat, setEnv, List.set_cons_succ, List.set_cons_zero]
  have fin : ∀ (t : List Num) (st6 : Sto), Rw (M1 + M1 + M1) w t → Dr [] st6 → _ := fun t st6 ht hd6 => end_ok n w a b sc (some (.dat (.int i))) o7 R t st6 hw w1 w4 hR lR ht hd6
  unfold endB turnB f34 at fin
  dsimp only at fin
  rw [S_seq, S_ifs]
  by_cases q : R = []
  · simp only [T_and, T_cmp, E_tup, A_nil, E_var, Res.bind_ok, Res.of_some, List.getElem?_cons_zero, List.getElem?_cons_succ, Option.bind_some, id_eq, view_dat, u0, ne_RD, decide_eq_true q, Bool.not_true, S_nil]
    exact fin s st5 (hs.up (by omega)) hd5
  · obtain ⟨v6, st6, e6, r6, rfl, _, _, hd6⟩ := (tk (n := n + 5) 3 [] st5 (by omega) (by omega) hd5).get
    have h0 : 1 ≤ R.length := List.length_pos_iff.mpr q
    simp only [T_and, T_last, T_cmp, E_tup, E_call, A_cons, A_nil, E_var, E_lit, Res.bind_ok, Res.of_some, List.getElem?_cons_zero, List.getElem?_cons_succ, Option.bind_some, id_eq, isOut_dat, isOut_ref, view_dat, u0, ne_RD, decide_eq_false q, Bool.not_false, e6, eq0]
    by_cases q2 : r6 = 0
    · obtain ⟨v7, st7, e7, t, rfl, ht, _, hd7⟩ := (lmade_ok (n + 3) w M1 a b R [] st6 hw w4 hR h0 (by omega) hd6).get
      obtain ⟨v8, st8, e8, r8, rfl, _, _, hd8⟩ := (tk (n := n + 5) 2 [] st7 (by omega) (by omega) hd7).get
      simp only [decide_eq_true q2]
      rw [S_seq, S_set]
      simp only [E_call, A_cons, A_nil, E_var, Res.bind_ok, Res.of_some, List.getElem?_cons_zero, List.getElem?_cons_succ, Option.bind_some, id_eq, isOut_dat, isOut_ref, e7, setEnv, List.set_cons_succ, List.set_cons_zero]
      rw [S_seq, S_set]
      simp only [E_ife, T_cmp, E_call, A_cons, A_nil, E_var, E_lit, Res.bind_ok, Res.of_some, List.getElem?_cons_zero, List.getElem?_cons_succ, Option.bind_some, id_eq, isOut_dat, isOut_ref, view_dat, e8, eq0]
      by_cases q3 : r8 = 0
      · obtain ⟨v9, st9, e9, t', rfl, ht', hd9⟩ := (near_ok (n + 3) w (M1 + M1) a b t [] st8 hw w4 ht (by omega) hd8).get
        simp only [decide_eq_true q3, Res.bind_ok, e9, isOut_dat, setEnv, List.set_cons_succ, List.set_cons_zero, S_nil]
        exact fin t' st9 ht' hd9
      · simp only [decide_eq_false q3, Res.bind_ok, isOut_dat, setEnv, List.set_cons_succ, List.set_cons_zero, S_nil]
        exact fin t st8 (ht.up (by omega)) hd8
    · simp only [decide_eq_false q2, S_nil, Res.bind_ok]
      exact fin s st6 (hs.up (by omega)) hd6
theorem turns_ok (n : Nat) (sc : PyData) : ∀ (k : Nat) (i : Int) (ρ : RS.Env) (st : Sto), Lp sc ρ st → Ev (forL (fun ρ s => evS (callF tb (n + 6)) turnB ρ s) (.v 2) (upto i k) ρ st) fun fl st' => ∃ ρ', fl = .nx ρ' ∧ Lp sc ρ' st'
  | 0, i, ρ, st, h => ⟨ρ, rfl, h⟩
  | k + 1, i, ρ, st, h => by
    obtain ⟨o2, o3, o4, o5, o6, o7, rfl, hd⟩ := h
    obtain ⟨fl, st1, e1, ρ', rfl, h'⟩ := (turn_ok n sc i o3 o4 o5 o6 o7 st hd).get
    rw [upto, forL_nx (b := fun ρ s => evS (callF tb (n + 6)) turnB ρ s) (i := 2) (ρ := [some (.dat sc), some (.ref 1), o2, o3, o4, o5, o6, o7, none]) e1]
    exact turns_ok n sc k (i + 1) ρ' st1 h'
theorem law : ∀ ns : List Int, ns.length ≤ 63 → ∃ st, callF tb 8 34 [.dat (.list (ns.map .int))] [] = .ok (.dat (.bool true)) st := by
  intro ns hn
  have main : Ev (callF tb 8 34 [.dat (.list (ns.map .int))] []) (fun v _ => v = .dat (.bool true)) := by
    obtain ⟨v1, st1, e1, rfl, hd1⟩ := (urn_ok (iu := 16) (tb := tb) rfl 6 ns hn).get
    obtain ⟨fl, st2, e2, ρ', rfl, o2, o3, o4, o5, o6, o7, rfl, hd2⟩ := (turns_ok 1 (.list (ns.map .int)) 5 0 [some (.dat (.list (ns.map .int))), some (.ref 1), none, none, none, none, none, none, none] st1 ⟨_, _, _, _, _, _, rfl, hd1⟩).get
    obtain ⟨v3, st3, e3, rfl, hd3⟩ := (long_ok 1 [] st2 hd2).get
    refine ev_call (F := f34) rfl rfl ?_
    show Ev (evS (callF tb 7) (.seq (.set 1 (.call 16 (.acons (.var 0) .anil))) (.seq (.forS (.v 2) (.irange1 (.lit (.int 5))) turnB) (.seq (.ret (.call 33 (.acons (.var 1) .anil))) .nil))) [some (.dat (.list (ns.map .int))), none, none, none, none, none, none, none, none] []) (finE false 0 _)
    rw [S_seq, S_set]
    simp only [E_call, A_cons, A_nil, E_var, Res.bind_ok, Res.of_some, List.getElem?_cons_zero, List.getElem?_cons_succ, Option.bind_some, id_eq, isOut_dat, isOut_ref, e1, setEnv, List.set_cons_succ, List.set_cons_zero]
    rw [S_seq, S_forS]
    have it : ∀ ρ st, evI (callF tb 7) (.irange1 (.lit (.int 5))) ρ st = .ok ⟨upto 0 5, none⟩ st := fun ρ st => by rw [I_range, E_lit]; rfl
    rw [it]
    simp only [Res.bind_ok]
    rw [e2]
    simp only [S_seq, S_ret, E_call, A_cons, A_nil, E_var, Res.bind_ok, Res.of_some, List.getElem?_cons_zero, List.getElem?_cons_succ, Option.bind_some, id_eq, isOut_dat, isOut_ref, e3, Ev_ok, finE_rt, fin_dat]
  obtain ⟨v, st, e, rfl⟩ := main.get
  exact ⟨st, e⟩
end K12

open PySem PySem.W PyProof.Rows
set_option maxHeartbeats 0 in
theorem PySem.Challenge.cw_ridgespans_k12_spreads_and_gaps_holds : PySem.Challenge.rw_ridgespans_k12_spreads_and_gaps.Holds := by
  w_on; o_law; k_head; (case hw => w_witness2)
  k_fill
  exact RS.walk_rs (l := PySem.Challenge.rw_ridgespans_k12_spreads_and_gaps) (n := 63) (N := 8) (i := 34) (x := "script") (tb := K12.tb) (gl := K12.gl) rfl (by decide) rfl ⟨rfl, by decide, by decide⟩ (fun w h Y => PySem.W.kIn_of Y) (fun w => by kernel_rfl) rfl rfl rfl K12.law

