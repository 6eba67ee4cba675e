import PyProof.Rows.All
import Wide.All
import OpenK.AllK
import Wide.FinOn
import HandS.ForMost
import HandS.Walk
import HandS.IsInst
import HandS.TupAny
import HandS.TupLe
import HandS.Zip
import HandS.SetKeys
import HandS.SortRule
import HandS.Codes
import HandS.Wide
import KE.KDictPairs
import KE.KDictCopyH
import HandS.Ends
import HandS.Style
import KE.KRevSl
import KE.SortData
import HandS.Strs
import HandS.SetFor
import HandS.More
import PyProof.ReprRoads
import HandS.ReCall
import KE.DataFind
import KE.GoesMore
import KE.KDictZip
import HandS.Dict
import HandS.NoneIn
import HandS.Small
import HandS.Words
import PySem.Challenge.RW_nameholes_k13_lets_put
set_option Elab.async false
set_option linter.all false
set_option maxRecDepth 100000
set_option maxHeartbeats 4000000
namespace NH
abbrev Tx := List Nat
inductive Ky where
  | int (i : Int) | str (x : Tx)
  deriving DecidableEq, Inhabited
inductive P where
  | non | bl (b : Bool) | int (i : Int) | str (x : Tx) | tup (l : List P) | lst (l : List P) | dic (l : List (Ky × P))
  deriving Inhabited
inductive D where
  | p (x : P) | r (k : Nat) | c (x : P)
  deriving Inhabited
inductive MO where
  | lst (l : List P) | lstL (l : List P) | dic (l : List (Ky × P)) | dicL (l : List (Ky × P)) | dn (l : List (Option Ky × P)) | dead
  deriving Inhabited
abbrev Store := List MO
inductive R (α : Type) where
  | ok (a : α) (st : Store)
  | no
  deriving Inhabited
@[inline] def R.bind {α β : Type} (m : R α) (f : α → Store → R β) : R β :=
  match m with
  | .ok a st => f a st
  | .no => .no
@[simp] theorem R.bind_ok {α β : Type} (a : α) (st : Store) (f : α → Store → R β) : (R.ok a st).bind f = f a st := rfl
@[simp] theorem R.bind_no {α β : Type} (f : α → Store → R β) : (R.no : R α).bind f = .no := rfl
theorem R.bind_eq_ok {α β : Type} {m : R α} {f : α → Store → R β} {b : β} {st : Store} (h : m.bind f = .ok b st) : ∃ a st1, m = .ok a st1 ∧ f a st1 = .ok b st := by
  cases m with
  | ok a st1 => exact ⟨a, st1, rfl, h⟩
  | no => cases h
@[inline] def lift {α : Type} (o : Option α) (st : Store) : R α :=
  match o with
  | some a => .ok a st
  | none => .no
@[simp] theorem lift_some {α : Type} (a : α) (st : Store) : lift (some a) st = .ok a st := rfl
@[simp] theorem lift_none {α : Type} (st : Store) : lift (none : Option α) st = .no := rfl
theorem lift_eq_ok {α : Type} {o : Option α} {st st' : Store} {a : α} (h : lift o st = .ok a st') : o = some a ∧ st' = st := by
  cases o with
  | none => cases h
  | some b => cases h; exact ⟨rfl, rfl⟩
def LINE : Nat := 16777216
mutual
def P.eqv : P → P → Bool
  | .non, .non => true
  | .bl a, .bl b => a == b
  | .int a, .int b => a == b
  | .bl a, .int b => (if a then 1 else 0) == b
  | .int b, .bl a => b == (if a then 1 else 0)
  | .str a, .str b => a == b
  | .tup a, .tup b => P.eqvs a b
  | .lst a, .lst b => P.eqvs a b
  | _, _ => false
def P.eqvs : List P → List P → Bool
  | [], [] => true
  | a :: l, b :: m => P.eqv a b && P.eqvs l m
  | _, _ => false
end
mutual
def P.deep : P → Nat
  | .tup l => P.deeps l + 1
  | .lst l => P.deeps l + 1
  | .dic _ => 1000
  | _ => 0
def P.deeps : List P → Nat
  | [] => 0
  | p :: l => max (P.deep p) (P.deeps l)
end
mutual
def P.sh : P → Bool
  | .str x => x.all fun c => decide (c < 1114112)
  | .tup l => P.shs l
  | .lst l => P.shs l
  | .dic _ => false
  | _ => true
def P.shs : List P → Bool
  | [] => true
  | p :: l => P.sh p && P.shs l
end
def P.flat : P → Bool
  | .tup _ => false | .lst _ => false | .dic _ => false | _ => true
def P.toKy : P → Option Ky
  | .int i => some (.int i)
  | .str x => some (.str x)
  | _ => none
def Ky.toP : Ky → P
  | .int i => .int i
  | .str x => .str x
def P.asInt : P → Option Int | .int i => some i | _ => none
def P.asBl : P → Option Bool | .bl i => some i | _ => none
def P.asStr : P → Option Tx | .str i => some i | _ => none
def P.asLst : P → Option (List P) | .lst i => some i | _ => none
def P.asTup : P → Option (List P) | .tup i => some i | _ => none
def kget (l : List (Ky × P)) (k : Ky) : Option P :=
  match l with
  | [] => none
  | (j, p) :: r => if j = k then some p else kget r k
def kput (l : List (Ky × P)) (k : Ky) (p : P) : List (Ky × P) :=
  if (kget l k).isSome then l.map fun e => if e.1 = k then (e.1, p) else e else l ++ [(k, p)]
def kdel (l : List (Ky × P)) (k : Ky) : List (Ky × P) := l.filter fun e => decide (e.1 ≠ k)
def kmerge (l more : List (Ky × P)) : List (Ky × P) := more.foldl (fun a e => kput a e.1 e.2) l
def pairUp : List P → Option (List (Ky × P))
  | [] => some []
  | k :: v :: r => match k.toKy, pairUp r with
    | some k, some l => some ((k, v) :: l)
    | _, _ => none
  | [_] => none
def toEnts : List P → Option (List (Ky × P))
  | [] => some []
  | .tup [k, v] :: r => match k.toKy, toEnts r with
    | some k, some l => some ((k, v) :: l)
    | _, _ => none
  | _ => none
def nkOf : P → Option (Option Ky)
  | .non => some none
  | .int i => some (some (.int i))
  | .str x => some (some (.str x))
  | _ => none
def nkget (l : List (Option Ky × P)) (k : Option Ky) : Option P :=
  match l with
  | [] => none
  | (j, p) :: r => if j = k then some p else nkget r k
def nkput (l : List (Option Ky × P)) (k : Option Ky) (p : P) : List (Option Ky × P) :=
  if (nkget l k).isSome then l.map fun e => if e.1 = k then (e.1, p) else e else l ++ [(k, p)]
def nkmerge (l more : List (Option Ky × P)) : List (Option Ky × P) := more.foldl (fun a e => nkput a e.1 e.2) l
def toNEnts : List P → Option (List (Option Ky × P))
  | [] => some []
  | .tup [k, v] :: r => match nkOf k, toNEnts r with
    | some k, some l => some ((k, v) :: l)
    | _, _ => none
  | _ => none
def someK (l : List (Ky × P)) : List (Option Ky × P) := l.map fun e => (some e.1, e.2)
def ixOf (n : Nat) (i : Int) : Option Nat := if 0 ≤ i then (if i < n then some i.toNat else none) else if -(n : Int) ≤ i then some (i + n).toNat else none
def cutIx (n d : Nat) : Option Int → Nat
  | none => d
  | some v => if v < 0 then (v + n).toNat else min v.toNat n
def cut {α : Type} (l : List α) (lo hi : Option Int) : List α := (l.drop (cutIx l.length 0 lo)).take (cutIx l.length l.length hi - cutIx l.length 0 lo)
def natTx (n : Nat) : Tx := (Nat.toDigits 10 n).map Char.toNat
mutual
def P.alk : P → P → Bool
  | .non, .non => true
  | .bl _, .bl _ => true
  | .int _, .int _ => true
  | .str _, .str _ => true
  | .lst l, .lst m => P.alks l m
  | .tup l, .tup m => P.alks l m
  | _, _ => false
def P.alks : List P → List P → Bool
  | x :: l, y :: m => P.alk x y && P.alks l m
  | [], _ => true
  | _ :: _, [] => true
end
mutual
def P.lt : P → P → Bool
  | .bl a, .bl b => !a && b
  | .int a, .int b => decide (a < b)
  | .str a, .str b => decide (a < b)
  | .lst l, .lst m => P.lts l m
  | .tup l, .tup m => P.lts l m
  | _, _ => false
def P.lts : List P → List P → Bool
  | x :: l, y :: m => if P.eqv x y = true then P.lts l m else P.lt x y
  | [], [] => false
  | [], _ :: _ => true
  | _ :: _, [] => false
end
def isTupB : P → Bool
  | .tup _ => true
  | _ => false
def neT : P → Bool
  | .tup (_ :: _) => true
  | _ => false
def notT : P → Bool
  | .non => false
  | .tup _ => false
  | _ => true
def catP : P → P → Option (List P)
  | .lst l, .lst m => if l.length + m.length ≤ LINE then some (l ++ m) else none
  | _, _ => none
def srtOk (l : List P) : Bool := (l.all fun a => l.all fun b => a.alk b) && (l.all fun a => a.sh && decide (a.deep ≤ 60)) && (l.all isTupB || l.all notT)
def srtLe (a b : P) : Bool := !(b.lt a)
def srtP : P → Option (List P)
  | .lst l => if srtOk l && decide (l.length ≤ LINE) then some (l.mergeSort srtLe) else none
  | _ => none
def allStr : List P → Option (List Tx)
  | [] => some []
  | .str b :: r => (allStr r).map (b :: ·)
  | _ => none
def one1T (l : List Tx) (x : Tx) : List Tx := if l.any (· == x) then l else l ++ [x]
def uqT (l : List Tx) : List Tx := l.foldl one1T []
def lsetP : P → Option Nat
  | .lst l => (allStr l).bind fun ts => if ts.length < 4000 then some (uqT ts).length else none
  | .tup l => (allStr l).bind fun ts => if ts.length < 4000 then some (uqT ts).length else none
  | _ => none
def ssetP : P → Option (List P)
  | .lst l => (allStr l).bind fun ts => if (uqT ts).length < 64 then some (((uqT ts).map P.str).mergeSort srtLe) else none
  | _ => none
def ksrtP : P → Option (List P)
  | .dic l => (allStr (l.map fun e => e.1.toP)).bind fun ts => if ts.length < 64 then some ((ts.map P.str).mergeSort srtLe) else none
  | _ => none
def nupdM : MO → P → Option MO
  | .dn l, .lst m => (toNEnts m).bind fun es => if l.length + m.length ≤ LINE then some (.dn (nkmerge l es)) else none
  | _, _ => none
def nsetM : MO → P → P → Option MO
  | .dn l, q, w => if l.length < LINE then (nkOf q).map fun k => .dn (nkput l k w) else none
  | _, _, _ => none
def revP : P → Option P
  | .lst l => some (.lst l.reverse)
  | .tup l => some (.tup l.reverse)
  | _ => none
def idxT : List Tx → Tx → Option Nat
  | [], _ => none
  | x :: l, z => if x = z then some 0 else (idxT l z).map (· + 1)
def lidxP : P → P → Option P
  | .lst l, .str z => (allStr l).bind fun ts => (idxT ts z).map fun j : Nat => .int (j : Int)
  | _, _ => none
def lcntP : P → P → Option P
  | .lst l, x => if (l.all fun a => a.sh) && x.sh && decide (x.deep ≤ 60) then some (.int ((l.countP fun y => y.eqv x : Nat) : Int)) else none
  | _, _ => none
def kysOf : List P → Option (List Ky)
  | [] => some []
  | p :: l => match p.toKy, kysOf l with
    | some k, some ks => some (k :: ks)
    | _, _ => none
def dzipP : P → P → Option (List (Ky × P))
  | .tup l, .tup m => if l.length = m.length ∧ l.length ≤ LINE then (kysOf l).map fun ks => kmerge [] (ks.zip m) else none
  | _, _ => none
inductive BOp where | add | sub | mul | fdiv | mod | pow
  deriving DecidableEq
inductive COp where | eq | ne | lt | le | gt | ge | isN | isnN | isB | isnB | inn | nin
  deriving DecidableEq
inductive Ty where | str | int | bool | tuple | list | dict
  deriving DecidableEq
inductive Bi where
  | len | abs | int | str | all | any | sum | min2 | max2 | tuple | isi (ts : List Ty)
  deriving DecidableEq
inductive Mt where
  | append | extend | pop0 | pop1 | insert | reverse | clear
  | get1 | get2 | update | setdefault | dpop1
  | join | index | count
  deriving DecidableEq
inductive CT where
  | nm (i : Nat)
  | tup (l : List CT)
mutual
inductive CE where
  | var (i : Nat)
  | cst (p : P)
  | glob (x : Tx) (d : D)
  | tup (es : CEs)
  | lst (m : Bool) (es : CEs)
  | dct (m : Bool) (es : CEs)
  | lcopy (m : Bool) (e : CE)
  | dcopy (m : Bool) (e : CE)
  | srt (m : Bool) (e : CE)
  | lset (e : CE)
  | bin (op : BOp) (a b : CE)
  | cat (a b : CE)
  | ninn (a d : CE) | nidx (d a : CE) | nget (d a x : CE) | ncopy (d : CE) | nupd (d e : CE)
  | dzip (m : Bool) (a b : CE)
  | sset (m : Bool) (e : CE) | ksrt (m : Bool) (e : CE)
  | neg (a : CE)
  | cmp (op : COp) (a b : CE)
  | chain (op op' : COp) (a b c : CE)
  | and (es : CEs)
  | or (es : CEs)
  | not (a : CE)
  | ife (c a b : CE)
  | idx (a i : CE)
  | sl (a : CE) (lo hi : CO)
  | rev (a : CE)
  | stuck
  | lidx (o e : CE)
  | lcnt (o e : CE)
  | rep (e : CE)
  | call (f : Nat) (es : CEs)
  | bi (b : Bi) (es : CEs)
  | meth (m : Mt) (o : CE) (es : CEs)
  | comp (m : Bool) (elt : CE) (tg : CT) (src : CI) (ifc : CO) (own : List Nat)
  | kcomp (m : Bool) (elt : CE) (tg : CT) (e : CE) (ifc : CO) (own : List Nat)
  | frz (e : CE)
inductive CEs where
  | nil
  | cons (e : CE) (es : CEs)
inductive CO where
  | none
  | some (e : CE)
inductive CI where
  | val (e : CE)
  | keys (e : CE)
  | rng1 (e : CE)
  | rng2 (a b : CE)
  | enum (e : CE)
  | zip (a b : CE)
  | items (e : CE)
end
mutual
inductive CS where
  | stuck
  | expr (e : CE)
  | ret (e : CE)
  | retN
  | asg (t : CT) (e : CE)
  | par (i j : Nat) (a b : CE)
  | sub (a i e : CE)
  | nset (a i e : CE)
  | aug (i : Nat) (op : BOp) (e : CE)
  | ife (c : CE) (a b : CSs)
  | forr (t : CT) (src : CI) (b : CSs)
  | kfor (t : CT) (e : CE) (b : CSs)
  | whil (c : CE) (b : CSs)
  | brk
  | cont
  | pass
inductive CSs where
  | nil
  | cons (s : CS) (ss : CSs)
end
abbrev Env := List (Option D)
def getV : Env → Nat → Option D
  | [], _ => none
  | x :: _, 0 => x
  | _ :: r, n + 1 => getV r n
def setV : Env → Nat → D → Env
  | [], _, _ => []
  | _ :: r, 0, d => some d :: r
  | x :: r, n + 1, d => x :: setV r n d
def delV : Env → Nat → Env
  | [], _ => []
  | _ :: r, 0 => none :: r
  | x :: r, n + 1 => x :: delV r n
def delVs (δ : Env) : List Nat → Env
  | [] => δ
  | i :: l => delV (delVs δ l) i
def rd (st : Store) : D → Option P
  | .p x => some x
  | .r k => match st[k]? with
    | some (.lst l) => some (.lst l)
    | some (.lstL l) => some (.lst l)
    | some (.dic l) => some (.dic l)
    | some (.dicL l) => some (.dic l)
    | _ => none
  | .c x => some x
def rdN (st : Store) : D → Option P
  | .c _ => none
  | d => rd st d
def rdS (st : Store) : D → Option P
  | .c (.tup _) => none
  | d => rd st d
def rds (st : Store) : List D → Option (List P)
  | [] => some []
  | d :: r => match rd st d, rds st r with
    | some p, some l => some (p :: l)
    | _, _ => none
def rdsS (st : Store) : List D → Option (List P)
  | [] => some []
  | d :: r => match rdS st d, rdsS st r with
    | some p, some l => some (p :: l)
    | _, _ => none
def dnOf (st : Store) : D → Option (List (Option Ky × P))
  | .p (.dic l) => some (someK l)
  | .r k => match st[k]? with
    | some (.dic l) => some (someK l)
    | some (.dn l) => some l
    | _ => none
  | _ => none
def isDn (st : Store) : D → Bool
  | .r k => match st[k]? with
    | some (.dn _) => true
    | _ => false
  | _ => false
def pure1 : D → Option P
  | .p x => some x
  | _ => none
def pureC : D → Option P
  | .p x => some x
  | .c x => some x
  | _ => none
def pures : List D → Option (List P)
  | [] => some []
  | .p x :: r => match pures r with
    | some l => some (x :: l)
    | none => none
  | _ :: _ => none
def within64 (i : Int) : Bool := decide (-(2 ^ 64) < i) && decide (i < 2 ^ 64)
def binP : BOp → P → P → Option P
  | .add, .int a, .int b => some (.int (a + b))
  | .add, .str a, .str b => if a.length + b.length ≤ LINE then some (.str (a ++ b)) else none
  | .add, .tup a, .tup b => if a.length + b.length ≤ LINE then some (.tup (a ++ b)) else none
  | .add, .lst a, .lst b => if a.length + b.length ≤ LINE then some (.lst (a ++ b)) else none
  | .sub, .int a, .int b => some (.int (a - b))
  | .mul, .int a, .int b => if within64 a || within64 b then some (.int (a * b)) else none
  | .mul, .str a, .int b => if 0 ≤ b ∧ b < 2 ^ 62 ∧ a.length * b.toNat ≤ LINE then some (.str (List.replicate b.toNat a).flatten) else none
  | .mul, .lst a, .int b => if 0 ≤ b ∧ b < 2 ^ 62 ∧ a.length * b.toNat ≤ LINE then some (.lst (List.replicate b.toNat a).flatten) else none
  | .fdiv, .int a, .int b => if 0 < b ∧ b < 1073741824 then some (.int (a / b)) else none
  | .mod, .int a, .int b => if 0 < b then some (.int (a % b)) else none
  | .pow, .int a, .int b => if 0 ≤ b ∧ b ≤ 1000000 ∧ a.natAbs < 2 ^ 64 then some (.int (a ^ b.toNat)) else none
  | _, _, _ => none
def scalP : P → P → Bool
  | .bl _, .int _ => false
  | .int _, .bl _ => false
  | a, b => a.flat && b.flat
def eqP (a b : P) : Option Bool := if scalP a b then some (a.eqv b) else if a.sh && b.sh && decide (a.deep ≤ 64) && decide (b.deep ≤ 64) then some (a.eqv b) else none
def ltTx (a b : Tx) : Bool := decide (a < b)
def cmpP : COp → P → P → Option Bool
  | .eq, a, b => eqP a b
  | .ne, a, b => (eqP a b).map not
  | .lt, .int a, .int b => some (decide (a < b))
  | .le, .int a, .int b => some (decide (a ≤ b))
  | .gt, .int a, .int b => some (decide (b < a))
  | .ge, .int a, .int b => some (decide (b ≤ a))
  | .lt, .str a, .str b => some (ltTx a b)
  | .inn, .str [c], .str b => some (decide (c ∈ b))
  | .nin, .str [c], .str b => some (!decide (c ∈ b))
  | .inn, a, .tup l => if a.flat && l.all P.flat then some (l.any fun y => P.eqv y a) else none
  | .nin, a, .tup l => if a.flat && l.all P.flat then some (!l.any fun y => P.eqv y a) else none
  | .inn, a, .lst l => if a.flat && l.all P.flat then some (l.any fun y => P.eqv y a) else none
  | .nin, a, .lst l => if a.flat && l.all P.flat then some (!l.any fun y => P.eqv y a) else none
  | .inn, a, .dic l => a.toKy.map fun k => (kget l k).isSome
  | .nin, a, .dic l => a.toKy.map fun k => !(kget l k).isSome
  | _, _, _ => none
def isNon : D → Bool
  | .p .non => true
  | .c .non => true
  | _ => false
def cmpD (op : COp) (st : Store) (a b : D) : Option Bool :=
  match op with
  | .isN => if isNon b then some (isNon a) else none
  | .isnN => if isNon b then some (!isNon a) else none
  | .isB => match a, b with
    | .p (.bl x), .p (.bl y) => some (x == y)
    | _, _ => none
  | .isnB => match a, b with
    | .p (.bl x), .p (.bl y) => some (!(x == y))
    | _, _ => none
  | op => match rd st a, rd st b with
    | some p, some q => cmpP op p q
    | _, _ => none
def tyOf : P → Option Ty
  | .non => none
  | .bl _ => some .bool
  | .int _ => some .int
  | .str _ => some .str
  | .tup _ => some .tuple
  | .lst _ => some .list
  | .dic _ => some .dict
def isTy (p : P) (t : Ty) : Bool := match tyOf p, t with
  | some .bool, .int => true
  | some s, t => decide (s = t)
  | none, _ => false
def allBl : List P → Option (List Bool)
  | [] => some []
  | .bl b :: r => (allBl r).map (b :: ·)
  | _ => none
def allInt : List P → Option (List Int)
  | [] => some []
  | .int b :: r => (allInt r).map (b :: ·)
  | _ => none
def lenP : P → Option Nat
  | .str x => some x.length
  | .tup l => some l.length
  | .lst l => some l.length
  | .dic l => some l.length
  | _ => none
def dg (c : Nat) : Bool := decide (48 ≤ c) && decide (c ≤ 57)
def digs : Tx → Option Int
  | [a] => if dg a then some ((a - 48 : Nat) : Int) else none
  | [a, b] => if dg a && dg b then some ((10 * (a - 48) + (b - 48) : Nat) : Int) else none
  | [a, b, c] => if dg a && dg b && dg c then some ((100 * (a - 48) + 10 * (b - 48) + (c - 48) : Nat) : Int) else none
  | _ => none
def biP : Bi → List P → Option P
  | .len, [x] => (lenP x).bind fun n => if n ≤ LINE then some (.int n) else none
  | .abs, [.int i] => some (.int (if i < 0 then -i else i))
  | .int, [.int i] => some (.int i)
  | .int, [.bl b] => some (.int (if b then 1 else 0))
  | .int, [.str x] => (digs x).map .int
  | .str, [.int i] => if 0 ≤ i ∧ i < 10 ^ 18 then some (.str (natTx i.toNat)) else none
  | .all, [.lst l] => (allBl l).map fun bs => .bl (bs.all id)
  | .any, [.lst l] => (allBl l).map fun bs => .bl (bs.any id)
  | .sum, [.lst l] => (allInt l).map fun ns => .int ns.sum
  | .min2, [.int i, .int j] => some (.int (if j < i then j else i))
  | .max2, [.int i, .int j] => some (.int (if j > i then j else i))
  | .tuple, [.lst l] => some (.tup l)
  | .tuple, [.tup l] => some (.tup l)
  | .isi ts, [x] => some (.bl (ts.any (isTy x)))
  | _, _ => none
def lcopyP : P → Option (List P)
  | .lst l => some l
  | .tup l => some l
  | _ => none
def dcopyP : P → Option (List (Ky × P))
  | .dic l => some l
  | .lst l => (toEnts l).map fun es => kmerge [] es
  | _ => none
def joinTx (s : Tx) : List Tx → Tx
  | [] => []
  | [x] => x
  | x :: y :: r => x ++ (s ++ joinTx s (y :: r))
def okSign (c : Nat) : Bool := (decide (48 ≤ c) && decide (c ≤ 57)) || (decide (97 ≤ c) && decide (c ≤ 122)) || (decide (65 ≤ c) && decide (c ≤ 90))
mutual
def sayO : P → Option Tx
  | .non => some [78, 111, 110, 101]
  | .bl b => some (if b then [84, 114, 117, 101] else [70, 97, 108, 115, 101])
  | .int i => if 0 ≤ i ∧ i < 10 ^ 18 then some (natTx i.toNat) else none
  | .str x => if x.all okSign then some (39 :: (x ++ [39])) else none
  | .tup l => (sayOs l).map fun ts => 40 :: (joinTx [44, 32] ts ++ (if ts.length = 1 then [44, 41] else [41]))
  | .lst l => (sayOs l).map fun ts => 91 :: (joinTx [44, 32] ts ++ [93])
  | .dic _ => none
def sayOs : List P → Option (List Tx)
  | [] => some []
  | a :: l => match sayO a, sayOs l with
    | some t, some ts => some (t :: ts)
    | _, _ => none
end
def repP : P → Option P
  | .tup l => if decide ((P.tup l).deep ≤ 60) then (sayO (.tup l)).bind fun t => if t.length ≤ LINE then some (.str t) else none else none
  | .lst l => if decide ((P.lst l).deep ≤ 60) then (sayO (.lst l)).bind fun t => if t.length ≤ LINE then some (.str t) else none else none
  | _ => none
def mtTy : Mt → Ty
  | .append => .list | .extend => .list | .pop0 => .list | .pop1 => .list | .insert => .list | .reverse => .list | .clear => .list | .index => .list | .count => .list
  | .get1 => .dict | .get2 => .dict | .update => .dict | .setdefault => .dict | .dpop1 => .dict
  | .join => .str
def recvOk (m : Mt) (st : Store) (x : D) : Bool := match m, x with
  | .update, .r k => match st[k]? with
    | some (.dic _) => true
    | _ => false
  | .update, _ => false
  | m, x => decide ((rd st x).bind tyOf = some (mtTy m))
def mtP : Mt → P → List P → Option P
  | .get1, .dic l, [k] => k.toKy.map fun k => (kget l k).getD .non
  | .get2, .dic l, [k, d] => k.toKy.map fun k => (kget l k).getD d
  | .join, .str s, [.lst l] => (allStr l).bind fun xs => if (xs.map List.length).sum + xs.length * s.length ≤ LINE then some (.str (joinTx s xs)) else none
  | _, _, _ => none
def mtM : Mt → MO → List P → Option (P × MO)
  | .append, .lst l, [x] => if l.length < LINE then some (.non, .lst (l ++ [x])) else none
  | .extend, .lst l, [.lst m] => if l.length + m.length ≤ LINE then some (.non, .lst (l ++ m)) else none
  | .pop0, .lst l, [] => match l.getLast? with
    | some x => some (x, .lst l.dropLast)
    | none => none
  | .pop1, .lst l, [.int i] => if -(2 ^ 62) < i ∧ i < 2 ^ 62 then (ixOf l.length i).bind fun k => (l[k]?).map fun x => (x, .lst (l.eraseIdx k)) else none
  | .reverse, .lst l, [] => some (.non, .lst l.reverse)
  | .clear, .lst _, [] => some (.non, .lst [])
  | .insert, .lst l, [.int i, x] => if 0 ≤ i ∧ i < 2 ^ 62 ∧ l.length < LINE then some (.non, .lst (l.take i.toNat ++ x :: l.drop i.toNat)) else none
  | .update, .dic l, [.lst m] => (toEnts m).bind fun es => if l.length + m.length ≤ LINE then some (.non, .dic (kmerge l es)) else none
  | .update, .dic l, [.dic m] => if l.length + m.length ≤ LINE then some (.non, .dic (kmerge l m)) else none
  | .dpop1, .dic l, [k] => k.toKy.bind fun k => (kget l k).map fun v => (v, .dic (kdel l k))
  | .setdefault, .dic l, [k, d] => if l.length < LINE then k.toKy.map fun k => match kget l k with
    | some v => (v, .dic l)
    | none => (d, .dic (kput l k d)) else none
  | _, _, _ => none
def idxP : P → P → Option P
  | .lst l, .int i => (ixOf l.length i).bind fun k => l[k]?
  | .tup l, .int i => (ixOf l.length i).bind fun k => l[k]?
  | .str x, .int i => if x.length ≤ LINE then (ixOf x.length i).bind fun k => (x[k]?).map fun c => .str [c] else none
  | .dic l, k => k.toKy.bind fun k => kget l k
  | _, _ => none
def cutP (lo hi : Option Int) : P → Option P
  | .lst l => some (.lst (cut l lo hi))
  | .tup l => some (.tup (cut l lo hi))
  | .str l => if l.length ≤ LINE then some (.str (cut l lo hi)) else none
  | _ => none
def subM : MO → P → P → Option MO
  | .lst l, .int i, v => (ixOf l.length i).map fun k => .lst (l.set k v)
  | .dic l, k, v => if l.length < LINE then k.toKy.map fun k => .dic (kput l k v) else none
  | _, _, _ => none
def itemsOf : P → Option (List P)
  | .lst l => some l
  | .tup l => some l
  | .str x => some (x.map fun c => .str [c])
  | _ => none
def enumL : Nat → List P → List P
  | _, [] => []
  | n, x :: r => .tup [.int n, x] :: enumL (n + 1) r
def zipL : List P → List P → List P
  | x :: r, y :: s => .tup [x, y] :: zipL r s
  | _, _ => []
def rngL (lo : Int) : Nat → List P
  | 0 => []
  | n + 1 => .int lo :: rngL (lo + 1) n
mutual
def asgP : CT → P → Env → Option Env
  | .nm i, p, δ => some (setV δ i (.p p))
  | .tup ts, .tup l, δ => asgPs ts l δ
  | .tup ts, .lst l, δ => asgPs ts l δ
  | .tup _, _, _ => none
def asgPs : List CT → List P → Env → Option Env
  | [], [], δ => some δ
  | t :: ts, p :: l, δ => match asgP t p δ with
    | some δ' => asgPs ts l δ'
    | none => none
  | _, _, _ => none
end
def asgD (t : CT) (d : D) (δ : Env) : Option Env :=
  match t, d with
  | .nm i, d => some (setV δ i d)
  | t, .p p => asgP t p δ
  | _, _ => none
inductive Fl where
  | nx | bk | ct | rt (d : D)
def compL (tg : CT) (own : List Nat) (tst : Env → Store → R Bool) (elt : Env → Store → R D) (δ : Env) : List P → List P → Store → R (List P)
  | acc, [], st => .ok acc st
  | acc, x :: r, st => match asgP tg x (delVs δ own) with
    | none => .no
    | some δ' => (tst δ' st).bind fun b st1 =>
      if b then (elt δ' st1).bind fun d st2 => match pure1 d with
        | some p => if acc.length < LINE then compL tg own tst elt δ (acc ++ [p]) r st2 else .no
        | none => .no
      else compL tg own tst elt δ acc r st1
def forL (tg : CT) (body : Env → Store → R (Fl × Env)) : List P → Env → Store → R (Fl × Env)
  | [], δ, st => .ok (.nx, δ) st
  | x :: r, δ, st => match asgP tg x δ with
    | none => .no
    | some δ1 => (body δ1 st).bind fun f st1 => match f with
      | (.nx, δ2) => forL tg body r δ2 st1
      | (.ct, δ2) => forL tg body r δ2 st1
      | (.bk, δ2) => .ok (.nx, δ2) st1
      | (.rt d, δ2) => .ok (.rt d, δ2) st1
def whileL (tst : Env → Store → R Bool) (body : Env → Store → R (Fl × Env)) : Nat → Env → Store → R (Fl × Env)
  | 0, _, _ => .no
  | n + 1, δ, st => (tst δ st).bind fun b st1 =>
    if b then (body δ st1).bind fun f st2 => match f with
      | (.nx, δ2) => whileL tst body n δ2 st2
      | (.ct, δ2) => whileL tst body n δ2 st2
      | (.bk, δ2) => .ok (.nx, δ2) st2
      | (.rt d, δ2) => .ok (.rt d, δ2) st2
    else .ok (.nx, δ) st1
def asBl (d : D) : Option Bool :=
  match d with
  | .p (.bl b) => some b
  | _ => none
def mkL (m : Bool) (l : List P) (st : Store) : R D := if m then .ok (.r st.length) (st ++ [.lst l]) else .ok (.p (.lst l)) st
def mkD (m : Bool) (l : List (Ky × P)) (st : Store) : R D := if m then .ok (.r st.length) (st ++ [.dic l]) else .ok (.p (.dic l)) st
def unlock : List Nat → Store → R Unit
  | [], st => .ok () st
  | k :: r, st => match st[k]? with
    | some (.lstL l) => unlock r (st.set k (.lst l))
    | _ => .no
def lockD (d : D) (st : Store) : R (P × List Nat) :=
  match d with
  | .p p => .ok (p, []) st
  | .c p => .ok (p, []) st
  | .r k => match st[k]? with
    | some (.lst l) => .ok (.lst l, [k]) (st.set k (.lstL l))
    | some (.lstL l) => .ok (.lst l, []) st
    | _ => .no
def zipP : P → P → Option (List P)
  | .lst l, .lst m => some (zipL l m)
  | .tup l, .tup m => some (zipL l m)
  | _, _ => none
def enumP : P → Option (List P)
  | .lst l => some (enumL 0 l)
  | .tup l => some (enumL 0 l)
  | _ => none
def walkD (p : Bool) (d : D) (st : Store) : R (List P × List Nat) :=
  match d with
  | .p (.dic l) => .ok (l.map fun e => if p then .tup [e.1.toP, e.2] else e.1.toP, []) st
  | .r k => match st[k]? with
    | some (.dic l) => .ok (l.map fun e => if p then .tup [e.1.toP, e.2] else e.1.toP, [k]) (st.set k (.dicL l))
    | _ => .no
  | _ => .no
abbrev Calls := Nat → List D → Store → R D
mutual
def evE (C : Calls) : CE → Env → Store → R D
  | .var i, δ, st => lift (getV δ i) st
  | .cst p, _, st => .ok (.p p) st
  | .glob _ d, _, st => .ok d st
  | .tup es, δ, st => (evEs C es δ st).bind fun ds st => lift ((pures ds).bind fun l => if l.length ≤ LINE then some (.p (.tup l)) else none) st
  | .lst m es, δ, st => (evEs C es δ st).bind fun ds st => match pures ds with
    | some l => if l.length ≤ LINE then mkL m l st else .no
    | none => .no
  | .dct m es, δ, st => (evEs C es δ st).bind fun ds st => match (pures ds).bind pairUp with
    | some l => if l.length ≤ 15 then mkD m (kmerge [] l) st else .no
    | none => .no
  | .lcopy m e, δ, st => (evE C e δ st).bind fun x st => match (rd st x).bind lcopyP with
    | some l => mkL m l st
    | none => .no
  | .dcopy m e, δ, st => (evE C e δ st).bind fun x st => match (rd st x).bind dcopyP with
    | some l => mkD m l st
    | none => .no
  | .lset e, δ, st => (evE C e δ st).bind fun x st => lift ((rd st x).bind fun p => (lsetP p).map fun n : Nat => .p (.int (n : Int))) st
  | .srt m e, δ, st => (evE C e δ st).bind fun x st => match (rd st x).bind srtP with
    | some l => mkL m l st
    | none => .no
  | .bin op a b, δ, st => (evE C a δ st).bind fun x st => (evE C b δ st).bind fun y st =>
      lift ((rdN st x).bind fun p => (rdN st y).bind fun q => (binP op p q).map .p) st
  | .cat a b, δ, st => (evE C a δ st).bind fun x st => (evE C b δ st).bind fun y st => match (rdN st x).bind fun p => (rdN st y).bind fun q => catP p q with
    | some l => mkL true l st
    | none => .no
  | .ninn a d, δ, st => (evE C a δ st).bind fun x st => (evE C d δ st).bind fun y st => lift ((pure1 x).bind fun p => (nkOf p).bind fun k => (dnOf st y).map fun l => .p (.bl (nkget l k).isSome)) st
  | .nidx d a, δ, st => (evE C d δ st).bind fun x st => (evE C a δ st).bind fun y st => lift ((dnOf st x).bind fun l => (pure1 y).bind fun p => (nkOf p).bind fun k => (nkget l k).map .p) st
  | .nget d a x, δ, st => (evE C d δ st).bind fun y st => if (dnOf st y).isSome then (evE C a δ st).bind fun x1 st => (evE C x δ st).bind fun z st =>
      lift ((dnOf st y).bind fun l => (pure1 x1).bind fun p => (nkOf p).bind fun k => (pure1 z).map fun q => .p ((nkget l k).getD q)) st else .no
  | .ncopy d, δ, st => (evE C d δ st).bind fun y st => match dnOf st y with
    | some l => .ok (.r st.length) (st ++ [.dn l])
    | none => .no
  | .nupd d e, δ, st => (evE C d δ st).bind fun y st => if isDn st y then (evE C e δ st).bind fun x st => match y with
      | .r k => match (st[k]?).bind fun ob => (pure1 x).bind fun p => nupdM ob p with
        | some ob' => .ok (.p .non) (st.set k ob')
        | none => .no
      | _ => .no
    else .no
  | .dzip m a b, δ, st => (evE C a δ st).bind fun x st => (evE C b δ st).bind fun y st => match (rd st x).bind fun p => (rd st y).bind fun q => dzipP p q with
    | some l => mkD m l st
    | none => .no
  | .sset m e, δ, st => (evE C e δ st).bind fun x st => match (rd st x).bind ssetP with
    | some l => mkL m l st
    | none => .no
  | .ksrt m e, δ, st => (evE C e δ st).bind fun x st => match (rd st x).bind ksrtP with
    | some l => mkL m l st
    | none => .no
  | .neg a, δ, st => (evE C a δ st).bind fun x st => lift (match x with | .p (.int i) => some (.p (.int (-i))) | _ => none) st
  | .cmp op a b, δ, st => (evE C a δ st).bind fun x st => (evE C b δ st).bind fun y st => lift ((cmpD op st x y).map fun b => .p (.bl b)) st
  | .chain op op' a b c, δ, st => (evE C a δ st).bind fun x st => (evE C b δ st).bind fun y st => match cmpD op st x y with
    | some true => (evE C c δ st).bind fun z st => lift ((cmpD op' st y z).map fun b => .p (.bl b)) st
    | some false => .ok (.p (.bl false)) st
    | none => .no
  | .and es, δ, st => evAnd C es δ st
  | .or es, δ, st => evOr C es δ st
  | .not a, δ, st => (evE C a δ st).bind fun x st => lift ((asBl x).map fun b => .p (.bl (!b))) st
  | .ife c a b, δ, st => (evE C c δ st).bind fun x st => match asBl x with
    | some true => evE C a δ st
    | some false => evE C b δ st
    | none => .no
  | .idx a i, δ, st => (evE C a δ st).bind fun x st => (evE C i δ st).bind fun y st =>
      lift ((rd st x).bind fun p => (pure1 y).bind fun q => (idxP p q).map .p) st
  | .sl a lo hi, δ, st => (evE C a δ st).bind fun x st => (evO C lo δ st).bind fun l st => (evO C hi δ st).bind fun h st =>
      lift ((rdS st x).bind fun p => (cutP l h p).map .p) st
  | .rev a, δ, st => (evE C a δ st).bind fun x st => lift ((rd st x).bind fun p => (revP p).map .p) st
  | .stuck, _, _ => .no
  | .lidx o e, δ, st => (evE C o δ st).bind fun x st => if ((rd st x).bind P.asLst).isSome then (evE C e δ st).bind fun y st => lift ((rd st x).bind fun p => (pure1 y).bind fun q => (lidxP p q).map .p) st else .no
  | .lcnt o e, δ, st => (evE C o δ st).bind fun x st => if ((rd st x).bind P.asLst).isSome then (evE C e δ st).bind fun y st => lift ((rd st x).bind fun p => (pure1 y).bind fun q => (lcntP p q).map .p) st else .no
  | .rep e, δ, st => (evE C e δ st).bind fun x st => lift ((rd st x).bind fun p => (repP p).map .p) st
  | .call f es, δ, st => (evEs C es δ st).bind fun ds st => C f ds st
  | .bi b es, δ, st => (evEs C es δ st).bind fun ds st => lift ((if b = .tuple then rdsS st ds else rds st ds).bind fun ps => (biP b ps).map .p) st
  | .meth m o es, δ, st => (evE C o δ st).bind fun x st => if recvOk m st x then (evEs C es δ st).bind fun ds st => match x with
    | .r k => match st[k]?, pures ds with
      | some ob, some ps => match mtM m ob ps with
        | some (v, ob') => .ok (.p v) (st.set k ob')
        | none => lift ((rd st (.r k)).bind fun p => (mtP m p ps).map .p) st
      | _, _ => .no
    | d => lift ((rd st d).bind fun p => (pures ds).bind fun ps => (mtP m p ps).map .p) st
    else .no
  | .comp m elt tg src ifc own, δ, st => (evI C src δ st).bind fun l st =>
      (compL tg own (fun δ st => evF C ifc δ st) (fun δ st => evE C elt δ st) δ [] l.1 st).bind fun ps st =>
        (unlock l.2 st).bind fun _ st => mkL m ps st
  | .kcomp m elt tg e ifc own, δ, st => (evE C e δ st).bind fun d st => match d with
    | .r k => match st[k]? with
      | some (.dic l) => (compL tg own (fun δ st => evF C ifc δ st) (fun δ st => evE C elt δ st) δ [] (l.map fun e => e.1.toP) (st.set k (.dicL l))).bind fun ps st => match st[k]? with
        | some (.dicL l') => mkL m ps (st.set k (.dic l'))
        | _ => .no
      | _ => .no
    | _ => .no
  | .frz e, δ, st => (evE C e δ st).bind fun x st => match x with
    | .p p => .ok (.p p) st
    | .c _ => .no
    | .r k => match st[k]? with
      | some (.lst l) => .ok (.p (.lst l)) (st.set k .dead)
      | some (.dic l) => .ok (.p (.dic l)) (st.set k .dead)
      | _ => .no
def evEs (C : Calls) : CEs → Env → Store → R (List D)
  | .nil, _, st => .ok [] st
  | .cons e es, δ, st => (evE C e δ st).bind fun d st => (evEs C es δ st).bind fun ds st => .ok (d :: ds) st
def evAnd (C : Calls) : CEs → Env → Store → R D
  | .nil, _, st => .ok (.p (.bl true)) st
  | .cons e es, δ, st => (evE C e δ st).bind fun x st => match asBl x with
    | some true => evAnd C es δ st
    | some false => .ok (.p (.bl false)) st
    | none => .no
def evOr (C : Calls) : CEs → Env → Store → R D
  | .nil, _, st => .ok (.p (.bl false)) st
  | .cons e es, δ, st => (evE C e δ st).bind fun x st => match asBl x with
    | some false => evOr C es δ st
    | some true => .ok (.p (.bl true)) st
    | none => .no
def evO (C : Calls) : CO → Env → Store → R (Option Int)
  | .none, _, st => .ok none st
  | .some e, δ, st => (evE C e δ st).bind fun d st => match d with
    | .p (.int i) => .ok (some i) st
    | _ => .no
def evF (C : Calls) : CO → Env → Store → R Bool
  | .none, _, st => .ok true st
  | .some c, δ, st => (evE C c δ st).bind fun x st => lift (asBl x) st
def evI (C : Calls) : CI → Env → Store → R (List P × List Nat)
  | .val e, δ, st => (evE C e δ st).bind fun d st => (lockD d st).bind fun q st => lift ((itemsOf q.1).map fun l => (l, q.2)) st
  | .keys e, δ, st => (evE C e δ st).bind fun d st => walkD false d st
  | .items e, δ, st => (evE C e δ st).bind fun d st => walkD true d st
  | .rng1 e, δ, st => (evE C e δ st).bind fun d st => match d with
    | .p (.int i) => if i < 2 ^ 40 ∧ -(2 ^ 40) < i then .ok (rngL 0 i.toNat, []) st else .no
    | _ => .no
  | .rng2 a b, δ, st => (evE C a δ st).bind fun d st => (evE C b δ st).bind fun e st => match d, e with
    | .p (.int i), .p (.int j) => if i < 2 ^ 40 ∧ -(2 ^ 40) < i ∧ j < 2 ^ 40 ∧ -(2 ^ 40) < j then .ok (rngL i (j - i).toNat, []) st else .no
    | _, _ => .no
  | .enum e, δ, st => (evE C e δ st).bind fun d st => (lockD d st).bind fun q st => lift ((enumP q.1).map fun l => (l, q.2)) st
  | .zip a b, δ, st => (evE C a δ st).bind fun d st => (evE C b δ st).bind fun e st =>
      (lockD d st).bind fun q st => (lockD e st).bind fun r st => lift ((zipP q.1 r.1).map fun l => (l, q.2 ++ r.2)) st
end
def evT (C : Calls) (c : CE) (δ : Env) (st : Store) : R Bool := (evE C c δ st).bind fun x st => lift (asBl x) st
def WH : Nat := 1000000
mutual
def evS (C : Calls) : CS → Env → Store → R (Fl × Env)
  | .stuck, _, _ => .no
  | .expr e, δ, st => (evE C e δ st).bind fun _ st => .ok (.nx, δ) st
  | .ret e, δ, st => (evE C e δ st).bind fun d st => .ok (.rt d, δ) st
  | .retN, δ, st => .ok (.rt (.p .non), δ) st
  | .asg t e, δ, st => (evE C e δ st).bind fun d st => lift ((asgD t d δ).map fun δ => (.nx, δ)) st
  | .par i j a b, δ, st => (evE C a δ st).bind fun d st => (evE C b δ st).bind fun e st => .ok (.nx, setV (setV δ i d) j e) st
  | .sub a i e, δ, st => (evE C e δ st).bind fun v st => (evE C a δ st).bind fun x st => (evE C i δ st).bind fun y st => match x, pure1 y, pure1 v with
    | .r k, some q, some w => match st[k]? with
      | some ob => match subM ob q w with
        | some ob' => .ok (.nx, δ) (st.set k ob')
        | none => .no
      | none => .no
    | _, _, _ => .no
  | .nset a i e, δ, st => (evE C e δ st).bind fun v st => (evE C a δ st).bind fun x st => (evE C i δ st).bind fun y st => match x with
    | .r k => match (st[k]?).bind fun ob => (pure1 y).bind fun q => (pure1 v).bind fun w => nsetM ob q w with
      | some ob' => .ok (.nx, δ) (st.set k ob')
      | none => .no
    | _ => .no
  | .aug i op e, δ, st => match getV δ i with
    | some (.p p) => (evE C e δ st).bind fun y st => lift ((pure1 y).bind fun q => match op, p, q with
      | .add, .int a, .int b => some (.nx, setV δ i (.p (.int (a + b))))
      | .sub, .int a, .int b => some (.nx, setV δ i (.p (.int (a - b))))
      | .add, .str a, .str b => if a.length + b.length ≤ LINE then some (.nx, setV δ i (.p (.str (a ++ b)))) else none
      | _, _, _ => none) st
    | _ => .no
  | .ife c a b, δ, st => (evT C c δ st).bind fun x st => if x then evSs C a δ st else evSs C b δ st
  | .forr t src b, δ, st => (evI C src δ st).bind fun l st => (forL t (fun δ st => evSs C b δ st) l.1 δ st).bind fun f st => (unlock l.2 st).bind fun _ st => .ok f st
  | .kfor t e b, δ, st => (evE C e δ st).bind fun d st => match d with
    | .r k => match st[k]? with
      | some (.dic l) => (forL t (fun δ st => evSs C b δ st) (l.map fun e => e.1.toP) δ (st.set k (.dicL l))).bind fun f st => match st[k]? with
        | some (.dicL l') => .ok f (st.set k (.dic l'))
        | _ => .no
      | _ => .no
    | _ => .no
  | .whil c b, δ, st => whileL (fun δ st => evT C c δ st) (fun δ st => evSs C b δ st) WH δ st
  | .brk, δ, st => .ok (.bk, δ) st
  | .cont, δ, st => .ok (.ct, δ) st
  | .pass, δ, st => .ok (.nx, δ) st
def evSs (C : Calls) : CSs → Env → Store → R (Fl × Env)
  | .nil, δ, st => .ok (.nx, δ) st
  | .cons s ss, δ, st => (evS C s δ st).bind fun f st => match f with
    | (.nx, δ) => evSs C ss δ st
    | f => .ok f st
end
structure Fn where
  np : Nat
  nl : Nat
  body : CSs
def newEnv (n : Nat) (ds : List D) : Env := ds.map some ++ List.replicate (n - ds.length) none
def exportD (n : Nat) (st' : Store) : D → R D
  | .p p => .ok (.p p) (st'.take n)
  | .c _ => .no
  | .r k => if k < n then .ok (.r k) (st'.take n) else match st'[k]? with
    | some ob => .ok (.r n) (st'.take n ++ [ob])
    | none => .no
def runFn (C : Calls) (f : Fn) (ds : List D) (st : Store) : R D :=
  if ds.length = f.np then
    (evSs C f.body (newEnv f.nl ds) st).bind fun r st' => match r.1 with
      | .rt d => exportD st.length st' d
      | .nx => exportD st.length st' (.p .non)
      | _ => .no
  else .no
def callK (T : Nat → Option Fn) : Nat → Calls
  | 0 => fun _ _ _ => .no
  | n + 1 => fun f ds st => match T f with
    | some d => runFn (callK T n) d ds st
    | none => .no
end NH
namespace NH
open PySem PySem.Spec PyProof.Rows L2
def lfV : Leaf → V
  | .none => .non
  | .num i => .int i
  | .text x => .str x
theorem lf_is {P : Program} {w : World} {k : Leaf} {u : Value} (r : RelV (lfV k) u) : (leafKind P w).is k u = true := by
  show Leaf.isOf k u = true
  cases k with
  | none =>
    have r : u = .none := r
    subst r; rfl
  | num i =>
    obtain ⟨t, rfl⟩ : ∃ t, u = .int i t := r
    simp [Leaf.isOf]
  | text x =>
    obtain ⟨t, rfl⟩ : ∃ t, u = .str x t := r
    show Value.isStrOf x (.str x t) = true
    show (x == x) = true
    simp
def dnP (P : Program) (w : World) (a : Addr) (kvs : List (Leaf × V)) (h : Heap) : Prop :=
  kvs.length ≤ sizeLine ∧ (a == sysModules) = false ∧ ∃ vs, KV kvs vs ∧ h.DictOf (leafKind P w) a vs
def dnO (P : Program) (w : World) (a : Addr) (kvs : List (Leaf × V)) : HO := .ext (dnP P w a kvs)
section
variable {P : Program} {w : World} {H : Hp} {h : Heap} {a : Addr} {kvs : List (Leaf × V)}
theorem dn_of (ok : HOk P w H h) (e : H a = some (dnO P w a kvs)) : dnP P w a kvs h := (show _ from ok a _ e : ObjOk P w H h a (.ext (dnP P w a kvs))).1
theorem dn_new {H' : Hp} {h' : Heap} {vs : List (Leaf × Value)} (z : kvs.length ≤ sizeLine) (hd : (a == sysModules) = false) (rel : KV kvs vs) (dd : h'.DictOf (leafKind P w) a vs) : ObjOk P w H' h' a (dnO P w a kvs) := by
  refine ⟨⟨z, hd, vs, rel, dd⟩, ?_, ?_⟩
  · obtain ⟨o, _, _, e, _⟩ := dd
    exact ⟨o, e⟩
  · rintro h1 h2 ⟨z, hd, vs, rel, o, es, ep, e, r⟩ k
    exact ⟨z, hd, vs, rel, o, es, ep, k _ e, r⟩
def kyL : Key → Leaf
  | .inl i => .num i
  | .inr x => .text x
theorem kyL_inj {a b : Key} (e : kyL a = kyL b) : a = b := by
  cases a <;> cases b <;> simp [kyL] at e ⊢ <;> exact e
theorem kyL_is {k : Key} {v : Value} (e : (mixKind P w).is k v = true) : (leafKind P w).is (kyL k) v = true := by
  rcases keyIs_shape (show keyIs k v = true from e) with ⟨i, t, rfl, rfl⟩ | ⟨x, t, rfl, rfl⟩
  · exact lf_is (k := .num i) ⟨t, rfl⟩
  · exact lf_is (k := .text x) ⟨t, rfl⟩
theorem kyL_hash (k : Key) : (leafKind P w).hash (kyL k) = (mixKind P w).hash k := by
  cases k <;> rfl
end
section
variable {P : Program} {w : World}
theorem pairsL : ∀ {es : List DictEntry} {vs : List (Key × Value)}, Pairs (mixKind P w) es vs → Pairs (leafKind P w) es (vs.map fun p => (kyL p.1, p.2))
  | _, _, .nil => .nil
  | _, _, .cons h1 h2 t => .cons (kyL_is h1) h2 (pairsL t)
theorem nodupL : ∀ {l : List Key}, l.Nodup → (l.map kyL).Nodup := fun h => h.map (f := kyL) (fun a b hab e => hab (kyL_inj e))
theorem leaf_of_mix {h : Heap} {a : Addr} {vs : List (Key × Value)} (dd : h.DictOf (mixKind P w) a vs) : h.DictOf (leafKind P w) a (vs.map fun p => (kyL p.1, p.2)) := by
  obtain ⟨o, es, ep, h1, h2, h3, h4, h5, h6⟩ := dd
  refine ⟨o, es, ep, h1, h2, h3, fun e he => ?_, pairsL h5, ?_⟩
  · obtain ⟨k, k1, k2⟩ := h4 e he
    exact ⟨kyL k, kyL_is k1, by rw [kyL_hash]; exact k2⟩
  · have := nodupL h6
    simpa [List.map_map, Function.comp_def] using this
theorem kv_toL {kvs : List (Key × V)} {vs : List (Key × Value)} (r : KV kvs vs) : KV (kvs.map fun p => (kyL p.1, p.2)) (vs.map fun p => (kyL p.1, p.2)) := by
  unfold KV at r ⊢
  induction r with
  | nil => exact .nil
  | cons h _ ih => exact .cons ⟨congrArg kyL h.1, h.2⟩ ih
end
section
variable {X : Cx} {pins : List (Addr × Obj)} {σ : L2.St} {H : Hp} {s : Shared} {a : Addr} {v d : V} {k : Leaf} {u r : Value} {kvs : List (Leaf × V)} {A : Around} {E : Value → Shared → Prop}
theorem n_get {Q : Value → Shared → Prop} (I : Inv X pins σ H s) (e : H a = some (dnO X.prog X.w a kvs)) (l : valV kvs k = some v) (ry : RelV (lfV k) u) (h : ∀ w' s', Inv X pins σ H s' → RelV v w' → Q w' s') :
    wpAny (model X.prog X.w) A (getItem (.ref a) u) Q E s := by
  obtain ⟨z, hd, vs, rel, dd⟩ := dn_of I.hok e
  obtain ⟨w', hw, rw'⟩ := RelO.some_of (v := v) (o := valueAt vs k) (by rw [← l]; exact rel.val k)
  exact wpAny_getItem_of (lf_is ry) dd.mapOf hw (h w' _ (I.tok _) rw')
theorem n_in {Q : Value → Shared → Prop} (I : Inv X pins σ H s) (e : H a = some (dnO X.prog X.w a kvs)) (ry : RelV (lfV k) u) (h : ∀ s', Inv X pins σ H s' → Q (.bool (valV kvs k).isSome) s') :
    wpAny (model X.prog X.w) A (compareOp .In u (.ref a)) Q E s := by
  obtain ⟨z, hd, vs, rel, dd⟩ := dn_of I.hok e
  refine wpAny_in_of (lf_is ry) hd dd.mapOf ?_
  rw [← (rel.val k).isSome_eq]
  exact h _ (I.tok _)
theorem n_notIn {Q : Value → Shared → Prop} (I : Inv X pins σ H s) (e : H a = some (dnO X.prog X.w a kvs)) (ry : RelV (lfV k) u) (h : ∀ s', Inv X pins σ H s' → Q (.bool (!(valV kvs k).isSome)) s') :
    wpAny (model X.prog X.w) A (compareOp .NotIn u (.ref a)) Q E s := by
  obtain ⟨z, hd, vs, rel, dd⟩ := dn_of I.hok e
  refine wpAny_notIn_of (lf_is ry) hd dd.mapOf ?_
  rw [← (rel.val k).isSome_eq]
  exact h _ (I.tok _)
theorem n_get2 {Q : Value → Shared → Prop} (I : Inv X pins σ H s) (e : H a = some (dnO X.prog X.w a kvs)) (ry : RelV (lfV k) u) (rd : RelV d r) (h : ∀ w' s', Inv X pins σ H s' → RelV ((valV kvs k).getD d) w' → Q w' s') :
    wpAny (model X.prog X.w) A (call (.builtin "dict.get") [.ref a, u, r]) Q E s := by
  obtain ⟨z, hd, vs, rel, dd⟩ := dn_of I.hok e
  refine call_meetsIn PySem.F.slot_dict_get dd.typeIs PySem.F.entry_dict_get (PySem.F.args_dict_get_3 _ _ _) (meets_dict_get_default (leafKind X.prog X.w) a (lf_is ry) hd r) ⟨_, dd.mapOf, h _ _ (I.tok _) ?_⟩
  exact (rel.val k).getD rd
theorem n_get2K {ks : List (Key × V)} {Q : Value → Shared → Prop} (I : Inv X pins σ H s) (e : Rd H a (.dK ks)) (ry : RelV (lfV k) u) (rd : RelV d r) (h : ∀ w' s', Inv X pins σ H s' → RelV ((valV (ks.map fun p => (kyL p.1, p.2)) k).getD d) w' → Q w' s') :
    wpAny (model X.prog X.w) A (call (.builtin "dict.get") [.ref a, u, r]) Q E s := by
  obtain ⟨z, hd, vs, rel, dd⟩ := dk_rd I.hok e
  have dd := leaf_of_mix dd
  refine call_meetsIn PySem.F.slot_dict_get dd.typeIs PySem.F.entry_dict_get (PySem.F.args_dict_get_3 _ _ _) (meets_dict_get_default (leafKind X.prog X.w) a (lf_is ry) hd r) ⟨_, dd.mapOf, h _ _ (I.tok _) ?_⟩
  exact ((kv_toL rel).val k).getD rd
theorem n_set {Q : Unit → Shared → Prop} (I : Inv X pins σ H s) (e : H a = some (dnO X.prog X.w a kvs)) (hl : kvs.length < sizeLine) (ry : RelV (lfV k) u) (rv : RelV v r) (h : ∀ s', Inv X pins σ (upd H a (dnO X.prog X.w a (putK kvs k v))) s' → Q () s') :
    wpAny (model X.prog X.w) A (setItem (.ref a) u r) Q E s := by
  obtain ⟨z, hd, vs, rel, dd⟩ := dn_of I.hok e
  have hz : vs.length ≤ sizeLine := by rw [← rel.length]; exact z
  have hl : (putK kvs k v).length ≤ sizeLine := by have := length_putK kvs k v; omega
  refine wpAny_setItem_pairs (hsz := hz) (lf_is ry) dd fun h' dd' hs => h _ ?_
  have he : ∃ q, h'.get? a = some q := let ⟨q, _, _, hq, _⟩ := dd'; ⟨q, hq⟩
  exact d_write I (by rw [e]; exact True.intro) hs he (dn_new hl hd (rel.put k rv) dd')
theorem n_setK {ks : List (Key × V)} {Q : Unit → Shared → Prop} (I : Inv X pins σ H s) (e : H a = some (.dK ks)) (hl : ks.length < sizeLine) (ry : RelV (lfV k) u) (rv : RelV v r) (h : ∀ s', Inv X pins σ (upd H a (dnO X.prog X.w a (putK (ks.map fun p => (kyL p.1, p.2)) k v))) s' → Q () s') :
    wpAny (model X.prog X.w) A (setItem (.ref a) u r) Q E s := by
  obtain ⟨z, hd, vs, rel, dd⟩ := dk_of I.hok e
  have dd := leaf_of_mix dd
  have rel := kv_toL rel
  have hz : (vs.map fun p => (kyL p.1, p.2)).length ≤ sizeLine := by rw [← rel.length, List.length_map]; exact z
  have hl : (putK (ks.map fun p => (kyL p.1, p.2)) k v).length ≤ sizeLine := by have := length_putK (ks.map fun p => (kyL p.1, p.2)) k v; rw [List.length_map] at this; omega
  refine wpAny_setItem_pairs (hsz := hz) (lf_is ry) dd fun h' dd' hs => h _ ?_
  have he : ∃ q, h'.get? a = some q := let ⟨q, _, _, hq, _⟩ := dd'; ⟨q, hq⟩
  exact d_write I (by rw [e]; exact True.intro) hs he (dn_new hl hd (rel.put k rv) dd')
theorem n_copy {Q : Value → Shared → Prop} (I : Inv X pins σ H s) (e : H a = some (dnO X.prog X.w a kvs)) (h : ∀ p s', H p = none → Inv X pins σ (upd H p (dnO X.prog X.w p kvs)) s' → Q (.ref p) s') : wpAny (model X.prog X.w) A (call (.type "dict") [.ref a]) Q E s := by
  obtain ⟨z, hd, vs, rel, dd⟩ := dn_of I.hok e
  refine kt_call_dict hd dd (by rw [← rel.length]; exact z) fun h' dd' hs => ?_
  refine h _ _ (I.hok.fresh (Nat.le_refl _)) (I.laid (a := s.heap.objs.size) (t' := s.toks) (fun b q hq => ?_) (Nat.le_refl _) (dn_new z (beq_eq_false_iff_ne.mpr (Ne.symm (Nat.ne_of_lt I.big))) rel dd'))
  exact (hs.2 b (Nat.ne_of_lt (Heap.lt_size hq))).trans (Heap.get?_push_of_some _ hq)
end
theorem pairsN {X : Cx} {pins : List (Addr × Obj)} {σ : L2.St} {H : Hp} {s : Shared} (I : Inv X pins σ H s) : ∀ {ps : List Addr} {kvs : List (Leaf × V)}, Paired (fun p kv => H p = some (.tup [lfV kv.1, kv.2])) ps kvs →
    ∃ (prs : List (Leaf × Value)) (uvs : List (Value × Value)), KV kvs prs ∧ prs.length = ps.length ∧ uvs.length = ps.length ∧
      ∀ (j : Nat) (k v : Value), uvs[j]? = some (k, v) → ∃ (b : Addr) (q : Leaf), ps[j]? = some b ∧ prs[j]? = some (q, v) ∧ IsTup s.heap b #[k, v] ∧ (leafKind X.prog X.w).is q k = true
  | _, _, .nil => ⟨[], [], .nil, rfl, rfl, fun j k v e => by simp at e⟩
  | _, _, .cons (a := p) (b := kv) h t => by
    obtain ⟨prs, uvs, r, hl, hl2, hp⟩ := pairsN I t
    obtain ⟨its, rv, ht, _⟩ := I.tuple (.of h)
    obtain ⟨u, y, ei, ru, ry⟩ := vals2 rv
    subst ei
    refine ⟨(kv.1, y) :: prs, (u, y) :: uvs, .cons ⟨rfl, ry⟩ r, by simp [hl], by simp [hl2], fun j k v e => ?_⟩
    cases j with
    | zero =>
      have e' : (u, y) = (k, v) := Option.some.inj e
      cases e'
      exact ⟨p, kv.1, rfl, rfl, ht, lf_is ru⟩
    | succ j =>
      obtain ⟨b, q, e1, e2, e3, e4⟩ := hp j k v (by simpa using e)
      exact ⟨b, q, by simpa using e1, by simpa using e2, e3, e4⟩
def mergeN (kvs more : List (Leaf × V)) : List (Leaf × V) := more.foldl (fun acc kv => putK acc kv.1 kv.2) kvs
theorem kv_merge : ∀ {more : List (Leaf × V)} {rs : List (Leaf × Value)} {kvs : List (Leaf × V)} {vs : List (Leaf × Value)}, KV more rs → KV kvs vs → KV (mergeN kvs more) (merged vs rs) := by
  intro more rs kvs vs r
  unfold KV at r
  induction r generalizing kvs vs with
  | nil => intro q; exact q
  | @cons p q ps qs h t ih =>
    intro r0
    have e : KV (putK kvs p.1 p.2) (stored vs q.1 q.2) := by
      have := r0.put p.1 h.2
      rw [← h.1]; exact this
    exact ih e
theorem len_mergeN : ∀ (more kvs : List (Leaf × V)), (mergeN kvs more).length ≤ kvs.length + more.length
  | [], kvs => by show kvs.length ≤ kvs.length + 0; omega
  | p :: r, kvs => by
    have h1 := len_mergeN r (putK kvs p.1 p.2)
    have h2 := length_putK kvs p.1 p.2
    show (mergeN (putK kvs p.1 p.2) r).length ≤ _
    rw [List.length_cons]; omega
def rUpdN (P : Program) (w : World) : V → List V → Hp → VK → Prop := fun x xs H Q => ∃ (a b : Addr) (ps : List Addr) (ks kvs : List (Leaf × V)), x = .ref a ∧ xs = [.ref b] ∧ H a = some (dnO P w a ks) ∧ H b = some (.lst (ps.map V.ref)) ∧
  Paired (fun p kv => H p = some (.tup [lfV kv.1, kv.2])) ps kvs ∧ ks.length + kvs.length ≤ sizeLine ∧ Q .non (upd H a (dnO P w a (mergeN ks kvs)))
theorem mt_updN {X : Cx} (hcalm : X.calm = true) : MtR X "dict.update" (rUpdN X.prog X.w) := by
  intro pins s σ H x xs v us Q I rx rs h
  obtain ⟨a, b, ps, ks, kvs, rfl, rfl, ha, hb, hp, hz, q⟩ := h
  obtain ⟨u, rfl, ru⟩ := vals1 rs
  cases rx
  cases ru
  obtain ⟨_, hd, vs, rel, dd⟩ := dn_of I.hok ha
  obtain ⟨its, rv, pl, hz2⟩ := I.list (.of hb)
  have ei := refs_at rv
  subst ei
  obtain ⟨prs, uvs, r2, hl, hl2, hpr⟩ := pairsN I hp
  have hlen : kvs.length = ps.length := by rw [r2.length, hl]
  have hne : a ∉ b :: (List.range uvs.length).map (fun j => ps.getD j 0) := by
    intro hm
    rcases List.mem_cons.mp hm with e | hm
    · exact ne_of ha hb (by intro z; cases z) e
    · obtain ⟨j, hj, e⟩ := List.mem_map.mp hm
      have hj2 : j < ps.length := by rw [← hl2]; exact List.mem_range.mp hj
      have : ∃ kv : Leaf × V, H ps[j] = some (.tup [lfV kv.1, kv.2]) := by
        have : ∀ {ps : List Addr} {kvs : List (Leaf × V)}, Paired (fun p kv => H p = some (.tup [lfV kv.1, kv.2])) ps kvs → ∀ j (hj : j < ps.length), ∃ kv : Leaf × V, H ps[j] = some (.tup [lfV kv.1, kv.2]) := by
          intro ps kvs h
          induction h with
          | nil => intro j hj; simp at hj
          | cons h _ ih =>
            intro j hj
            cases j with
            | zero => exact ⟨_, h⟩
            | succ j => simpa using ih j (by simpa using hj)
        exact this hp j hj2
      obtain ⟨kv, hkv⟩ := this
      have e2 : ps.getD j 0 = ps[j] := by simp [List.getD, hj2]
      rw [e2] at e
      exact ne_of hkv ha (by intro z; cases z) e
  obtain ⟨o, n, ho, hc, hdi, hdat⟩ := pl
  refine PySem.call_update_pairs (knd := leafKind X.prog X.w) (acc := vs) (kvs := prs) (PairArg.list b (ps.map Value.ref).toArray (fun j => ps.getD j 0) uvs) (I.ok.hd hcalm) ⟨⟨o, n, ho, hc, hdi, hdat⟩, by simp [hl2], fun j k v e => ?_⟩ hne ⟨by omega, fun i key v e => ?_⟩ dd (by rw [← rel.length, hl2, ← hlen]; exact hz) fun h' tk hd' hk => ?_
  · obtain ⟨b', q', e1, e2, e3, e4⟩ := hpr j k v e
    have eb : ps.getD j 0 = b' := by simp [List.getD, e1]
    show (ps.map Value.ref).toArray[j]? = some (.ref (ps.getD j 0)) ∧ PairAt s.heap (ps.getD j 0) k v
    rw [eb]
    exact ⟨by simp [e1], .inl e3⟩
  · obtain ⟨b', q', e1, e2, e3, e4⟩ := hpr i key v e
    exact ⟨q', e2, e4⟩
  · have hl3 : (mergeN ks kvs).length ≤ sizeLine := Nat.le_trans (len_mergeN kvs ks) hz
    refine ⟨.non, upd H a (dnO X.prog X.w a (mergeN ks kvs)), I.write (x := a) (e := a) (by rw [ha]; trivial) (.inl rfl) (fun c u hc e => hk c u hc (by simp) e) ?_ (dn_new hl3 hd (kv_merge r2 rel) hd'), rfl, q⟩
    obtain ⟨o', _, _, h1, _⟩ := hd'
    exact ⟨o', h1⟩
end NH
namespace NH
open PySem L2
def kyK : Ky → Key
  | .int i => .inl i
  | .str x => .inr ⟨x.toArray⟩
mutual
def RelP (U : Addr → Prop) (H : Hp) : P → V → Prop
  | .non, v => v = .non
  | .bl b, v => v = .bl b
  | .int i, v => v = .int i
  | .str x, v => v = .str ⟨x.toArray⟩
  | .tup l, v => ∃ a vs, v = .ref a ∧ H a = some (.tup vs) ∧ ¬ U a ∧ RelPs U H l vs
  | .lst l, v => ∃ a vs, v = .ref a ∧ H a = some (.lst vs) ∧ ¬ U a ∧ RelPs U H l vs
  | .dic l, v => ∃ a ks, v = .ref a ∧ Rd H a (.dK ks) ∧ ¬ U a ∧ RelKs U H l ks
def RelPs (U : Addr → Prop) (H : Hp) : List P → List V → Prop
  | [], vs => vs = []
  | p :: l, vs => ∃ v r, vs = v :: r ∧ RelP U H p v ∧ RelPs U H l r
def RelKs (U : Addr → Prop) (H : Hp) : List (Ky × P) → List (Key × V) → Prop
  | [], ks => ks = []
  | (k, p) :: l, ks => ∃ v r, ks = (kyK k, v) :: r ∧ RelP U H p v ∧ RelKs U H l r
end
section
variable {U U' : Addr → Prop} {H H' : Hp}
mutual
theorem RelP.mono (h : ∀ a o, H a = some o → ¬ U a → H' a = some o ∧ ¬ U' a) : ∀ (p : P) (v : V), RelP U H p v → RelP U' H' p v
  | .non, _, r => by simpa [RelP] using r
  | .bl _, _, r => by simpa [RelP] using r
  | .int _, _, r => by simpa [RelP] using r
  | .str _, _, r => by simpa [RelP] using r
  | .tup l, v, r => by
    simp only [RelP] at r ⊢
    obtain ⟨a, vs, e, h1, h2, h3⟩ := r
    obtain ⟨g1, g2⟩ := h a _ h1 h2
    exact ⟨a, vs, e, g1, g2, RelPs.mono h l vs h3⟩
  | .lst l, v, r => by
    simp only [RelP] at r ⊢
    obtain ⟨a, vs, e, h1, h2, h3⟩ := r
    obtain ⟨g1, g2⟩ := h a _ h1 h2
    exact ⟨a, vs, e, g1, g2, RelPs.mono h l vs h3⟩
  | .dic l, v, r => by
    simp only [RelP] at r ⊢
    obtain ⟨a, vs, e, h1, h2, h3⟩ := r
    rcases h1 with h1 | ⟨o, h1⟩
    · obtain ⟨g1, g2⟩ := h a _ h1 h2
      exact ⟨a, vs, e, .inl g1, g2, RelKs.mono h l vs h3⟩
    · obtain ⟨g1, g2⟩ := h a _ h1 h2
      exact ⟨a, vs, e, .inr ⟨o, g1⟩, g2, RelKs.mono h l vs h3⟩
theorem RelPs.mono (h : ∀ a o, H a = some o → ¬ U a → H' a = some o ∧ ¬ U' a) : ∀ (l : List P) (vs : List V), RelPs U H l vs → RelPs U' H' l vs
  | [], _, r => by simpa [RelPs] using r
  | p :: l, vs, r => by
    simp only [RelPs] at r ⊢
    obtain ⟨v, q, e, h1, h2⟩ := r
    exact ⟨v, q, e, RelP.mono h p v h1, RelPs.mono h l q h2⟩
theorem RelKs.mono (h : ∀ a o, H a = some o → ¬ U a → H' a = some o ∧ ¬ U' a) : ∀ (l : List (Ky × P)) (ks : List (Key × V)), RelKs U H l ks → RelKs U' H' l ks
  | [], _, r => by simpa [RelKs] using r
  | (k, p) :: l, ks, r => by
    simp only [RelKs] at r ⊢
    obtain ⟨v, q, e, h1, h2⟩ := r
    exact ⟨v, q, e, RelP.mono h p v h1, RelKs.mono h l q h2⟩
end
end
section
variable {U : Addr → Prop} {H : Hp}
theorem RelPs.length : ∀ {l : List P} {vs : List V}, RelPs U H l vs → vs.length = l.length
  | [], _, r => by simp only [RelPs] at r; simp [r]
  | p :: l, vs, r => by
    simp only [RelPs] at r
    obtain ⟨v, q, rfl, _, h2⟩ := r
    simp [RelPs.length h2]
theorem RelPs.get : ∀ {l : List P} {vs : List V} {i : Nat} {p : P}, RelPs U H l vs → l[i]? = some p → ∃ v, vs[i]? = some v ∧ RelP U H p v
  | [], _, _, _, _, e => by simp at e
  | p :: l, vs, i, q, r, e => by
    simp only [RelPs] at r
    obtain ⟨v, w, rfl, h1, h2⟩ := r
    cases i with
    | zero => simp at e; subst e; exact ⟨v, by simp, h1⟩
    | succ i =>
      obtain ⟨u, a, b⟩ := RelPs.get (i := i) h2 (by simpa using e)
      exact ⟨u, by simpa using a, b⟩
theorem RelPs.get' {l : List P} {vs : List V} {i : Nat} {v : V} (r : RelPs U H l vs) (e : vs[i]? = some v) : ∃ p, l[i]? = some p ∧ RelP U H p v := by
  have hi : i < l.length := by
    have := (List.getElem?_eq_some_iff.mp e).1
    rw [r.length] at this; exact this
  obtain ⟨u, a, b⟩ := r.get (List.getElem?_eq_getElem hi)
  rw [e] at a; cases a
  exact ⟨_, List.getElem?_eq_getElem hi, b⟩
theorem RelPs.append : ∀ {l m : List P} {vs ws : List V}, RelPs U H l vs → RelPs U H m ws → RelPs U H (l ++ m) (vs ++ ws)
  | [], _, _, _, r, s => by simp only [RelPs] at r; subst r; simpa using s
  | p :: l, m, vs, ws, r, s => by
    simp only [RelPs] at r
    obtain ⟨v, q, rfl, h1, h2⟩ := r
    show RelPs U H (p :: (l ++ m)) (v :: (q ++ ws))
    simp only [RelPs]
    exact ⟨v, q ++ ws, rfl, h1, RelPs.append h2 s⟩
theorem RelPs.one {p : P} {v : V} (h : RelP U H p v) : RelPs U H [p] [v] := by simp only [RelPs]; exact ⟨v, [], rfl, h, rfl⟩
theorem RelPs.two {p q : P} {v w : V} (h : RelP U H p v) (h' : RelP U H q w) : RelPs U H [p, q] [v, w] := by simp only [RelPs]; exact ⟨v, [w], rfl, h, w, [], rfl, h', rfl⟩
theorem RelPs.take : ∀ {l : List P} {vs : List V} (n : Nat), RelPs U H l vs → RelPs U H (l.take n) (vs.take n)
  | [], _, n, r => by simp only [RelPs] at r; subst r; simp [RelPs]
  | p :: l, vs, 0, r => by simp [RelPs]
  | p :: l, vs, n + 1, r => by
    simp only [RelPs] at r
    obtain ⟨v, q, rfl, h1, h2⟩ := r
    show RelPs U H (p :: l.take n) (v :: q.take n)
    simp only [RelPs]
    exact ⟨v, _, rfl, h1, RelPs.take n h2⟩
theorem RelPs.drop : ∀ {l : List P} {vs : List V} (n : Nat), RelPs U H l vs → RelPs U H (l.drop n) (vs.drop n)
  | [], _, n, r => by simp only [RelPs] at r; subst r; simp [RelPs]
  | p :: l, vs, 0, r => by simpa using r
  | p :: l, vs, n + 1, r => by
    simp only [RelPs] at r
    obtain ⟨v, q, rfl, h1, h2⟩ := r
    exact RelPs.drop n h2
theorem RelPs.set : ∀ {l : List P} {vs : List V} {p : P} {v : V} (n : Nat), RelPs U H l vs → RelP U H p v → RelPs U H (l.set n p) (vs.set n v)
  | [], _, _, _, n, r, _ => by simp only [RelPs] at r; subst r; simp [RelPs]
  | p :: l, vs, p', v', 0, r, h => by
    simp only [RelPs] at r
    obtain ⟨v, q, rfl, h1, h2⟩ := r
    show RelPs U H (p' :: l) (v' :: q)
    simp only [RelPs]
    exact ⟨v', _, rfl, h, h2⟩
  | p :: l, vs, p', v', n + 1, r, h => by
    simp only [RelPs] at r
    obtain ⟨v, q, rfl, h1, h2⟩ := r
    show RelPs U H (p :: l.set n p') (v :: q.set n v')
    simp only [RelPs]
    exact ⟨v, _, rfl, h1, RelPs.set n h2 h⟩
theorem RelPs.eraseIdx : ∀ {l : List P} {vs : List V} (n : Nat), RelPs U H l vs → RelPs U H (l.eraseIdx n) (vs.eraseIdx n)
  | [], _, n, r => by simp only [RelPs] at r; subst r; simp [RelPs]
  | p :: l, vs, 0, r => by
    simp only [RelPs] at r
    obtain ⟨v, q, rfl, h1, h2⟩ := r
    exact h2
  | p :: l, vs, n + 1, r => by
    simp only [RelPs] at r
    obtain ⟨v, q, rfl, h1, h2⟩ := r
    show RelPs U H (p :: l.eraseIdx n) (v :: q.eraseIdx n)
    simp only [RelPs]
    exact ⟨v, _, rfl, h1, RelPs.eraseIdx n h2⟩
theorem RelPs.reverse : ∀ {l : List P} {vs : List V}, RelPs U H l vs → RelPs U H l.reverse vs.reverse
  | [], _, r => by simp only [RelPs] at r; subst r; simp [RelPs]
  | p :: l, vs, r => by
    simp only [RelPs] at r
    obtain ⟨v, q, rfl, h1, h2⟩ := r
    rw [List.reverse_cons, List.reverse_cons]
    exact (RelPs.reverse h2).append (RelPs.one h1)
theorem RelPs.rep {l : List P} {vs : List V} (h : RelPs U H l vs) : ∀ k : Nat, RelPs U H (List.replicate k l).flatten (List.replicate k vs).flatten
  | 0 => by simp [RelPs]
  | k + 1 => by
    rw [List.replicate_succ, List.replicate_succ, List.flatten_cons, List.flatten_cons]
    exact h.append (RelPs.rep h k)
theorem RelKs.length : ∀ {l : List (Ky × P)} {ks : List (Key × V)}, RelKs U H l ks → ks.length = l.length
  | [], _, r => by simp only [RelKs] at r; simp [r]
  | (k, p) :: l, ks, r => by
    simp only [RelKs] at r
    obtain ⟨v, q, rfl, _, h2⟩ := r
    simp [RelKs.length h2]
theorem kyK_inj {a b : Ky} (h : kyK a = kyK b) : a = b := by
  cases a <;> cases b <;> simp_all [kyK]
theorem kyK_eq {a b : Ky} : (kyK a = kyK b) = (a = b) := propext ⟨kyK_inj, fun e => by rw [e]⟩
theorem RelKs.val : ∀ {l : List (Ky × P)} {ks : List (Key × V)} (k : Ky), RelKs U H l ks →
    (∃ p v, kget l k = some p ∧ valV ks (kyK k) = some v ∧ RelP U H p v) ∨ (kget l k = none ∧ valV ks (kyK k) = none)
  | [], _, k, r => by simp only [RelKs] at r; subst r; exact .inr ⟨rfl, rfl⟩
  | (j, p) :: l, ks, k, r => by
    simp only [RelKs] at r
    obtain ⟨v, q, rfl, h1, h2⟩ := r
    by_cases e : j = k
    · subst e
      exact .inl ⟨p, v, by simp [kget], valV_pos rfl, h1⟩
    · have e' : ¬ kyK j = kyK k := fun z => e (kyK_inj z)
      rw [show kget ((j, p) :: l) k = kget l k by simp [kget, e], valV_neg (p := (kyK j, v)) e']
      exact RelKs.val k h2
theorem RelKs.append : ∀ {l m : List (Ky × P)} {ks js : List (Key × V)}, RelKs U H l ks → RelKs U H m js → RelKs U H (l ++ m) (ks ++ js)
  | [], _, _, _, r, s => by simp only [RelKs] at r; subst r; simpa using s
  | (k, p) :: l, m, ks, js, r, s => by
    simp only [RelKs] at r
    obtain ⟨v, q, rfl, h1, h2⟩ := r
    show RelKs U H ((k, p) :: (l ++ m)) ((kyK k, v) :: (q ++ js))
    simp only [RelKs]
    exact ⟨v, q ++ js, rfl, h1, RelKs.append h2 s⟩
theorem RelKs.repl : ∀ {l : List (Ky × P)} {ks : List (Key × V)} (k : Ky) {p : P} {v : V}, RelKs U H l ks → RelP U H p v →
    RelKs U H (l.map fun e => if e.1 = k then (e.1, p) else e) (ks.map fun e => if e.1 = kyK k then (e.1, v) else e)
  | [], _, k, p, v, r, h => by simp only [RelKs] at r; subst r; simp [RelKs]
  | (j, q) :: l, ks, k, p, v, r, h => by
    simp only [RelKs] at r
    obtain ⟨w, qs, rfl, h1, h2⟩ := r
    have ih := RelKs.repl k h2 h
    by_cases e : j = k
    · subst e
      simp only [List.map_cons, if_true]
      show RelKs U H ((j, p) :: _) ((kyK j, v) :: _)
      simp only [RelKs]
      exact ⟨v, _, rfl, h, ih⟩
    · have e' : ¬ kyK j = kyK k := fun z => e (kyK_inj z)
      simp only [List.map_cons, if_neg e, if_neg e']
      show RelKs U H ((j, q) :: _) ((kyK j, w) :: _)
      simp only [RelKs]
      exact ⟨w, _, rfl, h1, ih⟩
theorem RelKs.put {l : List (Ky × P)} {ks : List (Key × V)} (k : Ky) {p : P} {v : V} (r : RelKs U H l ks) (h : RelP U H p v) : RelKs U H (kput l k p) (putK ks (kyK k) v) := by
  unfold kput putK
  rw [valV_any]
  rcases r.val k with ⟨p', v', h1, h2, _⟩ | ⟨h1, h2⟩
  · rw [h1, h2, if_pos (show (some p').isSome = true from rfl), if_pos (show (some v').isSome = true from rfl)]
    exact r.repl k h
  · rw [h1, h2, if_neg (show ¬ (none : Option P).isSome = true by decide), if_neg (show ¬ (none : Option V).isSome = true by decide)]
    refine r.append ?_
    simp only [RelKs]
    exact ⟨v, [], rfl, h, rfl⟩
theorem RelKs.drop : ∀ {l : List (Ky × P)} {ks : List (Key × V)} (k : Ky), RelKs U H l ks → RelKs U H (kdel l k) (dropK ks (kyK k))
  | [], _, k, r => by simp only [RelKs] at r; subst r; simp [RelKs, kdel, dropK]
  | (j, q) :: l, ks, k, r => by
    simp only [RelKs] at r
    obtain ⟨w, qs, rfl, h1, h2⟩ := r
    have ih := RelKs.drop k h2
    unfold kdel dropK at ih ⊢
    by_cases e : j = k
    · subst e
      simpa using ih
    · have e' : ¬ kyK j = kyK k := fun z => e (kyK_inj z)
      rw [List.filter_cons, List.filter_cons, if_pos (by simpa using e), if_pos (by simpa using e')]
      simp only [RelKs]
      exact ⟨w, _, rfl, h1, ih⟩
theorem RelKs.merge : ∀ {m l : List (Ky × P)} {js ks : List (Key × V)}, RelKs U H m js → RelKs U H l ks → RelKs U H (kmerge l m) (mergeK ks js)
  | [], _, _, _, r, s => by simp only [RelKs] at r; subst r; exact s
  | (k, p) :: m, l, js, ks, r, s => by
    simp only [RelKs] at r
    obtain ⟨v, q, rfl, h1, h2⟩ := r
    show RelKs U H (kmerge (kput l k p) m) (mergeK (putK ks (kyK k) v) q)
    exact RelKs.merge h2 (s.put k h1)
theorem length_kput (l : List (Ky × P)) (k : Ky) (p : P) : (kput l k p).length ≤ l.length + 1 := by
  unfold kput; split <;> simp
theorem length_kmerge : ∀ (m l : List (Ky × P)), (kmerge l m).length ≤ l.length + m.length
  | [], l => by simp [kmerge]
  | e :: m, l => by
    have h1 := length_kmerge m (kput l e.1 e.2)
    have h2 := length_kput l e.1 e.2
    show (kmerge (kput l e.1 e.2) m).length ≤ _
    simp only [List.length_cons]; omega
end
class TheW where
  P : Program
  w : World
variable [W : TheW]
def RelC (K : PySem.W.Frag) (U : Addr → Prop) (H : Hp) : P → V → Prop
  | .tup l, v => ∃ a vs, v = .ref a ∧ ((Rd H a (.tup vs) ∧ ¬ U a) ∨ (∃ (o : Obj) (its : Array Value) (n : Nat), K.lookup a = some o ∧ o.cls = .type "tuple" ∧ o.data = .seq its n ∧ its.size ≤ sizeLine ∧ Vals vs its.toList)) ∧ RelPs U H l vs
  | .lst l, v => ∃ a vs, v = .ref a ∧ ((Rd H a (.lst vs) ∧ ¬ U a) ∨ (∃ (o : Obj) (its : Array Value) (n : Nat), K.lookup a = some o ∧ o.cls = .type "list" ∧ o.dict = none ∧ o.data = .seq its n ∧ its.size ≤ sizeLine ∧ Vals vs its.toList)) ∧ RelPs U H l vs
  | .dic _, _ => False
  | p, v => RelP U H p v
def Mu (Z : Addr → Prop) (M : List Addr) (st : Store) (a : Addr) : Prop := Z a ∨ ∃ (k : Nat) (o : MO), M[k]? = some a ∧ st[k]? = some o ∧ o ≠ MO.dead
def olK : Option Ky → Leaf
  | none => .none
  | some (.int i) => .num i
  | some (.str x) => .text ⟨x.toArray⟩
def RelNs (U : Addr → Prop) (H : Hp) : List (Option Ky × P) → List (Leaf × V) → Prop
  | [], ks => ks = []
  | (k, p) :: l, ks => ∃ v r, ks = (olK k, v) :: r ∧ RelP U H p v ∧ RelNs U H l r
theorem RelNs.mono {U U' : Addr → Prop} {H H' : Hp} (h : ∀ a o, H a = some o → ¬ U a → H' a = some o ∧ ¬ U' a) : ∀ (l : List (Option Ky × P)) (ks : List (Leaf × V)), RelNs U H l ks → RelNs U' H' l ks
  | [], _, r => r
  | (k, p) :: l, ks, r => by
    obtain ⟨v, r', e, h1, h2⟩ := r
    exact ⟨v, r', e, RelP.mono h p v h1, RelNs.mono h l r' h2⟩
def ObjR [W : TheW] (U : Addr → Prop) (H : Hp) : MO → Addr → Prop
  | .lst l, a => ∃ vs, H a = some (.lst vs) ∧ RelPs U H l vs
  | .lstL l, a => ∃ vs, H a = some (.lst vs) ∧ RelPs U H l vs
  | .dic l, a => ∃ ks, H a = some (.dK ks) ∧ RelKs U H l ks
  | .dicL l, a => ∃ ks o, H a = some (.frz o (.dK ks)) ∧ RelKs U H l ks
  | .dn l, a => ∃ ks, H a = some (dnO W.P W.w a ks) ∧ RelNs U H l ks
  | .dead, _ => True
structure SRel [W : TheW] (Z : Addr → Prop) (M : List Addr) (st : Store) (H : Hp) : Prop where
  len : M.length = st.length
  nd : M.Nodup
  trk : ∀ a ∈ M, H a ≠ none
  hid : ∀ a, Z a → H a ≠ none ∧ a ∉ M
  obj : ∀ (k : Nat) (a : Addr) (o : MO), M[k]? = some a → st[k]? = some o → ObjR (Mu Z M st) H o a
def RelD (K : PySem.W.Frag) (Z : Addr → Prop) (M : List Addr) (st : Store) (H : Hp) : D → V → Prop
  | .p x, v => RelP (Mu Z M st) H x v
  | .r k, v => ∃ a : Addr, M[k]? = some a ∧ v = .ref a
  | .c x, v => RelC K (Mu Z M st) H x v
def RelDs (K : PySem.W.Frag) (Z : Addr → Prop) (M : List Addr) (st : Store) (H : Hp) : List D → List V → Prop
  | [], vs => vs = []
  | d :: l, vs => ∃ v r, vs = v :: r ∧ RelD K Z M st H d v ∧ RelDs K Z M st H l r
structure Frm (Z : Addr → Prop) (M : List Addr) (st : Store) (H : Hp) (M' : List Addr) (st' : Store) (H' : Hp) : Prop where
  pre : ∀ (k : Nat) (a : Addr), M[k]? = some a → M'[k]? = some a
  keep : ∀ a o, H a = some o → ¬ Mu Z M st a → H' a = some o ∧ ¬ Mu Z M' st' a
  stay : ∀ a, H a ≠ none → H' a ≠ none
  frz : ∀ a o u, H a = some (.frz o u) → H' a = some (.frz o u)
  hid : ∀ a, Z a → H' a = H a
  lk : ∀ (k : Nat) (l : List P), st[k]? = some (MO.lstL l) → st'[k]? = some (MO.lstL l)
section
variable {K : PySem.W.Frag} {Z : Addr → Prop} {M M' M'' : List Addr} {st st' st'' : Store} {H H' H'' : Hp}
theorem Frm.refl : Frm Z M st H M st H := ⟨fun _ _ h => h, fun _ _ h n => ⟨h, n⟩, fun _ h => h, fun _ _ _ h => h, fun _ _ => rfl, fun _ _ h => h⟩
theorem Frm.trans (f : Frm Z M st H M' st' H') (g : Frm Z M' st' H' M'' st'' H'') : Frm Z M st H M'' st'' H'' :=
  ⟨fun k a h => g.pre k a (f.pre k a h), fun a o h n => g.keep a o (f.keep a o h n).1 (f.keep a o h n).2, fun a h => g.stay a (f.stay a h), fun a o u h => g.frz a o u (f.frz a o u h), fun a h => (g.hid a h).trans (f.hid a h), fun k l h => g.lk k l (f.lk k l h)⟩
theorem RelP.fr {p : P} {v : V} (f : Frm Z M st H M' st' H') (r : RelP (Mu Z M st) H p v) : RelP (Mu Z M' st') H' p v := RelP.mono f.keep p v r
theorem RelPs.fr {p : List P} {v : List V} (f : Frm Z M st H M' st' H') (r : RelPs (Mu Z M st) H p v) : RelPs (Mu Z M' st') H' p v := RelPs.mono f.keep p v r
theorem RelKs.fr {p : List (Ky × P)} {v : List (Key × V)} (f : Frm Z M st H M' st' H') (r : RelKs (Mu Z M st) H p v) : RelKs (Mu Z M' st') H' p v := RelKs.mono f.keep p v r
theorem Rd.fr {a : Addr} {u : HO} (f : Frm Z M st H M' st' H') (r : Rd H a u) (n : ¬ Mu Z M st a) : Rd H' a u ∧ ¬ Mu Z M' st' a := by
  rcases r with r | ⟨o, r⟩
  · exact ⟨.inl (f.keep a _ r n).1, (f.keep a _ r n).2⟩
  · exact ⟨.inr ⟨o, (f.keep a _ r n).1⟩, (f.keep a _ r n).2⟩
theorem RelC.fr {p : P} {v : V} (f : Frm Z M st H M' st' H') (r : RelC K (Mu Z M st) H p v) : RelC K (Mu Z M' st') H' p v := by
  cases p with
  | tup l =>
    obtain ⟨a, vs, e, h1, h2⟩ := r
    refine ⟨a, vs, e, ?_, h2.fr f⟩
    rcases h1 with ⟨h1, n⟩ | h1
    · exact .inl (Rd.fr f h1 n)
    · exact .inr h1
  | lst l =>
    obtain ⟨a, vs, e, h1, h2⟩ := r
    refine ⟨a, vs, e, ?_, h2.fr f⟩
    rcases h1 with ⟨h1, n⟩ | h1
    · exact .inl (Rd.fr f h1 n)
    · exact .inr h1
  | dic l => exact r.elim
  | non => exact RelP.fr f r
  | bl _ => exact RelP.fr f r
  | int _ => exact RelP.fr f r
  | str _ => exact RelP.fr f r
theorem RelD.fr {d : D} {v : V} (f : Frm Z M st H M' st' H') (r : RelD K Z M st H d v) : RelD K Z M' st' H' d v := by
  cases d with
  | p x => exact RelP.fr f r
  | r k => obtain ⟨a, h, e⟩ := r; exact ⟨a, f.pre k a h, e⟩
  | c x => exact RelC.fr f r
theorem RelDs.fr : ∀ {ds : List D} {vs : List V}, Frm Z M st H M' st' H' → RelDs K Z M st H ds vs → RelDs K Z M' st' H' ds vs
  | [], _, _, r => r
  | d :: l, vs, f, r => by
    obtain ⟨v, q, e, h1, h2⟩ := r
    exact ⟨v, q, e, h1.fr f, h2.fr f⟩
theorem RelDs.length : ∀ {ds : List D} {vs : List V}, RelDs K Z M st H ds vs → vs.length = ds.length
  | [], _, r => by rw [show _ = [] from r]; rfl
  | d :: l, vs, r => by
    obtain ⟨v, q, e, h1, h2⟩ := r
    subst e
    simp [h2.length]
theorem RelDs.pures : ∀ {ds : List D} {vs : List V} {l : List P}, RelDs K Z M st H ds vs → pures ds = some l → RelPs (Mu Z M st) H l vs
  | [], _, l, r, h => by
    cases h
    rw [show _ = [] from r]
    simp [RelPs]
  | .p x :: ds, vs, l, r, h => by
    obtain ⟨v, q, e, h1, h2⟩ := r
    subst e
    simp only [NH.pures] at h
    split at h
    · cases h
      rename_i l' hl
      simp only [RelPs]
      exact ⟨v, q, rfl, h1, h2.pures hl⟩
    · cases h
  | .r _ :: _, _, _, _, h => by cases h
  | .c _ :: _, _, _, _, h => by cases h
def EnvRel (K : PySem.W.Frag) (Z : Addr → Prop) (M : List Addr) (st : Store) (H : Hp) (δ : Env) (σ : St) : Prop :=
  δ.length = σ.length ∧ ∀ i d, getV δ i = some d → ∃ v, σ[i]? = some (some v) ∧ RelD K Z M st H d v
theorem EnvRel.fr {δ : Env} {σ : St} (f : Frm Z M st H M' st' H') (r : EnvRel K Z M st H δ σ) : EnvRel K Z M' st' H' δ σ :=
  ⟨r.1, fun i d h => let ⟨v, a, b⟩ := r.2 i d h; ⟨v, a, b.fr f⟩⟩
theorem length_setV : ∀ (δ : Env) (i : Nat) (d : D), (setV δ i d).length = δ.length
  | [], _, _ => rfl
  | _ :: r, 0, d => rfl
  | x :: r, n + 1, d => by simp [setV, length_setV r n d]
theorem length_delV : ∀ (δ : Env) (i : Nat), (delV δ i).length = δ.length
  | [], _ => rfl
  | _ :: r, 0 => rfl
  | x :: r, n + 1 => by simp [delV, length_delV r n]
theorem getV_setV : ∀ (δ : Env) (i j : Nat) (d e : D), getV (setV δ i d) j = some e → (j = i ∧ e = d ∧ i < δ.length) ∨ (j ≠ i ∧ getV δ j = some e)
  | [], i, j, d, e, h => by simp [setV, getV] at h
  | x :: r, 0, 0, d, e, h => by simp [setV, getV] at h; exact .inl ⟨rfl, h.symm, by simp⟩
  | x :: r, 0, j + 1, d, e, h => .inr ⟨by simp, by simpa [setV, getV] using h⟩
  | x :: r, i + 1, 0, d, e, h => .inr ⟨by simp, by simpa [setV, getV] using h⟩
  | x :: r, i + 1, j + 1, d, e, h => by
    rcases getV_setV r i j d e (by simpa [setV, getV] using h) with ⟨a, b, c⟩ | ⟨a, b⟩
    · exact .inl ⟨by omega, b, by simp; omega⟩
    · exact .inr ⟨by omega, by simpa [getV] using b⟩
theorem getV_delV : ∀ (δ : Env) (i j : Nat) (e : D), getV (delV δ i) j = some e → j ≠ i ∧ getV δ j = some e
  | [], i, j, e, h => by simp [delV, getV] at h
  | x :: r, 0, 0, e, h => by simp [delV, getV] at h
  | x :: r, 0, j + 1, e, h => ⟨by simp, by simpa [delV, getV] using h⟩
  | x :: r, i + 1, 0, e, h => ⟨by simp, by simpa [delV, getV] using h⟩
  | x :: r, i + 1, j + 1, e, h => by
    obtain ⟨a, b⟩ := getV_delV r i j e (by simpa [delV, getV] using h)
    exact ⟨by omega, by simpa [getV] using b⟩
theorem EnvRel.set {δ : Env} {σ : St} {i : Nat} {d : D} {v : V} (r : EnvRel K Z M st H δ σ) (h : RelD K Z M st H d v) : EnvRel K Z M st H (setV δ i d) (σ.set i (some v)) := by
  refine ⟨by rw [length_setV, List.length_set]; exact r.1, fun j e g => ?_⟩
  rcases getV_setV δ i j d e g with ⟨rfl, rfl, hl⟩ | ⟨hne, g⟩
  · exact ⟨v, by rw [List.getElem?_set_self (by rw [← r.1]; exact hl)], h⟩
  · obtain ⟨w, a, b⟩ := r.2 j e g
    exact ⟨w, by rw [List.getElem?_set_ne (Ne.symm hne)]; exact a, b⟩
theorem EnvRel.del {δ : Env} {σ : St} {i : Nat} (r : EnvRel K Z M st H δ σ) : EnvRel K Z M st H (delV δ i) (σ.set i none) := by
  refine ⟨by rw [length_delV, List.length_set]; exact r.1, fun j e g => ?_⟩
  obtain ⟨hne, g⟩ := getV_delV δ i j e g
  obtain ⟨w, a, b⟩ := r.2 j e g
  exact ⟨w, by rw [List.getElem?_set_ne (Ne.symm hne)]; exact a, b⟩
theorem EnvRel.wipe {δ : Env} {σ : St} (r : EnvRel K Z M st H δ σ) : ∀ l : List Nat, EnvRel K Z M st H (delVs δ l) (wipe σ l)
  | [] => r
  | i :: l => (EnvRel.wipe r l).del
end
end NH
namespace NH
variable [W : TheW]
open PySem L2
section
variable {K : PySem.W.Frag} {Z : Addr → Prop} {M M' : List Addr} {st st' : Store} {H H' : Hp} {a : Addr} {o : HO}
theorem Mu.trk (sr : SRel Z M st H) (m : Mu Z M st a) : H a ≠ none := by
  rcases m with m | ⟨_, _, h, _, _⟩
  · exact (sr.hid a m).1
  · exact sr.trk a (List.mem_of_getElem? h)
theorem ObjR.mono {U U' : Addr → Prop} {ob : MO} (h : ∀ a o, H a = some o → ¬ U a → H' a = some o ∧ ¬ U' a) (h' : ∀ o, H a = some o → H' a = some o) (r : ObjR U H ob a) : ObjR U' H' ob a := by
  cases ob with
  | lst l => obtain ⟨vs, e, r⟩ := r; exact ⟨vs, h' _ e, RelPs.mono h _ _ r⟩
  | lstL l => obtain ⟨vs, e, r⟩ := r; exact ⟨vs, h' _ e, RelPs.mono h _ _ r⟩
  | dic l => obtain ⟨vs, e, r⟩ := r; exact ⟨vs, h' _ e, RelKs.mono h _ _ r⟩
  | dicL l => obtain ⟨vs, o, e, r⟩ := r; exact ⟨vs, o, h' _ e, RelKs.mono h _ _ r⟩
  | dn l => obtain ⟨vs, e, r⟩ := r; exact ⟨vs, h' _ e, RelNs.mono h _ _ r⟩
  | dead => trivial
theorem Frm.new (sr : SRel Z M st H) (hn : H a = none) : Frm Z M st H M st (upd H a o) where
  pre := fun _ _ h => h
  keep := fun b u h n => ⟨by rw [upd_ne (ne_of_none h hn)]; exact h, n⟩
  stay := fun b h => by
    unfold upd; split
    · simp
    · exact h
  frz := fun b x u h => by rw [upd_ne (ne_of_none h hn)]; exact h
  hid := fun b h => upd_ne fun e => (sr.hid b h).1 (e ▸ hn)
  lk := fun _ _ h => h
theorem SRel.new (sr : SRel Z M st H) (hn : H a = none) : SRel Z M st (upd H a o) where
  len := sr.len
  nd := sr.nd
  trk := fun b h => (Frm.new (o := o) sr hn).stay b (sr.trk b h)
  hid := fun b h => ⟨(Frm.new (o := o) sr hn).stay b (sr.hid b h).1, (sr.hid b h).2⟩
  obj := fun k b ob h1 h2 => (sr.obj k b ob h1 h2).mono (Frm.new (o := o) sr hn).keep fun u e => by rw [upd_ne (ne_of_none e hn)]; exact e
theorem notMu_new (sr : SRel Z M st H) (hn : H a = none) : ¬ Mu Z M st a := fun m => m.trk sr hn
theorem RelP.newT {l : List P} {vs : List V} (sr : SRel Z M st H) (hn : H a = none) (r : RelPs (Mu Z M st) H l vs) : RelP (Mu Z M st) (upd H a (.tup vs)) (.tup l) (.ref a) := by
  simp only [RelP]
  exact ⟨a, vs, rfl, upd_same, notMu_new sr hn, r.fr (Frm.new sr hn)⟩
theorem RelP.newL {l : List P} {vs : List V} (sr : SRel Z M st H) (hn : H a = none) (r : RelPs (Mu Z M st) H l vs) : RelP (Mu Z M st) (upd H a (.lst vs)) (.lst l) (.ref a) := by
  simp only [RelP]
  exact ⟨a, vs, rfl, upd_same, notMu_new sr hn, r.fr (Frm.new sr hn)⟩
theorem RelP.newD {l : List (Ky × P)} {ks : List (Key × V)} (sr : SRel Z M st H) (hn : H a = none) (r : RelKs (Mu Z M st) H l ks) : RelP (Mu Z M st) (upd H a (.dK ks)) (.dic l) (.ref a) := by
  simp only [RelP]
  exact ⟨a, ks, rfl, .inl upd_same, notMu_new sr hn, r.fr (Frm.new sr hn)⟩
theorem Mu.snoc {ob : MO} (sr : SRel Z M st H) {b : Addr} (m : Mu Z (M ++ [a]) (st ++ [ob]) b) : Mu Z M st b ∨ b = a := by
  rcases m with m | ⟨k, u, h1, h2, h3⟩
  · exact .inl (.inl m)
  by_cases hk : k < M.length
  · rw [List.getElem?_append_left hk] at h1
    rw [List.getElem?_append_left (by rw [← sr.len]; exact hk)] at h2
    exact .inl (.inr ⟨k, u, h1, h2, h3⟩)
  · rw [List.getElem?_append_right (by omega)] at h1
    have : k - M.length = 0 := by
      have := (List.getElem?_eq_some_iff.mp h1).1
      simp at this; omega
    rw [this] at h1
    simp at h1
    exact .inr h1.symm
theorem Frm.snoc {ob : MO} (sr : SRel Z M st H) (hn : H a = none) : Frm Z M st H (M ++ [a]) (st ++ [ob]) (upd H a o) where
  pre := fun k b h => by rw [List.getElem?_append_left (List.getElem?_eq_some_iff.mp h).1]; exact h
  keep := fun b u h n => ⟨by rw [upd_ne (ne_of_none h hn)]; exact h, fun m => by
    rcases m.snoc sr with m | e
    · exact n m
    · exact ne_of_none h hn e⟩
  stay := (Frm.new (o := o) sr hn).stay
  frz := (Frm.new (o := o) sr hn).frz
  hid := (Frm.new (o := o) sr hn).hid
  lk := fun k l h => by rw [List.getElem?_append_left (List.getElem?_eq_some_iff.mp h).1]; exact h
theorem SRel.snoc {ob : MO} (sr : SRel Z M st H) (hn : H a = none) (ho : ObjR (Mu Z (M ++ [a]) (st ++ [ob])) (upd H a o) ob a) : SRel Z (M ++ [a]) (st ++ [ob]) (upd H a o) where
  len := by simp [sr.len]
  nd := by
    rw [List.nodup_append]
    refine ⟨sr.nd, by simp, fun x hx y hy => ?_⟩
    have : y = a := by simpa using hy
    subst this
    exact fun e => sr.trk x hx (e ▸ hn)
  trk := fun b h => by
    rcases List.mem_append.mp h with h | h
    · exact (Frm.new (o := o) sr hn).stay b (sr.trk b h)
    · have : b = a := by simpa using h
      subst this
      rw [upd_same]; simp
  hid := fun b h => ⟨(Frm.new (o := o) sr hn).stay b (sr.hid b h).1, fun hm => by
    rcases List.mem_append.mp hm with hm | hm
    · exact (sr.hid b h).2 hm
    · have : b = a := by simpa using hm
      subst this
      exact (sr.hid b h).1 hn⟩
  obj := fun k b u h1 h2 => by
    by_cases hk : k < M.length
    · rw [List.getElem?_append_left hk] at h1
      rw [List.getElem?_append_left (by rw [← sr.len]; exact hk)] at h2
      exact (sr.obj k b u h1 h2).mono (Frm.snoc (o := o) sr hn).keep fun u e => by rw [upd_ne (ne_of_none e hn)]; exact e
    · have hk2 : k = M.length := by
        have := (List.getElem?_eq_some_iff.mp h1).1
        simp at this; omega
      subst hk2
      rw [List.getElem?_append_right (Nat.le_refl _)] at h1
      rw [sr.len, List.getElem?_append_right (Nat.le_refl _)] at h2
      simp at h1 h2
      subst h1 h2
      exact ho
theorem get_snoc (sr : SRel Z M st H) : (M ++ [a])[st.length]? = some a := by
  rw [← sr.len, List.getElem?_append_right (Nat.le_refl _)]; simp
theorem Mu.set {k : Nat} {ob ob' : MO} (h1 : st[k]? = some ob) (h2 : ob ≠ .dead) {b : Addr} (m : Mu Z M (st.set k ob') b) : Mu Z M st b := by
  rcases m with m | ⟨j, u, a1, a2, a3⟩
  · exact .inl m
  by_cases e : j = k
  · subst e; exact .inr ⟨j, ob, a1, h1, h2⟩
  · rw [List.getElem?_set_ne (Ne.symm e)] at a2; exact .inr ⟨j, u, a1, a2, a3⟩
theorem Frm.write {k : Nat} {ob ob' : MO} (sr : SRel Z M st H) (hk : M[k]? = some a) (h1 : st[k]? = some ob) (h2 : ob ≠ .dead) (hL : ∀ l, ob ≠ MO.lstL l) (hf : ∀ x u, H a ≠ some (.frz x u)) : Frm Z M st H M (st.set k ob') (upd H a o) where
  pre := fun _ _ h => h
  keep := fun b u h n => by
    have : b ≠ a := fun e => n (e ▸ .inr ⟨k, ob, hk, h1, h2⟩)
    exact ⟨by rw [upd_ne this]; exact h, fun m => n (m.set h1 h2)⟩
  stay := fun b h => by
    unfold upd; split
    · simp
    · exact h
  frz := fun b x u h => by
    have : b ≠ a := fun e => hf x u (e ▸ h)
    rw [upd_ne this]; exact h
  hid := fun b h => upd_ne fun e => (sr.hid b h).2 (e ▸ List.mem_of_getElem? hk)
  lk := fun j l h => by
    have : k ≠ j := fun e => hL l (by subst e; rw [h] at h1; cases h1; rfl)
    rw [List.getElem?_set_ne this]; exact h
theorem SRel.write {k : Nat} {ob ob' : MO} (sr : SRel Z M st H) (hk : M[k]? = some a) (h1 : st[k]? = some ob) (h2 : ob ≠ .dead) (hL : ∀ l, ob ≠ MO.lstL l) (h3 : ob' ≠ .dead) (hf : ∀ x u, H a ≠ some (.frz x u))
    (ho : ObjR (Mu Z M (st.set k ob')) (upd H a o) ob' a) : SRel Z M (st.set k ob') (upd H a o) where
  len := by rw [List.length_set]; exact sr.len
  nd := sr.nd
  trk := fun b h => (Frm.write (ob' := ob') (o := o) sr hk h1 h2 hL hf).stay b (sr.trk b h)
  hid := fun b h => ⟨(Frm.write (ob' := ob') (o := o) sr hk h1 h2 hL hf).stay b (sr.hid b h).1, (sr.hid b h).2⟩
  obj := fun j b u g1 g2 => by
    by_cases e : j = k
    · subst e
      rw [hk] at g1; cases g1
      rw [List.getElem?_set_self (List.getElem?_eq_some_iff.mp h1).1] at g2
      cases g2
      exact ho
    · rw [List.getElem?_set_ne (Ne.symm e)] at g2
      have hne : b ≠ a := fun z => e (by
        subst z
        exact nodup_ix' sr.nd g1 hk)
      exact (sr.obj j b u g1 g2).mono (Frm.write (ob' := ob') (o := o) sr hk h1 h2 hL hf).keep fun u e => by rw [upd_ne hne]; exact e
where
  nodup_ix' {l : List Addr} (hN : l.Nodup) {i j : Nat} {x : Addr} (a : l[i]? = some x) (b : l[j]? = some x) : i = j := by
    obtain ⟨h1, e1⟩ := List.getElem?_eq_some_iff.mp a
    obtain ⟨h2, e2⟩ := List.getElem?_eq_some_iff.mp b
    exact (List.getElem_inj hN).mp (e1.trans e2.symm)
theorem ix_inj {l : List Addr} (hN : l.Nodup) {i j : Nat} {x : Addr} (a : l[i]? = some x) (b : l[j]? = some x) : i = j := by
  obtain ⟨h1, e1⟩ := List.getElem?_eq_some_iff.mp a
  obtain ⟨h2, e2⟩ := List.getElem?_eq_some_iff.mp b
  exact (List.getElem_inj hN).mp (e1.trans e2.symm)
theorem Mu.kill {k : Nat} {b : Addr} (m : Mu Z M (st.set k .dead) b) : Mu Z M st b := by
  rcases m with m | ⟨j, u, a1, a2, a3⟩
  · exact .inl m
  by_cases e : j = k
  · subst e
    by_cases hj : j < st.length
    · rw [List.getElem?_set_self hj] at a2; cases a2; exact absurd rfl a3
    · rw [List.getElem?_eq_none (by simpa using hj)] at a2; cases a2
  · rw [List.getElem?_set_ne (Ne.symm e)] at a2; exact .inr ⟨j, u, a1, a2, a3⟩
theorem Frm.kill {k : Nat} (hL : ∀ l, st[k]? ≠ some (MO.lstL l)) : Frm Z M st H M (st.set k .dead) H where
  pre := fun _ _ h => h
  keep := fun b u h n => ⟨h, fun m => n m.kill⟩
  stay := fun b h => h
  frz := fun b x u h => h
  hid := fun _ _ => rfl
  lk := fun j l h => by
    have : k ≠ j := fun e => hL l (e ▸ h)
    rw [List.getElem?_set_ne this]; exact h
theorem SRel.kill {k : Nat} (sr : SRel Z M st H) : SRel Z M (st.set k .dead) H where
  len := by rw [List.length_set]; exact sr.len
  nd := sr.nd
  trk := sr.trk
  hid := sr.hid
  obj := fun j b u g1 g2 => by
    by_cases e : j = k
    · subst e
      by_cases hj : j < st.length
      · rw [List.getElem?_set_self hj] at g2; cases g2; trivial
      · rw [List.getElem?_eq_none (by simpa using hj)] at g2; cases g2
    · rw [List.getElem?_set_ne (Ne.symm e)] at g2
      exact (sr.obj j b u g1 g2).mono (fun a o h n => ⟨h, fun m => n m.kill⟩) fun u e => e
theorem not_killed {k : Nat} (sr : SRel Z M st H) (hk : M[k]? = some a) : ¬ Mu Z M (st.set k .dead) a := by
  rintro (m | ⟨j, u, a1, a2, a3⟩)
  · exact (sr.hid a m).2 (List.mem_of_getElem? hk)
  have e := ix_inj sr.nd a1 hk
  subst e
  by_cases hj : j < st.length
  · rw [List.getElem?_set_self hj] at a2; cases a2; exact a3 rfl
  · rw [List.getElem?_eq_none (by simpa using hj)] at a2; cases a2
theorem SRel.get {k : Nat} {ob : MO} (sr : SRel Z M st H) (h : st[k]? = some ob) : ∃ a, M[k]? = some a ∧ ObjR (Mu Z M st) H ob a := by
  have hk : k < M.length := by rw [sr.len]; exact (List.getElem?_eq_some_iff.mp h).1
  exact ⟨M[k], List.getElem?_eq_getElem hk, sr.obj k _ ob (List.getElem?_eq_getElem hk) h⟩
theorem RelD.ref_get {k : Nat} {v : V} {ob : MO} (sr : SRel Z M st H) (r : RelD K Z M st H (.r k) v) (h : st[k]? = some ob) : ∃ a, v = .ref a ∧ M[k]? = some a ∧ ObjR (Mu Z M st) H ob a := by
  obtain ⟨a, h1, e⟩ := r
  exact ⟨a, e, h1, sr.obj k a ob h1 h⟩
def plusZ (Z : Addr → Prop) (a : Addr) : Addr → Prop := fun b => Z b ∨ b = a
theorem SRel.hide (sr : SRel Z M st H) (hn : H a = none) : SRel (plusZ Z a) M st (upd H a o) where
  len := sr.len
  nd := sr.nd
  trk := (SRel.new (o := o) sr hn).trk
  hid := fun b h => by
    rcases h with h | h
    · exact (SRel.new (o := o) sr hn).hid b h
    · subst h
      exact ⟨by rw [upd_same]; simp, fun hm => sr.trk b hm hn⟩
  obj := fun k b ob h1 h2 => (sr.obj k b ob h1 h2).mono (fun c u e n => ⟨by rw [upd_ne (ne_of_none e hn)]; exact e, fun m => by
    rcases m with (m | m) | m
    · exact n (.inl m)
    · exact ne_of_none e hn m
    · exact n (.inr m)⟩) fun u e => by rw [upd_ne (ne_of_none e hn)]; exact e
theorem keep_hide (hn : H a = none) : ∀ c u, H c = some u → ¬ Mu Z M st c → upd H a o c = some u ∧ ¬ Mu (plusZ Z a) M st c := fun c u e n => ⟨by rw [upd_ne (ne_of_none e hn)]; exact e, fun m => by
    rcases m with (m | m) | m
    · exact n (.inl m)
    · exact ne_of_none e hn m
    · exact n (.inr m)⟩
theorem RelC.mono {U U' : Addr → Prop} (h : ∀ a o, H a = some o → ¬ U a → H' a = some o ∧ ¬ U' a) {p : P} {v : V} (r : RelC K U H p v) : RelC K U' H' p v := by
  have rd : ∀ {a u}, Rd H a u → ¬ U a → Rd H' a u ∧ ¬ U' a := fun {a u} r n => by
    rcases r with r | ⟨o, r⟩
    · exact ⟨.inl (h a _ r n).1, (h a _ r n).2⟩
    · exact ⟨.inr ⟨o, (h a _ r n).1⟩, (h a _ r n).2⟩
  cases p with
  | tup l =>
    obtain ⟨a, vs, e, h1, h2⟩ := r
    exact ⟨a, vs, e, h1.imp (fun z => rd z.1 z.2) id, RelPs.mono h _ _ h2⟩
  | lst l =>
    obtain ⟨a, vs, e, h1, h2⟩ := r
    exact ⟨a, vs, e, h1.imp (fun z => rd z.1 z.2) id, RelPs.mono h _ _ h2⟩
  | dic l => exact r.elim
  | non => exact RelP.mono h _ _ r
  | bl _ => exact RelP.mono h _ _ r
  | int _ => exact RelP.mono h _ _ r
  | str _ => exact RelP.mono h _ _ r
theorem RelD.hide {d : D} {v : V} (hn : H a = none) (r : RelD K Z M st H d v) : RelD K (plusZ Z a) M st (upd H a o) d v := by
  cases d with
  | p x => exact RelP.mono (keep_hide hn) _ _ r
  | r k => exact r
  | c x => exact RelC.mono (keep_hide hn) r
theorem EnvRel.hide {δ : Env} {σ : St} (hn : H a = none) (r : EnvRel K Z M st H δ σ) : EnvRel K (plusZ Z a) M st (upd H a o) δ σ :=
  ⟨r.1, fun i d h => let ⟨v, p, q⟩ := r.2 i d h; ⟨v, p, q.hide hn⟩⟩
theorem SRel.remake (sr : SRel (plusZ Z a) M st H) : SRel (plusZ Z a) M st (upd H a o) where
  len := sr.len
  nd := sr.nd
  trk := fun b h => by rw [upd_ne (show b ≠ a from fun e => (sr.hid a (.inr rfl)).2 (e ▸ h))]; exact sr.trk b h
  hid := fun b h => by
    refine ⟨?_, (sr.hid b h).2⟩
    unfold upd; split
    · simp
    · exact (sr.hid b h).1
  obj := fun k b ob h1 h2 => (sr.obj k b ob h1 h2).mono (fun c u e n => ⟨by rw [upd_ne fun z => n (.inl (.inr z))]; exact e, n⟩) fun u e => by
    rw [upd_ne (show b ≠ a from fun z => (sr.hid a (.inr rfl)).2 (z ▸ List.mem_of_getElem? h1))]; exact e
theorem keep_remake : ∀ c u, H c = some u → ¬ Mu (plusZ Z a) M st c → upd H a o c = some u ∧ ¬ Mu (plusZ Z a) M st c := fun c u e n => ⟨by rw [upd_ne fun z => n (.inl (.inr z))]; exact e, n⟩
theorem EnvRel.remake {δ : Env} {σ : St} (r : EnvRel K (plusZ Z a) M st H δ σ) : EnvRel K (plusZ Z a) M st (upd H a o) δ σ :=
  ⟨r.1, fun i d h => by
    obtain ⟨v, p, q⟩ := r.2 i d h
    refine ⟨v, p, ?_⟩
    cases d with
    | p x => exact RelP.mono keep_remake _ _ q
    | r k => exact q
    | c x => exact RelC.mono keep_remake q⟩
theorem keep_show (nz : ¬ Z a) (sr : SRel (plusZ Z a) M st H) : ∀ c u, H c = some u → ¬ Mu (plusZ Z a) M st c → H c = some u ∧ ¬ Mu Z M st c := fun c u e n => ⟨e, fun m => n (m.elim (fun z => .inl (.inl z)) .inr)⟩
theorem SRel.show (nz : ¬ Z a) (sr : SRel (plusZ Z a) M st H) : SRel Z M st H where
  len := sr.len
  nd := sr.nd
  trk := sr.trk
  hid := fun b h => sr.hid b (.inl h)
  obj := fun k b ob h1 h2 => (sr.obj k b ob h1 h2).mono (keep_show nz sr) fun u e => e
theorem notMu_show (nz : ¬ Z a) (sr : SRel (plusZ Z a) M st H) : ¬ Mu Z M st a := by
  rintro (m | ⟨k, o, h, _⟩)
  · exact nz m
  · exact (sr.hid a (.inr rfl)).2 (List.mem_of_getElem? h)
theorem Frm.made (sr : SRel Z M st H) (hn : H a = none) {o1 : HO} (f : Frm (plusZ Z a) M st (upd H a o1) M' st' H') : Frm Z M st H M' st' (upd H' a o) where
  pre := f.pre
  keep := fun b u h n => by
    have ne : b ≠ a := ne_of_none h hn
    have h1 := keep_hide (o := o1) hn b u h n
    have h2 := f.keep b u h1.1 h1.2
    exact ⟨by rw [upd_ne ne]; exact h2.1, fun m => h2.2 (m.elim (fun z => .inl (.inl z)) .inr)⟩
  stay := fun b h => by
    unfold upd; split
    · simp
    · refine f.stay b ?_
      unfold upd; split
      · simp
      · exact h
  frz := fun b x u h => by
    have ne : b ≠ a := ne_of_none h hn
    rw [upd_ne ne]
    exact f.frz b x u (by rw [upd_ne ne]; exact h)
  hid := fun b h => by
    have hb : b ≠ a := fun e => (sr.hid b h).1 (e ▸ hn)
    rw [upd_ne hb, f.hid b (.inl h), upd_ne hb]
  lk := f.lk
end
end NH
namespace NH
open PySem L2 PySem.Spec PyProof.Rows
structure FnG (P : Program) (w : World) (K : PySem.W.Frag) (mg : Str → Option Value) (base : Heap) (k : Nat) (f : Addr) (fd : FuncData) (ps : List Str) (sp : Sp) : Prop where
  len : ∀ vs H Q E, sp vs H Q E → vs.length = ps.length
  run : ∀ (A : Around) (outer : List PySem.Env) (s : Shared) (H : Hp) (args : Args) (us : List Value) (vs : List V) (Q : VK) (E : XK), Room k A → A.guards = some [] → Env0 P w K mg base A outer s H → BindsTo s fd args (ps.zip us) → Vals vs us → sp vs H Q E →
    codeAny (model P w) A (.call (.ref f) args) (CR CX0 outer P w H s Q E) s
section
variable {X : Cx} {k : Nat} {f : Addr} {fd : FuncData} {ps : List Str} {sp : Sp} {x : Str} {p pos : Pos} {e : Expr} {es : List Expr} {t : TA}
theorem run_g {pins : List (Addr × Obj)} {σ : L2.St} {H : Hp} {s : Shared} {Q : VK} {us : List Value} {vs : List V} (F : FnG X.prog X.w X.K X.mg X.base k f fd ps sp) (hr : Room k X.A) (hgd : X.A.guards = some []) (hb : Binds X.K fd ps [])
    (I : Inv X pins σ H s) (r : Vals vs us) (h : sp vs H Q E0) : wpAny (model X.prog X.w) X.A (call (.ref f) us) (EP X pins σ Q) X.xe s := by
  have hl : (us ++ []).length = ps.length := by rw [List.append_nil, ← r.length]; exact F.len _ _ _ _ h
  have hb' := hb s us I.kIn hl
  rw [List.append_nil] at hb'
  refine wpAny_call (codeAny_mono (F.run X.A X.stack s H ⟨us, []⟩ us vs Q E0 hr hgd I.env0 hb' r h) fun r s' hq => ?_)
  cases r with
  | error e => exact False.elim hq
  | ok fl =>
    cases fl with
    | ret u => exact I.after hq
    | next => exact False.elim hq
    | brk => exact False.elim hq
    | cont => exact False.elim hq
def tCallG (sp : Sp) (t : TA) : TE := fun σ H Q => t σ H fun vs H1 => sp vs H1 Q E0
theorem pe_callG (F : FnG X.prog X.w X.K X.mg X.base k f fd ps sp) (hr : Room k X.A) (hgd : X.A.guards = some []) (hg : Gl X x) (hm : X.mg x = some (.ref f)) (hk : PySem.W.keepIn X.K (.ref f) = true) (hb : Binds X.K fd ps [])
    (ha : PA X (e :: es) t) (hdb : (x == ("__debug__" : Str)) = false := by decide) (he : starEach (e :: es) X.env = (false, eval e X.env) :: starEach es X.env := by rfl) (hpl : (backTo pos (starEach es X.env)).any (·.1) = false := by rfl) :
    PE X (.Call (.Name x p) (e :: es) [] pos) (tCallG sp t) := by
  refine ⟨fun pins s σ H Q I h => ?_⟩
  refine wpAny_Call_Name_kw (ld_glob I hg hm ?_ hdb)
  refine PySem.W.callWith_K (h₀ := X.base) I.ok.mod.kin hk (thn (ha.run pos pins s σ H _ I h) fun us s1 ⟨vs, H1, I1, r, q⟩ => ⟨I1.kIn, ?_⟩) he hpl
  exact run_g F hr hgd hb I1 r q
theorem pe_callG0 (F : FnG X.prog X.w X.K X.mg X.base k f fd ps sp) (hr : Room k X.A) (hgd : X.A.guards = some []) (hg : Gl X x) (hm : X.mg x = some (.ref f)) (hk : PySem.W.keepIn X.K (.ref f) = true) (hb : Binds X.K fd ps [])
    (hdb : (x == ("__debug__" : Str)) = false := by decide) : PE X (.Call (.Name x p) [] [] pos) (tCallG sp tNil) := by
  refine ⟨fun pins s σ H Q I h => ?_⟩
  refine wpAny_Call_Name_kw (ld_glob I hg hm ?_ hdb)
  exact PySem.W.callWith_K0 I.kIn hk (run_g (us := []) F hr hgd hb I .nil h)
end
theorem fnG_of {P : Program} {w : World} {K : PySem.W.Frag} {mg : Str → Option Value} {base : Heap} {x qual : Str} {st : Stmt} {f : Addr} {fd : FuncData} {N ps : List Str} {k : Nat} {sp : Sp} (F : L2.Fun K x qual st f fd) (S : FnScope N ps (defScope st))
    (len : ∀ vs H Q E, sp vs H Q E → vs.length = ps.length)
    (hbody : ∀ (cdv : Value) (A : Around) (outer : List PySem.Env) (s : Shared) (H : Hp) (vs : List V) (Q : VK) (E : XK), Room k (A.deeper (envOfC qual (defScope st) s.heap.objs.size f cdv)) → (A.deeper (envOfC qual (defScope st) s.heap.objs.size f cdv)).guards = some [] → sp vs H Q E →
      ∃ t, PSs (cxOf CX0 P w K mg base N qual (defScope st) f cdv A outer s H E).nox (defBody st) t ∧ t { nx := fun _ H' => Q .non H', rt := Q } (start N vs) H) : FnG P w K mg base (k + 1) f fd ps sp := by
  obtain ⟨oc, od, kV, doc, pm, an, cdv, ct, osl, rfl, lk, hcd⟩ := F.ex
  refine ⟨len, fun A outer s H args us vs Q E hr hgd e0 hb r hsp => ?_⟩
  have hl := len _ _ _ _ hsp
  have KX : K.In s.heap := e0.mod.kin.keeps fun b o e => (e0.bs b o e).1
  have lim : s.heap.NoLimit := e0.mod.nolimit.keeps fun b o e => (e0.bs b o e).1
  have hkind : ∀ y ∈ ps.zip us, (defScope st).names.lookup y.1 = some .local ∨ ((defScope st).names.lookup y.1 = some .cell ∧ ((cellsFrom (s.heap.objs.size + 1) (defScope st).names []).lookup y.1).isSome = true) := fun ⟨n, v⟩ hy => by
    rcases S.par n (List.of_mem_zip hy).1 with q | q
    · exact .inl q
    · exact .inr ⟨q, PySem.W.cellsFrom_some _ _ _ (.inl q)⟩
  refine codeAny_call_function hr.depth (KX _ _ lk) rfl S.co S.gen rfl (PySem.W.codeRec_of KX hcd) (hb _ _ _ _ ?_)
  refine wpAny_newFunctionEnv_cells S.kind hkind fun env he s1 y => ?_
  subst he
  refine ⟨lim.keeps y.toInCall.keep, codeAny_func ?_⟩
  obtain ⟨t, ht0, hq⟩ := hbody cdv A outer s H vs Q E (hr.deeper _) hgd hsp
  have ht := ht0.nox
  have I : Inv (cxOf CX0 P w K mg base N qual (defScope st) f cdv A outer s H E) [] (start N vs) H s1 := inv_start S hr.hd e0 hl r y
  refine wpAny_mono (ht.run [] s1 (start N vs) H _ I hq) (fun fl s' hs => ?_) fun e s' hs => hs
  have fin : ∀ {σ' : L2.St} {H' : Hp} {v : V} {u : Value}, Inv (cxOf CX0 P w K mg base N qual (defScope st) f cdv A outer s H E) [] σ' H' s' → RelV v u → Q v H' → L2.CE outer P w H s Q u s' :=
    fun {σ' H' v u} J rv q => ⟨v, H', J.os, J.bare, J.base, J.hok, rv, q⟩
  cases fl with
  | ret u =>
    obtain ⟨v, σ', H', J, rv, q⟩ := hs
    exact fin J rv q
  | next =>
    obtain ⟨σ', H', J, q⟩ := hs
    exact fin (v := V.non) (u := Value.none) J rfl q
  | brk =>
    obtain ⟨_, _, _, q⟩ := hs
    exact False.elim q
  | cont =>
    obtain ⟨_, _, _, q⟩ := hs
    exact False.elim q
end NH
namespace NH
open PySem L2 PySem.Spec PyProof.Rows
def LawEnd (s₁ : Shared) (r : Result) (s' : Shared) : Prop := r = .ok (.ret (.bool true)) ∧ OldK s₁.heap s'.heap ∧ s'.os = s₁.os ∧ AllBare s'.gens
theorem top_at {P : Program} {w : World} {K : PySem.W.Frag} {mg mb : Str → Option Value} {k : Nat} {fa a : Addr} {fd : FuncData} {x : Str} {sp : Sp} {s₁ : Shared} {vs : List Value} {ns : List Int}
    (KX : K.In s₁.heap) (hns : s₁.heap.Ns mainGlobals mg) (hb : s₁.heap.Ns builtinsNs mb) (hbb : ∀ x : Str, x ≠ "__name__" → mb x = bootBuiltins x) (hlim : s₁.heap.NoLimit) (hg : s₁.gens = #[])
    (ha : s₁.heap.get? a = some { cls := .type "list", data := .seq vs.toArray }) (hr : Room k callerA)
    (F : ∀ base : Heap, FnG P w K mg base k fa fd [x] sp) (hbind : ∀ (s : Shared) (u : Value), BindsTo s fd ⟨[u], []⟩ [(x, u)])
    (hsp : ∀ H : Hp, Only H → SqL K H a (ns.map V.int) → sp [.ref a] H (fun v _ => v = .bl true) fun _ _ _ => False)
    (H : Hp) (hO : Only H) (hS : SqL K H a (ns.map V.int)) (hok : HOk P w H s₁.heap) (hA : ∀ b, H b ≠ none → b = a) (hK : H a ≠ none → K.lookup a = none) :
    codeAny (model P w) callerA (.call (.ref fa) ⟨[.ref a], []⟩) (LawEnd s₁) s₁ := by
  have base_of : ∀ {b : Addr} {o : Obj}, s₁.heap.get? b = some o → H b = none → (hidT s₁.heap H).get? b = some o := fun e n => hidT_get e n
  have noA : ∀ {b : Addr} {o : Obj} {es : Array DictEntry} {ep : Nat}, s₁.heap.get? b = some o → o.data = .dict es ep → H b = none := fun {b o es ep} e d => by
    cases q : H b with
    | none => rfl
    | some u =>
      have e' : b = a := hA b (by rw [q]; simp)
      subst e'
      rw [ha] at e; cases e
      have d' : Data.seq vs.toArray _ = Data.dict es ep := d
      cases d'
  have nsK : ∀ {b : Addr} {m : Str → Option Value}, s₁.heap.Ns b m → (hidT s₁.heap H).Ns b m := fun {b m} ⟨o, es, ep, e, d, r⟩ => ⟨o, es, ep, base_of e (noA e d), d, r⟩
  have hKb : K.In (hidT s₁.heap H) := fun b o e => base_of (KX b o e) (by
    cases q : H b with
    | none => rfl
    | some u =>
      have e' : b = a := hA b (by rw [q]; simp)
      subst e'
      rw [hK (by rw [q]; simp)] at e; cases e)
  have hM : Mod K mg (hidT s₁.heap H) := ⟨hKb, nsK hns, ⟨mb, nsK hb, hbb⟩, let ⟨mc, h1, h2⟩ := hlim; ⟨mc, nsK h1, h2⟩⟩
  have e0 : Env0 P w K mg (hidT s₁.heap H) callerA [] s₁ H := ⟨rfl, hM, fun b o e => of_hidT e, Nat.le_of_eq (hidT_size _ _), trivial, fun b hb => absurd (show b ∈ ([] : List Addr) from hb) (by simp), hok, .of_eq hg⟩
  refine codeAny_mono ((F (hidT s₁.heap H)).run callerA [] s₁ H ⟨[.ref a], []⟩ [.ref a] [.ref a] _ _ hr rfl e0 (hbind s₁ (.ref a)) (.cons rfl .nil) (hsp H hO hS)) fun r s' h => ?_
  cases r with
  | error e => exact False.elim h
  | ok fl =>
    cases fl with
    | next => exact False.elim h
    | brk => exact False.elim h
    | cont => exact False.elim h
    | ret u =>
      obtain ⟨v, H', os, bare, un, hok', r', q⟩ := h
      have q' : v = .bl true := q
      subst q'
      obtain rfl : u = Value.bool true := r'
      refine ⟨rfl, OldK.of_keep fun b o e => ?_, os, bare⟩
      cases q : H b with
      | none => exact un.keep b o e q (by intro z; exact absurd (show b ∈ ([] : List Addr) from z) (by simp)) (by simp)
      | some u =>
        rcases hO b with z | ⟨ob, xs, z⟩
        · rw [q] at z; cases z
        · have z2 := un.frzs b ob _ z
          obtain ⟨e1, _⟩ := hok b _ z
          obtain ⟨e2, _⟩ := hok' b _ z2
          rw [e] at e1; cases e1
          exact e2
theorem top_call {P : Program} {w : World} {K : PySem.W.Frag} {mg mb : Str → Option Value} {k : Nat} {fa a : Addr} {fd : FuncData} {x : Str} {sp : Sp} {s₁ : Shared} {vs : List Value} {ns : List Int}
    (KX : K.In s₁.heap) (hns : s₁.heap.Ns mainGlobals mg) (hb : s₁.heap.Ns builtinsNs mb) (hbb : ∀ x : Str, x ≠ "__name__" → mb x = bootBuiltins x) (hlim : s₁.heap.NoLimit) (hg : s₁.gens = #[])
    (ha : s₁.heap.get? a = some { cls := .type "list", data := .seq vs.toArray }) (hi : IntsAre vs ns) (hl : ns.length ≤ sizeLine) (hr : Room k callerA)
    (F : ∀ base : Heap, FnG P w K mg base k fa fd [x] sp) (hbind : ∀ (s : Shared) (u : Value), BindsTo s fd ⟨[u], []⟩ [(x, u)])
    (hsp : ∀ H : Hp, Only H → SqL K H a (ns.map V.int) → sp [.ref a] H (fun v _ => v = .bl true) fun _ _ _ => False) :
    codeAny (model P w) callerA (.call (.ref fa) ⟨[.ref a], []⟩) (LawEnd s₁) s₁ := by
  have rv := vals_ints hi
  have lenV := hi.length
  cases hk : K.lookup a with
  | some o =>
    have e := KX a o hk
    rw [ha] at e
    cases e
    refine top_at KX hns hb hbb hlim hg ha hr F hbind hsp (fun _ => none) (fun _ => .inl rfl) (.inr ⟨_, vs.toArray, _, hk, rfl, rfl, rfl, by rw [List.size_toArray, lenV]; exact hl, by simpa using rv⟩) (fun b u z => by have z' : (none : Option HO) = some u := z; cases z') (fun b z => absurd rfl z) fun z => absurd rfl z
  | none =>
    refine top_at KX hns hb hbb hlim hg ha hr F hbind hsp (fun b => if b = a then some (.frz { cls := .type "list", data := .seq vs.toArray } (.lst (ns.map V.int))) else none) (fun b => ?_) (.inl (.inr ⟨{ cls := .type "list", data := .seq vs.toArray }, if_pos rfl⟩)) (fun b u z => ?_) (fun b z => ?_) fun _ => hk
    · by_cases hb : b = a
      · exact .inr ⟨_, _, if_pos hb⟩
      · exact .inl (if_neg hb)
    · by_cases hb : b = a
      · have z' := (if_pos hb).symm.trans z
        cases z'
        subst hb
        exact ⟨ha, by rw [List.length_map]; exact hl, vs, _, rv, ha⟩
      · have z' := (if_neg hb).symm.trans z
        cases z'
    · by_cases hb : b = a
      · exact hb
      · exact absurd (if_neg hb) z
theorem walk_G {l : PySem.W.OpenLaw} {n k : Nat} {q : Program} {loose : List Str} {XP : (Str → Option Value) → Heap → Prop} {YP : World → Heap → Prop} {d : DefRec} {K : Params → PySem.W.Frag} {sp : World → Sp} {x : Str}
    (hn : l.most = some n) (hn2 : n ≤ sizeLine) (hdf : d.params.defaults = []) (hr : Room k callerA)
    (hY : ∀ (w : World) (h : Heap), YP w h → (K w.params).In h)
    (F : ∀ (w : World) (mg : Str → Option Value) (fa : Addr) (h : Heap), (K w.params).In h → h.Ns mainGlobals mg → mg d.name = some (.ref fa) →
      ∃ fd : FuncData, (∀ (s : Shared) (u : Value), BindsTo s fd ⟨[u], []⟩ [(x, u)]) ∧ ∀ base : Heap, FnG l.prog w (K w.params) mg base k fa fd [x] (sp w))
    (hsp : ∀ (w : World) (H : Hp) (a : Addr) (ns : List Int), ns.length ≤ n → Only H → SqL (K w.params) H a (ns.map V.int) → sp w [.ref a] H (fun v _ => v = .bl true) fun _ _ _ => False) :
    PySem.W.WalkO q loose XP YP l.row.toRowW d [] (fun f vs => PySem.call f vs) := by
  refine Att.attach_call hn hdf fun w s₀ s₁ mg mb fa o pm cd doc a vs ns G Y ho hd hcd hmg hobj hints hlen hg => ?_
  have KX := hY w _ Y
  obtain ⟨fd, hb, hF⟩ := F w mg fa _ KX G.T.g hmg
  exact top_call KX G.T.g G.T.b G.T.builtins G.T.nolimit hg hobj hints (Nat.le_trans hlen hn2) hr hF hb fun H hO hS => hsp w H a ns hlen hO hS
end NH
namespace NH
variable [W : TheW]
open PySem L2
theorem line_eq : LINE = sizeLine := by rw [sizeLine_eq]; rfl
structure Inf where
  nm : Nat → Option Str
  B : List Str
  G : List (Str × P) := []
def gV : P → V
  | .int i => .int i
  | .str x => .str ⟨x.toArray⟩
  | _ => .non
def gEq : P → D → Bool
  | .int i, .p (.int j) => i == j
  | .str x, .p (.str y) => x == y
  | _, _ => false
def fnOf : Option Scope → Str → Bool
  | none, _ => true
  | some sc, x => sc.names.lookup x == some .cell
structure Sx where
  N : List Str
  sc : Scope
  fs : Option Scope
def spEv (K : PySem.W.Frag) (T : Nat → Option Fn) (k f : Nat) : Sp := fun vs H Q _ => ∃ Z M st ds d st', SRel Z M st H ∧ RelDs K Z M st H ds vs ∧ callK T k f ds st = .ok d st' ∧
  ∀ v M' H', Frm Z M st H M' st' H' → SRel Z M' st' H' → RelD K Z M' st' H' d v → Q v H'
structure Good (I : Inf) (T : Nat → Option Fn) (k : Nat) (S : Sx) (X : Cx) : Prop where
  wd : X.prog = W.P ∧ X.w = W.w
  N : X.N = S.N
  nd : S.N.Nodup
  sc : X.env.scope = S.sc
  fn : X.fn = fnOf S.fs
  calm : X.calm = true
  xe : X.xe = fun _ _ => False
  room : Room k X.A
  fns : ∀ f d, T f = some d → ∃ x a fd ps, I.nm f = some x ∧ X.mg x = some (.ref a) ∧ PySem.W.keepIn X.K (.ref a) = true ∧ Binds X.K fd ps [] ∧ FnG X.prog X.w X.K X.mg X.base k a fd ps (spEv X.K T k f)
  gd : X.A.guards = some []
  bl : ∀ x ∈ I.B, X.mg x = none
  gv : ∀ x p, I.G.lookup x = some p → ∃ u, X.mg x = some u ∧ RelV (gV p) u
def tE (K : PySem.W.Frag) (C : Calls) (c : CE) : TE := fun σ H Q => ∃ Z M st δ d st', SRel Z M st H ∧ EnvRel K Z M st H δ σ ∧ evE C c δ st = .ok d st' ∧
  ∀ v M' H', Frm Z M st H M' st' H' → SRel Z M' st' H' → RelD K Z M' st' H' d v → Q v H'
def tEs (K : PySem.W.Frag) (C : Calls) (c : CEs) : TA := fun σ H Q => ∃ Z M st δ d st', SRel Z M st H ∧ EnvRel K Z M st H δ σ ∧ evEs C c δ st = .ok d st' ∧
  ∀ v M' H', Frm Z M st H M' st' H' → SRel Z M' st' H' → RelDs K Z M' st' H' d v → Q v H'
def tT (K : PySem.W.Frag) (C : Calls) (c : CE) : TT := fun σ H Q => ∃ Z M st δ b st', SRel Z M st H ∧ EnvRel K Z M st H δ σ ∧ evT C c δ st = .ok b st' ∧
  ∀ M' H', Frm Z M st H M' st' H' → SRel Z M' st' H' → Q b H'
theorem PE.weak {X : Cx} {e : Expr} {t t' : TE} (h : PE X e t) (hw : ∀ σ H Q, t' σ H Q → t σ H Q) : PE X e t' := ⟨fun pins s σ H Q I hq => h.run pins s σ H Q I (hw σ H Q hq)⟩
theorem PT.weak {X : Cx} {e : Expr} {t t' : TT} (h : PT X e t) (hw : ∀ σ H Q, t' σ H Q → t σ H Q) : PT X e t' := ⟨fun pins s σ H Q I hq => h.run pins s σ H Q I (hw σ H Q hq)⟩
theorem PA.weak {X : Cx} {e : List Expr} {t t' : TA} (h : PA X e t) (hw : ∀ σ H Q, t' σ H Q → t σ H Q) : PA X e t' := ⟨fun pos pins s σ H Q I hq => h.run pos pins s σ H Q I (hw σ H Q hq)⟩
theorem PE.cases {X : Cx} {e : Expr} {t' : TE} (h : ∀ σ H Q, t' σ H Q → ∃ t, PE X e t ∧ t σ H Q) : PE X e t' := ⟨fun pins s σ H Q I hq => let ⟨_, h1, h2⟩ := h σ H Q hq; h1.run pins s σ H Q I h2⟩
theorem PT.cases {X : Cx} {e : Expr} {t' : TT} (h : ∀ σ H Q, t' σ H Q → ∃ t, PT X e t ∧ t σ H Q) : PT X e t' := ⟨fun pins s σ H Q I hq => let ⟨_, h1, h2⟩ := h σ H Q hq; h1.run pins s σ H Q I h2⟩
section
variable {K : PySem.W.Frag} {C : Calls} {Z : Addr → Prop} {M : List Addr} {st st1 st2 : Store} {H : Hp} {δ : Env} {σ : St} {x y : D} {ca cb : CE}
theorem one {R : V → Hp → Prop} (sr : SRel Z M st H) (er : EnvRel K Z M st H δ σ) (e1 : evE C ca δ st = .ok x st1)
    (k : ∀ v M2 H2, Frm Z M st H M2 st1 H2 → SRel Z M2 st1 H2 → RelD K Z M2 st1 H2 x v → R v H2) : tE K C ca σ H R := ⟨Z, M, st, δ, x, st1, sr, er, e1, k⟩
theorem two {R : V → V → Hp → Prop} (sr : SRel Z M st H) (er : EnvRel K Z M st H δ σ) (e1 : evE C ca δ st = .ok x st1) (e2 : evE C cb δ st1 = .ok y st2)
    (k : ∀ v w M2 H2, Frm Z M st H M2 st2 H2 → SRel Z M2 st2 H2 → RelD K Z M2 st2 H2 x v → RelD K Z M2 st2 H2 y w → R v w H2) : tE K C ca σ H fun v H1 => tE K C cb σ H1 fun w H2 => R v w H2 :=
  one sr er e1 fun v _ _ f1 s1 r1 => one s1 (er.fr f1) e2 fun w M2 H2 f2 s2 r2 => k v w M2 H2 (f1.trans f2) s2 (r1.fr f2) r2
theorem many {ces : CEs} {ds : List D} {R : List V → Hp → Prop} (sr : SRel Z M st H) (er : EnvRel K Z M st H δ σ) (e1 : evEs C ces δ st = .ok ds st1)
    (k : ∀ v M2 H2, Frm Z M st H M2 st1 H2 → SRel Z M2 st1 H2 → RelDs K Z M2 st1 H2 ds v → R v H2) : tEs K C ces σ H R := ⟨Z, M, st, δ, ds, st1, sr, er, e1, k⟩
end
def Top (K : PySem.W.Frag) (U : Addr → Prop) (H : Hp) : P → V → Prop
  | .tup l, v => ∃ a vs, v = .ref a ∧ SqT K H a vs ∧ RelPs U H l vs
  | .lst l, v => ∃ a vs, v = .ref a ∧ SqL K H a vs ∧ RelPs U H l vs
  | .dic l, v => ∃ a ks, v = .ref a ∧ Rd H a (.dK ks) ∧ RelKs U H l ks
  | p, v => RelP U H p v
def TopN (U : Addr → Prop) (H : Hp) : P → V → Prop
  | .tup l, v => ∃ a vs, v = .ref a ∧ H a = some (.tup vs) ∧ RelPs U H l vs
  | .lst l, v => ∃ a vs, v = .ref a ∧ H a = some (.lst vs) ∧ RelPs U H l vs
  | .dic l, v => ∃ a ks, v = .ref a ∧ Rd H a (.dK ks) ∧ RelKs U H l ks
  | p, v => RelP U H p v
section
variable {K : PySem.W.Frag} {Z : Addr → Prop} {M : List Addr} {st : Store} {H : Hp} {U : Addr → Prop}
theorem RelP.topN : ∀ {p : P} {v : V}, RelP U H p v → TopN U H p v
  | .non, _, r => r
  | .bl _, _, r => r
  | .int _, _, r => r
  | .str _, _, r => r
  | .tup l, v, r => by simp only [RelP] at r; obtain ⟨a, vs, e, h, _, q⟩ := r; exact ⟨a, vs, e, h, q⟩
  | .lst l, v, r => by simp only [RelP] at r; obtain ⟨a, vs, e, h, _, q⟩ := r; exact ⟨a, vs, e, h, q⟩
  | .dic l, v, r => by simp only [RelP] at r; obtain ⟨a, vs, e, h, _, q⟩ := r; exact ⟨a, vs, e, h, q⟩
theorem TopN.top : ∀ {p : P} {v : V}, TopN U H p v → Top K U H p v
  | .non, _, r => r
  | .bl _, _, r => r
  | .int _, _, r => r
  | .str _, _, r => r
  | .tup l, v, r => by obtain ⟨a, vs, e, h, q⟩ := r; exact ⟨a, vs, e, .of h, q⟩
  | .lst l, v, r => by obtain ⟨a, vs, e, h, q⟩ := r; exact ⟨a, vs, e, .of h, q⟩
  | .dic l, v, r => r
theorem RelC.top : ∀ {p : P} {v : V}, RelC K U H p v → Top K U H p v
  | .non, _, r => r
  | .bl _, _, r => r
  | .int _, _, r => r
  | .str _, _, r => r
  | .tup l, v, r => by
    obtain ⟨a, vs, e, h, q⟩ := r
    refine ⟨a, vs, e, ?_, q⟩
    rcases h with ⟨h, _⟩ | h
    · exact .inl h
    · exact .inr h
  | .lst l, v, r => by
    obtain ⟨a, vs, e, h, q⟩ := r
    refine ⟨a, vs, e, ?_, q⟩
    rcases h with ⟨h, _⟩ | h
    · exact .inl h
    · exact .inr h
  | .dic l, v, r => r.elim
theorem rdN_top {d : D} {v : V} {p : P} (sr : SRel Z M st H) (r : RelD K Z M st H d v) (h : rdN st d = some p) (hd : ∀ l, p = .dic l → ∀ k l', d = .r k → st[k]? ≠ some (.dicL l')) : TopN (Mu Z M st) H p v := by
  cases d with
  | p x => cases h; exact RelP.topN r
  | c x => cases h
  | r k =>
    simp only [rdN, rd] at h
    split at h
    · rename_i l hl
      cases h
      obtain ⟨a, rfl, _, vs, e, q⟩ := RelD.ref_get sr r hl
      exact ⟨a, vs, rfl, e, q⟩
    · rename_i l hl
      cases h
      obtain ⟨a, rfl, _, vs, e, q⟩ := RelD.ref_get sr r hl
      exact ⟨a, vs, rfl, e, q⟩
    · rename_i l hl
      cases h
      obtain ⟨a, rfl, _, vs, e, q⟩ := RelD.ref_get sr r hl
      exact ⟨a, vs, rfl, .inl e, q⟩
    · rename_i l hl
      cases h
      exact absurd hl (hd l rfl k l rfl)
    · cases h
theorem rd_top {d : D} {v : V} {p : P} (sr : SRel Z M st H) (r : RelD K Z M st H d v) (h : rd st d = some p) : Top K (Mu Z M st) H p v := by
  cases d with
  | p x => cases h; exact (RelP.topN r).top
  | c x => cases h; exact RelC.top r
  | r k =>
    simp only [rd] at h
    split at h
    · rename_i l hl
      cases h
      obtain ⟨a, rfl, _, vs, e, q⟩ := RelD.ref_get sr r hl
      exact ⟨a, vs, rfl, .of e, q⟩
    · rename_i l hl
      cases h
      obtain ⟨a, rfl, _, vs, e, q⟩ := RelD.ref_get sr r hl
      exact ⟨a, vs, rfl, .of e, q⟩
    · rename_i l hl
      cases h
      obtain ⟨a, rfl, _, vs, e, q⟩ := RelD.ref_get sr r hl
      exact ⟨a, vs, rfl, .inl e, q⟩
    · rename_i l hl
      cases h
      obtain ⟨a, rfl, _, vs, o, e, q⟩ := RelD.ref_get sr r hl
      exact ⟨a, vs, rfl, .inr ⟨o, e⟩, q⟩
    · cases h
theorem rdN_int {d : D} {v : V} {i : Int} (r : RelD K Z M st H d v) (h : rdN st d = some (.int i)) : v = .int i := by
  cases d with
  | p x => cases h; simpa [RelD, RelP] using r
  | c x => cases h
  | r k => simp only [rdN, rd] at h; split at h <;> cases h
end
section
variable {I : Inf} {T : Nat → Option Fn} {n : Nat} {S : Sx} {X : Cx} {C : Calls}
def visB (sc : Scope) (x : Str) : Bool := match sc.names.lookup x with
  | some .local => true
  | some .cell => true
  | some .free => true
  | _ => false
theorem vis_of {sc : Scope} {x : Str} (h : visB sc x = true) : Vis sc x := by
  unfold visB at h
  split at h
  · exact .inl (by assumption)
  · exact .inr (.inl (by assumption))
  · exact .inr (.inr (by assumption))
  · cases h
def nameB (S : Sx) (i : Nat) (x : Str) : Bool := (S.N[i]? == some x) && visB S.sc x && (x != ("__debug__" : Str)) && (x != ("__classdict__" : Str))
theorem s_var (G : Good I T n S X) {i : Nat} {x : Str} {pos : Pos} (h : nameB S i x = true) : PE X (.Name x pos) (tE X.K C (.var i)) := by
  unfold nameB at h
  simp only [Bool.and_eq_true, beq_iff_eq, bne_iff_ne, ne_eq] at h
  obtain ⟨⟨⟨h1, h2⟩, h3⟩, h4⟩ := h
  refine PE.weak (pe_var (i := i) (by rw [G.N]; exact h1) (by rw [G.sc]; exact vis_of h2) (by simpa using h3) (by simpa using h4)) fun σ H Q h => ?_
  obtain ⟨Z, M, st, δ, d, st', sr, er, ev, k⟩ := h
  obtain ⟨e, rfl⟩ := lift_eq_ok ev
  obtain ⟨v, hv, r⟩ := er.2 i d e
  exact ⟨v, hv, k v M H .refl sr r⟩
def cstB : P → Const → Bool
  | .non, .none => true
  | .bl a, .bool b => a == b
  | .int a, .int b => a == b
  | .str a, .str b => b.cps.toList == a
  | _, _ => false
theorem s_cst {p : P} {c : Const} {j : Nat} {pos : Pos} (h : cstB p c = true) : PE X (.Constant c j pos) (tE X.K C (.cst p)) := by
  have fin : ∀ {v : V}, (∀ U H, RelP U H p v) → ∀ σ H Q, tE X.K C (.cst p) σ H Q → tC v σ H Q := fun {v} hv σ H Q h => by
    obtain ⟨Z, M, st, δ, d, st', sr, er, ev, k⟩ := h
    cases ev
    exact k v M H .refl sr (hv _ _)
  unfold cstB at h
  split at h
  · exact PE.weak pe_non (fin fun _ _ => by simp [RelP])
  · simp only [beq_iff_eq] at h
    subst h
    exact PE.weak pe_bl (fin fun _ _ => by simp [RelP])
  · simp only [beq_iff_eq] at h
    subst h
    exact PE.weak pe_int (fin fun _ _ => by simp [RelP])
  · simp only [beq_iff_eq] at h
    subst h
    exact PE.weak pe_str (fin fun _ _ => by simp [RelP])
  · cases h
def starB : Expr → Bool
  | .Starred .. => false
  | _ => true
theorem star_of {e : Expr} {es : List Expr} {env : PySem.Env} (h : starB e = true) : starEach (e :: es) env = (false, eval e env) :: starEach es env := by
  cases e <;> first | rfl | cases h
theorem s_nil : PA X [] (tEs X.K C .nil) := PA.weak pa_nil fun σ H Q h => by
  obtain ⟨Z, M, st, δ, d, st', sr, er, ev, k⟩ := h
  cases ev
  exact k [] M H .refl sr rfl
theorem s_cons {e : Expr} {es : List Expr} {c : CE} {cs : CEs} (h1 : PE X e (tE X.K C c)) (h2 : PA X es (tEs X.K C cs)) (hs : starB e = true) : PA X (e :: es) (tEs X.K C (.cons c cs)) := by
  refine PA.weak (pa_cons h1 h2 (star_of hs)) fun σ H Q h => ?_
  obtain ⟨Z, M, st, δ, d, st', sr, er, ev, k⟩ := h
  obtain ⟨x, st1, e1, ev⟩ := R.bind_eq_ok ev
  obtain ⟨ds, st2, e2, ev⟩ := R.bind_eq_ok ev
  cases ev
  refine one sr er e1 fun v M1 H1 f1 s1 r1 => many s1 (er.fr f1) e2 fun vs M2 H2 f2 s2 r2 => ?_
  exact k (v :: vs) M2 H2 (f1.trans f2) s2 ⟨v, vs, rfl, r1.fr f2, r2⟩
theorem s_tup {es : List Expr} {cs : CEs} {j : Nat} {pos : Pos} (h : PA X es (tEs X.K C cs)) : PE X (.Tuple es j pos) (tE X.K C (.tup cs)) := by
  refine PE.weak (pe_tup h) fun σ H Q h => ?_
  obtain ⟨Z, M, st, δ, d, st', sr, er, ev, k⟩ := h
  obtain ⟨ds, st1, e1, ev⟩ := R.bind_eq_ok ev
  obtain ⟨ev2, rfl⟩ := lift_eq_ok ev
  obtain ⟨l, hl, ev3⟩ := Option.bind_eq_some_iff.mp ev2
  split at ev3
  · rename_i hz
    cases ev3
    refine many sr er e1 fun vs M2 H2 f2 s2 r2 => ?_
    have rp := r2.pures hl
    refine ⟨by rw [rp.length, ← line_eq]; exact hz, fun p hp => ?_⟩
    exact k (.ref p) M2 _ (f2.trans (.new s2 hp)) (.new s2 hp) (RelP.newT s2 hp rp)
  · cases ev3
theorem mkL_ok {m : Bool} {l : List P} {vs : List V} {Z : Addr → Prop} {M : List Addr} {st st' : Store} {H : Hp} {d : D} {p : Addr} (sr : SRel Z M st H) (r : RelPs (Mu Z M st) H l vs) (h : mkL m l st = .ok d st') (hp : H p = none) :
    ∃ M', Frm Z M st H M' st' (upd H p (.lst vs)) ∧ SRel Z M' st' (upd H p (.lst vs)) ∧ RelD K Z M' st' (upd H p (.lst vs)) d (.ref p) := by
  unfold mkL at h
  split at h
  · cases h
    have f := Frm.snoc (o := .lst vs) (ob := .lst l) sr hp
    exact ⟨M ++ [p], f, .snoc sr hp ⟨vs, upd_same, r.fr f⟩, p, get_snoc sr, rfl⟩
  · cases h
    exact ⟨M, .new sr hp, .new sr hp, RelP.newL sr hp r⟩
theorem mkD_ok {m : Bool} {l : List (Ky × P)} {vs : List (Key × V)} {Z : Addr → Prop} {M : List Addr} {st st' : Store} {H : Hp} {d : D} {p : Addr} (sr : SRel Z M st H) (r : RelKs (Mu Z M st) H l vs) (h : mkD m l st = .ok d st') (hp : H p = none) :
    ∃ M', Frm Z M st H M' st' (upd H p (.dK vs)) ∧ SRel Z M' st' (upd H p (.dK vs)) ∧ RelD K Z M' st' (upd H p (.dK vs)) d (.ref p) := by
  unfold mkD at h
  split at h
  · cases h
    have f := Frm.snoc (o := .dK vs) (ob := .dic l) sr hp
    exact ⟨M ++ [p], f, .snoc sr hp ⟨vs, upd_same, r.fr f⟩, p, get_snoc sr, rfl⟩
  · cases h
    exact ⟨M, .new sr hp, .new sr hp, RelP.newD sr hp r⟩
theorem s_lst {m : Bool} {es : List Expr} {cs : CEs} {pos : Pos} (h : PA X es (tEs X.K C cs)) : PE X (.List es pos) (tE X.K C (.lst m cs)) := by
  refine PE.weak (pe_lst h) fun σ H Q h => ?_
  obtain ⟨Z, M, st, δ, d, st', sr, er, ev, k⟩ := h
  obtain ⟨ds, st1, e1, ev⟩ := R.bind_eq_ok ev
  split at ev
  · rename_i l hl
    split at ev
    · rename_i hz
      refine many sr er e1 fun vs M2 H2 f2 s2 r2 => ?_
      have rp := r2.pures hl
      refine ⟨by rw [rp.length, ← line_eq]; exact hz, fun p hp => ?_⟩
      obtain ⟨M3, f3, s3, r3⟩ := mkL_ok (K := X.K) s2 rp ev hp
      exact k (.ref p) M3 _ (f2.trans f3) s3 r3
    · cases ev
  · cases ev
theorem s_dct0 {m : Bool} {pos : Pos} : PE X (.Dict [] [] pos) (tE X.K C (.dct m .nil)) := by
  refine PE.weak pe_dnewK fun σ H Q h => ?_
  obtain ⟨Z, M, st, δ, d, st', sr, er, ev, k⟩ := h
  intro p hp
  have rk : RelKs (Mu Z M st) H [] [] := by simp [RelKs]
  obtain ⟨M3, f3, s3, r3⟩ := mkD_ok (K := X.K) (m := m) sr rk ev hp
  exact k (.ref p) M3 _ f3 s3 r3
end
end NH
namespace NH
variable [W : TheW]
open PySem L2
abbrev TS_ (x : Tx) : Str := ⟨x.toArray⟩
theorem ts_len (x : Tx) : (TS_ x).length = x.length := SX.S_len x
theorem ts_cat (a b : Tx) : TS_ a ++ TS_ b = TS_ (a ++ b) := SX.S_cat a b
section
variable {K : PySem.W.Frag} {Z : Addr → Prop} {M : List Addr} {st : Store} {H : Hp} {U : Addr → Prop}
theorem rdN_str {d : D} {v : V} {i : Tx} (r : RelD K Z M st H d v) (h : rdN st d = some (.str i)) : v = .str (TS_ i) := by
  cases d with
  | p x => cases h; simpa [RelD, RelP] using r
  | c x => cases h
  | r k => simp only [rdN, rd] at h; split at h <;> cases h
theorem rdN_tup {d : D} {v : V} {l : List P} (sr : SRel Z M st H) (r : RelD K Z M st H d v) (h : rdN st d = some (.tup l)) : ∃ a vs, v = .ref a ∧ H a = some (.tup vs) ∧ RelPs (Mu Z M st) H l vs ∧ RelP (Mu Z M st) H (.tup l) v := by
  cases d with
  | p x =>
    cases h
    have r' := r
    simp only [RelD, RelP] at r'
    obtain ⟨a, vs, e, h1, h2, h3⟩ := r'
    exact ⟨a, vs, e, h1, h3, r⟩
  | c x => cases h
  | r k => simp only [rdN, rd] at h; split at h <;> cases h
theorem rdN_lst {d : D} {v : V} {l : List P} (sr : SRel Z M st H) (r : RelD K Z M st H d v) (h : rdN st d = some (.lst l)) : ∃ a vs, v = .ref a ∧ H a = some (.lst vs) ∧ RelPs (Mu Z M st) H l vs := by
  have t := rdN_top sr r h fun l' e => by cases e
  exact t
theorem RelP.tup_mk {l : List P} {a : Addr} {vs : List V} (h : H a = some (.tup vs)) (n : ¬ U a) (r : RelPs U H l vs) : RelP U H (.tup l) (.ref a) := by
  simp only [RelP]; exact ⟨a, vs, rfl, h, n, r⟩
theorem RelPs.nil_iff {l : List P} {vs : List V} (r : RelPs U H l vs) : vs = [] ↔ l = [] := by
  have := r.length
  constructor
  · intro e; subst e; exact List.eq_nil_of_length_eq_zero (by simpa using this.symm)
  · intro e; subst e; exact List.eq_nil_of_length_eq_zero (by simpa using this)
end
section
variable {X : Cx}
def rMulS : R2 := fun x y H Q => ∃ (a : Tx) (n : Int), x = .str (TS_ a) ∧ y = .int n ∧ 0 ≤ n ∧ n < 2 ^ 62 ∧ a.length * n.toNat ≤ sizeLine ∧ Q (.str (TS_ (List.replicate n.toNat a).flatten)) H
theorem foldl_tx (a : Tx) : ∀ (k : Nat) (acc : Tx), (List.replicate k (a.toArray)).foldl (· ++ ·) acc.toArray = (acc ++ (List.replicate k a).flatten).toArray
  | 0, acc => by simp
  | k + 1, acc => by
    rw [List.replicate_succ, List.foldl_cons, List.replicate_succ, List.flatten_cons, ← List.append_assoc]
    have e : acc.toArray ++ a.toArray = (acc ++ a).toArray := by simp
    rw [e]
    exact foldl_tx a k (acc ++ a)
theorem mul_tx (a : Tx) (n : Int) (h : 0 ≤ n) : Txt.mul (TS_ a) n = TS_ (List.replicate n.toNat a).flatten := by
  unfold Txt.mul
  split
  · have : n.toNat = 0 := by omega
    rw [this]; rfl
  · split
    · rename_i h1 h2
      simp only [Bool.or_eq_true, beq_iff_eq] at h2
      rcases h2 with h2 | h2
      · subst h2
        show TS_ a = TS_ (List.replicate 1 a).flatten
        simp
      · have e : a = [] := List.eq_nil_of_length_eq_zero (by rw [← ts_len]; exact h2)
        subst e
        have z : ∀ k : Nat, (List.replicate k ([] : Tx)).flatten = [] := fun k => by simp
        rw [z]
    · have := foldl_tx a n.toNat []
      rw [List.nil_append] at this
      show (⟨_⟩ : Str) = ⟨_⟩
      rw [← this]
theorem op_mul_str : OpR X (binaryOp .Mult) rMulS := by
  intro pins s σ H x y v u Q I rx ry h
  obtain ⟨a, n, rfl, rfl, h0, h1, hz, q⟩ := h
  obtain ⟨t, rfl⟩ := rx
  obtain ⟨t', rfl⟩ := ry
  have hb : (decide (n < -(2 ^ 63 : Int)) || decide (n ≥ 2 ^ 63)) = false := by
    simp only [Bool.or_eq_false_iff, decide_eq_false_iff_not]
    omega
  have hl : (TS_ a).length * n.toNat ≤ sizeLine := by rw [ts_len]; exact hz
  refine SB.mul ⟨hb, fun h2 h3 => ?_, fun h2 h3 => ?_⟩ fun t2 k2 => ?_
  · have hn : 0 < n := by omega
    intro hc
    have h4 := (Int.le_ediv_iff_mul_le hn).mpr (show ((TS_ a).length : Int) * n ≤ 2 ^ 63 - 1 by
      have e : (((TS_ a).length * n.toNat : Nat) : Int) = ((TS_ a).length : Int) * n := by
        rw [Int.natCast_mul, Int.toNat_of_nonneg h0]
      rw [← e]
      have : (sizeLine : Int) ≤ 2 ^ 63 - 1 := by rw [sizeLine_eq]; decide
      omega)
    omega
  · show Builtin.Str.tooLong _ = false
    unfold Builtin.Str.tooLong
    rw [decide_eq_false_iff_not]
    omega
  · refine ⟨.str _, H, I.tok _, ⟨t2, rfl⟩, ?_⟩
    rw [mul_tx a n h0]
    exact q
def opOf : BOp → Operator
  | .add => .Add | .sub => .Sub | .mul => .Mult | .fdiv => .FloorDiv | .mod => .Mod | .pow => .Pow
theorem within_of {a : Int} (h : within64 a = true) : -(2 ^ 64) < a ∧ a < 2 ^ 64 := by
  unfold within64 at h
  simpa using h
variable {C : Calls} {ca cb : CE} {a b : Expr} {pos : Pos}
theorem s_bin {op : BOp} (ha : PE X a (tE X.K C ca)) (hb : PE X b (tE X.K C cb)) : PE X (.BinOp a (opOf op) b pos) (tE X.K C (.bin op ca cb)) := by
  refine PE.cases fun σ H Q h => ?_
  obtain ⟨Z, M, st, δ, d, st', sr, er, ev, k⟩ := h
  obtain ⟨x, st1, e1, ev⟩ := R.bind_eq_ok ev
  obtain ⟨y, st2, e2, ev⟩ := R.bind_eq_ok ev
  obtain ⟨ev2, rfl⟩ := lift_eq_ok ev
  obtain ⟨p, hp, ev3⟩ := Option.bind_eq_some_iff.mp ev2
  obtain ⟨q, hq, ev4⟩ := Option.bind_eq_some_iff.mp ev3
  obtain ⟨r, hr, rfl⟩ := Option.map_eq_some_iff.mp ev4
  unfold binP at hr
  split at hr
  · cases hr
    refine ⟨_, pe_op op_add ha hb, two sr er e1 e2 fun v w M2 H2 f2 s2 r1 r2 => ?_⟩
    exact ⟨_, _, rdN_int r1 hp, rdN_int r2 hq, k _ M2 H2 f2 s2 rfl⟩
  · split at hr
    · rename_i hz
      cases hr
      refine ⟨_, pe_op op_add_str ha hb, two sr er e1 e2 fun v w M2 H2 f2 s2 r1 r2 => ?_⟩
      refine ⟨_, _, rdN_str r1 hp, rdN_str r2 hq, by rw [ts_len, ts_len, ← line_eq]; exact hz, k _ M2 H2 f2 s2 ?_⟩
      rw [ts_cat]; rfl
    · cases hr
  · split at hr
    · rename_i hz
      cases hr
      refine ⟨_, pe_op op_catA ha hb, two sr er e1 e2 fun v w M2 H2 f2 s2 r1 r2 => ?_⟩
      obtain ⟨a1, vs1, q1, q2, q3, q4⟩ := rdN_tup s2 r1 hp
      obtain ⟨a2, vs2, q5, q6, q7, q8⟩ := rdN_tup s2 r2 hq
      refine ⟨a1, a2, vs1, vs2, q1, q5, .of q2, .of q6, by rw [q3.length, q7.length, ← line_eq]; exact hz, fun z => ?_, fun z1 z2 => ?_, fun z1 z2 p3 hp3 => ?_⟩
      · have z' := q3.nil_iff.mp z
        subst z'
        refine k _ M2 H2 f2 s2 ?_
        rw [q5] at q8
        exact q8
      · have z' := q7.nil_iff.mp z2
        subst z'
        refine k _ M2 H2 f2 s2 ?_
        rw [q1] at q4
        rw [List.append_nil]
        exact q4
      · exact k _ M2 _ (f2.trans (.new s2 hp3)) (.new s2 hp3) (RelP.newT s2 hp3 (q3.append q7))
    · cases hr
  · split at hr
    · rename_i hz
      cases hr
      refine ⟨_, pe_op op_cat ha hb, two sr er e1 e2 fun v w M2 H2 f2 s2 r1 r2 => ?_⟩
      obtain ⟨a1, vs1, q1, q2, q3⟩ := rdN_lst s2 r1 hp
      obtain ⟨a2, vs2, q5, q6, q7⟩ := rdN_lst s2 r2 hq
      refine ⟨a1, a2, vs1, vs2, q1, q5, q2, q6, by rw [q3.length, q7.length, ← line_eq]; exact hz, fun p3 hp3 => ?_⟩
      exact k _ M2 _ (f2.trans (.new s2 hp3)) (.new s2 hp3) (RelP.newL s2 hp3 (q3.append q7))
    · cases hr
  · cases hr
    refine ⟨_, pe_op op_sub ha hb, two sr er e1 e2 fun v w M2 H2 f2 s2 r1 r2 => ?_⟩
    exact ⟨_, _, rdN_int r1 hp, rdN_int r2 hq, k _ M2 H2 f2 s2 rfl⟩
  · split at hr
    · rename_i hz
      cases hr
      refine ⟨_, pe_op op_mul ha hb, two sr er e1 e2 fun v w M2 H2 f2 s2 r1 r2 => ?_⟩
      refine ⟨_, _, rdN_int r1 hp, rdN_int r2 hq, ?_, k _ M2 H2 f2 s2 rfl⟩
      simp only [Bool.or_eq_true] at hz
      exact hz.imp within_of within_of
    · cases hr
  · split at hr
    · rename_i hz
      cases hr
      refine ⟨_, pe_op op_mul_str ha hb, two sr er e1 e2 fun v w M2 H2 f2 s2 r1 r2 => ?_⟩
      exact ⟨_, _, rdN_str r1 hp, rdN_int r2 hq, hz.1, hz.2.1, by rw [← line_eq]; exact hz.2.2, k _ M2 H2 f2 s2 rfl⟩
    · cases hr
  · split at hr
    · rename_i hz
      cases hr
      refine ⟨_, pe_op op_rep ha hb, two sr er e1 e2 fun v w M2 H2 f2 s2 r1 r2 => ?_⟩
      obtain ⟨a1, vs1, q1, q2, q3⟩ := rdN_lst s2 r1 hp
      refine ⟨a1, _, vs1, q1, rdN_int r2 hq, q2, by omega, by omega, by rw [q3.length, ← line_eq]; exact hz.2.2, fun p3 hp3 => ?_⟩
      exact k _ M2 _ (f2.trans (.new s2 hp3)) (.new s2 hp3) (RelP.newL s2 hp3 (q3.rep _))
    · cases hr
  · split at hr
    · rename_i hz
      cases hr
      refine ⟨_, pe_op op_fdiv ha hb, two sr er e1 e2 fun v w M2 H2 f2 s2 r1 r2 => ?_⟩
      exact ⟨_, _, rdN_int r1 hp, rdN_int r2 hq, hz, k _ M2 H2 f2 s2 rfl⟩
    · cases hr
  · split at hr
    · rename_i hz
      cases hr
      refine ⟨_, pe_op op_mod ha hb, two sr er e1 e2 fun v w M2 H2 f2 s2 r1 r2 => ?_⟩
      exact ⟨_, _, rdN_int r1 hp, rdN_int r2 hq, hz, k _ M2 H2 f2 s2 rfl⟩
    · cases hr
  · split at hr
    · rename_i hz
      cases hr
      refine ⟨_, pe_op op_pow ha hb, two sr er e1 e2 fun v w M2 H2 f2 s2 r1 r2 => ?_⟩
      exact ⟨_, _, rdN_int r1 hp, rdN_int r2 hq, hz, k _ M2 H2 f2 s2 rfl⟩
    · cases hr
  · cases hr
theorem s_cat (ha : PE X a (tE X.K C ca)) (hb : PE X b (tE X.K C cb)) : PE X (.BinOp a .Add b pos) (tE X.K C (.cat ca cb)) := by
  refine PE.cases fun σ H Q h => ?_
  obtain ⟨Z, M, st, δ, d, st', sr, er, ev, k⟩ := h
  obtain ⟨x, st1, e1, ev⟩ := R.bind_eq_ok ev
  obtain ⟨y, st2, e2, ev⟩ := R.bind_eq_ok ev
  split at ev
  · rename_i l hl
    obtain ⟨p, hp, ev3⟩ := Option.bind_eq_some_iff.mp hl
    obtain ⟨q, hq, ev4⟩ := Option.bind_eq_some_iff.mp ev3
    unfold catP at ev4
    split at ev4
    · split at ev4
      · rename_i hz
        cases ev4
        refine ⟨_, pe_op op_cat ha hb, two sr er e1 e2 fun v w M2 H2 f2 s2 r1 r2 => ?_⟩
        obtain ⟨a1, vs1, q1, q2, q3⟩ := rdN_lst s2 r1 hp
        obtain ⟨a2, vs2, q5, q6, q7⟩ := rdN_lst s2 r2 hq
        refine ⟨a1, a2, vs1, vs2, q1, q5, q2, q6, by rw [q3.length, q7.length, ← line_eq]; exact hz, fun p3 hp3 => ?_⟩
        obtain ⟨M3, f3, s3, r3⟩ := mkL_ok (K := X.K) s2 (q3.append q7) ev hp3
        exact k _ M3 _ (f2.trans f3) s3 r3
      · cases ev4
    · cases ev4
  · cases ev
theorem s_neg (ha : PE X a (tE X.K C ca)) : PE X (.UnaryOp .USub a pos) (tE X.K C (.neg ca)) := by
  refine PE.weak (pe_un un_neg ha) fun σ H Q h => ?_
  obtain ⟨Z, M, st, δ, d, st', sr, er, ev, k⟩ := h
  obtain ⟨x, st1, e1, ev⟩ := R.bind_eq_ok ev
  obtain ⟨ev2, rfl⟩ := lift_eq_ok ev
  split at ev2
  · cases ev2
    refine one sr er e1 fun v M2 H2 f2 s2 r1 => ?_
    exact ⟨_, r1, k _ M2 H2 f2 s2 rfl⟩
  · cases ev2
end
end NH
namespace NH
variable [W : TheW]
open PySem L2
mutual
def toPy : P → PyData
  | .non => .none
  | .bl b => .bool b
  | .int i => .int i
  | .str x => .str (TS_ x)
  | .tup l => .tuple (toPys l)
  | .lst l => .list (toPys l)
  | .dic _ => .dict []
def toPys : List P → List PyData
  | [] => []
  | p :: l => toPy p :: toPys l
end
theorem ts_beq (a b : Tx) : (TS_ a == TS_ b) = (a == b) := SX.S_beq a b
mutual
theorem eqv_toPy : ∀ a b : P, PyData.eqv (toPy a) (toPy b) = a.eqv b
  | .non, b => by cases b <;> simp [toPy, PyData.eqv, P.eqv]
  | .bl x, b => by cases b <;> simp [toPy, PyData.eqv, P.eqv]
  | .int x, b => by cases b <;> simp [toPy, PyData.eqv, P.eqv]
  | .str x, b => by cases b <;> simp [toPy, PyData.eqv, P.eqv, ts_beq]
  | .tup l, b => by
    cases b with
    | tup m => simp only [toPy, PyData.eqv, P.eqv]; exact eqvs_toPys l m
    | _ => simp [toPy, PyData.eqv, P.eqv]
  | .lst l, b => by
    cases b with
    | lst m => simp only [toPy, PyData.eqv, P.eqv]; exact eqvs_toPys l m
    | _ => simp [toPy, PyData.eqv, P.eqv]
  | .dic l, b => by cases b <;> simp [toPy, PyData.eqv, P.eqv]
theorem eqvs_toPys : ∀ a b : List P, PyData.eqvAll (toPys a) (toPys b) = P.eqvs a b
  | [], [] => by simp [toPys, PyData.eqvAll, P.eqvs]
  | [], _ :: _ => by simp [toPys, PyData.eqvAll, P.eqvs]
  | _ :: _, [] => by simp [toPys, PyData.eqvAll, P.eqvs]
  | a :: l, b :: m => by simp only [toPys, PyData.eqvAll, P.eqvs]; rw [eqv_toPy a b, eqvs_toPys l m]
end
mutual
theorem canLay_toPy : ∀ a : P, a.sh = true → (toPy a).canLay0 = true
  | .non, _ => rfl
  | .bl _, _ => rfl
  | .int _, _ => rfl
  | .str x, h => by
    simp only [P.sh] at h
    show PyData.strOk (TS_ x) = true
    unfold PyData.strOk
    rw [← Array.all_toList]
    exact h
  | .tup l, h => by
    simp only [P.sh] at h
    show PyData.canLayAll0 (toPys l) = true
    exact canLays_toPys l h
  | .lst l, h => by
    simp only [P.sh] at h
    show PyData.canLayAll0 (toPys l) = true
    exact canLays_toPys l h
  | .dic _, h => by simp [P.sh] at h
theorem canLays_toPys : ∀ a : List P, P.shs a = true → PyData.canLayAll0 (toPys a) = true
  | [], _ => rfl
  | a :: l, h => by
    simp only [P.shs, Bool.and_eq_true] at h
    show (PyData.canLay0 (toPy a) && PyData.canLayAll0 (toPys l)) = true
    rw [canLay_toPy a h.1, canLays_toPys l h.2]; rfl
end
mutual
theorem depth_toPy : ∀ a : P, (toPy a).depth ≤ a.deep
  | .non => Nat.zero_le _
  | .bl _ => Nat.zero_le _
  | .int _ => Nat.zero_le _
  | .str _ => Nat.zero_le _
  | .tup l => by
    show PyData.depthAll (toPys l) + 1 ≤ P.deeps l + 1
    have := depths_toPys l
    omega
  | .lst l => by
    show PyData.depthAll (toPys l) + 1 ≤ P.deeps l + 1
    have := depths_toPys l
    omega
  | .dic _ => by
    show PyData.depthKv [] + 1 ≤ 1000
    simp [PyData.depthKv]
theorem depths_toPys : ∀ a : List P, PyData.depthAll (toPys a) ≤ P.deeps a
  | [] => Nat.le_refl _
  | a :: l => by
    show max (PyData.depth (toPy a)) (PyData.depthAll (toPys l)) ≤ max (P.deep a) (P.deeps l)
    have h1 := depth_toPy a
    have h2 := depths_toPys l
    omega
end
section
variable {K : PySem.W.Frag} {U : Addr → Prop} {H : Hp}
mutual
theorem dp_of : ∀ (p : P) (v : V), p.sh = true → RelP U H p v → Dp K H v (toPy p)
  | .non, v, _, r => by simp only [RelP] at r; subst r; exact .non
  | .bl _, v, _, r => by simp only [RelP] at r; subst r; exact .bl _
  | .int _, v, _, r => by simp only [RelP] at r; subst r; exact .int _
  | .str _, v, _, r => by simp only [RelP] at r; subst r; exact .str _
  | .tup l, v, h, r => by
    simp only [RelP] at r
    obtain ⟨a, vs, rfl, h1, _, h2⟩ := r
    simp only [P.sh] at h
    exact .tup (.of h1) (dps_of l vs h h2)
  | .lst l, v, h, r => by
    simp only [RelP] at r
    obtain ⟨a, vs, rfl, h1, _, h2⟩ := r
    simp only [P.sh] at h
    exact .lst (.of h1) (dps_of l vs h h2)
  | .dic _, v, h, r => by simp [P.sh] at h
theorem dps_of : ∀ (p : List P) (v : List V), P.shs p = true → RelPs U H p v → DpAll K H v (toPys p)
  | [], v, _, r => by simp only [RelPs] at r; subst r; exact .nil
  | p :: l, vs, h, r => by
    simp only [RelPs] at r
    obtain ⟨v, q, rfl, h1, h2⟩ := r
    simp only [P.shs, Bool.and_eq_true] at h
    exact .cons (dp_of p v h.1 h1) (dps_of l q h.2 h2)
end
theorem dp_top {p : P} {v : V} (h : p.sh = true) (r : Top K U H p v) : Dp K H v (toPy p) := by
  cases p with
  | tup l => obtain ⟨a, vs, rfl, h1, h2⟩ := r; simp only [P.sh] at h; exact .tup h1 (dps_of l vs h h2)
  | lst l => obtain ⟨a, vs, rfl, h1, h2⟩ := r; simp only [P.sh] at h; exact .lst h1 (dps_of l vs h h2)
  | dic l => simp [P.sh] at h
  | non => exact dp_of (U := U) _ v h r
  | bl _ => exact dp_of (U := U) _ v h r
  | int _ => exact dp_of (U := U) _ v h r
  | str _ => exact dp_of (U := U) _ v h r
theorem shaped_of {p : P} (h : p.sh = true) (d : p.deep ≤ 64) : SeqAt.shaped (toPy p) = true := by
  unfold SeqAt.shaped
  rw [canLay_toPy p h, decide_eq_true (Nat.le_trans (depth_toPy p) d)]
  rfl
def P.toV : P → V
  | .bl b => .bl b
  | .int i => .int i
  | .str x => .str (TS_ x)
  | _ => .non
theorem toV_of {p : P} {v : V} (h : p.flat = true) (r : RelP U H p v) : v = p.toV := by
  cases p <;> simp only [RelP] at r <;> first | exact r | cases h
theorem flat_toV {p : P} (h : p.flat = true) : flatV p.toV = true := by
  cases p <;> first | rfl | cases h
theorem flat_V {p : P} {v : V} (h : p.flat = true) (r : RelP U H p v) : flatV v = true := by
  rw [toV_of h r]; exact flat_toV h
theorem flat_top {p : P} {v : V} (h : p.flat = true) (r : Top K U H p v) : RelP U H p v := by
  cases p <;> first | exact r | cases h
theorem eqV_toV : ∀ {p q : P}, p.flat = true → q.flat = true → eqV p.toV q.toV = p.eqv q
  | .non, .non, _, _ => by simp [P.toV, eqV, P.eqv]
  | .non, .bl _, _, _ => by simp [P.toV, eqV, P.eqv]
  | .non, .int _, _, _ => by simp [P.toV, eqV, P.eqv]
  | .non, .str _, _, _ => by simp [P.toV, eqV, P.eqv]
  | .bl _, .non, _, _ => by simp [P.toV, eqV, P.eqv]
  | .bl _, .bl _, _, _ => by simp [P.toV, eqV, P.eqv]
  | .bl _, .int _, _, _ => by simp [P.toV, eqV, P.eqv]
  | .bl _, .str _, _, _ => by simp [P.toV, eqV, P.eqv]
  | .int _, .non, _, _ => by simp [P.toV, eqV, P.eqv]
  | .int _, .bl _, _, _ => by simp [P.toV, eqV, P.eqv]
  | .int _, .int _, _, _ => by simp [P.toV, eqV, P.eqv]
  | .int _, .str _, _, _ => by simp [P.toV, eqV, P.eqv]
  | .str _, .non, _, _ => by simp [P.toV, eqV, P.eqv]
  | .str _, .bl _, _, _ => by simp [P.toV, eqV, P.eqv]
  | .str _, .int _, _, _ => by simp [P.toV, eqV, P.eqv]
  | .str a, .str b, _, _ => ts_beq a b
theorem scal_toV : ∀ {p q : P}, scalP p q = true → scal p.toV q.toV = true ∧ decide (p.toV = q.toV) = p.eqv q
  | .non, .non, _ => by simp [P.toV, scal, P.eqv]
  | .non, .bl _, _ => by simp [P.toV, scal, P.eqv]
  | .non, .int _, _ => by simp [P.toV, scal, P.eqv]
  | .non, .str _, _ => by simp [P.toV, scal, P.eqv]
  | .bl _, .non, _ => by simp [P.toV, scal, P.eqv]
  | .bl a, .bl b, _ => ⟨rfl, dec_bl⟩
  | .bl _, .int _, h => by simp [scalP] at h
  | .bl _, .str _, _ => by simp [P.toV, scal, P.eqv]
  | .int _, .non, _ => by simp [P.toV, scal, P.eqv]
  | .int _, .bl _, h => by simp [scalP] at h
  | .int a, .int b, _ => ⟨rfl, dec_int⟩
  | .int _, .str _, _ => by simp [P.toV, scal, P.eqv]
  | .str _, .non, _ => by simp [P.toV, scal, P.eqv]
  | .str _, .bl _, _ => by simp [P.toV, scal, P.eqv]
  | .str _, .int _, _ => by simp [P.toV, scal, P.eqv]
  | .str a, .str b, _ => ⟨rfl, by show decide (V.str (TS_ a) = V.str (TS_ b)) = (a == b); rw [dec_str]; exact ts_beq a b⟩
  | .tup _, q, h => by cases q <;> simp [scalP, P.flat] at h
  | .lst _, q, h => by cases q <;> simp [scalP, P.flat] at h
  | .dic _, q, h => by cases q <;> simp [scalP, P.flat] at h
  | p, .tup _, h => by cases p <;> simp [scalP, P.flat] at h
  | p, .lst _, h => by cases p <;> simp [scalP, P.flat] at h
  | p, .dic _, h => by cases p <;> simp [scalP, P.flat] at h
theorem scalP_flat {p q : P} (h : scalP p q = true) : p.flat = true ∧ q.flat = true := by
  unfold scalP at h
  split at h
  · cases h
  · cases h
  · simpa using h
theorem eqV_of {p q : P} {v w : V} (hp : p.flat = true) (hq : q.flat = true) (r : RelP U H p v) (s : RelP U H q w) : eqV v w = p.eqv q := by
  rw [toV_of hp r, toV_of hq s]; exact eqV_toV hp hq
theorem inV_of {p : P} {v : V} (hp : p.flat = true) (r : RelP U H p v) : ∀ {l : List P} {vs : List V}, l.all P.flat = true → RelPs U H l vs → vs.all flatV = true ∧ inV v vs = l.any fun y => P.eqv y p
  | [], vs, _, s => by simp only [RelPs] at s; subst s; exact ⟨rfl, rfl⟩
  | q :: l, vs, h, s => by
    simp only [RelPs] at s
    obtain ⟨w, ws, rfl, h1, h2⟩ := s
    simp only [List.all_cons, Bool.and_eq_true] at h
    obtain ⟨i1, i2⟩ := inV_of hp r h.2 h2
    refine ⟨by simp [flat_V h.1 h1, i1], ?_⟩
    unfold inV at i2 ⊢
    rw [List.any_cons, List.any_cons, i2, eqV_of h.1 hp h1 r]
theorem scal_of {p q : P} {v w : V} (h : scalP p q = true) (r : Top K U H p v) (s : Top K U H q w) : scal v w = true ∧ decide (v = w) = p.eqv q := by
  obtain ⟨h1, h2⟩ := scalP_flat h
  rw [toV_of h1 (flat_top h1 r), toV_of h2 (flat_top h2 s)]
  exact scal_toV h
end
def opC : COp → CmpOp
  | .eq => .Eq | .ne => .NotEq | .lt => .Lt | .le => .LtE | .gt => .Gt | .ge => .GtE | .isN => .Is | .isnN => .IsNot | .isB => .Is | .isnB => .IsNot | .inn => .In | .nin => .NotIn
section
variable {X : Cx}
theorem or_din (hu : X.A.units + 1 < cLine) : OpR X (compareOp .In) (fun x y H Q => ∃ a o, y = .ref a ∧ DGet H a x o ∧ Q (.bl o.isSome) H) := by
  intro pins s σ H x y v u Q I rx ry h
  obtain ⟨a, o, rfl, g, q⟩ := h
  cases ry
  exact d_in hu I g rx fun s' I' => ⟨.bl _, H, I', rfl, q⟩
theorem or_dnin (hu : X.A.units + 1 < cLine) : OpR X (compareOp .NotIn) (fun x y H Q => ∃ a o, y = .ref a ∧ DGet H a x o ∧ Q (.bl (!o.isSome)) H) := by
  intro pins s σ H x y v u Q I rx ry h
  obtain ⟨a, o, rfl, g, q⟩ := h
  cases ry
  exact d_notIn hu I g rx fun s' I' => ⟨.bl _, H, I', rfl, q⟩
theorem toKy_V {U : Addr → Prop} {H : Hp} {K : PySem.W.Frag} {p : P} {k : Ky} {v : V} (h : p.toKy = some k) (r : Top K U H p v) : v = kV (kyK k) := by
  cases p <;> simp only [P.toKy] at h <;> first | (cases h; exact r) | cases h
theorem dget_of {U : Addr → Prop} {H : Hp} {l : List (Ky × P)} {ks : List (Key × V)} {a : Addr} {k : Ky} (e : Rd H a (.dK ks)) (r : RelKs U H l ks) :
    ∃ o, DGet H a (kV (kyK k)) o ∧ ((kget l k = none ∧ o = none) ∨ ∃ p v, kget l k = some p ∧ o = some v ∧ RelP U H p v) := by
  refine ⟨_, .inl ⟨ks, kyK k, e, rfl, rfl⟩, ?_⟩
  rcases r.val k with ⟨p, v, h1, h2, h3⟩ | ⟨h1, h2⟩
  · exact .inr ⟨p, v, h1, h2, h3⟩
  · exact .inl ⟨h1, h2⟩
theorem isNon_of {d : D} {Z : Addr → Prop} {M : List Addr} {st : Store} {H : Hp} {v : V} (r : RelD X.K Z M st H d v) : isNon d = decide (v = .non) := by
  cases d with
  | p p =>
    cases p <;> simp only [RelD, RelP] at r <;> first | (subst r; rfl) | (obtain ⟨_, _, rfl, _⟩ := r; rfl)
  | r k => obtain ⟨_, _, rfl⟩ := r; rfl
  | c p =>
    have t := RelC.top r
    cases p <;> simp only [Top, RelP] at t <;> first | (subst t; rfl) | (obtain ⟨_, _, rfl, _⟩ := t; rfl)
theorem cmp_ok (hu : X.A.units + 64 < cLine) {op : COp} {st : Store} {x y : D} {b : Bool} (h : cmpD op st x y = some b) :
    ∃ r : R2, OpR X (compareOp (opC op)) r ∧ ∀ (Z : Addr → Prop) (M : List Addr) (H : Hp) (v w : V) (Q : VK), SRel Z M st H → RelD X.K Z M st H x v → RelD X.K Z M st H y w → Q (.bl b) H → r v w H Q := by
  unfold cmpD at h
  split at h
  · split at h
    · rename_i hy
      cases h
      refine ⟨_, op_isN, fun Z M H v w Q sr r1 r2 q => ?_⟩
      rw [isNon_of r2] at hy
      rw [isNon_of r1] at q
      exact ⟨of_decide_eq_true hy, q⟩
    · cases h
  · split at h
    · rename_i hy
      cases h
      refine ⟨_, op_notN, fun Z M H v w Q sr r1 r2 q => ?_⟩
      rw [isNon_of r2] at hy
      rw [isNon_of r1] at q
      exact ⟨of_decide_eq_true hy, q⟩
    · cases h
  · split at h
    · cases h
      refine ⟨_, op_isBl, fun Z M H v w Q sr r1 r2 q => ?_⟩
      exact ⟨_, _, r1, r2, by rw [Bool.beq_eq_decide_eq] at q; exact q⟩
    · cases h
  · split at h
    · cases h
      refine ⟨_, op_notBl, fun Z M H v w Q sr r1 r2 q => ?_⟩
      exact ⟨_, _, r1, r2, by rw [Bool.beq_eq_decide_eq] at q; exact q⟩
    · cases h
  · split at h
    · rename_i p q hp hq
      have eqr : ∀ {c : Bool}, eqP p q = some c → (∃ r : R2, OpR X (compareOp .Eq) r ∧ ∀ (Z : Addr → Prop) (M : List Addr) (H : Hp) (v w : V) (Q : VK), SRel Z M st H → RelD X.K Z M st H x v → RelD X.K Z M st H y w → Q (.bl c) H → r v w H Q) ∧
          (∃ r : R2, OpR X (compareOp .NotEq) r ∧ ∀ (Z : Addr → Prop) (M : List Addr) (H : Hp) (v w : V) (Q : VK), SRel Z M st H → RelD X.K Z M st H x v → RelD X.K Z M st H y w → Q (.bl (!c)) H → r v w H Q) := fun {c} hc => by
        unfold eqP at hc
        split at hc
        · rename_i hs
          cases hc
          refine ⟨⟨_, op_eq, fun Z M H v w Q sr r1 r2 k => ?_⟩, ⟨_, op_ne, fun Z M H v w Q sr r1 r2 k => ?_⟩⟩
          · obtain ⟨a1, a2⟩ := scal_of hs (rd_top sr r1 hp) (rd_top sr r2 hq)
            exact ⟨a1, by rw [a2]; exact k⟩
          · obtain ⟨a1, a2⟩ := scal_of hs (rd_top sr r1 hp) (rd_top sr r2 hq)
            exact ⟨a1, by rw [a2]; exact k⟩
        · split at hc
          · rename_i hs
            cases hc
            simp only [Bool.and_eq_true, decide_eq_true_eq] at hs
            obtain ⟨⟨⟨h1, h2⟩, h3⟩, h4⟩ := hs
            refine ⟨⟨_, op_eqD hu, fun Z M H v w Q sr r1 r2 k => ?_⟩, ⟨_, op_neD hu, fun Z M H v w Q sr r1 r2 k => ?_⟩⟩
            · exact ⟨_, _, dp_top h1 (rd_top sr r1 hp), dp_top h2 (rd_top sr r2 hq), shaped_of h1 h3, shaped_of h2 h4, by rw [eqv_toPy]; exact k⟩
            · exact ⟨_, _, dp_top h1 (rd_top sr r1 hp), dp_top h2 (rd_top sr r2 hq), shaped_of h1 h3, shaped_of h2 h4, by rw [eqv_toPy]; exact k⟩
          · cases hc
      have inr : ∀ {l : List P} {neg : Bool}, p.flat = true → l.all P.flat = true → (q = .tup l ∨ q = .lst l) → ∀ (Z : Addr → Prop) (M : List Addr) (H : Hp) (v w : V) (Q : VK), SRel Z M st H → RelD X.K Z M st H x v → RelD X.K Z M st H y w →
          Q (.bl (if neg then !(l.any fun y => P.eqv y p) else l.any fun y => P.eqv y p)) H → rIn X.K neg v w H Q := fun {l neg} hf hl hlq Z M H v w Q sr r1 r2 k => by
        have t1 := flat_top hf (rd_top sr r1 hp)
        have t2 := rd_top sr r2 hq
        have t3 : ∃ a vs, w = .ref a ∧ (SqL X.K H a vs ∨ SqT X.K H a vs) ∧ RelPs (Mu Z M st) H l vs := by
          rcases hlq with rfl | rfl
          · obtain ⟨a, vs, e, h1, h2⟩ := t2; exact ⟨a, vs, e, .inr h1, h2⟩
          · obtain ⟨a, vs, e, h1, h2⟩ := t2; exact ⟨a, vs, e, .inl h1, h2⟩
        obtain ⟨a, vs, e, h1, h2⟩ := t3
        obtain ⟨i1, i2⟩ := inV_of hf t1 hl h2
        refine ⟨a, vs, e, h1, flat_V hf t1, i1, ?_⟩
        rw [i2]
        exact k
      unfold cmpP at h
      split at h
      · exact (eqr h).1
      · obtain ⟨c, hc, rfl⟩ := Option.map_eq_some_iff.mp h
        exact (eqr hc).2
      · cases h; exact ⟨_, op_lt, fun Z M H v w Q sr r1 r2 k => ⟨_, _, rd_top sr r1 hp, rd_top sr r2 hq, k⟩⟩
      · cases h; exact ⟨_, op_le, fun Z M H v w Q sr r1 r2 k => ⟨_, _, rd_top sr r1 hp, rd_top sr r2 hq, k⟩⟩
      · cases h; exact ⟨_, op_gt, fun Z M H v w Q sr r1 r2 k => ⟨_, _, rd_top sr r1 hp, rd_top sr r2 hq, k⟩⟩
      · cases h; exact ⟨_, op_ge, fun Z M H v w Q sr r1 r2 k => ⟨_, _, rd_top sr r1 hp, rd_top sr r2 hq, k⟩⟩
      · cases h; exact ⟨_, op_lt_str, fun Z M H v w Q sr r1 r2 k => ⟨_, _, rd_top sr r1 hp, rd_top sr r2 hq, k⟩⟩
      · cases h
        refine ⟨_, op_in_str, fun Z M H v w Q sr r1 r2 k => ⟨_, _, rd_top sr r1 hp, rd_top sr r2 hq, ?_⟩⟩
        rw [SX.in_one]; exact k
      · cases h
        refine ⟨_, L2.op_notin_str, fun Z M H v w Q sr r1 r2 k => ⟨_, _, rd_top sr r1 hp, rd_top sr r2 hq, ?_⟩⟩
        rw [SX.in_one]; exact k
      · split at h
        · rename_i hs
          cases h
          simp only [Bool.and_eq_true] at hs
          exact ⟨_, op_in_seq, inr (neg := false) hs.1 hs.2 (.inl rfl)⟩
        · cases h
      · split at h
        · rename_i hs
          cases h
          simp only [Bool.and_eq_true] at hs
          exact ⟨_, op_notIn_seq, inr (neg := true) hs.1 hs.2 (.inl rfl)⟩
        · cases h
      · split at h
        · rename_i hs
          cases h
          simp only [Bool.and_eq_true] at hs
          exact ⟨_, op_in_seq, inr (neg := false) hs.1 hs.2 (.inr rfl)⟩
        · cases h
      · split at h
        · rename_i hs
          cases h
          simp only [Bool.and_eq_true] at hs
          exact ⟨_, op_notIn_seq, inr (neg := true) hs.1 hs.2 (.inr rfl)⟩
        · cases h
      · obtain ⟨ky, hk, rfl⟩ := Option.map_eq_some_iff.mp h
        refine ⟨_, or_din (by omega), fun Z M H v w Q sr r1 r2 k => ?_⟩
        obtain ⟨a, ks, e, h1, h2⟩ := rd_top sr r2 hq
        have ev := toKy_V hk (rd_top sr r1 hp)
        subst ev
        obtain ⟨o, g, z⟩ := dget_of (k := ky) h1 h2
        refine ⟨a, o, e, g, ?_⟩
        rcases z with ⟨z1, z2⟩ | ⟨p', v', z1, z2, _⟩ <;> rw [z1] at k <;> rw [z2] <;> exact k
      · obtain ⟨ky, hk, rfl⟩ := Option.map_eq_some_iff.mp h
        refine ⟨_, or_dnin (by omega), fun Z M H v w Q sr r1 r2 k => ?_⟩
        obtain ⟨a, ks, e, h1, h2⟩ := rd_top sr r2 hq
        have ev := toKy_V hk (rd_top sr r1 hp)
        subst ev
        obtain ⟨o, g, z⟩ := dget_of (k := ky) h1 h2
        refine ⟨a, o, e, g, ?_⟩
        rcases z with ⟨z1, z2⟩ | ⟨p', v', z1, z2, _⟩ <;> rw [z1] at k <;> rw [z2] <;> exact k
      · cases h
    · cases h
end
end NH
namespace NH
variable [W : TheW]
open PySem L2
def setB : Expr → Bool
  | .Set .. => false
  | _ => true
theorem set_of {b : Expr} {op : CmpOp} (h : setB b = true) : behindInMarks op b = false := by
  cases b <;> first | rfl | cases h
theorem marks2_of {b c : Expr} {op op' : CmpOp} (h : setB c = true) : lastMarks [op, op'] [b, c] = false := by
  show behindInMarks op' c = false
  exact set_of h
def tstB : Expr → Bool
  | .UnaryOp .Not _ _ => false
  | .BoolOp .. => false
  | .IfExp .. => false
  | .Compare .. => false
  | _ => true
theorem tst_of {e : Expr} {env : PySem.Env} (h : tstB e = true) (whole : Sem Value) : isTrue e env whole = (do let v ← whole; standAt e.pos; holding [v] (truthy v)) := by
  cases e with
  | UnaryOp op x pos => cases op <;> first | rfl | cases h
  | BoolOp => cases h
  | IfExp => cases h
  | Compare => cases h
  | _ => rfl
section
variable {I : Inf} {T : Nat → Option Fn} {n : Nat} {S : Sx} {X : Cx} {C : Calls} {ca cb cc : CE} {a b c : Expr} {pos : Pos}
theorem Good.hu (G : Good I T n S X) : X.A.units + 64 < cLine := G.room.units
theorem asBl_some {x : D} {b : Bool} (h : asBl x = some b) : x = .p (.bl b) := by
  unfold asBl at h
  split at h
  · cases h; rfl
  · cases h
theorem RelD.bl {K : PySem.W.Frag} {Z : Addr → Prop} {M : List Addr} {st : Store} {H : Hp} {b : Bool} {v : V} (r : RelD K Z M st H (.p (.bl b)) v) : v = .bl b := by simpa [RelD, RelP] using r
theorem RelD.mkBl {K : PySem.W.Frag} {Z : Addr → Prop} {M : List Addr} {st : Store} {H : Hp} {b : Bool} : RelD K Z M st H (.p (.bl b)) (.bl b) := by simp [RelD, RelP]
theorem RelD.int {K : PySem.W.Frag} {Z : Addr → Prop} {M : List Addr} {st : Store} {H : Hp} {b : Int} {v : V} (r : RelD K Z M st H (.p (.int b)) v) : v = .int b := by simpa [RelD, RelP] using r
theorem t_val (h : PE X a (tE X.K C ca)) (ht : tstB a = true) : PT X a (tT X.K C ca) := by
  refine PT.weak (pt_val h (tst_of ht)) fun σ H Q h => ?_
  obtain ⟨Z, M, st, δ, b, st', sr, er, ev, k⟩ := h
  obtain ⟨x, st1, e1, ev⟩ := R.bind_eq_ok ev
  obtain ⟨ev2, rfl⟩ := lift_eq_ok ev
  refine one sr er e1 fun v M2 H2 f2 s2 r1 => ?_
  have e := asBl_some ev2
  subst e
  exact ⟨b, r1.bl, k M2 H2 f2 s2⟩
theorem evT_of {δ : Env} {st st' : Store} {b : Bool} (h : evE C ca δ st = .ok (.p (.bl b)) st') : evT C ca δ st = .ok b st' := by
  unfold evT; rw [h]; rfl
theorem s_cmp (G : Good I T n S X) {op : COp} (ha : PE X a (tE X.K C ca)) (hb : PE X b (tE X.K C cb)) (hs : setB b = true) : PE X (.Compare a [opC op] [b] pos) (tE X.K C (.cmp op ca cb)) := by
  refine PE.cases fun σ H Q h => ?_
  obtain ⟨Z, M, st, δ, d, st', sr, er, ev, k⟩ := h
  obtain ⟨x, st1, e1, ev⟩ := R.bind_eq_ok ev
  obtain ⟨y, st2, e2, ev⟩ := R.bind_eq_ok ev
  obtain ⟨ev2, rfl⟩ := lift_eq_ok ev
  obtain ⟨z, hz, rfl⟩ := Option.map_eq_some_iff.mp ev2
  obtain ⟨r, hr, q⟩ := cmp_ok (X := X) G.hu hz
  refine ⟨_, pe_cmpR hr ha hb (set_of hs), two sr er e1 e2 fun v w M2 H2 f2 s2 r1 r2 => ?_⟩
  exact q Z M2 H2 v w Q s2 r1 r2 (k _ M2 H2 f2 s2 RelD.mkBl)
theorem t_cmp (G : Good I T n S X) {op : COp} (ha : PE X a (tE X.K C ca)) (hb : PE X b (tE X.K C cb)) (hs : setB b = true) : PT X (.Compare a [opC op] [b] pos) (tT X.K C (.cmp op ca cb)) := by
  refine PT.cases fun σ H Q h => ?_
  obtain ⟨Z, M, st, δ, d, st', sr, er, ev, k⟩ := h
  obtain ⟨z', st9, ev, ev9⟩ := R.bind_eq_ok ev
  obtain ⟨ev8, rfl⟩ := lift_eq_ok ev9
  obtain ⟨x, st1, e1, ev⟩ := R.bind_eq_ok ev
  obtain ⟨y, st2, e2, ev⟩ := R.bind_eq_ok ev
  obtain ⟨ev2, rfl⟩ := lift_eq_ok ev
  obtain ⟨z, hz, rfl⟩ := Option.map_eq_some_iff.mp ev2
  cases ev8
  obtain ⟨r, hr, q⟩ := cmp_ok (X := X) G.hu hz
  refine ⟨_, pt_cmpR hr ha hb (set_of hs), ?_⟩
  refine two (R := fun v w H2 => r v w H2 fun x H' => ∃ k, x = .bl k ∧ Q k H') sr er e1 e2 fun v w M2 H2 f2 s2 r1 r2 => ?_
  exact q Z M2 H2 v w _ s2 r1 r2 ⟨_, rfl, k M2 H2 f2 s2⟩
theorem chain_rd (G : Good I T n S X) {op op' : COp} {σ : St} {H : Hp} {Q : VK} (h : tE X.K C (.chain op op' ca cb cc) σ H Q) :
    ∃ r r' : R2, OpR X (compareOp (opC op)) r ∧ OpR X (compareOp (opC op')) r' ∧ tChain r r' (tE X.K C ca) (tE X.K C cb) (tE X.K C cc) σ H Q := by
  obtain ⟨Z, M, st, δ, d, st', sr, er, ev, k⟩ := h
  obtain ⟨x, st1, e1, ev⟩ := R.bind_eq_ok ev
  obtain ⟨y, st2, e2, ev⟩ := R.bind_eq_ok ev
  split at ev
  · rename_i hz
    obtain ⟨w, st3, e3, ev⟩ := R.bind_eq_ok ev
    obtain ⟨ev2, rfl⟩ := lift_eq_ok ev
    obtain ⟨z, hz2, rfl⟩ := Option.map_eq_some_iff.mp ev2
    obtain ⟨r, hr, q⟩ := cmp_ok (X := X) G.hu hz
    obtain ⟨r', hr', q'⟩ := cmp_ok (X := X) G.hu hz2
    refine ⟨r, r', hr, hr', two sr er e1 e2 fun v w M2 H2 f2 s2 r1 r2 => ?_⟩
    refine q Z M2 H2 v w _ s2 r1 r2 ⟨true, rfl, iteT ?_⟩
    refine one s2 (er.fr f2) e3 fun u M3 H3 f3 s3 r3 => ?_
    exact q' Z M3 H3 w u Q s3 (r2.fr f3) r3 (k _ M3 H3 (f2.trans f3) s3 RelD.mkBl)
  · rename_i hz
    cases ev
    obtain ⟨r, hr, q⟩ := cmp_ok (X := X) G.hu hz
    refine ⟨r, fun _ _ _ _ => False, hr, fun pins s σ H x y v u Q I rx ry h => h.elim, ?_⟩
    refine two sr er e1 e2 fun v w M2 H2 f2 s2 r1 r2 => ?_
    exact q Z M2 H2 v w _ s2 r1 r2 ⟨false, rfl, iteF (k _ M2 H2 f2 s2 RelD.mkBl)⟩
  · cases ev
theorem s_chain (G : Good I T n S X) {op op' : COp} (ha : PE X a (tE X.K C ca)) (hb : PE X b (tE X.K C cb)) (hc : PE X c (tE X.K C cc)) (hs : setB c = true) :
    PE X (.Compare a [opC op, opC op'] [b, c] pos) (tE X.K C (.chain op op' ca cb cc)) := by
  refine PE.cases fun σ H Q h => ?_
  obtain ⟨r, r', h1, h2, h3⟩ := chain_rd G h
  exact ⟨_, pe_chain h1 h2 ha hb hc (marks2_of hs), h3⟩
theorem tT_E {σ : St} {H : Hp} {Q : Bool → Hp → Prop} (h : tT X.K C ca σ H Q) : tE X.K C ca σ H fun x H' => ∃ k, x = .bl k ∧ Q k H' := by
  obtain ⟨Z, M, st, δ, d, st', sr, er, ev, k⟩ := h
  obtain ⟨z', st9, ev, ev9⟩ := R.bind_eq_ok ev
  obtain ⟨ev8, rfl⟩ := lift_eq_ok ev9
  have e := asBl_some ev8
  subst e
  exact ⟨Z, M, st, δ, _, _, sr, er, ev, fun v M' H' f s r => ⟨d, r.bl, k M' H' f s⟩⟩
theorem t_chain (G : Good I T n S X) {op op' : COp} (ha : PE X a (tE X.K C ca)) (hb : PE X b (tE X.K C cb)) (hc : PE X c (tE X.K C cc)) (hs : setB c = true) :
    PT X (.Compare a [opC op, opC op'] [b, c] pos) (tT X.K C (.chain op op' ca cb cc)) := by
  refine PT.cases fun σ H Q h => ?_
  obtain ⟨r, r', h1, h2, h3⟩ := chain_rd G (tT_E h)
  exact ⟨_, pt_chain h1 h2 ha hb hc (marks2_of hs), h3⟩
theorem s_not (ha : PE X a (tE X.K C ca)) : PE X (.UnaryOp .Not a pos) (tE X.K C (.not ca)) := by
  refine PE.weak (pe_not ha) fun σ H Q h => ?_
  obtain ⟨Z, M, st, δ, d, st', sr, er, ev, k⟩ := h
  obtain ⟨x, st1, e1, ev⟩ := R.bind_eq_ok ev
  obtain ⟨ev2, rfl⟩ := lift_eq_ok ev
  obtain ⟨z, hz, rfl⟩ := Option.map_eq_some_iff.mp ev2
  have e := asBl_some hz
  subst e
  exact one sr er e1 fun v M2 H2 f2 s2 r1 => ⟨z, r1.bl, k _ M2 H2 f2 s2 RelD.mkBl⟩
theorem t_not (ha : PT X a (tT X.K C ca)) : PT X (.UnaryOp .Not a pos) (tT X.K C (.not ca)) := by
  refine PT.weak (pt_not ha) fun σ H Q h => ?_
  obtain ⟨Z, M, st, δ, d, st', sr, er, ev, k⟩ := h
  obtain ⟨z', st9, ev, ev9⟩ := R.bind_eq_ok ev
  obtain ⟨ev8, rfl⟩ := lift_eq_ok ev9
  obtain ⟨x, st1, e1, ev⟩ := R.bind_eq_ok ev
  obtain ⟨ev2, rfl⟩ := lift_eq_ok ev
  obtain ⟨z, hz, rfl⟩ := Option.map_eq_some_iff.mp ev2
  have e := asBl_some hz
  subst e
  cases ev8
  exact ⟨Z, M, st, δ, z, _, sr, er, evT_of e1, fun M' H' f s => k M' H' f s⟩
theorem s_ife (hc : PT X c (tT X.K C cc)) (ha : PE X a (tE X.K C ca)) (hb : PE X b (tE X.K C cb)) : PE X (.IfExp c a b pos) (tE X.K C (.ife cc ca cb)) := by
  refine PE.weak (pe_ifExp hc ha hb) fun σ H Q h => ?_
  obtain ⟨Z, M, st, δ, d, st', sr, er, ev, k⟩ := h
  obtain ⟨x, st1, e1, ev⟩ := R.bind_eq_ok ev
  split at ev
  · rename_i hz
    have e := asBl_some hz
    subst e
    exact ⟨Z, M, st, δ, true, _, sr, er, evT_of e1, fun M2 H2 f2 s2 => iteT ⟨Z, M2, st1, δ, d, st', s2, er.fr f2, ev, fun v M3 H3 f3 s3 r3 => k v M3 H3 (f2.trans f3) s3 r3⟩⟩
  · rename_i hz
    have e := asBl_some hz
    subst e
    exact ⟨Z, M, st, δ, false, _, sr, er, evT_of e1, fun M2 H2 f2 s2 => iteF ⟨Z, M2, st1, δ, d, st', s2, er.fr f2, ev, fun v M3 H3 f3 s3 r3 => k v M3 H3 (f2.trans f3) s3 r3⟩⟩
  · cases ev
def tAndE (K : PySem.W.Frag) (C : Calls) (c : CEs) : TE := fun σ H Q => ∃ Z M st δ d st', SRel Z M st H ∧ EnvRel K Z M st H δ σ ∧ evAnd C c δ st = .ok d st' ∧
  ∀ v M' H', Frm Z M st H M' st' H' → SRel Z M' st' H' → RelD K Z M' st' H' d v → Q v H'
def tOrE (K : PySem.W.Frag) (C : Calls) (c : CEs) : TE := fun σ H Q => ∃ Z M st δ d st', SRel Z M st H ∧ EnvRel K Z M st H δ σ ∧ evOr C c δ st = .ok d st' ∧
  ∀ v M' H', Frm Z M st H M' st' H' → SRel Z M' st' H' → RelD K Z M' st' H' d v → Q v H'
def tAndT (K : PySem.W.Frag) (C : Calls) (c : CEs) : TT := fun σ H Q => ∃ Z M st δ b st', SRel Z M st H ∧ EnvRel K Z M st H δ σ ∧ evAnd C c δ st = .ok (.p (.bl b)) st' ∧
  ∀ M' H', Frm Z M st H M' st' H' → SRel Z M' st' H' → Q b H'
def tOrT (K : PySem.W.Frag) (C : Calls) (c : CEs) : TT := fun σ H Q => ∃ Z M st δ b st', SRel Z M st H ∧ EnvRel K Z M st H δ σ ∧ evOr C c δ st = .ok (.p (.bl b)) st' ∧
  ∀ M' H', Frm Z M st H M' st' H' → SRel Z M' st' H' → Q b H'
theorem s_and1 (h : PE X a (tE X.K C ca)) : PE X (.BoolOp .And [a] pos) (tAndE X.K C (.cons ca .nil)) := by
  refine PE.weak (pe_one h) fun σ H Q h => ?_
  obtain ⟨Z, M, st, δ, d, st', sr, er, ev, k⟩ := h
  obtain ⟨x, st1, e1, ev⟩ := R.bind_eq_ok ev
  split at ev
  · rename_i hz; have e := asBl_some hz; subst e; cases ev; exact ⟨Z, M, st, δ, _, _, sr, er, e1, k⟩
  · rename_i hz; have e := asBl_some hz; subst e; cases ev; exact ⟨Z, M, st, δ, _, _, sr, er, e1, k⟩
  · cases ev
theorem s_or1 (h : PE X a (tE X.K C ca)) : PE X (.BoolOp .Or [a] pos) (tOrE X.K C (.cons ca .nil)) := by
  refine PE.weak (pe_one h) fun σ H Q h => ?_
  obtain ⟨Z, M, st, δ, d, st', sr, er, ev, k⟩ := h
  obtain ⟨x, st1, e1, ev⟩ := R.bind_eq_ok ev
  split at ev
  · rename_i hz; have e := asBl_some hz; subst e; cases ev; exact ⟨Z, M, st, δ, _, _, sr, er, e1, k⟩
  · rename_i hz; have e := asBl_some hz; subst e; cases ev; exact ⟨Z, M, st, δ, _, _, sr, er, e1, k⟩
  · cases ev
theorem s_and2 {rest : List Expr} {cs : CEs} (h : PE X a (tE X.K C ca)) (h2 : PE X (.BoolOp .And (b :: rest) pos) (tAndE X.K C cs)) : PE X (.BoolOp .And (a :: b :: rest) pos) (tAndE X.K C (.cons ca cs)) := by
  refine PE.weak (pe_and h h2) fun σ H Q h => ?_
  obtain ⟨Z, M, st, δ, d, st', sr, er, ev, k⟩ := h
  obtain ⟨x, st1, e1, ev⟩ := R.bind_eq_ok ev
  split at ev
  · rename_i hz; have e := asBl_some hz; subst e
    exact one sr er e1 fun v M2 H2 f2 s2 r2 => ⟨true, r2.bl, iteT ⟨Z, M2, st1, δ, d, st', s2, er.fr f2, ev, fun v M3 H3 f3 s3 r3 => k v M3 H3 (f2.trans f3) s3 r3⟩⟩
  · rename_i hz; have e := asBl_some hz; subst e; cases ev
    exact one sr er e1 fun v M2 H2 f2 s2 r2 => ⟨false, r2.bl, iteF (k _ M2 H2 f2 s2 RelD.mkBl)⟩
  · cases ev
theorem s_or2 {rest : List Expr} {cs : CEs} (h : PE X a (tE X.K C ca)) (h2 : PE X (.BoolOp .Or (b :: rest) pos) (tOrE X.K C cs)) : PE X (.BoolOp .Or (a :: b :: rest) pos) (tOrE X.K C (.cons ca cs)) := by
  refine PE.weak (pe_or h h2) fun σ H Q h => ?_
  obtain ⟨Z, M, st, δ, d, st', sr, er, ev, k⟩ := h
  obtain ⟨x, st1, e1, ev⟩ := R.bind_eq_ok ev
  split at ev
  · rename_i hz; have e := asBl_some hz; subst e
    exact one sr er e1 fun v M2 H2 f2 s2 r2 => ⟨false, r2.bl, iteF ⟨Z, M2, st1, δ, d, st', s2, er.fr f2, ev, fun v M3 H3 f3 s3 r3 => k v M3 H3 (f2.trans f3) s3 r3⟩⟩
  · rename_i hz; have e := asBl_some hz; subst e; cases ev
    exact one sr er e1 fun v M2 H2 f2 s2 r2 => ⟨true, r2.bl, iteT (k _ M2 H2 f2 s2 RelD.mkBl)⟩
  · cases ev
theorem t_and1 (h : PT X a (tT X.K C ca)) : PW X (.BoolOp .And [a] pos) (tAndT X.K C (.cons ca .nil)) := by
  refine ⟨fun wh pins s σ H Q I hq => (pw_and1 h).run wh pins s σ H Q I ?_⟩
  obtain ⟨Z, M, st, δ, d, st', sr, er, ev, k⟩ := hq
  obtain ⟨x, st1, e1, ev⟩ := R.bind_eq_ok ev
  split at ev
  · rename_i hz; have e := asBl_some hz; subst e; cases ev; exact ⟨Z, M, st, δ, _, _, sr, er, evT_of e1, k⟩
  · rename_i hz; have e := asBl_some hz; subst e; cases ev; exact ⟨Z, M, st, δ, _, _, sr, er, evT_of e1, k⟩
  · cases ev
theorem t_or1 (h : PT X a (tT X.K C ca)) : PW X (.BoolOp .Or [a] pos) (tOrT X.K C (.cons ca .nil)) := by
  refine ⟨fun wh pins s σ H Q I hq => (pw_or1 h).run wh pins s σ H Q I ?_⟩
  obtain ⟨Z, M, st, δ, d, st', sr, er, ev, k⟩ := hq
  obtain ⟨x, st1, e1, ev⟩ := R.bind_eq_ok ev
  split at ev
  · rename_i hz; have e := asBl_some hz; subst e; cases ev; exact ⟨Z, M, st, δ, _, _, sr, er, evT_of e1, k⟩
  · rename_i hz; have e := asBl_some hz; subst e; cases ev; exact ⟨Z, M, st, δ, _, _, sr, er, evT_of e1, k⟩
  · cases ev
theorem t_and2 {rest : List Expr} {cs : CEs} (h : PT X a (tT X.K C ca)) (h2 : PW X (.BoolOp .And (b :: rest) pos) (tAndT X.K C cs)) : PW X (.BoolOp .And (a :: b :: rest) pos) (tAndT X.K C (.cons ca cs)) := by
  refine ⟨fun wh pins s σ H Q I hq => (pw_and h h2).run wh pins s σ H Q I ?_⟩
  obtain ⟨Z, M, st, δ, d, st', sr, er, ev, k⟩ := hq
  obtain ⟨x, st1, e1, ev⟩ := R.bind_eq_ok ev
  split at ev
  · rename_i hz; have e := asBl_some hz; subst e
    exact ⟨Z, M, st, δ, _, _, sr, er, evT_of e1, fun M2 H2 f2 s2 => iteT ⟨Z, M2, st1, δ, d, st', s2, er.fr f2, ev, fun M3 H3 f3 s3 => k M3 H3 (f2.trans f3) s3⟩⟩
  · rename_i hz; have e := asBl_some hz; subst e; cases ev
    exact ⟨Z, M, st, δ, _, _, sr, er, evT_of e1, fun M2 H2 f2 s2 => iteF (k M2 H2 f2 s2)⟩
  · cases ev
theorem t_or2 {rest : List Expr} {cs : CEs} (h : PT X a (tT X.K C ca)) (h2 : PW X (.BoolOp .Or (b :: rest) pos) (tOrT X.K C cs)) : PW X (.BoolOp .Or (a :: b :: rest) pos) (tOrT X.K C (.cons ca cs)) := by
  refine ⟨fun wh pins s σ H Q I hq => (pw_or h h2).run wh pins s σ H Q I ?_⟩
  obtain ⟨Z, M, st, δ, d, st', sr, er, ev, k⟩ := hq
  obtain ⟨x, st1, e1, ev⟩ := R.bind_eq_ok ev
  split at ev
  · rename_i hz; have e := asBl_some hz; subst e
    exact ⟨Z, M, st, δ, _, _, sr, er, evT_of e1, fun M2 H2 f2 s2 => iteF ⟨Z, M2, st1, δ, d, st', s2, er.fr f2, ev, fun M3 H3 f3 s3 => k M3 H3 (f2.trans f3) s3⟩⟩
  · rename_i hz; have e := asBl_some hz; subst e; cases ev
    exact ⟨Z, M, st, δ, _, _, sr, er, evT_of e1, fun M2 H2 f2 s2 => iteT (k M2 H2 f2 s2)⟩
  · cases ev
theorem s_and {vs : List Expr} {cs : CEs} (h : PE X (.BoolOp .And vs pos) (tAndE X.K C cs)) : PE X (.BoolOp .And vs pos) (tE X.K C (.and cs)) := h
theorem s_or {vs : List Expr} {cs : CEs} (h : PE X (.BoolOp .Or vs pos) (tOrE X.K C cs)) : PE X (.BoolOp .Or vs pos) (tE X.K C (.or cs)) := h
theorem t_and {vs : List Expr} {cs : CEs} (h : PW X (.BoolOp .And vs pos) (tAndT X.K C cs)) : PT X (.BoolOp .And vs pos) (tT X.K C (.and cs)) := by
  refine PT.weak h.pt fun σ H Q h => ?_
  obtain ⟨Z, M, st, δ, d, st', sr, er, ev, k⟩ := h
  obtain ⟨x, st1, e1, ev⟩ := R.bind_eq_ok ev
  obtain ⟨ev2, rfl⟩ := lift_eq_ok ev
  have e := asBl_some ev2; subst e
  exact ⟨Z, M, st, δ, d, _, sr, er, e1, k⟩
theorem t_or {vs : List Expr} {cs : CEs} (h : PW X (.BoolOp .Or vs pos) (tOrT X.K C cs)) : PT X (.BoolOp .Or vs pos) (tT X.K C (.or cs)) := by
  refine PT.weak h.pt fun σ H Q h => ?_
  obtain ⟨Z, M, st, δ, d, st', sr, er, ev, k⟩ := h
  obtain ⟨x, st1, e1, ev⟩ := R.bind_eq_ok ev
  obtain ⟨ev2, rfl⟩ := lift_eq_ok ev
  have e := asBl_some ev2; subst e
  exact ⟨Z, M, st, δ, d, _, sr, er, e1, k⟩
end
end NH
namespace NHRT
open PySem PySem.Spec PyProof.Rows L2 HT
section
variable {prog : Program} {w : World} {A : Around} {E : Value → Shared → Prop} {s : Shared}
theorem adj_rev (n : Nat) : Builtin.Slice.sliceAdjust none none (-1) (n : Int) = ((n : Int) - 1, -1) := by
  unfold Builtin.Slice.sliceAdjust
  simp
theorem pl_rev (n : Nat) : Builtin.Slice.slicePlaces ((n : Int) - 1) (-1) (-1) = n := by
  unfold Builtin.Slice.slicePlaces
  rw [if_neg (by decide)]
  split
  · simp
  · simp
    omega
theorem fm_congr {α β : Type} {f g : α → Option β} : ∀ {l : List α}, (∀ a ∈ l, f a = g a) → l.filterMap f = l.filterMap g
  | [], _ => rfl
  | a :: l, h => by
    rw [List.filterMap_cons, List.filterMap_cons, h a List.mem_cons_self, fm_congr fun b m => h b (List.mem_cons_of_mem _ m)]
theorem applied_rev {sl : Addr} {vl vu vs : Value} {n : Nat} {Q : Int × Int × Nat → Shared → Prop} (hs : s.heap.IsSliceOf sl vl vu vs) (pl : IsPart vl none) (pu : IsPart vu none) (ps : IsPart vs (some (-1)))
    (h : Q ((n : Int) - 1, -1, n) s) : wpAny (model prog w) A (Builtin.Slice.sliceApplied (.ref sl) (pure (n : Int))) Q E s := by
  obtain ⟨os, hos, hcs, hds⟩ := id hs
  unfold Builtin.Slice.sliceApplied Builtin.Slice.sliceFields
  refine wpAny_bind (wpAny_bind (wpAny_field hos hds (x := vl) rfl (wpAny_bind (wpAny_field hos hds (x := vu) rfl (wpAny_bind (wpAny_field hos hds (x := vs) rfl (wpAny_pure ?_)))))))
  refine wpAny_bind (slicePart_ ps ?_)
  show wpAny _ _ (if ((-1 : Int) == 0) = true then _ else _) _ _ s
  rw [if_neg (by decide)]
  refine wpAny_bind (slicePart_ pl (wpAny_bind (slicePart_ pu (wpAny_bind (wpAny_pure ?_)))))
  show wpAny _ _ (match Builtin.Slice.sliceAdjust none none (-1) (n : Int) with | (lo, hi) => pure (lo, (-1 : Int), Builtin.Slice.slicePlaces lo hi (-1))) _ _ s
  rw [adj_rev]
  show wpAny _ _ (pure ((n : Int) - 1, (-1 : Int), Builtin.Slice.slicePlaces ((n : Int) - 1) (-1) (-1))) _ _ s
  rw [pl_rev]
  exact wpAny_pure h
theorem pick_rev (xs : Array Value) : ((List.range xs.size).filterMap fun (k : Nat) => xs[(((xs.size : Int) - 1) + (k : Int) * (-1)).toNat]?).toArray = xs.toList.reverse.toArray := by
  congr 1
  obtain ⟨l⟩ := xs
  simp only [List.size_toArray, List.getElem?_toArray]
  have e : (List.range l.length).filterMap (fun (k : Nat) => l[(((l.length : Int) - 1) + (k : Int) * (-1)).toNat]?) = (List.range l.length).filterMap (fun (k : Nat) => l.reverse[k]?) := by
    refine fm_congr fun k hk => ?_
    have hk := List.mem_range.mp hk
    rw [List.getElem?_reverse hk]
    congr 1
    omega
  rw [e]
  have : ∀ m : List Value, (List.range m.length).filterMap (fun k => m[k]?) = m := by
    intro m
    induction m with
    | nil => rfl
    | cons a m ih =>
      rw [List.length_cons, List.range_succ_eq_map, List.filterMap_cons]
      simp only [List.getElem?_cons_zero, List.filterMap_map]
      congr 1
  have h2 := this l.reverse
  rw [List.length_reverse] at h2
  exact h2
theorem getItem_tuple_rev {t sl : Addr} {items : Array Value} {vl vu vs : Value} {Q : Value → Shared → Prop} (ht : IsTup s.heap t items) (hs : s.heap.IsSliceOf sl vl vu vs) (pl : IsPart vl none) (pu : IsPart vu none) (ps : IsPart vs (some (-1)))
    (h : Q (.ref s.heap.objs.size) { s with heap := s.heap.push { cls := .type "tuple", data := .seq items.toList.reverse.toArray } })
    (hsz : items.size ≤ sizeLine) : wpAny (model prog w) A (getItem (.ref t) (.ref sl)) Q E s := by
  have htake : sizeOk (.seq items.toList.reverse.toArray) := by
    show items.toList.reverse.toArray.size ≤ sizeLine
    rw [List.size_toArray, List.length_reverse, Array.length_toList]
    exact hsz
  obtain ⟨os, hos, hcs, hds⟩ := id hs
  have hTs : s.TypeIs (.ref sl) "slice" := ⟨os, hos, hcs⟩
  unfold getItem
  try with_reducible refine wpAny_holding ?_
  first | refine wpAny_bind (wpAny_pure ?_) | skip
  refine wpAny_bind (wpAny_sequenceKey ht.typeIs (by decide) ?_)
  refine wpAny_bind (wpAny_callSpecial?_slot (name := Str.ofString "__getitem__") ht.typeIs PyProof.Rows.slot_tuple_getitem
    (wpAny_call_entry PyProof.Rows.slot_tuple_getitem ht.typeIs entry_tuple_getitem ?_ (args_tuple_getitem _ _)))
  show wpAny _ _ (Builtin.Tuple.tupleItemsOf (.ref t) >>= _) _ _ s
  refine wpAny_bind (tupleItemsOf_ ht ?_)
  refine wpAny_bind (wpAny_typeOf hTs ?_)
  rw [if_pos (by decide)]
  refine wpAny_bind (applied_rev hs pl pu ps ?_)
  have hno : ¬ ((((items.size : Int) - 1) == 0 && (-1 : Int) == 1 && items.size == items.size) = true) := by
    intro q
    rw [Bool.and_eq_true, Bool.and_eq_true] at q
    exact absurd q.1.2 (by decide)
  show wpAny _ _ (if (((items.size : Int) - 1) == 0 && (-1 : Int) == 1 && items.size == items.size) = true then _ else _) _ _ s
  rw [if_neg hno, pick_rev]
  first
    | exact wpAny_bind (m := Builtin.Tuple.tupleExact _) (wpAny_newObj_type (wpAny_pure ⟨_, rfl, wpAny_pure h⟩) htake)
    | exact wpAny_bind (m := Builtin.Tuple.tupleExact _) (wpAny_newObj_type (wpAny_bind (wpAny_pure (wpAny_pure ⟨_, rfl, wpAny_pure h⟩))) htake)
    | exact wpAny_bind (wpAny_bind (m := Builtin.Tuple.tupleExact _) (wpAny_newObj_type (wpAny_pure (wpAny_pure ⟨_, rfl, wpAny_pure h⟩)) htake))
    | exact wpAny_bind (wpAny_bind (m := Builtin.Tuple.tupleExact _) (wpAny_newObj_type (wpAny_pure ⟨_, rfl, wpAny_pure h⟩) htake))
end
end NHRT
namespace NH
variable [W : TheW]
open PySem PySem.Spec PyProof.Rows L2
section
variable {X : Cx}
def tRevT (K : PySem.W.Frag) (te : TE) : TE := fun σ H Q => te σ H fun x H1 => ∃ a xs, x = .ref a ∧ SqT K H1 a xs ∧ ∀ p, H1 p = none → Q (.ref p) (upd H1 p (.tup xs.reverse))
theorem pe_revT {e : Expr} {te : TE} {k : Nat} {p1 p2 p3 pos : Pos} (he : PE X e te) : PE X (.Subscript e (.Slice none none (some (.UnaryOp .USub (.Constant (.int 1) k p1) p2)) p3) pos) (tRevT X.K te) := by
  refine ⟨fun pins s σ H Q I h => ?_⟩
  refine Subscript_ (thn (he.run pins s σ H _ I h) fun v s1 ⟨x, H1, I1, r1, q1⟩ => ?_)
  obtain ⟨a, xs, ex, hx, q⟩ := q1
  subst ex
  cases r1
  have hst : PO X (some (.UnaryOp .USub (.Constant (.int 1) k p1) p2)) (tPart (tUn (rU fun i => .int (-i)) (tC (.int 1)))) := po_some (pe_un un_neg pe_int)
  refine wpAny_Slice (thn (po_none.run pins s1 σ H1 (fun o H2 => o = none ∧ H2 = H1) I1 ⟨rfl, rfl⟩) fun vl s2 ⟨l, H2, I2, pl, el, e2⟩ => ?_)
  subst el e2
  refine thn (po_none.run pins s2 σ H2 (fun o H3 => o = none ∧ H3 = H2) I2 ⟨rfl, rfl⟩) fun vu s3 ⟨u, H3, I3, pu, eu, e3⟩ => ?_
  subst eu e3
  refine thn (hst.run pins s3 σ H3 (fun o H4 => o = some (-1) ∧ H4 = H3) I3 ⟨1, rfl, -1, rfl, rfl, rfl⟩) fun vs s4 ⟨o, H4, I4, ps, eo, e4⟩ => ?_
  subst eo e4
  have I5 : Inv X pins σ H4 { s4 with heap := s4.heap.push { cls := .type "slice", data := .fields #[vl, vu, vs] } } := I4.kept (t' := s4.toks) fun b ob q => Heap.get?_push_of_some _ q
  obtain ⟨its, r, ht, hz⟩ := I5.tuple hx
  have hlen := r.length
  show wpAny (model X.prog X.w) X.A (subscriptTail e (.Slice none none (some (.UnaryOp .USub (.Constant (.int 1) k p1) p2)) p3) (.ref a) (.ref s4.heap.objs.size)) (EP X pins σ Q) X.xe { s4 with heap := s4.heap.push { cls := .type "slice", data := .fields #[vl, vu, vs] } }
  refine tail_any (ops := [.ref a, .ref s4.heap.objs.size]) ht.typeIs (PyProof.Rows.slot_tuple_getitem.lookup) ?_ (by with_unfolding_all rfl)
  refine NHRT.getItem_tuple_rev ht (Heap.IsSliceOf.new _ vl vu vs) pl pu ps ?_ (by rw [List.size_toArray]; omega)
  refine ⟨.ref _, _, I5.laid (t' := s4.toks) (o := .tup xs.reverse) (fun b ob q => Heap.get?_push_of_some _ q) (Nat.le_refl _) ?_, rfl, q _ (I5.hok.fresh (Nat.le_refl _))⟩
  exact ⟨by rw [List.length_reverse]; exact hz, _, r.reverse, ⟨_, Heap.get?_push_size _ rfl, rfl, 0, rfl⟩⟩
end
end NH
namespace NH
variable [W : TheW]
open PySem L2
def ixB : Expr → Bool
  | .Slice .. => false
  | _ => true
theorem ix_of {b : Expr} (h : ixB b = true) : PlainIx b := by
  intro o i
  cases b <;> first | rfl | cases h
theorem nosl_of {b : Expr} (h : ixB b = true) : NoSl b := by
  intro o i
  cases b <;> first | rfl | cases h
section
variable {K : PySem.W.Frag} {Z : Addr → Prop} {M : List Addr} {st : Store} {H : Hp} {U : Addr → Prop}
theorem pure1_some {d : D} {p : P} (h : pure1 d = some p) : d = .p p := by
  cases d <;> cases h; rfl
theorem atI_of {l : List P} {vs : List V} {i : Int} {k : Nat} {p : P} (r : RelPs U H l vs) (h1 : ixOf l.length i = some k) (h2 : l[k]? = some p) : ∃ v, atI vs i = some v ∧ RelP U H p v := by
  obtain ⟨v, a, b⟩ := r.get h2
  refine ⟨v, ?_, b⟩
  unfold atI
  rw [r.length, show ixN l.length i = some k from h1]
  exact a
end
section
variable {I : Inf} {T : Nat → Option Fn} {n : Nat} {S : Sx} {X : Cx} {C : Calls} {ca cb cc : CE} {a b c : Expr} {pos : Pos}
theorem rdS_rd {st : Store} {d : D} {p : P} (h : rdS st d = some p) : rd st d = some p := by
  unfold rdS at h
  split at h
  · cases h
  · exact h
theorem s_idx (G : Good I T n S X) (ha : PE X a (tE X.K C ca)) (hb : PE X b (tE X.K C cb)) (hs : ixB b = true) : PE X (.Subscript a b pos) (tE X.K C (.idx ca cb)) := by
  refine PE.cases fun σ H Q h => ?_
  obtain ⟨Z, M, st, δ, d, st', sr, er, ev, k⟩ := h
  obtain ⟨x, st1, e1, ev⟩ := R.bind_eq_ok ev
  obtain ⟨y, st2, e2, ev⟩ := R.bind_eq_ok ev
  obtain ⟨ev2, rfl⟩ := lift_eq_ok ev
  obtain ⟨p, hp, ev3⟩ := Option.bind_eq_some_iff.mp ev2
  obtain ⟨q, hq, ev4⟩ := Option.bind_eq_some_iff.mp ev3
  obtain ⟨r, hr, rfl⟩ := Option.map_eq_some_iff.mp ev4
  have hy := pure1_some hq
  subst hy
  unfold idxP at hr
  split at hr
  · obtain ⟨j, hj, hr2⟩ := Option.bind_eq_some_iff.mp hr
    refine ⟨_, pe_ix ix_list ha hb (ix_of hs), two sr er e1 e2 fun v w M2 H2 f2 s2 r1 r2 => ?_⟩
    obtain ⟨a1, vs, q1, q2, q3⟩ := rd_top s2 r1 hp
    obtain ⟨u, q4, q5⟩ := atI_of q3 hj hr2
    exact ⟨a1, vs, _, u, q1, r2.int, q2, q4, k _ M2 H2 f2 s2 q5⟩
  · obtain ⟨j, hj, hr2⟩ := Option.bind_eq_some_iff.mp hr
    refine ⟨_, pe_ix ix_tup ha hb (ix_of hs), two sr er e1 e2 fun v w M2 H2 f2 s2 r1 r2 => ?_⟩
    obtain ⟨a1, vs, q1, q2, q3⟩ := rd_top s2 r1 hp
    obtain ⟨u, q4, q5⟩ := atI_of q3 hj hr2
    exact ⟨a1, vs, _, u, q1, r2.int, q2, q4, k _ M2 H2 f2 s2 q5⟩
  · split at hr
    · rename_i hz
      obtain ⟨j, hj, hr2⟩ := Option.bind_eq_some_iff.mp hr
      obtain ⟨ch, hch, rfl⟩ := Option.map_eq_some_iff.mp hr2
      refine ⟨_, pe_ix ix_str ha hb (ix_of hs), two sr er e1 e2 fun v w M2 H2 f2 s2 r1 r2 => ?_⟩
      have t := rd_top s2 r1 hp
      refine ⟨_, _, ch, t, r2.int, by rw [ts_len, ← line_eq]; exact hz, ?_, k _ M2 H2 f2 s2 rfl⟩
      unfold atI
      show (ixN _ _).bind _ = _
      rw [show ixN _ _ = some j from hj]
      exact hch
    · cases hr
  · obtain ⟨ky, hk, hr2⟩ := Option.bind_eq_some_iff.mp hr
    have hu := G.hu
    refine ⟨_, pe_dget (by omega) ha hb (nosl_of hs), two sr er e1 e2 fun v w M2 H2 f2 s2 r1 r2 => ?_⟩
    obtain ⟨a1, ks, q1, q2, q3⟩ := rd_top s2 r1 hp
    have ev' := toKy_V (K := X.K) (U := Mu Z M2 st') (H := H2) hk (RelP.topN (show RelP _ _ _ _ from r2)).top
    subst ev'
    obtain ⟨o, g, z⟩ := dget_of (k := ky) q2 q3
    rcases z with ⟨z1, z2⟩ | ⟨p', v', z1, z2, z3⟩
    · rw [z1] at hr2; cases hr2
    · rw [z1] at hr2; cases hr2
      subst z2
      exact ⟨a1, v', q1, g, k _ M2 H2 f2 s2 z3⟩
  · cases hr
def tO (K : PySem.W.Frag) (C : Calls) (c : CO) : TO := fun σ H Q => ∃ Z M st δ d st', SRel Z M st H ∧ EnvRel K Z M st H δ σ ∧ evO C c δ st = .ok d st' ∧
  ∀ M' H', Frm Z M st H M' st' H' → SRel Z M' st' H' → Q d H'
theorem s_oNone : PO X none (tO X.K C .none) := ⟨fun pins s σ H Q I h => by
  obtain ⟨Z, M, st, δ, d, st', sr, er, ev, k⟩ := h
  cases ev
  exact po_none.run pins s σ H Q I (k M H .refl sr)⟩
theorem s_oSome (h : PE X a (tE X.K C ca)) : PO X (some a) (tO X.K C (.some ca)) := ⟨fun pins s σ H Q I hq => by
  obtain ⟨Z, M, st, δ, d, st', sr, er, ev, k⟩ := hq
  obtain ⟨x, st1, e1, ev⟩ := R.bind_eq_ok ev
  split at ev
  · cases ev
    exact (po_some h).run pins s σ H Q I (one sr er e1 fun v M2 H2 f2 s2 r2 => ⟨_, r2.int, k M2 H2 f2 s2⟩)
  · cases ev⟩
theorem cutV_of {U : Addr → Prop} {H : Hp} {l : List P} {vs : List V} {lo hi : Option Int} (r : RelPs U H l vs) : RelPs U H (cut l lo hi) (cutV vs lo hi) := by
  unfold cut cutV
  rw [r.length]
  exact (r.drop _).take _
theorem cut_whole {α : Type} {l : List α} {lo hi : Option Int} (h : cutIx l.length 0 lo = 0 ∧ cutIx l.length l.length hi = l.length) : cut l lo hi = l := by
  unfold cut
  rw [h.1, h.2]
  simp
theorem s_sl {lo hi : Option Expr} {clo chi : CO} {p2 : Pos} (ha : PE X a (tE X.K C ca)) (hl : PO X lo (tO X.K C clo)) (hh : PO X hi (tO X.K C chi)) : PE X (.Subscript a (.Slice lo hi none p2) pos) (tE X.K C (.sl ca clo chi)) := by
  refine PE.cases fun σ H Q h => ?_
  obtain ⟨Z, M, st, δ, d, st', sr, er, ev, k⟩ := h
  obtain ⟨x, st1, e1, ev⟩ := R.bind_eq_ok ev
  obtain ⟨l, st2, e2, ev⟩ := R.bind_eq_ok ev
  obtain ⟨u, st3, e3, ev⟩ := R.bind_eq_ok ev
  obtain ⟨ev2, rfl⟩ := lift_eq_ok ev
  obtain ⟨p, hp, ev3⟩ := Option.bind_eq_some_iff.mp ev2
  obtain ⟨r, hr, rfl⟩ := Option.map_eq_some_iff.mp ev3
  have three : ∀ {R : V → Option Int → Option Int → Hp → Prop}, (∀ v M2 H2, Frm Z M st H M2 st' H2 → SRel Z M2 st' H2 → RelD X.K Z M2 st' H2 x v → R v l u H2) →
      tE X.K C ca σ H fun v H1 => tO X.K C clo σ H1 fun l H2 => tO X.K C chi σ H2 fun u H3 => R v l u H3 := fun {R} kk =>
    one sr er e1 fun v M1 H1 f1 s1 r1 => ⟨Z, M1, st1, δ, l, st2, s1, er.fr f1, e2, fun M2 H2 f2 s2 => ⟨Z, M2, st2, δ, u, st', s2, er.fr (f1.trans f2), e3, fun M3 H3 f3 s3 =>
      kk v M3 H3 (f1.trans (f2.trans f3)) s3 (r1.fr (f2.trans f3))⟩⟩
  unfold cutP at hr
  split at hr
  · cases hr
    refine ⟨_, pe_slice sl_list ha hl hh, three fun v M2 H2 f2 s2 r1 => ?_⟩
    obtain ⟨a1, vs, q1, q2, q3⟩ := rd_top s2 r1 (rdS_rd hp)
    exact ⟨a1, vs, q1, q2, fun p3 hp3 => k _ M2 _ (f2.trans (.new s2 hp3)) (.new s2 hp3) (RelP.newL s2 hp3 (cutV_of q3))⟩
  · cases hr
    cases x with
    | c x => cases x <;> cases hp
    | p x =>
      cases hp
      refine ⟨_, pe_slice sl_tupA ha hl hh, three fun v M2 H2 f2 s2 r1 => ?_⟩
      have r1' := r1
      simp only [RelD, RelP] at r1'
      obtain ⟨a1, vs, q1, q2, q2', q3⟩ := r1'
      refine ⟨a1, vs, q1, .of q2, fun hw => ?_, fun hw p3 hp3 => k _ M2 _ (f2.trans (.new s2 hp3)) (.new s2 hp3) (RelP.newT s2 hp3 (cutV_of q3))⟩
      refine k _ M2 H2 f2 s2 ?_
      have := q3.length
      rw [cut_whole (by rw [← this]; exact hw), ← q1]
      exact r1
    | r x => simp only [rdS, rd] at hp; split at hp <;> cases hp
  · split at hr
    · rename_i hz
      cases hr
      refine ⟨_, pe_slice sl_str ha hl hh, three fun v M2 H2 f2 s2 r1 => ?_⟩
      have t := rd_top s2 r1 (rdS_rd hp)
      refine ⟨_, t, by rw [ts_len, ← line_eq]; exact hz, k _ M2 H2 f2 s2 ?_⟩
      simp only [RelD, RelP, cutS, cut, ts_len]
      rfl
    · cases hr
  · cases hr
theorem s_rev {k1 : Nat} {p1 p2 p3 : Pos} (ha : PE X a (tE X.K C ca)) : PE X (.Subscript a (.Slice none none (some (.UnaryOp .USub (.Constant (.int 1) k1 p1) p2)) p3) pos) (tE X.K C (.rev ca)) := by
  refine PE.cases fun σ H Q h => ?_
  obtain ⟨Z, M, st, δ, d, st', sr, er, ev, k⟩ := h
  obtain ⟨x, st1, e1, ev⟩ := R.bind_eq_ok ev
  obtain ⟨ev2, rfl⟩ := lift_eq_ok ev
  obtain ⟨p, hp, ev3⟩ := Option.bind_eq_some_iff.mp ev2
  obtain ⟨q, hq, rfl⟩ := Option.map_eq_some_iff.mp ev3
  cases p <;> simp only [revP] at hq <;> cases hq
  · refine ⟨_, pe_revT ha, one sr er e1 fun v M2 H2 f2 s2 r1 => ?_⟩
    obtain ⟨a1, vs, q1, q2, q3⟩ := rd_top s2 r1 hp
    exact ⟨a1, vs, q1, q2, fun p3 hp3 => k _ M2 _ (f2.trans (.new s2 hp3)) (.new s2 hp3) (RelP.newT s2 hp3 q3.reverse)⟩
  · refine ⟨_, pe_revL ha, one sr er e1 fun v M2 H2 f2 s2 r1 => ?_⟩
    obtain ⟨a1, vs, q1, q2, q3⟩ := rd_top s2 r1 hp
    exact ⟨a1, vs, q1, q2, fun p3 hp3 => k _ M2 _ (f2.trans (.new s2 hp3)) (.new s2 hp3) (RelP.newL s2 hp3 q3.reverse)⟩
def glB (sc : Scope) (x : Str) : Bool := sc.names.lookup x == some .globalImplicit
theorem gl_of (G : Good I T n S X) {x : Str} (h : glB S.sc x = true) : Gl X x := by
  show X.env.scope.names.lookup x = _
  rw [G.sc]
  simpa [glB] using h
theorem s_glob (G : Good I T n S X) {y : Str} {x : Tx} {p : P} {d : D} (hg : glB S.sc y = true) (hd : (y == ("__debug__" : Str)) = false) (hl : I.G.lookup y = some p) (he : gEq p d = true) : PE X (.Name y pos) (tE X.K C (.glob x d)) := by
  obtain ⟨u, hm, r⟩ := G.gv y p hl
  refine PE.weak (pe_glob (gl_of G hg) hm r (hd := hd)) fun σ H Q h => ?_
  obtain ⟨Z, M, st, δ, d', st', sr, er, ev, k⟩ := h
  cases ev
  refine k _ M H .refl sr ?_
  cases p with
  | int i =>
    cases d with
    | p q => cases q <;> simp [gEq] at he; subst he; simp [gV, RelD, RelP]
    | _ => simp [gEq] at he
  | str s =>
    cases d with
    | p q => cases q <;> simp [gEq] at he; subst he; simp [gV, RelD, RelP]
    | _ => simp [gEq] at he
  | _ => simp [gEq] at he
def plainEs : List Expr → Bool
  | [] => true
  | e :: es => starB e && plainEs es
theorem plain_any {pos : Pos} {env : PySem.Env} : ∀ {es : List Expr}, plainEs es = true → (backTo pos (starEach es env)).any (·.1) = false
  | [], _ => rfl
  | e :: es, h => by
    simp only [plainEs, Bool.and_eq_true] at h
    rw [star_of h.1]
    show (false || (backTo pos (starEach es env)).any (·.1)) = false
    rw [plain_any h.2]; rfl
theorem plain_all {pos : Pos} {env : PySem.Env} : ∀ {es : List Expr}, plainEs es = true → (backTo pos (starEach es env)).all (fun x => !x.1) = true
  | [], _ => rfl
  | e :: es, h => by
    simp only [plainEs, Bool.and_eq_true] at h
    rw [star_of h.1]
    show (true && (backTo pos (starEach es env)).all (fun x => !x.1)) = true
    rw [plain_all h.2]; rfl
def nodbgB (x : Str) : Bool := (x != ("__debug__" : Str)) && (x != ("__name__" : Str))
theorem nodbg_of {x : Str} (h : nodbgB x = true) : (x == ("__debug__" : Str)) = false ∧ x ≠ ("__name__" : Str) := by
  unfold nodbgB at h
  simp only [Bool.and_eq_true, bne_iff_ne, ne_eq] at h
  exact ⟨by simpa using h.1, h.2⟩
theorem s_call (G : Good I T n S X) {f : Nat} {x : Str} {p : Pos} {e : Expr} {es : List Expr} {cs : CEs} (ha : PA X (e :: es) (tEs X.K (callK T n) cs)) (hx : I.nm f = some x) (hg : glB S.sc x = true) (hd : nodbgB x = true) (hp : plainEs (e :: es) = true) :
    PE X (.Call (.Name x p) (e :: es) [] pos) (tE X.K (callK T n) (.call f cs)) := by
  refine PE.cases fun σ H Q h => ?_
  obtain ⟨Z, M, st, δ, d, st', sr, er, ev, k⟩ := h
  obtain ⟨ds, st1, e1, ev⟩ := R.bind_eq_ok ev
  have hT : ∃ fn, T f = some fn := by
    cases n with
    | zero => simp [callK] at ev
    | succ n =>
      simp only [callK] at ev
      split at ev
      · rename_i fn h; exact ⟨fn, h⟩
      · cases ev
  obtain ⟨fn, hT⟩ := hT
  obtain ⟨x', fa, fd, ps, h1, h2, h3, h4, h5⟩ := G.fns f fn hT
  rw [hx] at h1
  cases h1
  simp only [plainEs, Bool.and_eq_true] at hp
  refine ⟨_, pe_callG h5 G.room G.gd (gl_of G hg) h2 h3 h4 ha (nodbg_of hd).1 (star_of hp.1) (plain_any hp.2), ?_⟩
  refine many sr er e1 fun vs M2 H2 f2 s2 r2 => ?_
  exact ⟨Z, M2, st1, ds, d, st', s2, r2, ev, fun v M3 H3 f3 s3 r3 => k v M3 H3 (f2.trans f3) s3 r3⟩
theorem s_call0 (G : Good I T n S X) {f : Nat} {x : Str} {p : Pos} (hx : I.nm f = some x) (hg : glB S.sc x = true) (hd : nodbgB x = true) :
    PE X (.Call (.Name x p) [] [] pos) (tE X.K (callK T n) (.call f .nil)) := by
  refine PE.cases fun σ H Q h => ?_
  obtain ⟨Z, M, st, δ, d, st', sr, er, ev, k⟩ := h
  obtain ⟨ds, st1, e1, ev⟩ := R.bind_eq_ok ev
  cases e1
  have hT : ∃ fn, T f = some fn := by
    cases n with
    | zero => simp [callK] at ev
    | succ n =>
      simp only [callK] at ev
      split at ev
      · rename_i fn h; exact ⟨fn, h⟩
      · cases ev
  obtain ⟨fn, hT⟩ := hT
  obtain ⟨x', fa, fd, ps, h1, h2, h3, h4, h5⟩ := G.fns f fn hT
  rw [hx] at h1
  cases h1
  refine ⟨_, pe_callG0 h5 G.room G.gd (gl_of G hg) h2 h3 h4 (nodbg_of hd).1, ?_⟩
  exact ⟨Z, M, st, [], d, st', sr, rfl, ev, k⟩
end
end NH
namespace NH
variable [W : TheW]
open PySem L2
section
variable {U : Addr → Prop} {H : Hp}
theorem allBl_V : ∀ {l : List P} {bs : List Bool} {vs : List V}, allBl l = some bs → RelPs U H l vs → vs = bs.map V.bl
  | [], bs, vs, h, r => by cases h; simpa [RelPs] using r
  | p :: l, bs, vs, h, r => by
    simp only [RelPs] at r
    obtain ⟨v, q, rfl, h1, h2⟩ := r
    cases p <;> simp only [allBl] at h <;> try cases h
    obtain ⟨bs', hb, rfl⟩ := Option.map_eq_some_iff.mp h
    simp only [RelP] at h1
    subst h1
    rw [allBl_V hb h2]; rfl
theorem allInt_V : ∀ {l : List P} {bs : List Int} {vs : List V}, allInt l = some bs → RelPs U H l vs → vs = bs.map V.int
  | [], bs, vs, h, r => by cases h; simpa [RelPs] using r
  | p :: l, bs, vs, h, r => by
    simp only [RelPs] at r
    obtain ⟨v, q, rfl, h1, h2⟩ := r
    cases p <;> simp only [allInt] at h <;> try cases h
    obtain ⟨bs', hb, rfl⟩ := Option.map_eq_some_iff.mp h
    simp only [RelP] at h1
    subst h1
    rw [allInt_V hb h2]; rfl
theorem allStr_V : ∀ {l : List P} {bs : List Tx} {vs : List V}, allStr l = some bs → RelPs U H l vs → vs = (bs.map TS_).map V.str
  | [], bs, vs, h, r => by cases h; simpa [RelPs] using r
  | p :: l, bs, vs, h, r => by
    simp only [RelPs] at r
    obtain ⟨v, q, rfl, h1, h2⟩ := r
    cases p <;> simp only [allStr] at h <;> try cases h
    obtain ⟨bs', hb, rfl⟩ := Option.map_eq_some_iff.mp h
    simp only [RelP] at h1
    subst h1
    rw [allStr_V hb h2]; rfl
theorem toEnts_V : ∀ {l : List P} {es : List (Ky × P)} {vs : List V}, toEnts l = some es → RelPs U H l vs →
    ∃ (ps : List Addr) (kvs : List (Key × V)), vs = ps.map V.ref ∧ Paired (fun p kv => H p = some (.tup [kV kv.1, kv.2])) ps kvs ∧ RelKs U H es kvs
  | [], es, vs, h, r => by
    cases h
    simp only [RelPs] at r
    subst r
    exact ⟨[], [], rfl, .nil, by simp [RelKs]⟩
  | p :: l, es, vs, h, r => by
    simp only [RelPs] at r
    obtain ⟨v, q, rfl, h1, h2⟩ := r
    unfold toEnts at h
    split at h
    · rename_i heq; cases heq
    · rename_i k x rest heq
      cases heq
      split at h
      · rename_i k' l' hk hl
        cases h
        simp only [RelP, RelPs] at h1
        obtain ⟨a, ws, rfl, g1, g2, w1, ws1, rfl, g3, w2, ws2, rfl, g4, rfl⟩ := h1
        obtain ⟨ps, kvs, e1, e2, e3⟩ := toEnts_V hl h2
        have ek : w1 = kV (kyK k') := by
          cases k <;> simp only [P.toKy] at hk <;> try cases hk
          all_goals (simp only [RelP] at g3; exact g3)
        subst ek
        refine ⟨a :: ps, (kyK k', w2) :: kvs, by rw [e1]; rfl, .cons g1 e2, ?_⟩
        simp only [RelKs]
        exact ⟨w2, kvs, rfl, g4, e3⟩
      · cases h
    · cases h
end
section
variable {K : PySem.W.Frag} {Z : Addr → Prop} {M : List Addr} {st : Store} {H : Hp}
theorem rds_V : ∀ {ds : List D} {ps : List P} {vs : List V}, SRel Z M st H → RelDs K Z M st H ds vs → rds st ds = some ps → ∃ n, vs.length = n ∧ ps.length = n ∧ ∀ (i : Nat) (p : P), ps[i]? = some p → ∃ v, vs[i]? = some v ∧ Top K (Mu Z M st) H p v
  | [], ps, vs, sr, r, h => by
    cases h
    rw [show vs = [] from r]
    exact ⟨0, rfl, rfl, fun i p e => by simp at e⟩
  | d :: ds, ps, vs, sr, r, h => by
    obtain ⟨v, q, rfl, h1, h2⟩ := r
    simp only [rds] at h
    split at h
    · rename_i p l hp hl
      cases h
      obtain ⟨n, e1, e2, e3⟩ := rds_V sr h2 hl
      refine ⟨n + 1, by simp [e1], by simp [e2], fun i p' e => ?_⟩
      cases i with
      | zero => simp at e; subst e; exact ⟨v, by simp, rd_top sr h1 hp⟩
      | succ i =>
        obtain ⟨w, a, b⟩ := e3 i p' (by simpa using e)
        exact ⟨w, by simpa using a, b⟩
    · cases h
theorem rds1 {ds : List D} {p : P} {vs : List V} (sr : SRel Z M st H) (r : RelDs K Z M st H ds vs) (h : rds st ds = some [p]) : ∃ v, vs = [v] ∧ Top K (Mu Z M st) H p v := by
  obtain ⟨n, e1, e2, e3⟩ := rds_V sr r h
  have : n = 1 := by rw [← e2]; rfl
  subst this
  obtain ⟨v, a, b⟩ := e3 0 p rfl
  cases vs with
  | nil => cases e1
  | cons w ws =>
    cases ws with
    | nil => simp at a; subst a; exact ⟨w, rfl, b⟩
    | cons => cases e1
theorem rds2 {ds : List D} {p q : P} {vs : List V} (sr : SRel Z M st H) (r : RelDs K Z M st H ds vs) (h : rds st ds = some [p, q]) : ∃ v w, vs = [v, w] ∧ Top K (Mu Z M st) H p v ∧ Top K (Mu Z M st) H q w := by
  obtain ⟨n, e1, e2, e3⟩ := rds_V sr r h
  have : n = 2 := by rw [← e2]; rfl
  subst this
  obtain ⟨v, a, b⟩ := e3 0 p rfl
  obtain ⟨v2, a2, b2⟩ := e3 1 q rfl
  cases vs with
  | nil => cases e1
  | cons w ws =>
    cases ws with
    | nil => cases e1
    | cons w2 ws =>
      cases ws with
      | nil => simp at a a2; subst a a2; exact ⟨w, w2, rfl, b, b2⟩
      | cons => cases e1
theorem rdsS_rds : ∀ {ds : List D} {ps : List P}, rdsS st ds = some ps → rds st ds = some ps
  | [], ps, h => h
  | d :: ds, ps, h => by
    simp only [rdsS] at h
    split at h
    · rename_i p l hp hl
      cases h
      simp only [rds, rdS_rd hp, rdsS_rds hl]
    · cases h
theorem rdsS_tup {ds : List D} {l : List P} {vs : List V} (r : RelDs K Z M st H ds vs) (h : rdsS st ds = some [.tup l]) : ∃ v, vs = [v] ∧ RelP (Mu Z M st) H (.tup l) v := by
  cases ds with
  | nil => cases h
  | cons d ds =>
    obtain ⟨v, q, rfl, h1, h2⟩ := r
    simp only [rdsS] at h
    split at h
    · rename_i p l' hp hl
      cases h
      cases ds with
      | cons d' ds' =>
        simp only [rdsS] at hl
        split at hl <;> cases hl
      | nil =>
        rw [show q = [] from h2]
        cases d with
        | p x => cases hp; exact ⟨v, rfl, h1⟩
        | c x => cases x <;> cases hp
        | r k => simp only [rdS, rd] at hp; split at hp <;> cases hp
    · cases h
end
section
variable {I : Inf} {T : Nat → Option Fn} {n : Nat} {S : Sx} {X : Cx} {C : Calls} {cs : CEs} {e : Expr} {es : List Expr} {p pos : Pos} {x : Str}
structure Bl (I : Inf) (S : Sx) (x : Str) : Prop where
  b : x ∈ I.B
  g : glB S.sc x = true
  d : nodbgB x = true
theorem callB (G : Good I T n S X) (B : Bl I S x) {id : String} (hv : bootBuiltins x = some (.builtin id)) {r : List V → Hp → VK → Prop} (hc : CallR X (.builtin id) r) (ha : PA X (e :: es) (tEs X.K C cs)) (hp : plainEs (e :: es) = true) :
    PE X (.Call (.Name x p) (e :: es) [] pos) (tCB r (tEs X.K C cs)) := by
  simp only [plainEs, Bool.and_eq_true] at hp
  exact pe_callB hc (gl_of G B.g) (G.bl x B.b) hv ha (nodbg_of B.d).2 (nodbg_of B.d).1 (star_of hp.1) (plain_any hp.2)
theorem callTy (G : Good I T n S X) (B : Bl I S x) {id : String} (hv : bootBuiltins x = some (.type id)) {r : List V → Hp → VK → Prop} (hc : CallR X (.type id) r) (ha : PA X (e :: es) (tEs X.K C cs)) (hp : plainEs (e :: es) = true) :
    PE X (.Call (.Name x p) (e :: es) [] pos) (tCB r (tEs X.K C cs)) := by
  simp only [plainEs, Bool.and_eq_true] at hp
  exact pe_callTy hc (gl_of G B.g) (G.bl x B.b) hv ha (nodbg_of B.d).2 (nodbg_of B.d).1 (star_of hp.1) (plain_any hp.2)
theorem call_lenDR : CallR X (.builtin "len") (fun xs H Q => ∃ a kvs, xs = [V.ref a] ∧ Rd H a (.dK kvs) ∧ Q (.int kvs.length) H) := by
  intro pins s σ H xs us Q I r h
  obtain ⟨a, kvs, rfl, ha, q⟩ := h
  obtain ⟨u, rfl, ru⟩ := vals1 r
  cases ru
  exact d_len I ha fun t s' I' => ⟨.int kvs.length, H, I', ⟨t, rfl⟩, q⟩
theorem call_dictR : CallR X (.type "dict") (fun xs H Q => ∃ a kvs, xs = [V.ref a] ∧ Rd H a (.dK kvs) ∧ ∀ p, H p = none → Q (.ref p) (upd H p (.dK kvs))) := by
  intro pins s σ H xs us Q I r h
  obtain ⟨a, kvs, rfl, ha, q⟩ := h
  obtain ⟨u, rfl, ru⟩ := vals1 r
  cases ru
  exact d_copyOf I ha fun p s' hp I' => ⟨.ref p, _, I', rfl, q p hp⟩
theorem num_tx {i : Int} (h : 0 ≤ i) : (Str.ofString (toString i)) = TS_ (natTx i.toNat) := by
  obtain ⟨k, rfl⟩ := Int.eq_ofNat_of_zero_le h
  exact SX.num_S k
theorem log2_small {i : Int} (h : 0 ≤ i ∧ i < 10 ^ 18) : i.natAbs.log2 < 1920 := by
  by_cases h0 : i.natAbs = 0
  · rw [h0]; decide
  · have h3 : i.natAbs < 2 ^ 64 := by
      have : (10 : Int) ^ 18 < 2 ^ 64 := by decide
      omega
    exact Nat.lt_of_lt_of_le ((Nat.log2_lt h0).mpr h3) (by decide)
theorem dig3 : ∀ i, i < 10 → ∀ j, j < 10 → ∀ k, k < 10 → PySem.intText? (TS_ [48 + i, 48 + j, 48 + k]) = some ((100 * i + 10 * j + k : Nat) : Int) := by decide +kernel
theorem dig2 : ∀ i, i < 10 → ∀ j, j < 10 → PySem.intText? (TS_ [48 + i, 48 + j]) = some ((10 * i + j : Nat) : Int) := by decide +kernel
theorem dig1 : ∀ i, i < 10 → PySem.intText? (TS_ [48 + i]) = some ((i : Nat) : Int) := by decide +kernel
theorem dg_of {a : Nat} (h : dg a = true) : ∃ i, i < 10 ∧ a = 48 + i := by
  simp only [dg, Bool.and_eq_true, decide_eq_true_eq] at h
  exact ⟨a - 48, by omega, by omega⟩
theorem digs_ok {x : Tx} {n : Int} (h : digs x = some n) : PySem.intText? (TS_ x) = some n ∧ x.length ≤ 3 := by
  match x, h with
  | [a], h =>
    simp only [digs] at h
    split at h
    · rename_i hd
      obtain ⟨i, hi, rfl⟩ := dg_of hd
      have := Option.some.inj h
      subst this
      refine ⟨?_, by simp⟩
      rw [dig1 i hi, Nat.add_sub_cancel_left]
    · cases h
  | [a, b], h =>
    simp only [digs] at h
    split at h
    · rename_i hd
      simp only [Bool.and_eq_true] at hd
      obtain ⟨i, hi, rfl⟩ := dg_of hd.1
      obtain ⟨j, hj, rfl⟩ := dg_of hd.2
      have := Option.some.inj h
      subst this
      refine ⟨?_, by simp⟩
      rw [dig2 i hi j hj, Nat.add_sub_cancel_left, Nat.add_sub_cancel_left]
    · cases h
  | [a, b, c], h =>
    simp only [digs] at h
    split at h
    · rename_i hd
      simp only [Bool.and_eq_true] at hd
      obtain ⟨i, hi, rfl⟩ := dg_of hd.1.1
      obtain ⟨j, hj, rfl⟩ := dg_of hd.1.2
      obtain ⟨k, hk, rfl⟩ := dg_of hd.2
      have := Option.some.inj h
      subst this
      refine ⟨?_, by simp⟩
      rw [dig3 i hi j hj k hk, Nat.add_sub_cancel_left, Nat.add_sub_cancel_left, Nat.add_sub_cancel_left]
    · cases h
  | [], h => simp [digs] at h
  | _ :: _ :: _ :: _ :: _, h => simp [digs] at h
def biS : Bi → String
  | .len => "len" | .abs => "abs" | .int => "int" | .str => "str" | .all => "all" | .any => "any" | .sum => "sum" | .min2 => "min" | .max2 => "max" | .tuple => "tuple" | .isi _ => "isinstance"
theorem biN_len {p : P} {n : Nat} (h : lenP p = some n) : (∃ x, p = .str x ∧ n = x.length) ∨ (∃ l, p = .tup l ∧ n = l.length) ∨ (∃ l, p = .lst l ∧ n = l.length) ∨ (∃ l, p = .dic l ∧ n = l.length) := by
  cases p <;> simp only [lenP] at h <;> cases h <;> simp
theorem s_bi (G : Good I T n S X) {b : Bi} (B : Bl I S (biS b)) (hni : ∀ ts, b ≠ .isi ts) (ha : PA X (e :: es) (tEs X.K C cs)) (hp : plainEs (e :: es) = true) :
    PE X (.Call (.Name (biS b) p) (e :: es) [] pos) (tE X.K C (.bi b cs)) := by
  refine PE.cases fun σ H Q h => ?_
  obtain ⟨Z, M, st, δ, d, st', sr, er, ev, k⟩ := h
  obtain ⟨ds, st1, e1, ev⟩ := R.bind_eq_ok ev
  obtain ⟨ev2, rfl⟩ := lift_eq_ok ev
  obtain ⟨ps, hps, ev3⟩ := Option.bind_eq_some_iff.mp ev2
  obtain ⟨r, hr, rfl⟩ := Option.map_eq_some_iff.mp ev3
  have hps2 : rds st' ds = some ps := by
    split at hps
    · exact rdsS_rds hps
    · exact hps
  have scal : ∀ {v : V} {M2 H2}, Frm Z M st H M2 st' H2 → SRel Z M2 st' H2 → RelP (Mu Z M2 st') H2 r v → Q v H2 := fun f s q => k _ _ _ f s q
  unfold biP at hr
  split at hr
  · -- len
    obtain ⟨m, hm, hr2⟩ := Option.bind_eq_some_iff.mp hr
    split at hr2
    · rename_i hz
      cases hr2
      rcases biN_len hm with ⟨y, rfl, rfl⟩ | ⟨l, rfl, rfl⟩ | ⟨l, rfl, rfl⟩ | ⟨l, rfl, rfl⟩
      · refine ⟨_, callB G B PySem.boot_len call_len ha hp, many sr er e1 fun vs M2 H2 f2 s2 r2 => ?_⟩
        obtain ⟨v, rfl, t⟩ := rds1 s2 r2 hps2
        refine ⟨_, _, rfl, ?_, scal f2 s2 rfl⟩
        rw [show v = _ from t]
        exact ⟨by rw [ts_len, ← line_eq]; exact hz, (ts_len _).symm⟩
      · refine ⟨_, callB G B PySem.boot_len call_len ha hp, many sr er e1 fun vs M2 H2 f2 s2 r2 => ?_⟩
        obtain ⟨v, rfl, a1, ws, rfl, q2, q3⟩ := rds1 s2 r2 hps2
        exact ⟨_, _, rfl, .inr ⟨ws, q2, q3.length.symm⟩, scal f2 s2 rfl⟩
      · refine ⟨_, callB G B PySem.boot_len call_len ha hp, many sr er e1 fun vs M2 H2 f2 s2 r2 => ?_⟩
        obtain ⟨v, rfl, a1, ws, rfl, q2, q3⟩ := rds1 s2 r2 hps2
        exact ⟨_, _, rfl, .inl ⟨ws, q2, q3.length.symm⟩, scal f2 s2 rfl⟩
      · refine ⟨_, callB G B PySem.boot_len call_lenDR ha hp, many sr er e1 fun vs M2 H2 f2 s2 r2 => ?_⟩
        obtain ⟨v, rfl, a1, ws, rfl, q2, q3⟩ := rds1 s2 r2 hps2
        exact ⟨_, _, rfl, q2, scal f2 s2 (by rw [q3.length]; rfl)⟩
    · cases hr2
  · cases hr
    refine ⟨_, callB G B (by decide +kernel) call_abs ha hp, many sr er e1 fun vs M2 H2 f2 s2 r2 => ?_⟩
    obtain ⟨v, rfl, t⟩ := rds1 s2 r2 hps2
    exact ⟨_, by rw [show v = _ from t], scal f2 s2 rfl⟩
  · cases hr
    refine ⟨_, callTy G B (by decide +kernel) call_int1 ha hp, many sr er e1 fun vs M2 H2 f2 s2 r2 => ?_⟩
    obtain ⟨v, rfl, t⟩ := rds1 s2 r2 hps2
    exact .inl ⟨_, by rw [show v = _ from t], scal f2 s2 rfl⟩
  · cases hr
    refine ⟨_, callTy G B (by decide +kernel) call_int1 ha hp, many sr er e1 fun vs M2 H2 f2 s2 r2 => ?_⟩
    obtain ⟨v, rfl, t⟩ := rds1 s2 r2 hps2
    exact .inr ⟨_, by rw [show v = _ from t], scal f2 s2 rfl⟩
  · obtain ⟨m, hm, rfl⟩ := Option.map_eq_some_iff.mp hr
    obtain ⟨h7, h8⟩ := digs_ok hm
    refine ⟨_, callTy G B (by decide +kernel) call_int_str ha hp, many sr er e1 fun vs M2 H2 f2 s2 r2 => ?_⟩
    obtain ⟨v, rfl, t⟩ := rds1 s2 r2 hps2
    exact ⟨_, _, by rw [show v = _ from t], h7, by rw [ts_len]; omega, scal f2 s2 rfl⟩
  · split at hr
    · rename_i hz
      cases hr
      refine ⟨_, callTy G B (by decide +kernel) call_str_int ha hp, many sr er e1 fun vs M2 H2 f2 s2 r2 => ?_⟩
      obtain ⟨v, rfl, t⟩ := rds1 s2 r2 hps2
      refine ⟨_, by rw [show v = _ from t], log2_small hz, scal f2 s2 ?_⟩
      · show V.str _ = V.str _
        exact congrArg V.str (num_tx hz.1)
    · cases hr
  · obtain ⟨bs, hb, rfl⟩ := Option.map_eq_some_iff.mp hr
    refine ⟨_, callB G B (by decide +kernel) (cr_all G.calm) ha hp, many sr er e1 fun vs M2 H2 f2 s2 r2 => ?_⟩
    obtain ⟨v, rfl, a1, ws, rfl, q2, q3⟩ := rds1 s2 r2 hps2
    have := allBl_V hb q3
    subst this
    exact ⟨a1, bs, rfl, q2, scal f2 s2 rfl⟩
  · obtain ⟨bs, hb, rfl⟩ := Option.map_eq_some_iff.mp hr
    refine ⟨_, callB G B (by decide +kernel) (cr_any G.calm) ha hp, many sr er e1 fun vs M2 H2 f2 s2 r2 => ?_⟩
    obtain ⟨v, rfl, a1, ws, rfl, q2, q3⟩ := rds1 s2 r2 hps2
    have := allBl_V hb q3
    subst this
    exact ⟨a1, bs, rfl, q2, scal f2 s2 rfl⟩
  · obtain ⟨bs, hb, rfl⟩ := Option.map_eq_some_iff.mp hr
    refine ⟨_, callB G B (by decide +kernel) (cr_sum G.calm) ha hp, many sr er e1 fun vs M2 H2 f2 s2 r2 => ?_⟩
    obtain ⟨v, rfl, a1, ws, rfl, q2, q3⟩ := rds1 s2 r2 hps2
    have := allInt_V hb q3
    subst this
    exact ⟨a1, bs, rfl, q2, scal f2 s2 rfl⟩
  · cases hr
    refine ⟨_, callB G B (by decide +kernel) (call_min2 G.calm) ha hp, many sr er e1 fun vs M2 H2 f2 s2 r2 => ?_⟩
    obtain ⟨v, w, rfl, t1, t2⟩ := rds2 s2 r2 hps2
    exact ⟨_, _, by rw [show v = _ from t1, show w = _ from t2], scal f2 s2 rfl⟩
  · cases hr
    refine ⟨_, callB G B (by decide +kernel) (call_max2 G.calm) ha hp, many sr er e1 fun vs M2 H2 f2 s2 r2 => ?_⟩
    obtain ⟨v, w, rfl, t1, t2⟩ := rds2 s2 r2 hps2
    exact ⟨_, _, by rw [show v = _ from t1, show w = _ from t2], scal f2 s2 rfl⟩
  · cases hr
    refine ⟨_, callTy G B (by decide +kernel) call_tuple_of ha hp, many sr er e1 fun vs M2 H2 f2 s2 r2 => ?_⟩
    obtain ⟨v, rfl, a1, ws, rfl, q2, q3⟩ := rds1 s2 r2 hps2
    exact ⟨a1, ws, rfl, .inl ⟨q2, fun p3 hp3 => k _ M2 _ (f2.trans (.new s2 hp3)) (.new s2 hp3) (RelP.newT s2 hp3 q3)⟩⟩
  · cases hr
    refine ⟨_, callTy G B (by decide +kernel) call_tuple_of ha hp, many sr er e1 fun vs M2 H2 f2 s2 r2 => ?_⟩
    obtain ⟨v, rfl, t⟩ := rdsS_tup r2 hps
    have t' := t
    simp only [RelP] at t'
    obtain ⟨a1, ws, rfl, q2, q2', q3⟩ := t'
    exact ⟨a1, ws, rfl, .inr ⟨.of q2, scal f2 s2 t⟩⟩
  · exact absurd rfl (hni _)
  · cases hr
end
end NH
namespace NH
variable [W : TheW]
open PySem PySem.Spec PyProof.Rows L2
section
variable {X : Cx}
theorem pairs_are {pins : List (Addr × Obj)} {σ : L2.St} {H : Hp} {s : Shared} (I : Inv X pins σ H s) : ∀ {ps : List Addr} {kvs : List (Key × V)}, Paired (fun p kv => H p = some (.tup [kV kv.1, kv.2])) ps kvs →
    ∃ (prs : List (Key × Value)) (uvs : List (Value × Value)), KV kvs prs ∧ prs.length = ps.length ∧ uvs.length = ps.length ∧
      ∀ (j : Nat) (k v : Value), uvs[j]? = some (k, v) → ∃ (b : Addr) (q : Key), ps[j]? = some b ∧ prs[j]? = some (q, v) ∧ IsTup s.heap b #[k, v] ∧ keyIs q k = true
  | _, _, .nil => ⟨[], [], .nil, rfl, rfl, fun j k v e => by simp at e⟩
  | _, _, .cons (a := p) (b := kv) h t => by
    obtain ⟨prs, uvs, r, hl, hl2, hp⟩ := pairs_are I t
    obtain ⟨its, rv, ht, _⟩ := I.tuple (.of h)
    obtain ⟨u, y, ei, ru, ry⟩ := vals2 rv
    subst ei
    refine ⟨(kv.1, y) :: prs, (u, y) :: uvs, .cons ⟨rfl, ry⟩ r, by simp [hl], by simp [hl2], fun j k v e => ?_⟩
    cases j with
    | zero =>
      have e' : (u, y) = (k, v) := Option.some.inj e
      cases e'
      exact ⟨p, kv.1, rfl, rfl, ht, kV_is (P := X.prog) (w := X.w) ru⟩
    | succ j =>
      obtain ⟨b, q, e1, e2, e3, e4⟩ := hp j k v (by simpa using e)
      exact ⟨b, q, by simpa using e1, by simpa using e2, e3, e4⟩
def rUpd : V → List V → Hp → VK → Prop := fun x xs H Q => ∃ (a b : Addr) (ps : List Addr) (ks kvs : List (Key × V)), x = .ref a ∧ xs = [.ref b] ∧ H a = some (.dK ks) ∧ H b = some (.lst (ps.map V.ref)) ∧
  Paired (fun p kv => H p = some (.tup [kV kv.1, kv.2])) ps kvs ∧ ks.length + kvs.length ≤ sizeLine ∧ Q .non (upd H a (.dK (mergeK ks kvs)))
theorem mt_update (hcalm : X.calm = true) : MtR X "dict.update" rUpd := by
  intro pins s σ H x xs v us Q I rx rs h
  obtain ⟨a, b, ps, ks, kvs, rfl, rfl, ha, hb, hp, hz, q⟩ := h
  obtain ⟨u, rfl, ru⟩ := vals1 rs
  cases rx
  cases ru
  obtain ⟨_, hd, vs, rel, dd⟩ := dk_of I.hok ha
  obtain ⟨its, rv, pl, hz2⟩ := I.list (.of hb)
  have ei := refs_at rv
  subst ei
  obtain ⟨prs, uvs, r2, hl, hl2, hpr⟩ := pairs_are I hp
  have hlen : kvs.length = ps.length := by rw [r2.length, hl]
  have hne : a ∉ b :: (List.range uvs.length).map (fun j => ps.getD j 0) := by
    intro hm
    rcases List.mem_cons.mp hm with e | hm
    · exact ne_of ha hb (by intro z; cases z) e
    · obtain ⟨j, hj, e⟩ := List.mem_map.mp hm
      have hj2 : j < ps.length := by rw [← hl2]; exact List.mem_range.mp hj
      have : ∃ kv : Key × V, H ps[j] = some (.tup [kV kv.1, kv.2]) := by
        have : ∀ {ps : List Addr} {kvs : List (Key × V)}, Paired (fun p kv => H p = some (.tup [kV kv.1, kv.2])) ps kvs → ∀ j (hj : j < ps.length), ∃ kv : Key × V, H ps[j] = some (.tup [kV kv.1, kv.2]) := by
          intro ps kvs h
          induction h with
          | nil => intro j hj; simp at hj
          | cons h _ ih =>
            intro j hj
            cases j with
            | zero => exact ⟨_, h⟩
            | succ j => simpa using ih j (by simpa using hj)
        exact this hp j hj2
      obtain ⟨kv, hkv⟩ := this
      have e2 : ps.getD j 0 = ps[j] := by simp [List.getD, hj2]
      rw [e2] at e
      exact ne_of hkv ha (by intro z; cases z) e
  obtain ⟨o, n, ho, hc, hdi, hdat⟩ := pl
  refine PySem.call_update_pairs (knd := mixKind X.prog X.w) (acc := vs) (kvs := prs) (PairArg.list b (ps.map Value.ref).toArray (fun j => ps.getD j 0) uvs) (I.ok.hd hcalm) ⟨⟨o, n, ho, hc, hdi, hdat⟩, by simp [hl2], fun j k v e => ?_⟩ hne ⟨by omega, fun i key v e => ?_⟩ dd (by rw [← rel.length, hl2, ← hlen]; exact hz) fun h' tk hd' hk => ?_
  · obtain ⟨b', q', e1, e2, e3, e4⟩ := hpr j k v e
    have eb : ps.getD j 0 = b' := by simp [List.getD, e1]
    show (ps.map Value.ref).toArray[j]? = some (.ref (ps.getD j 0)) ∧ PairAt s.heap (ps.getD j 0) k v
    rw [eb]
    exact ⟨by simp [e1], .inl e3⟩
  · obtain ⟨b', q', e1, e2, e3, e4⟩ := hpr i key v e
    exact ⟨q', e2, e4⟩
  · have hl3 : (mergeK ks kvs).length ≤ sizeLine := Nat.le_trans (length_mergeK kvs ks) hz
    refine ⟨.non, upd H a (.dK (mergeK ks kvs)), I.write (x := a) (e := a) (by rw [ha]; trivial) (.inl rfl) (fun c u hc e => hk c u hc (by simp) e) ?_ (dk_new hl3 hd (r2.merge rel) hd'), rfl, q⟩
    obtain ⟨o', _, _, h1, _⟩ := hd'
    exact ⟨o', h1⟩
def rUpdD : V → List V → Hp → VK → Prop := fun x xs H Q => ∃ (a b : Addr) (ks js : List (Key × V)), x = .ref a ∧ xs = [.ref b] ∧ H a = some (.dK ks) ∧ a ≠ b ∧ Rd H b (.dK js) ∧ ks.length + js.length ≤ sizeLine ∧ Q .non (upd H a (.dK (mergeK ks js)))
theorem mt_updateD : MtR X "dict.update" rUpdD := by
  intro pins s σ H x xs v us Q I rx rs h
  obtain ⟨a, b, ks, js, rfl, rfl, ha, hne, hb, hz, q⟩ := h
  obtain ⟨u, rfl, ru⟩ := vals1 rs
  cases rx
  cases ru
  obtain ⟨_, hd, vs, rel, dd⟩ := dk_of I.hok ha
  obtain ⟨_, hd2, ws, rel2, dd2⟩ := dk_rd I.hok hb
  refine call_meetsIn PySem.F.slot_dict_update dd.typeIs PySem.F.entry_dict_update (PySem.F.args_dict_update_2 _ _) (meets_dict_update (mixKind X.prog X.w) a b hne hd2) ⟨vs, ws, dd, dd2, by rw [← rel.length, ← rel2.length]; exact hz, fun h' dd' _ hs => ?_⟩
  have hl3 : (mergeK ks js).length ≤ sizeLine := Nat.le_trans (length_mergeK js ks) hz
  refine ⟨.non, upd H a (.dK (mergeK ks js)), I.write (t' := s.toks) (x := a) (e := a) (by rw [ha]; trivial) (.inl rfl) (fun c u hc e => (hs.2 c hc).trans e) ?_ (dk_new hl3 hd (rel2.merge rel) dd'), rfl, q⟩
  obtain ⟨o', _, _, h1, _⟩ := dd'
  exact ⟨o', h1⟩
end
end NH
namespace NH
open PySem PySem.Spec PyProof.Rows L2
def IsN (P : Program) (w : World) (H : Hp) (a : Addr) (ks : List (Leaf × V)) : Prop :=
  H a = some (dnO P w a ks) ∨ ∃ ks' : List (Key × V), Rd H a (.dK ks') ∧ ks = ks'.map fun p => (kyL p.1, p.2)
section
variable {X : Cx} {pins : List (Addr × Obj)} {σ : L2.St} {H : Hp} {s : Shared} {a : Addr} {v d : V} {k : Leaf} {u r : Value} {kvs : List (Leaf × V)} {A : Around} {E : Value → Shared → Prop}
theorem isN_of {P : Program} {w : World} {h : Heap} (ok : HOk P w H h) (e : IsN P w H a kvs) : dnP P w a kvs h := by
  rcases e with e | ⟨ks, e, rfl⟩
  · exact dn_of ok e
  · obtain ⟨z, hd, vs, rel, dd⟩ := dk_rd ok e
    exact ⟨by rw [List.length_map]; exact z, hd, _, kv_toL rel, leaf_of_mix dd⟩
theorem isN_at (I : Inv X pins σ H s) (e : IsN X.prog X.w H a kvs) : s.TypeIs (.ref a) "dict" ∧ (∀ b, Value.ref a = .ref b → ∃ ob, s.heap.get? b = some ob ∧ ob.dict = none) ∧ (a == sysModules) = false := by
  obtain ⟨_, hd, vs, _, dd⟩ := isN_of I.hok e
  refine ⟨dd.typeIs, fun b q => ?_, hd⟩
  cases q
  obtain ⟨ob, _, _, h1, h2, _⟩ := dd
  exact ⟨ob, h1, h2.2.1⟩
theorem m_get {Q : Value → Shared → Prop} (I : Inv X pins σ H s) (e : IsN X.prog X.w H a kvs) (l : valV kvs k = some v) (ry : RelV (lfV k) u) (h : ∀ w' s', Inv X pins σ H s' → RelV v w' → Q w' s') :
    wpAny (model X.prog X.w) A (getItem (.ref a) u) Q E s := by
  obtain ⟨z, hd, vs, rel, dd⟩ := isN_of I.hok e
  obtain ⟨w', hw, rw'⟩ := RelO.some_of (v := v) (o := valueAt vs k) (by rw [← l]; exact rel.val k)
  exact wpAny_getItem_of (lf_is ry) dd.mapOf hw (h w' _ (I.tok _) rw')
theorem m_in {Q : Value → Shared → Prop} (I : Inv X pins σ H s) (e : IsN X.prog X.w H a kvs) (ry : RelV (lfV k) u) (h : ∀ s', Inv X pins σ H s' → Q (.bool (valV kvs k).isSome) s') :
    wpAny (model X.prog X.w) A (compareOp .In u (.ref a)) Q E s := by
  obtain ⟨z, hd, vs, rel, dd⟩ := isN_of I.hok e
  refine wpAny_in_of (lf_is ry) hd dd.mapOf ?_
  rw [← (rel.val k).isSome_eq]
  exact h _ (I.tok _)
theorem m_get2 {Q : Value → Shared → Prop} (I : Inv X pins σ H s) (e : IsN X.prog X.w H a kvs) (ry : RelV (lfV k) u) (rd : RelV d r) (h : ∀ w' s', Inv X pins σ H s' → RelV ((valV kvs k).getD d) w' → Q w' s') :
    wpAny (model X.prog X.w) A (call (.builtin "dict.get") [.ref a, u, r]) Q E s := by
  obtain ⟨z, hd, vs, rel, dd⟩ := isN_of I.hok e
  refine call_meetsIn PySem.F.slot_dict_get dd.typeIs PySem.F.entry_dict_get (PySem.F.args_dict_get_3 _ _ _) (meets_dict_get_default (leafKind X.prog X.w) a (lf_is ry) hd r) ⟨_, dd.mapOf, h _ _ (I.tok _) ?_⟩
  exact (rel.val k).getD rd
theorem call_dictN : CallR X (.type "dict") (fun xs H Q => ∃ a kvs, xs = [V.ref a] ∧ IsN X.prog X.w H a kvs ∧ ∀ p, H p = none → Q (.ref p) (upd H p (dnO X.prog X.w p kvs))) := by
  intro pins s σ H xs us Q I r h
  obtain ⟨a, kvs, rfl, ha, q⟩ := h
  obtain ⟨u, rfl, ru⟩ := vals1 r
  cases ru
  obtain ⟨z, hd, vs, rel, dd⟩ := isN_of I.hok ha
  refine kt_call_dict hd dd (by rw [← rel.length]; exact z) fun h' dd' hs => ?_
  refine ⟨.ref s.heap.objs.size, _, I.laid (a := s.heap.objs.size) (t' := s.toks) (fun b q hq => ?_) (Nat.le_refl _) (dn_new z (beq_eq_false_iff_ne.mpr (Ne.symm (Nat.ne_of_lt I.big))) rel dd'), rfl, q _ (I.hok.fresh (Nat.le_refl _))⟩
  exact (hs.2 b (Nat.ne_of_lt (Heap.lt_size hq))).trans (Heap.get?_push_of_some _ hq)
end
def tNGet (P : Program) (w : World) (td ty : TE) : TE := fun σ H Q => td σ H fun x H1 => ty σ H1 fun y H2 => ∃ a ks k v, x = .ref a ∧ IsN P w H2 a ks ∧ y = lfV k ∧ valV ks k = some v ∧ Q v H2
def tNIn (P : Program) (w : World) (ty td : TE) : TE := fun σ H Q => ty σ H fun y H1 => td σ H1 fun x H2 => ∃ a ks k, x = .ref a ∧ IsN P w H2 a ks ∧ y = lfV k ∧ Q (.bl (valV ks k).isSome) H2
def tNGet2 (P : Program) (w : World) (td ty tx : TE) : TE := fun σ H Q => td σ H fun x H1 => ∃ a ks0, x = .ref a ∧ IsN P w H1 a ks0 ∧ ty σ H1 fun y H2 => tx σ H2 fun z H3 => ∃ ks k, IsN P w H3 a ks ∧ y = lfV k ∧ Q ((valV ks k).getD z) H3
section
variable {X : Cx} {o i e f value : Expr} {pos pos' apos cpos : Pos} {td ty tx tv : TE}
theorem pe_nget (ho : PE X o td) (hi : PE X i ty) (hs : NoSl i) : PE X (.Subscript o i pos) (tNGet X.prog X.w td ty) := by
  refine ⟨fun pins s σ H Q I h => ?_⟩
  refine subD_of PySem.F.slot_dict_getitem.lookup hs (thn (ho.run pins s σ H _ I h) fun u s1 ⟨x, H1, I1, rx, q1⟩ => thn (hi.run pins s1 σ H1 _ I1 q1) fun iv s2 ⟨y, H2, I2, ry, a, ks, k, v, ex, g, ey, l, q2⟩ => ?_)
  subst ex ey
  obtain rfl : u = Value.ref a := rx
  exact ⟨(isN_at I2 g).1, m_get I2 g l ry fun w' s3 I3 rw' => ⟨v, H2, I3, rw', q2⟩⟩
theorem pc_nin (hi : PE X i ty) (ho : PE X o td) : PC X .In i o (tNIn X.prog X.w ty td) := by
  refine ⟨fun pins s σ H Q I h => ?_⟩
  refine thn (hi.run pins s σ H _ I h) fun iv s1 ⟨y, H1, I1, ry, q1⟩ => thn (ho.run pins s1 σ H1 _ I1 q1) fun u s2 ⟨x, H2, I2, rx, a, ks, k, ex, g, ey, q2⟩ => ?_
  subst ex ey
  obtain rfl : u = Value.ref a := rx
  exact m_in I2 g ry fun s3 I3 => ⟨.bl (valV ks k).isSome, H2, I3, rfl, q2⟩
theorem pe_nget2 (ho : PE X o td) (he : PE X e ty) (hf : PE X f tx) (m : M2 X o "get" apos e f cpos) : PE X (.Call (.Attribute o "get" apos) [e, f] [] cpos) (tNGet2 X.prog X.w td ty tx) := by
  refine ⟨fun pins s σ H Q I h => ?_⟩
  refine wpAny_Call_method m.base m.few m.line PySem.F.plainAttrs_dict PySem.F.slot_dict_get PySem.F.type_dict_get (thn (ho.run pins s σ H _ I h) fun u s1 ⟨x, H1, I1, rx, a, ks0, ex, d, q1⟩ => ?_)
  subst ex
  obtain rfl : u = Value.ref a := rx
  obtain ⟨t1, t2, _⟩ := isN_at I1 d
  refine ⟨t1, t2, ?_⟩
  rw [m.trees]
  refine Calls.callWith_builtin rfl (Calls.evalArgs_plain (Calls.spliced_cons (thn (he.run pins s1 σ H1 _ I1 q1) fun iv s2 ⟨y, H2, I2, ry, q2⟩ => Calls.spliced_cons (thn (hf.run pins s2 σ H2 _ I2 q2) fun fv s3 ⟨z, H3, I3, rz, ks, k, g, ey, q3⟩ => Calls.spliced_nil ?_))))
  subst ey
  exact m_get2 I3 g ry rz fun w' s4 I4 rw' => ⟨_, H3, I4, rw', q3⟩
def sNPut (P : Program) (w : World) (td ty tv : TE) : TS := fun D σ H => tv σ H fun v H1 => td σ H1 fun x H2 => ty σ H2 fun y H3 => ∃ a ks k, x = .ref a ∧ H3 a = some (dnO P w a ks) ∧ y = lfV k ∧ ks.length < sizeLine ∧ D.nx σ (upd H3 a (dnO P w a (putK ks k v)))
theorem ps_nput (ho : PE X o td) (hi : PE X i ty) (hv : PE X value tv) (hs : swapsWith value (some (.Subscript o i pos')) pos.line X.env = pure false) :
    PS X (.Assign [.Subscript o i pos'] value pos) (sNPut X.prog X.w td ty tv) := by
  refine ⟨fun pins s σ H D I h => ?_⟩
  refine wpAny_Assign_Subscript (thn (hv.run pins s σ H _ I h) fun r s1 ⟨v, H1, I1, rv, q1⟩ => thn (ho.run pins s1 σ H1 _ I1 q1) fun u s2 ⟨x, H2, I2, rx, q2⟩ => thn (hi.run pins s2 σ H2 _ I2 q2) fun iv s3 ⟨y, H3, I3, ry, a, ks, k, ex, g, ey, hl, q3⟩ => ?_) hs
  subst ex ey
  obtain rfl : u = Value.ref a := rx
  exact n_set I3 g hl ry rv fun s4 I4 => ⟨σ, _, I4, q3⟩
end
end NH
namespace NH
open PySem L2
section
variable {U : Addr → Prop} {H : Hp}
theorem olK_inj {a b : Option Ky} (h : olK a = olK b) : a = b := by
  rcases a with _ | (_ | _) <;> rcases b with _ | (_ | _) <;> simp_all [olK]
theorem RelNs.val : ∀ {l : List (Option Ky × P)} {ks : List (Leaf × V)} (k : Option Ky), RelNs U H l ks →
    (∃ p v, nkget l k = some p ∧ valV ks (olK k) = some v ∧ RelP U H p v) ∨ (nkget l k = none ∧ valV ks (olK k) = none)
  | [], _, k, r => by simp only [RelNs] at r; subst r; exact .inr ⟨rfl, rfl⟩
  | (j, p) :: l, ks, k, r => by
    simp only [RelNs] at r
    obtain ⟨v, q, rfl, h1, h2⟩ := r
    by_cases e : j = k
    · subst e
      exact .inl ⟨p, v, by simp [nkget], valV_pos rfl, h1⟩
    · have e' : ¬ olK j = olK k := fun z => e (olK_inj z)
      rw [show nkget ((j, p) :: l) k = nkget l k by simp [nkget, e], valV_neg (p := (olK j, v)) e']
      exact RelNs.val k h2
theorem RelNs.append : ∀ {l m : List (Option Ky × P)} {ks js : List (Leaf × V)}, RelNs U H l ks → RelNs U H m js → RelNs U H (l ++ m) (ks ++ js)
  | [], _, _, _, r, s => by simp only [RelNs] at r; subst r; simpa using s
  | (k, p) :: l, m, ks, js, r, s => by
    simp only [RelNs] at r
    obtain ⟨v, q, rfl, h1, h2⟩ := r
    show RelNs U H ((k, p) :: (l ++ m)) ((olK k, v) :: (q ++ js))
    simp only [RelNs]
    exact ⟨v, q ++ js, rfl, h1, RelNs.append h2 s⟩
theorem RelNs.repl : ∀ {l : List (Option Ky × P)} {ks : List (Leaf × V)} (k : Option Ky) {p : P} {v : V}, RelNs U H l ks → RelP U H p v →
    RelNs U H (l.map fun e => if e.1 = k then (e.1, p) else e) (ks.map fun e => if e.1 = olK k then (e.1, v) else e)
  | [], _, k, p, v, r, h => by simp only [RelNs] at r; subst r; simp [RelNs]
  | (j, q) :: l, ks, k, p, v, r, h => by
    simp only [RelNs] at r
    obtain ⟨w, qs, rfl, h1, h2⟩ := r
    have ih := RelNs.repl k h2 h
    by_cases e : j = k
    · subst e
      simp only [List.map_cons, if_true]
      show RelNs U H ((j, p) :: _) ((olK j, v) :: _)
      simp only [RelNs]
      exact ⟨v, _, rfl, h, ih⟩
    · have e' : ¬ olK j = olK k := fun z => e (olK_inj z)
      simp only [List.map_cons, if_neg e, if_neg e']
      show RelNs U H ((j, q) :: _) ((olK j, w) :: _)
      simp only [RelNs]
      exact ⟨w, _, rfl, h1, ih⟩
theorem RelNs.put {l : List (Option Ky × P)} {ks : List (Leaf × V)} (k : Option Ky) {p : P} {v : V} (r : RelNs U H l ks) (h : RelP U H p v) : RelNs U H (nkput l k p) (putK ks (olK k) v) := by
  unfold nkput putK
  rw [valV_any]
  rcases r.val k with ⟨p', v', h1, h2, _⟩ | ⟨h1, h2⟩
  · rw [h1, h2, if_pos (show (some p').isSome = true from rfl), if_pos (show (some v').isSome = true from rfl)]
    exact r.repl k h
  · rw [h1, h2, if_neg (show ¬ (none : Option P).isSome = true by decide), if_neg (show ¬ (none : Option V).isSome = true by decide)]
    refine r.append ?_
    simp only [RelNs]
    exact ⟨v, [], rfl, h, rfl⟩
theorem RelNs.merge : ∀ {m l : List (Option Ky × P)} {js ks : List (Leaf × V)}, RelNs U H m js → RelNs U H l ks → RelNs U H (nkmerge l m) (mergeN ks js)
  | [], _, _, _, r, s => by simp only [RelNs] at r; subst r; exact s
  | (k, p) :: m, l, js, ks, r, s => by
    simp only [RelNs] at r
    obtain ⟨v, q, rfl, h1, h2⟩ := r
    show RelNs U H (nkmerge (nkput l k p) m) (mergeN (putK ks (olK k) v) q)
    exact RelNs.merge h2 (s.put k h1)
theorem kyL_olK (k : Ky) : kyL (kyK k) = olK (some k) := by cases k <;> rfl
theorem RelKs.toN : ∀ {l : List (Ky × P)} {ks : List (Key × V)}, RelKs U H l ks → RelNs U H (someK l) (ks.map fun p => (kyL p.1, p.2))
  | [], _, r => by simp only [RelKs] at r; subst r; rfl
  | (k, p) :: l, ks, r => by
    simp only [RelKs] at r
    obtain ⟨v, q, rfl, h1, h2⟩ := r
    refine ⟨v, _, ?_, h1, RelKs.toN h2⟩
    simp [kyL_olK]
theorem nk_V {p : P} {k : Option Ky} {v : V} (h : nkOf p = some k) (r : RelP U H p v) : v = lfV (olK k) := by
  cases p <;> simp only [nkOf] at h <;> first | (cases h; simp only [RelP] at r; exact r) | cases h
theorem toNEnts_V : ∀ {l : List P} {es : List (Option Ky × P)} {vs : List V}, toNEnts l = some es → RelPs U H l vs →
    ∃ (ps : List Addr) (kvs : List (Leaf × V)), vs = ps.map V.ref ∧ Paired (fun p kv => H p = some (.tup [lfV kv.1, kv.2])) ps kvs ∧ RelNs U H es kvs
  | [], es, vs, h, r => by
    cases h
    simp only [RelPs] at r
    subst r
    exact ⟨[], [], rfl, .nil, rfl⟩
  | p :: l, es, vs, h, r => by
    simp only [RelPs] at r
    obtain ⟨v, q, rfl, h1, h2⟩ := r
    unfold toNEnts at h
    split at h
    · rename_i heq; cases heq
    · rename_i k x rest heq
      cases heq
      split at h
      · rename_i k' l' hk hl
        cases h
        simp only [RelP, RelPs] at h1
        obtain ⟨a, ws, rfl, g1, g2, w1, ws1, rfl, g3, w2, ws2, rfl, g4, rfl⟩ := h1
        obtain ⟨ps, kvs, e1, e2, e3⟩ := toNEnts_V hl h2
        have ek : w1 = lfV (olK k') := nk_V hk g3
        subst ek
        exact ⟨a :: ps, (olK k', w2) :: kvs, by rw [e1]; rfl, .cons g1 e2, w2, kvs, rfl, g4, e3⟩
      · cases h
    · cases h
end
section
variable [W : TheW] {K : PySem.W.Frag} {Z : Addr → Prop} {M : List Addr} {st : Store} {H : Hp}
theorem dnOf_rel {d : D} {l : List (Option Ky × P)} {v : V} (sr : SRel Z M st H) (h : dnOf st d = some l) (r : RelD K Z M st H d v) :
    ∃ a ks, v = .ref a ∧ IsN W.P W.w H a ks ∧ RelNs (Mu Z M st) H l ks := by
  unfold dnOf at h
  split at h
  · cases h
    simp only [RelD, RelP] at r
    obtain ⟨a, ks, rfl, h1, _, h2⟩ := r
    exact ⟨a, _, rfl, .inr ⟨ks, h1, rfl⟩, h2.toN⟩
  · rename_i k
    split at h
    · rename_i l' hk
      cases h
      obtain ⟨a, rfl, _, g⟩ := RelD.ref_get (K := K) sr r hk
      obtain ⟨ks, h1, h2⟩ := g
      exact ⟨a, _, rfl, .inr ⟨ks, .of h1, rfl⟩, h2.toN⟩
    · rename_i l' hk
      cases h
      obtain ⟨a, rfl, _, g⟩ := RelD.ref_get (K := K) sr r hk
      obtain ⟨ks, h1, h2⟩ := g
      exact ⟨a, ks, rfl, .inl h1, h2⟩
    · cases h
  · cases h
end
end NH
namespace NH
variable [W : TheW]
open PySem L2
section
variable {I : Inf} {T : Nat → Option Fn} {n : Nat} {S : Sx} {X : Cx} {C : Calls} {ca cb cd : CE} {a b : Expr} {pos apos : Pos}
theorem nk_rel {Z : Addr → Prop} {M : List Addr} {st : Store} {H : Hp} {x : D} {p : P} {k : Option Ky} {v : V} (h : pure1 x = some p) (hk : nkOf p = some k) (r : RelD X.K Z M st H x v) : v = lfV (olK k) := by
  cases x with
  | p q => cases h; exact nk_V hk r
  | _ => cases h
theorem s_ninn (G : Good I T n S X) (ha : PE X a (tE X.K C ca)) (hb : PE X b (tE X.K C cb)) (hm : behindInMarks .In b = false) : PE X (.Compare a [.In] [b] pos) (tE X.K C (.ninn ca cb)) := by
  refine PE.weak (pe_cmp (pc_nin ha hb) hm) fun σ H Q h => ?_
  obtain ⟨Z, M, st, δ, d, st', sr, er, ev, k⟩ := h
  obtain ⟨x, st1, e1, ev⟩ := R.bind_eq_ok ev
  obtain ⟨y, st2, e2, ev⟩ := R.bind_eq_ok ev
  obtain ⟨ev2, rfl⟩ := lift_eq_ok ev
  obtain ⟨p, hp, ev3⟩ := Option.bind_eq_some_iff.mp ev2
  obtain ⟨kk, hkk, ev4⟩ := Option.bind_eq_some_iff.mp ev3
  obtain ⟨l, hl, rfl⟩ := Option.map_eq_some_iff.mp ev4
  refine two sr er e1 e2 fun v w M2 H2 f2 s2 r1 r2 => ?_
  obtain ⟨a', ks, rfl, g1, g2⟩ := dnOf_rel s2 hl r2
  have e := nk_rel hp hkk r1
  rw [← G.wd.1, ← G.wd.2] at g1
  refine ⟨a', ks, olK kk, rfl, g1, e, k _ M2 H2 f2 s2 ?_⟩
  have : (valV ks (olK kk)).isSome = (nkget l kk).isSome := by
    rcases g2.val kk with ⟨q, u, h1, h2, _⟩ | ⟨h1, h2⟩ <;> rw [h1, h2] <;> rfl
  rw [this]
  simp [RelD, RelP]
theorem s_nidx (G : Good I T n S X) (ha : PE X a (tE X.K C ca)) (hb : PE X b (tE X.K C cb)) (hs : NoSl b) : PE X (.Subscript a b pos) (tE X.K C (.nidx ca cb)) := by
  refine PE.weak (pe_nget ha hb hs) fun σ H Q h => ?_
  obtain ⟨Z, M, st, δ, d, st', sr, er, ev, k⟩ := h
  obtain ⟨x, st1, e1, ev⟩ := R.bind_eq_ok ev
  obtain ⟨y, st2, e2, ev⟩ := R.bind_eq_ok ev
  obtain ⟨ev2, rfl⟩ := lift_eq_ok ev
  obtain ⟨l, hl, ev3⟩ := Option.bind_eq_some_iff.mp ev2
  obtain ⟨p, hp, ev4⟩ := Option.bind_eq_some_iff.mp ev3
  obtain ⟨kk, hkk, ev5⟩ := Option.bind_eq_some_iff.mp ev4
  obtain ⟨q, hq, rfl⟩ := Option.map_eq_some_iff.mp ev5
  refine two sr er e1 e2 fun v w M2 H2 f2 s2 r1 r2 => ?_
  obtain ⟨a', ks, rfl, g1, g2⟩ := dnOf_rel s2 hl r1
  have e := nk_rel hp hkk r2
  rw [← G.wd.1, ← G.wd.2] at g1
  rcases g2.val kk with ⟨q', u, h1, h2, h3⟩ | ⟨h1, h2⟩
  · rw [hq] at h1
    cases h1
    exact ⟨a', ks, olK kk, u, rfl, g1, e, h2, k _ M2 H2 f2 s2 h3⟩
  · rw [hq] at h1
    cases h1
theorem s_ncopy (G : Good I T n S X) (B : Bl I S "dict") (he : PE X a (tE X.K C ca)) (hs : starB a = true) : PE X (.Call (.Name "dict" p) [a] [] pos) (tE X.K C (.ncopy ca)) := by
  refine PE.weak (pe_callTy call_dictN (gl_of G B.g) (G.bl _ B.b) (by decide +kernel) (pa_cons he pa_nil (star_of hs)) (nodbg_of B.d).2 (nodbg_of B.d).1 (star_of hs) rfl) fun σ H Q h => ?_
  obtain ⟨Z, M, st, δ, d, st', sr, er, ev, k⟩ := h
  obtain ⟨y, st1, e1, ev⟩ := R.bind_eq_ok ev
  refine one sr er e1 fun v M2 H2 f2 s2 r2 => ?_
  split at ev
  · rename_i l hl
    cases ev
    obtain ⟨a', ks, rfl, g1, g2⟩ := dnOf_rel s2 hl r2
    rw [← G.wd.1, ← G.wd.2] at g1
    refine ⟨a', ks, rfl, g1, fun p3 hp3 => ?_⟩
    have f := Frm.snoc (o := dnO X.prog X.w p3 ks) (ob := .dn l) s2 hp3
    refine k _ (M2 ++ [p3]) _ (f2.trans f) (s2.snoc hp3 ?_) ?_
    · refine ⟨ks, by rw [upd_same, G.wd.1, G.wd.2], RelNs.mono f.keep l ks g2⟩
    · exact ⟨p3, by rw [← s2.len]; simp, rfl⟩
  · cases ev
end
end NH
namespace PySem.W
open PySem PySem.Calls PyProof.Rows PySem.SeqAt
section
variable {prog : Program} {w : World} {A : Around} {E : Value → Shared → Prop} {s : Shared}
theorem nh_call_tuple_lt {Q : Value → Shared → Prop} {l b : Addr} {items items2 : Array Value} {e r : Nat → Bool} (hl : s.heap.IsTuple l items) (hb : s.heap.IsTuple b items2)
    (he : ∀ j (h1 : j < items.size) (h2 : j < items2.size), EqAt A.in1 s items[j] items2[j] (e j)) (hr : ∀ j (h1 : j < items.size) (h2 : j < items2.size), e j = false → RcLt A.in1 s items[j] items2[j] (r j))
    (h : Q (.bool (firstLt e r (decide (items.size < items2.size)) (List.range (min items.size items2.size)))) s) : wpAny (model prog w) A (call (.builtin "tuple.__lt__") [.ref l, .ref b]) Q E s := by
  obtain ⟨⟨cls, dd, data, sl⟩, ho, hc, n, hd⟩ := id hl
  obtain ⟨⟨cls2, dd2, data2, sl2⟩, ho2, hc2, n2, hd2⟩ := id hb
  simp only at hc hd hc2 hd2
  subst hc hd hc2 hd2
  exact call_meets F.slot_tuple_lt ⟨_, ho, rfl⟩ F.entry_tuple_lt (F.args_tuple_lt_2 _ _) (tuple_ltAt l b items items2 n n2 dd dd2 sl sl2 e r) ⟨ho, ho2, he, hr, h⟩
theorem nh_oneLt_tuple {xs ys : List PyData} {a b : Value} {as bs : List Addr} {Q : Bool → Shared → Prop} (ra : Reads s.heap a (.tuple xs) as) (rb : Reads s.heap b (.tuple ys) bs) (hal : alikeAll xs ys = true)
    (hu : A.units + min (PyData.depth (.tuple xs)) (PyData.depth (.tuple ys)) < cLine) (hq : Q (dataLt (.tuple xs) (.tuple ys)) s) : wpAny (model prog w) A (oneLt' true a b) Q E s := by
  cases ra with
  | @tuple l o vs n _ as₁ h1 h2 h3 h4 =>
    cases rb with
    | @tuple l' o' vs' n' _ bs₁ k1 k2 k3 k4 =>
      have n1 : vs.size = xs.length := by simpa using ReadsAll.length _ _ _ h4
      have n2 : vs'.size = ys.length := by simpa using ReadsAll.length _ _ _ k4
      rw [dataLt_tuple, ← firstLt_toks xs ys hal, ← n1, ← n2] at hq
      rw [oneLt'_eq]
      simp only [if_true]
      refine wpAny_bind (wpAny_cRoomFor (room_here hu) ?_)
      refine wpAny_bind (wpAny_callSpecialIfBound?_slot (T := "tuple") ⟨_, h1, h2⟩ F.slot_tuple_lt (nh_call_tuple_lt (e := pairEq xs ys) (r := fun j => dataLt (xs.getD j .none) (ys.getD j .none)) ⟨_, h1, h2, _, h3⟩ ⟨_, k1, k2, _, k3⟩ (fun j j1 j2 => ?_) (fun j j1 j2 hj => ?_) ?_))
      · have := eqAt_alikeAll xs ys A.in1 s vs.toList vs'.toList _ _ h4 k4 hal (room_in hu) j (by simpa using j1) (by simpa using j2)
        simpa using this
      · have := rcLt_alikeAll xs ys A.in1 s vs.toList vs'.toList _ _ h4 k4 hal (room_in hu) j (by simpa using j1) (by simpa using j2) hj
        simpa using this
      · exact wpAny_truthy_bool hq
def neD : PyData → Bool
  | .tuple (_ :: _) => true
  | _ => false
theorem nh_firsts : ∀ (vs : List Value) (ds : List PyData) {Q : List (Option Value) → Shared → Prop}, EachIs (fun v d => ∃ as, Reads s.heap v d as) vs ds → (∀ d ∈ ds, ∃ xs, d = .tuple xs) →
    (∀ os : List (Option Value), os.map Option.isSome = ds.map neD → Q os s) → wpAny (model prog w) A (vs.mapM firstOfTuple') Q E s
  | _, _, Q, .nil, _, h => by rw [List.mapM_nil]; exact wpAny_pure (h [] rfl)
  | _, _, Q, .cons (as := vs) (bs := ds) (a := v) (b := d) ⟨as, r⟩ t, ht, h => by
    obtain ⟨xs, rfl⟩ := ht d List.mem_cons_self
    cases r with
    | @tuple a o its n _ _ ho hc hd hr =>
      rw [List.mapM_cons]
      refine wpAny_bind ?_
      rw [kas_first_eq]
      refine wpAny_bind (Looks.here (show Looks (model prog w) s.heap (typeOf (.ref a)) o.cls from (Looks.ld ho).andThen .now) ?_)
      rw [hc, if_neg (by first | decide | simp)]
      refine wpAny_bind (listItems_at ho hd (wpAny_pure ?_))
      refine wpAny_bind (nh_firsts vs ds t (fun d m => ht d (List.mem_cons_of_mem _ m)) fun os hos => wpAny_pure (h _ ?_))
      simp only [List.map_cons, hos, List.cons.injEq, and_true]
      have hl := ReadsAll.length _ _ _ hr
      cases xs with
      | nil =>
        have : its.toList = [] := List.length_eq_zero_iff.mp hl
        have e0 : its[0]? = none := by rw [← Array.getElem?_toList, this]; rfl
        rw [e0]; rfl
      | cons x xs =>
        cases q : its.toList with
        | nil => rw [q] at hl; simp at hl
        | cons f fr =>
          have e0 : its[0]? = some f := by rw [← Array.getElem?_toList, q]; rfl
          rw [e0]; rfl
theorem nh_kind {vs : List Value} {d₀ : PyData} {ds : List PyData} {Q : SortKind → Shared → Prop} (e : EachIs (fun v d => ∃ as, Reads s.heap v d as) vs (d₀ :: ds)) (ht : ∀ d ∈ d₀ :: ds, ∃ xs, d = .tuple xs) (hne : ∃ d ∈ d₀ :: ds, neD d = false)
    (h : Q (if neD d₀ = true then general' else oneType') s) : wpAny (model prog w) A (keyKind' vs.toArray) Q E s := by
  have hl : vs.length = ds.length + 1 := by rw [e.length]; rfl
  rw [keyKind'_eq, List.mapM_toArray, map_eq_pure_bind]
  refine wpAny_bind (wpAny_bind (nh_firsts vs _ e ht fun os hos => wpAny_pure ?_))
  have hall : (os.toArray.all fun x => x.isSome) = false := by
    rw [List.all_toArray]
    obtain ⟨d, hd, hd2⟩ := hne
    cases hx : os.all fun x => x.isSome with
    | false => rfl
    | true =>
      have h1 : (os.map Option.isSome).all id = true := by rw [List.all_map]; exact hx
      rw [hos, List.all_map] at h1
      have := List.all_eq_true.mp h1 d hd
      simp only [Function.comp_apply, id_eq, hd2, Bool.false_eq_true] at this
  rw [if_neg (by rw [hall]; simp)]
  cases os with
  | nil => simp at hos
  | cons o os =>
    simp only [List.map_cons, List.cons.injEq] at hos
    have h0 : ((o :: os).toArray[0]?.bind id) = o := by simp
    rw [h0]
    cases hn : neD d₀ with
    | true =>
      rw [hn] at hos h
      rw [if_pos hos.1]
      exact wpAny_pure h
    | false =>
      rw [hn] at hos h
      rw [if_neg (by rw [hos.1]; simp)]
      obtain ⟨v, vr, rfl⟩ : ∃ v vr, vs = v :: vr := by
        cases vs with
        | nil => simp at hl
        | cons v vr => exact ⟨v, vr, rfl⟩
      have hT : ∀ u ∈ v :: vr, Looks (model prog w) s.heap (typeOf u) (Value.type "tuple") := by
        intro u hu
        obtain ⟨d, hd, as, r⟩ := e.left u hu
        obtain ⟨xs, rfl⟩ := ht d hd
        exact looks_reads r
      rw [oneTypeOnly'_eq, List.mapM_toArray, map_eq_pure_bind]
      refine wpAny_bind (wpAny_bind (wpAny_bind (kas_mapM (r := Value.type "tuple") _ (fun v hv Q' hq => (hT v hv).here hq) (wpAny_pure ?_))))
      have hall2 : ((List.map (fun _ => Value.type "tuple") (v :: vr)).toArray.all fun x => x == Value.type "tuple") = true := by
        simp only [List.all_toArray, List.all_map, List.all_eq_true]
        intro _ _
        exact beq_self_eq_true _
      have h00 : (List.map (fun _ => Value.type "tuple") (v :: vr)).toArray[0]? = some (Value.type "tuple") := by simp
      rw [h00]
      simp only [hall2, if_true]
      exact wpAny_pure (wpAny_pure h)
theorem nh_sortsAt {vs : List Value} {ds : List PyData} (e : EachIs (fun v d => ∃ as, Reads s.heap v d as) vs ds) (hal : AllAlike ds) (ht : ∀ d ∈ ds, ∃ xs, d = .tuple xs) (hne : ∃ d ∈ ds, neD d = false) (hu : ∀ d, d ∈ ds → A.units + d.depth < cLine) : SortsAt prog w A s (dataKind s.heap ds) vs := by
  have room : ∀ {d d' : PyData}, d ∈ ds → A.units + min d.depth d'.depth < cLine := fun {d d'} hd => Nat.lt_of_le_of_lt (Nat.add_le_add_left (Nat.min_le_left _ _) _) (hu d hd)
  refine ⟨fun v hv => ?_, ?_⟩
  · obtain ⟨d, hd, as, r⟩ := e.left v hv
    exact ⟨_, dataKind_some hal hd r⟩
  · cases ds with
    | nil => obtain ⟨d, hd, _⟩ := hne; cases hd
    | cons d₀ ds₀ =>
      refine ⟨if neD d₀ = true then general' else oneType', ?_, fun h2 E Q hq => nh_kind e ht hne hq⟩
      intro E x y a b Q ha hb hq
      obtain ⟨d, as, hd, ra, rfl⟩ := dataKind_inv ha
      obtain ⟨d', as', hd', rb, rfl⟩ := dataKind_inv hb
      obtain ⟨xs, rfl⟩ := ht d hd
      obtain ⟨ys, rfl⟩ := ht d' hd'
      have hdd := hal _ hd _ hd'
      split
      · exact oneLt_alike (f := false) (fun h => absurd h (by simp)) ra rb hdd (by simp) (room hd) hq
      · rw [keyLt'_oneType]
        exact nh_oneLt_tuple ra rb (by simpa [alike] using hdd) (room hd) hq
theorem nh_sorted {β : Type} {enc : β → PyData} {R : Value → β → Prop} {l : Addr} {vs : List Value} {bs : List β} {Q : Value → Shared → Prop} (hl : s.heap.IsList l vs.toArray) (e : EachIs R vs bs) (er : EachIs (fun v b => ∃ as, Reads s.heap v (enc b) as) vs bs) (hal : AllAlike (bs.map enc))
    (ht : ∀ d ∈ bs.map enc, ∃ xs, d = .tuple xs) (hne : ∃ d ∈ bs.map enc, neD d = false) (hL : bs.length ≤ sizeLine)
    (hu : ∀ b, b ∈ bs → A.units + 2 + (enc b).depth < cLine) (h : ∀ out, out.length = bs.length → EachIs R out (bs.mergeSort (dataLe false enc)) → Q (.ref (s.heap.objs.size + 1)) { s with heap := sortedAll s.heap vs (List.toArray out) }) :
    wpAny (model prog w) A (call (.builtin "sorted") [.ref l]) Q E s := by
  have er' : EachIs (fun v b => ∃ as, Reads (sortingHeap (copyHeap s.heap vs) (s.heap.objs.size + 1) vs) v (enc b) as) vs bs := er.mono fun _ _ ⟨as, r⟩ => ⟨as, PyProof.Rows.Reads.keeps (fun _ _ => sorting_copy_old) r⟩
  exact sorted_vals hl (nh_sortsAt (s := { s with heap := sortingHeap (copyHeap s.heap vs) (s.heap.objs.size + 1) vs }) (each_map (R := fun v d => ∃ as, Reads (sortingHeap (copyHeap s.heap vs) (s.heap.objs.size + 1) vs) v d as) enc er') hal ht hne (bound_map hu)) (by rw [e.length]; exact hL)
    (h _ (by rw [sortVals_length false rfl]; exact e.length) (sortVals_data false e er' hal))
end
end PySem.W
namespace NHSet
open PySem PySem.Spec PyProof.Rows
def one1 (l : List Str) (x : Str) : List Str := if l.any (· == x) then l else l ++ [x]
def uqS (l : List Str) : List Str := l.foldl one1 []
theorem uqS_snoc (l : List Str) (x : Str) : uqS (l ++ [x]) = one1 (uqS l) x := by simp [uqS]
theorem one1_any (l : List Str) (v k : Str) : (one1 l v).any (· == k) = (l.any (· == k) || decide (k = v)) := by
  unfold one1
  have hb : decide (k = v) = (v == k) := by
    by_cases h : k = v
    · subst h; simp
    · rw [decide_eq_false h]
      exact (beq_eq_false_iff_ne.mpr fun e => h e.symm).symm
  cases hm : l.any (· == v) with
  | true =>
    simp only [if_true]
    by_cases h : k = v
    · subst h; rw [hm]; simp
    · simp [h]
  | false =>
    simp only [Bool.false_eq_true, if_false, List.any_append, List.any_cons, List.any_nil, Bool.or_false]
    rw [hb]
theorem one1_len (l : List Str) (v : Str) : (one1 l v).length = if l.any (· == v) then l.length else l.length + 1 := by
  unfold one1; split <;> simp
theorem uqS_le (l : List Str) : (uqS l).length ≤ l.length := by
  have : ∀ (l : List Str) (a : List Str), (l.foldl one1 a).length ≤ a.length + l.length := by
    intro l
    induction l with
    | nil => intro a; simp
    | cons x l ih =>
      intro a
      have h1 := ih (one1 a x)
      have h2 := one1_len a x
      simp only [List.foldl_cons, List.length_cons]
      split at h2 <;> omega
  have h := this l []
  simp only [List.length_nil, Nat.zero_add] at h
  exact h
theorem take_succ' {l : List Str} {i : Nat} (h : i < l.length) : l.take (i + 1) = l.take i ++ [l.getD i Str.empty] := by
  rw [List.take_succ, List.getElem?_eq_getElem h]
  simp [List.getD, List.getElem?_eq_getElem h]
section
variable {prog : Program} {w : World} {A : Around} {R : Result → Shared → Prop} {I : Addr} {fp wr : List Addr} {G : Array GenState → Array GenState → Prop} {n : Nat} {P : Nat → Value → Prop} {St : Nat → Shared → Prop}
abbrev seen (xs : List Str) (i : Nat) : Str → Bool := fun k => (uqS (xs.take i)).any (· == k)
theorem turns (W : WalksS prog w A.in1 I fp wr G n P St) (S : Addr) (hSf : S ∉ fp) (xs : List Str) (hsz : xs.length = n) (hb : n + 1 < scanBound) (hval : ∀ i v, P i v → ∃ t, v = .str (xs.getD i Str.empty) t) :
    ∀ (k i : Nat) (s : Shared), n - i = k → i ≤ n → St i s → s.heap.SetOf (PySem.strKind prog w) S (seen xs i) (uqS (xs.take i)).length →
      (∀ s', Moved (S :: wr) G s s' → s'.heap.SetOf (PySem.strKind prog w) S (seen xs n) (uqS (xs.take n)).length → R (.ok (.ret .none)) s') →
      codeAny (model prog w) A (.builtin "set.update.loop" ⟨[.ref S, .ref I], []⟩) R s := by
  have hSw : S ∉ wr := fun h => hSf (W.sub _ h)
  have up : ∀ b ∈ wr, b ∈ S :: wr := fun b m => List.mem_cons_of_mem _ m
  intro k
  induction k with
  | zero =>
    intro i s hk hi hst hS hR
    obtain rfl : i = n := by omega
    refine codeAny_builtin PyProof.Rows.F.entry_set_update_loop ?_
    rw [Around.under_plainId PyProof.Rows.F.plain_set_update_loop _]
    show wpAny _ A.in1 (pyNext (.ref I) >>= _) _ _ s
    refine wpAny_bind (W.done s _ _ hst fun s' hm => ?_)
    show wpAny _ A.in1 (ret Value.none) _ _ s'
    obtain ⟨o, es, ep, t, ho, more⟩ := hS
    exact wpAny_pure (hR s' (hm.mono up) ⟨o, es, ep, t, hm.heap S _ hSw ho, more⟩)
  | succ k ih =>
    intro i s hk hi hst hS hR
    have hlt : i < n := by omega
    refine codeAny_builtin PyProof.Rows.F.entry_set_update_loop ?_
    rw [Around.under_plainId PyProof.Rows.F.plain_set_update_loop _]
    show wpAny _ A.in1 (pyNext (.ref I) >>= _) _ _ s
    refine wpAny_bind (W.item i s _ _ hlt hst fun v s' hP hst' hm => ?_)
    obtain ⟨t, rfl⟩ := hval i v hP
    have hS' : s'.heap.SetOf (PySem.strKind prog w) S (seen xs i) (uqS (xs.take i)).length := by
      obtain ⟨o, es, ep, tb, ho, more⟩ := hS
      exact ⟨o, es, ep, tb, hm.heap S _ hSw ho, more⟩
    show wpAny _ A.in1 (holding [Value.str (xs.getD i Str.empty) t] (setAdd S (.str (xs.getD i Str.empty) t)) >>= _) _ _ s'
    refine wpAny_bind (wpAny_holding ?_)
    unfold setAdd
    refine wpAny_holding ?_
    refine wpAny_bind ((PySem.strKind prog w).pyHash (k := xs.getD i Str.empty) (strKind_is _ _ _ _) ?_)
    have hroom : (uqS (xs.take i)).length + 1 < scanBound := by
      have h1 := uqS_le (xs.take i)
      have h2 : (xs.take i).length ≤ i := List.length_take_le _ _
      omega
    refine wpAny_setAddHashed_of (knd := PySem.strKind prog w) (s := { s' with toks := s'.toks + 1 }) (strKind_is _ _ _ _) rfl hS' hroom fun h' hsb hS2 => ?_
    have et := take_succ' (l := xs) (i := i) (by omega)
    have hSi : h'.SetOf (PySem.strKind prog w) S (seen xs (i + 1)) (uqS (xs.take (i + 1))).length :=
      SetOf_congr hS2 (fun k' => by show _ = (uqS (xs.take (i + 1))).any (· == k'); rw [et, uqS_snoc, one1_any]) (by rw [et, uqS_snoc, one1_len])
    refine wpAny_pure ⟨plainId_quiet PyProof.Rows.F.plain_set_update_loop _, ih (i + 1) _ (by omega) hlt (W.frame _ s' _ _ hst' (Nat.le_succ _) fun b hb' o e => ?_) hSi fun s'' hm'' hS'' => ?_⟩
    · rw [hsb.2 b (fun h : b = S => hSf (by rw [← h]; exact hb'))]; exact e
    · refine hR s'' (Moved.trans W.gtrans ((hm.mono up).then_heap (Nat.le_succ _) fun b o hb' e => ?_) hm'') hS''
      rw [hsb.2 b (fun h : b = S => hb' (by rw [h]; exact List.mem_cons_self))]; exact e
end
section
abbrev nw (led : Bool) : Obj := { cls := .type "set", dict := none, data := .set #[] 0 (.fresh 0 0 led) }
variable {prog : Program} {w : World} {A : Around} {E : Value → Shared → Prop} {s : Shared}
set_option maxHeartbeats 3200000 in
theorem set_list {l : Addr} {items : Array Value} {xs : List Str} {Q : Value → Shared → Prop} (hh : A.handled = none) (hl : s.heap.IsList l items) (hi : StrsAre items.toList xs) (hb : xs.length + 1 < scanBound)
    (h : ∀ (h' : Heap) (tk : Nat), h'.SetOf (PySem.strKind prog w) s.heap.objs.size (fun k' => (uqS xs).any (· == k')) (uqS xs).length → (∀ b o, b < s.heap.objs.size → s.heap.get? b = some o → h'.get? b = some o) → Q (.ref s.heap.objs.size) { s with heap := h', toks := tk }) :
    wpAny (model prog w) A (call (.type "set") [.ref l]) Q E s := by
  have hsz : xs.length = items.size := by rw [← StrsAre.len_eq hi, Array.length_toList]
  have htk : xs.take items.size = xs := List.take_of_length_le (by omega)
  obtain ⟨c, tl, hmro⟩ := PySem.F.called_set.mro
  have hmade := PySem.F.called_set.made
  have hsub := PySem.F.called_set.sub
  refine wpAny_call (codeAny_of_tree ?_)
  show wpAny _ _ (callAny (.type "set") _) _ _ _
  refine wpAny_pure ⟨Code.quiet_builtin _ (by decide +kernel), codeAny_builtin PySem.F.entry_type_call ?_⟩
  rw [Around.under_plain (weight_type_call_type "set" [.ref l] []) rfl]
  have h1 := PySem.F.called_set.notType
  have h2 := PySem.F.called_set.canCreate
  have hct := PySem.F.typeCall_set_1 (.ref l)
  repeat (any_goals (first | assumption | wp_step))
  refine codeAny_mono (code_set_new_1 (.ref l) (E := E) (Q₁ := fun obj s₁ => ∃ led : Bool, obj = .ref s.heap.objs.size ∧ s₁ = { s with heap := s.heap.push (nw led) }) fun led => ⟨led, rfl, rfl⟩) fun r s₁ hr => ?_
  cases r with
  | error e => exact hr
  | ok fl =>
    cases fl with
    | ret obj =>
      obtain ⟨led, rfl, rfl⟩ := hr
      have hS : (s.heap.push (nw led)).get? s.heap.objs.size = some (nw led) := Heap.get?_push_size _ rfl
      have hT : Shared.TypeIs { s with heap := s.heap.push (nw led) } (.ref s.heap.objs.size) "set" := ⟨_, hS, rfl⟩
      have hli := PySem.F.called_set.init.lookup
      have hbi := PySem.F.called_set.init.bind (.ref s.heap.objs.size)
      repeat (any_goals (first | assumption | wp_step))
      refine codeAny_mono (codeAny_call_builtin (R := wants (fun r s₂ => r = .none ∧ ∃ h' tk, s₂ = { s with heap := h', toks := tk } ∧
          h'.SetOf (PySem.strKind prog w) s.heap.objs.size (seen xs items.size) (uqS (xs.take items.size)).length ∧
          (∀ b o, b < s.heap.objs.size → s.heap.get? b = some o → h'.get? b = some o)) E) PySem.F.called_set.init.plain PySem.F.entry_set_init (check_set_init_1 hT ?_)) fun r₂ s₂ hr₂ => ?_
      · have hl1 : (s.heap.push (nw led)).IsList l items := hl.push _
        obtain ⟨⟨ocls, odict, odata, oslots⟩, hol', hcl, nl, hdl⟩ := id hl1
        simp only at hcl hdl
        subst hcl; subst hdl
        have hlS : l < s.heap.objs.size := by
          obtain ⟨o, ho, _⟩ := hl
          exact Heap.lt_size ho
        have hsls := PySem.F.sub_list_set
        have hslf := PySem.F.sub_list_frozenset
        have hne : (Value.type "list" == Value.type "dict") = false := by decide
        unfold Builtin.«set.__init__» noKeywords Builtin.Frozenset.updateFrom
        generalize hPI : pyIter = PI
        wp_walk
        subst hPI
        refine wpAny_pyIter_list hl1 ?_
        refine wpAny_bind (wpAny_runValue ?_)
        have hh3 : A.in1.in1.in1.handled = none := by simp [hh]
        have hneI : l ≠ (s.heap.push (nw led)).objs.size := by
          rw [Heap.size_push]; exact Nat.ne_of_lt (Nat.lt_succ_of_lt hlS)
        have hSf : s.heap.objs.size ∉ [(s.heap.push (nw led)).objs.size, l] := by
          rw [Heap.size_push]; simp only [List.mem_cons, List.mem_singleton, List.not_mem_nil, or_false, not_or]
          exact ⟨Nat.ne_of_lt (Nat.lt_succ_self _), Nat.ne_of_gt hlS⟩
        have hval : ∀ (i : Nat) (v : Value), items[i]? = some v → ∃ t, v = .str (xs.getD i Str.empty) t := fun i v hv => SS.strs_at hi i v (by rw [Array.getElem?_toList]; exact hv)
        refine turns ((Walks.list hh3 _ l hneI items).toS) s.heap.objs.size hSf xs hsz (by rw [← hsz]; exact hb) hval (items.size - 0) 0 _ (by omega) (Nat.zero_le _)
          ⟨⟨_, Heap.get?_push_size _ rfl, rfl, rfl⟩, (hl1.push _)⟩ ?hS0 ?hR
        case hS0 =>
          have hget := Heap.get?_push_of_some (h := s.heap.push (nw led)) { cls := .type "list_iterator", data := .fields #[.ref l, .int 0 0] } hS
          exact SetOf_congr ((setObjOf_fresh (knd := PySem.strKind prog w) led).setOf hget (by unfold scanBound; omega)) (fun _ => rfl) rfl
        case hR =>
          intro s' hm hS'
          obtain ⟨h', g', d', tk', os'⟩ := s'
          obtain rfl : g' = s.gens := hm.gens
          obtain rfl : d' = s.drawn := hm.drawn
          obtain rfl : os' = s.os := hm.os
          show wpAny _ _ _ _ _ _
          refine wpAny_pure ?_
          show wpAny _ _ (ret Value.none) _ _ _
          refine wpAny_pure ⟨rfl, h', tk', rfl, hS', fun b o hb' e => ?_⟩
          refine hm.heap b o ?_ (Heap.get?_push_of_some _ (Heap.get?_push_of_some _ e))
          simp only [List.mem_cons, List.mem_singleton, List.not_mem_nil, or_false, not_or, Heap.size_push]
          exact ⟨Nat.ne_of_lt hb', Nat.ne_of_lt (Nat.lt_succ_of_lt hb')⟩
      · cases r₂ with
        | error e => exact hr₂
        | ok fl₂ =>
          cases fl₂ with
          | ret r =>
            obtain ⟨rfl, h', tk, rfl, hS', hk'⟩ := hr₂
            repeat (any_goals (first | assumption | wp_step))
            unfold seen at hS'
            rw [htk] at hS'
            exact h _ _ hS' hk'
          | _ => exact hr₂.elim
    | _ => exact hr.elim
set_option maxHeartbeats 3200000 in
theorem set_tuple {l : Addr} {items : Array Value} {xs : List Str} {Q : Value → Shared → Prop} (hh : A.handled = none) (hl : s.heap.IsTuple l items) (hi : StrsAre items.toList xs) (hb : xs.length + 1 < scanBound)
    (h : ∀ (h' : Heap) (tk : Nat), h'.SetOf (PySem.strKind prog w) s.heap.objs.size (fun k' => (uqS xs).any (· == k')) (uqS xs).length → (∀ b o, b < s.heap.objs.size → s.heap.get? b = some o → h'.get? b = some o) → Q (.ref s.heap.objs.size) { s with heap := h', toks := tk }) :
    wpAny (model prog w) A (call (.type "set") [.ref l]) Q E s := by
  have hsz : xs.length = items.size := by rw [← StrsAre.len_eq hi, Array.length_toList]
  have htk : xs.take items.size = xs := List.take_of_length_le (by omega)
  obtain ⟨c, tl, hmro⟩ := PySem.F.called_set.mro
  have hmade := PySem.F.called_set.made
  have hsub := PySem.F.called_set.sub
  refine wpAny_call (codeAny_of_tree ?_)
  show wpAny _ _ (callAny (.type "set") _) _ _ _
  refine wpAny_pure ⟨Code.quiet_builtin _ (by decide +kernel), codeAny_builtin PySem.F.entry_type_call ?_⟩
  rw [Around.under_plain (weight_type_call_type "set" [.ref l] []) rfl]
  have h1 := PySem.F.called_set.notType
  have h2 := PySem.F.called_set.canCreate
  have hct := PySem.F.typeCall_set_1 (.ref l)
  repeat (any_goals (first | assumption | wp_step))
  refine codeAny_mono (code_set_new_1 (.ref l) (E := E) (Q₁ := fun obj s₁ => ∃ led : Bool, obj = .ref s.heap.objs.size ∧ s₁ = { s with heap := s.heap.push (nw led) }) fun led => ⟨led, rfl, rfl⟩) fun r s₁ hr => ?_
  cases r with
  | error e => exact hr
  | ok fl =>
    cases fl with
    | ret obj =>
      obtain ⟨led, rfl, rfl⟩ := hr
      have hS : (s.heap.push (nw led)).get? s.heap.objs.size = some (nw led) := Heap.get?_push_size _ rfl
      have hT : Shared.TypeIs { s with heap := s.heap.push (nw led) } (.ref s.heap.objs.size) "set" := ⟨_, hS, rfl⟩
      have hli := PySem.F.called_set.init.lookup
      have hbi := PySem.F.called_set.init.bind (.ref s.heap.objs.size)
      repeat (any_goals (first | assumption | wp_step))
      refine codeAny_mono (codeAny_call_builtin (R := wants (fun r s₂ => r = .none ∧ ∃ h' tk, s₂ = { s with heap := h', toks := tk } ∧
          h'.SetOf (PySem.strKind prog w) s.heap.objs.size (seen xs items.size) (uqS (xs.take items.size)).length ∧
          (∀ b o, b < s.heap.objs.size → s.heap.get? b = some o → h'.get? b = some o)) E) PySem.F.called_set.init.plain PySem.F.entry_set_init (check_set_init_1 hT ?_)) fun r₂ s₂ hr₂ => ?_
      · have hl1 : (s.heap.push (nw led)).IsTuple l items := hl.push _
        obtain ⟨⟨ocls, odict, odata, oslots⟩, hol', hcl, nl, hdl⟩ := id hl1
        simp only at hcl hdl
        subst hcl; subst hdl
        have hlS : l < s.heap.objs.size := by
          obtain ⟨o, ho, _⟩ := hl
          exact Heap.lt_size ho
        have hsls := PySem.F.sub_tuple_set
        have hslf := PySem.F.sub_tuple_frozenset
        have hne : (Value.type "tuple" == Value.type "dict") = false := by decide
        unfold Builtin.«set.__init__» noKeywords Builtin.Frozenset.updateFrom
        generalize hPI : pyIter = PI
        wp_walk
        subst hPI
        refine wpAny_pyIter_tuple hl1 ?_
        refine wpAny_bind (wpAny_runValue ?_)
        have hh3 : A.in1.in1.in1.handled = none := by simp [hh]
        have hneI : l ≠ (s.heap.push (nw led)).objs.size := by
          rw [Heap.size_push]; exact Nat.ne_of_lt (Nat.lt_succ_of_lt hlS)
        have hSf : s.heap.objs.size ∉ [(s.heap.push (nw led)).objs.size, l] := by
          rw [Heap.size_push]; simp only [List.mem_cons, List.mem_singleton, List.not_mem_nil, or_false, not_or]
          exact ⟨Nat.ne_of_lt (Nat.lt_succ_self _), Nat.ne_of_gt hlS⟩
        have hval : ∀ (i : Nat) (v : Value), items[i]? = some v → ∃ t, v = .str (xs.getD i Str.empty) t := fun i v hv => SS.strs_at hi i v (by rw [Array.getElem?_toList]; exact hv)
        refine turns ((Walks.tuple hh3 _ l hneI items).toS) s.heap.objs.size hSf xs hsz (by rw [← hsz]; exact hb) hval (items.size - 0) 0 _ (by omega) (Nat.zero_le _)
          ⟨⟨_, Heap.get?_push_size _ rfl, rfl, rfl⟩, (hl1.push _)⟩ ?hS0 ?hR
        case hS0 =>
          have hget := Heap.get?_push_of_some (h := s.heap.push (nw led)) { cls := .type "tuple_iterator", data := .fields #[.ref l, .int 0 0] } hS
          exact SetOf_congr ((setObjOf_fresh (knd := PySem.strKind prog w) led).setOf hget (by unfold scanBound; omega)) (fun _ => rfl) rfl
        case hR =>
          intro s' hm hS'
          obtain ⟨h', g', d', tk', os'⟩ := s'
          obtain rfl : g' = s.gens := hm.gens
          obtain rfl : d' = s.drawn := hm.drawn
          obtain rfl : os' = s.os := hm.os
          show wpAny _ _ _ _ _ _
          refine wpAny_pure ?_
          show wpAny _ _ (ret Value.none) _ _ _
          refine wpAny_pure ⟨rfl, h', tk', rfl, hS', fun b o hb' e => ?_⟩
          refine hm.heap b o ?_ (Heap.get?_push_of_some _ (Heap.get?_push_of_some _ e))
          simp only [List.mem_cons, List.mem_singleton, List.not_mem_nil, or_false, not_or, Heap.size_push]
          exact ⟨Nat.ne_of_lt hb', Nat.ne_of_lt (Nat.lt_succ_of_lt hb')⟩
      · cases r₂ with
        | error e => exact hr₂
        | ok fl₂ =>
          cases fl₂ with
          | ret r =>
            obtain ⟨rfl, h', tk, rfl, hS', hk'⟩ := hr₂
            repeat (any_goals (first | assumption | wp_step))
            unfold seen at hS'
            rw [htk] at hS'
            exact h _ _ hS' hk'
          | _ => exact hr₂.elim
    | _ => exact hr.elim
end
end NHSet
namespace NHSet
open PySem PySem.Spec PyProof.Rows L2
theorem one1_mono (l : List Str) (x : Str) : l.length ≤ (one1 l x).length := by
  rw [one1_len]; split <;> omega
theorem fold_mono : ∀ (m l : List Str), l.length ≤ (m.foldl one1 l).length
  | [], l => Nat.le_refl _
  | x :: m, l => Nat.le_trans (one1_mono l x) (fold_mono m _)
theorem uqS_take (xs : List Str) (i : Nat) : (uqS (xs.take i)).length ≤ (uqS xs).length := by
  have e : uqS xs = (xs.drop i).foldl one1 (uqS (xs.take i)) := by
    unfold uqS
    rw [← List.foldl_append, List.take_append_drop]
  rw [e]
  exact fold_mono _ _
section
variable (prog : Program) (w : World)
def skOf (e : Int × Value) : Str := match e.2 with
  | .str k _ => k
  | _ => Str.empty
def GoodS (e : Int × Value) : Prop := ∃ k tk, e.2 = Value.str k tk ∧ e.1 = (PySem.strKind prog w).hash k
def SetRS (h : Heap) (a : Addr) (S : Str → Bool) (n : Nat) : Prop :=
  ∃ o es ep t, h.get? a = some o ∧ o.ExactSet ∧ o.data = .set es ep t ∧ (∀ e ∈ es.toList, GoodS prog w e) ∧ (es.toList.map skOf).Nodup ∧ (∀ k, S k = true ↔ k ∈ es.toList.map skOf) ∧
    es.size < scanBound ∧ t.fits es.size = true ∧ es.size = n ∧ Ris t.place.toList ∧ (w.params.followText "set-order" = true ∨ t.led = true)
end
section
variable {prog : Program} {w : World} {A : Around} {E : Value → Shared → Prop} {s : Shared} {a : Addr} {S : Str → Bool} {n : Nat} {h : Heap}
theorem SetRS.congr2 {S' : Str → Bool} {n' : Nat} (r : SetRS prog w h a S n) (e : ∀ k, S k = S' k) (hn : n = n') : SetRS prog w h a S' n' := by
  have q : S = S' := funext e
  rw [← q, ← hn]; exact r
theorem goodS_is {e : Int × Value} (g : GoodS prog w e) (k : Str) : (PySem.strKind prog w).is k e.2 = true ↔ skOf e = k := by
  obtain ⟨k0, tk, h1, _⟩ := g
  unfold skOf
  rw [h1]
  show Value.isStrOf k (.str k0 tk) = true ↔ k0 = k
  unfold Value.isStrOf
  simp
  try exact eq_comm
theorem goodS_el {l : List (Int × Value)} (g : ∀ e ∈ l, GoodS prog w e) : ElemsOf (PySem.strKind prog w) l := fun e he => by
  obtain ⟨k, tk, h1, h2⟩ := g e he
  refine ⟨⟨k, (goodS_is (g e he) k).2 ?_, h2⟩, by rw [h1]; rfl⟩
  unfold skOf
  rw [h1]
theorem goodS_mem {l : List (Int × Value)} (g : ∀ e ∈ l, GoodS prog w e) (k : Str) : k ∈ l.map skOf ↔ ∃ e ∈ l, (PySem.strKind prog w).is k e.2 = true := by
  rw [List.mem_map]
  exact ⟨fun ⟨e, he, q⟩ => ⟨e, he, (goodS_is (g e he) k).2 q⟩, fun ⟨e, he, q⟩ => ⟨e, he, (goodS_is (g e he) k).1 q⟩⟩
theorem setRS_lay {g : Bool → Sem Unit} (hg : ∀ (b : Bool) (s₁ : Shared) (Q' : Unit → Shared → Prop), Q' () s₁ → wpAny (model prog w) A (g b) Q' E s₁)
    {o : Obj} {es : Array (Int × Value)} {ep : Nat} {t : SetTable} (ho : s.heap.get? a = some o) (hex : o.ExactSet) (hd : o.data = .set es ep t)
    {es1 : Array (Int × Value)} {t2 : SetTable} {S' : Str → Bool} (g1 : ∀ e ∈ es1.toList, GoodS prog w e) (nd1 : (es1.toList.map skOf).Nodup) (m1 : ∀ k, S' k = true ↔ k ∈ es1.toList.map skOf)
    (hb1 : es1.size < scanBound) (hf2 : t2.fits es1.size = true) (hr : Ris t2.place.toList) (hl : w.params.followText "set-order" = true ∨ t2.led = true) {wasDummy : Bool} {R : Option Bool → Shared → Prop}
    (hR : ∀ h', Heap.SameBut a s.heap h' → SetRS prog w h' a S' es1.size → R (some true) { s with heap := h' }) :
    wpAny (model prog w) A (do
        storeSet a es1 t2
        if (!wasDummy && t2.tooFull) = true then do
            g (relayAll t2 es1 (SetTable.grown es1.size)).2.2
            storeSet a (relayAll t2 es1 (SetTable.grown es1.size)).1 (relayAll t2 es1 (SetTable.grown es1.size)).2.1
            pure (some true)
          else pure (some true)) R E s := by
  refine wpAny_bind (wpAny_storeSet_of ho hd ?_ (fits_of_scanBound hb1))
  have ho1 := store_at (es' := es1) (t' := t2) ho hd
  have sb1 := Heap.SameBut.update s.heap a (Obj.putSet es1 t2)
  split
  · have pm := relayAll_perm t2 es1 (SetTable.grown es1.size)
    have hf3 := relayAll_fits t2 es1 (SetTable.grown es1.size)
    have hr3 := relayAll_ris t2 es1 (SetTable.grown es1.size)
    have hl3 := relayAll_led t2 es1 (SetTable.grown es1.size)
    generalize relayAll t2 es1 (SetTable.grown es1.size) = Z at pm hf3 hr3 hl3 ⊢
    obtain ⟨es2, t3, gave⟩ := Z
    dsimp only at pm hf3 hr3 hl3 ⊢
    have hsz : es2.size = es1.size := by rw [← Array.length_toList, pm.length_eq, Array.length_toList]
    have hb2 : es2.size < scanBound := by rw [hsz]; exact hb1
    refine wpAny_bind (hg _ _ _ ?_)
    refine wpAny_bind (wpAny_storeSet_of ho1 rfl ?_ (fits_of_scanBound hb2))
    have ho2 := store_at (es' := es2) (t' := t3) ho1 rfl
    refine wpAny_pure (hR _ (sb1.trans (Heap.SameBut.update _ a _)) ⟨_, es2, _, t3, ho2, hex, rfl, fun e he => g1 e (pm.mem_iff.mp he), (pm.map skOf).nodup_iff.mpr nd1, fun k => (m1 k).trans (pm.map skOf).mem_iff.symm, hb2, hf3, hsz, hr3, ?_⟩)
    exact hl.imp id fun z => by rw [hl3]; exact z
  · exact wpAny_pure (hR _ sb1 ⟨_, es1, _, t2, ho1, hex, rfl, g1, nd1, m1, hb1, hf2, rfl, hr, hl⟩)
theorem setRS_add_hashed {k : Str} {tk : Tok} {Q : Bool → Shared → Prop} (R : SetRS prog w s.heap a S n) (room : n + 1 < scanBound)
    (hQ : ∀ h', Heap.SameBut a s.heap h' → SetRS prog w h' a (fun j => S j || decide (j = k)) (if S k = true then n else n + 1) → Q (!S k) { s with heap := h' }) :
    wpAny (model prog w) A (setAddHashed a (.str k tk) ((PySem.strKind prog w).hash k)) Q E s := by
  obtain ⟨o, es, ep, t, ho, hex, hd, g, nd, hm, hb, hf, hn, hr, hl⟩ := R
  have hkey : (PySem.strKind prog w).is k (.str k tk) = true := strKind_is prog w k tk
  have hsc : (Value.str k tk).scannable = true := rfl
  have hel : ElemsOf (PySem.strKind prog w) es.toList := goodS_el g
  unfold setAddHashed setAddHashedIn
  refine wpAny_holding (wpAny_bind (wpAny_setState_of ho hd hf ?_))
  dsimp only
  rw [byScan_of hsc hb hel]
  simp only [↓reduceIte]
  unfold setAddByScan
  refine wpAny_bind ?_
  refine wpAny_bind (wpAny_rule ?_)
  refine wpAny_bind (wpAny_setScan_of hkey ho hd hf hel ?_)
  cases hfi : List.findIdx? (fun e => (PySem.strKind prog w).is k e.2) es.toList with
  | some j =>
    dsimp only
    obtain ⟨hj, pj, _⟩ := List.findIdx?_eq_some_iff_getElem.mp hfi
    have hSk : S k = true := (hm k).2 ((goodS_mem g k).2 ⟨es.toList[j], List.getElem_mem hj, pj⟩)
    refine wpAny_pure (wpAny_pure ?_)
    have q := hQ s.heap (Heap.SameBut.refl a s.heap) ⟨o, es, ep, t, ho, hex, hd, g, nd, fun i => by
      rw [Bool.or_eq_true, decide_eq_true_eq, ← hm i]
      exact ⟨fun z => z.elim id (fun e => e ▸ hSk), .inl⟩, hb, hf, by rw [if_pos hSk]; exact hn, hr, hl⟩
    rw [hSk] at q
    exact q
  | none =>
    dsimp only
    have hnk : k ∉ es.toList.map skOf := fun z => by
      obtain ⟨e, he, q⟩ := (goodS_mem g k).1 z
      have c := List.findIdx?_eq_none_iff.mp hfi e he
      rw [q] at c
      cases c
    have hSk : S k = false := by
      cases q : S k with
      | false => rfl
      | true => exact absurd ((hm k).1 q) hnk
    have hgw : ∀ (b : Bool) {s₁ : Shared} {Q' : Unit → Shared → Prop}, Q' () s₁ → wpAny (model prog w) A (match b with | true => rule "set.scan.the-table-gave-way" | false => pure ()) Q' E s₁ :=
      fun b s₁ Q' q => by cases b <;> first | exact wpAny_pure q | exact wpAny_rule q
    have pm := layNew_perm t es ((PySem.strKind prog w).hash k) (.str k tk)
    have hf1 := layNew_fits t es ((PySem.strKind prog w).hash k) (.str k tk)
    have hr1 := layNew_ris t es ((PySem.strKind prog w).hash k) (.str k tk) hr
    have hl1 := layNew_led t es ((PySem.strKind prog w).hash k) (.str k tk)
    generalize layNew t es ((PySem.strKind prog w).hash k) (.str k tk) = Z at pm hf1 hr1 hl1 ⊢
    obtain ⟨es1, t1, wasDummy, gave⟩ := Z
    dsimp only at pm hf1 hr1 hl1 ⊢
    rw [Array.toList_push] at pm
    have pc : es1.toList.Perm (((PySem.strKind prog w).hash k, Value.str k tk) :: es.toList) := pm.trans (List.perm_append_singleton _ _)
    have pk : (es1.toList.map skOf).Perm (k :: es.toList.map skOf) := pc.map skOf
    have g1 : ∀ e ∈ es1.toList, GoodS prog w e := fun e he => by
      rcases List.mem_cons.mp (pc.mem_iff.mp he) with z | z
      · rw [z]; exact ⟨k, tk, rfl, rfl⟩
      · exact g e z
    have nd1 : (es1.toList.map skOf).Nodup := pk.nodup_iff.mpr (List.nodup_cons.mpr ⟨hnk, nd⟩)
    have m1 : ∀ i, (S i || decide (i = k)) = true ↔ i ∈ es1.toList.map skOf := fun i => by
      rw [Bool.or_eq_true, decide_eq_true_eq, hm i, pk.mem_iff, List.mem_cons]
      exact Or.comm
    have hsz : es1.size = n + 1 := by rw [← Array.length_toList, pc.length_eq, List.length_cons, Array.length_toList, hn]
    have hb1 : es1.size < scanBound := by rw [hsz]; exact room
    have hled : w.params.followText "set-order" = true ∨ t1.led = true := hl.imp id fun z => by rw [hl1]; exact z
    have fin : ∀ h', Heap.SameBut a s.heap h' → SetRS prog w h' a (fun j => S j || decide (j = k)) es1.size → Q true { s with heap := h' } := fun h' sb r => by
      have q := hQ h' sb
      rw [hSk] at q
      rw [hsz] at r
      exact q r
    refine wpAny_bind (hgw _ ?_)
    split
    · refine wpAny_bind ?_
      rw [hashByValue_scannable 8 hsc]
      refine wpAny_pure ?_
      refine setRS_lay ?_ ho hex hd g1 nd1 m1 hb1 ?_ ?_ ?_ ?_
      · intro b s₁ Q' q; cases b <;> first | exact wpAny_pure q | exact wpAny_rule q
      · first | (split <;> first | exact hf1 | exact SetTable.fits_plain_off hf1) | exact hf1
      · first | (split <;> exact hr1) | exact hr1
      · first | (split <;> exact hled) | exact hled
      · intro h' sb r; dsimp only; exact wpAny_pure (fin h' sb r)
    · refine wpAny_bind (wpAny_pure ?_)
      simp only [↓reduceIte]
      refine setRS_lay ?_ ho hex hd g1 nd1 m1 hb1 hf1 hr1 hled ?_
      · intro b s₁ Q' q; cases b <;> first | exact wpAny_pure q | exact wpAny_rule q
      · intro h' sb r; dsimp only; exact wpAny_pure (fin h' sb r)
end
section
variable {prog : Program} {w : World} {A : Around} {R : Result → Shared → Prop} {I : Addr} {fp wr : List Addr} {G : Array GenState → Array GenState → Prop} {n : Nat} {P : Nat → Value → Prop} {St : Nat → Shared → Prop}
theorem turnsR (W : WalksS prog w A.in1 I fp wr G n P St) (S : Addr) (hSf : S ∉ fp) (xs : List Str) (hsz : xs.length = n) (hb : (uqS xs).length + 1 < scanBound) (hval : ∀ i v, P i v → ∃ t, v = .str (xs.getD i Str.empty) t) :
    ∀ (k i : Nat) (s : Shared), n - i = k → i ≤ n → St i s → SetRS prog w s.heap S (seen xs i) (uqS (xs.take i)).length →
      (∀ s', Moved (S :: wr) G s s' → SetRS prog w s'.heap S (seen xs n) (uqS (xs.take n)).length → R (.ok (.ret .none)) s') →
      codeAny (model prog w) A (.builtin "set.update.loop" ⟨[.ref S, .ref I], []⟩) R s := by
  have hSw : S ∉ wr := fun h => hSf (W.sub _ h)
  have up : ∀ b ∈ wr, b ∈ S :: wr := fun b m => List.mem_cons_of_mem _ m
  intro k
  induction k with
  | zero =>
    intro i s hk hi hst hS hR
    obtain rfl : i = n := by omega
    refine codeAny_builtin PyProof.Rows.F.entry_set_update_loop ?_
    rw [Around.under_plainId PyProof.Rows.F.plain_set_update_loop _]
    show wpAny _ A.in1 (pyNext (.ref I) >>= _) _ _ s
    refine wpAny_bind (W.done s _ _ hst fun s' hm => ?_)
    show wpAny _ A.in1 (ret Value.none) _ _ s'
    obtain ⟨o, es, ep, t, ho, more⟩ := hS
    exact wpAny_pure (hR s' (hm.mono up) ⟨o, es, ep, t, hm.heap S _ hSw ho, more⟩)
  | succ k ih =>
    intro i s hk hi hst hS hR
    have hlt : i < n := by omega
    refine codeAny_builtin PyProof.Rows.F.entry_set_update_loop ?_
    rw [Around.under_plainId PyProof.Rows.F.plain_set_update_loop _]
    show wpAny _ A.in1 (pyNext (.ref I) >>= _) _ _ s
    refine wpAny_bind (W.item i s _ _ hlt hst fun v s' hP hst' hm => ?_)
    obtain ⟨t, rfl⟩ := hval i v hP
    have hS' : SetRS prog w s'.heap S (seen xs i) (uqS (xs.take i)).length := by
      obtain ⟨o, es, ep, tb, ho, more⟩ := hS
      exact ⟨o, es, ep, tb, hm.heap S _ hSw ho, more⟩
    show wpAny _ A.in1 (holding [Value.str (xs.getD i Str.empty) t] (setAdd S (.str (xs.getD i Str.empty) t)) >>= _) _ _ s'
    refine wpAny_bind (wpAny_holding ?_)
    unfold setAdd
    refine wpAny_holding ?_
    refine wpAny_bind ((PySem.strKind prog w).pyHash (k := xs.getD i Str.empty) (strKind_is _ _ _ _) ?_)
    have hroom : (uqS (xs.take i)).length + 1 < scanBound := by
      have h1 := uqS_take xs i
      omega
    refine setRS_add_hashed (s := { s' with toks := s'.toks + 1 }) hS' hroom fun h' hsb hS2 => ?_
    have et := take_succ' (l := xs) (i := i) (by omega)
    have hSi : SetRS prog w h' S (seen xs (i + 1)) (uqS (xs.take (i + 1))).length :=
      SetRS.congr2 hS2 (fun k' => by show _ = (uqS (xs.take (i + 1))).any (· == k'); rw [et, uqS_snoc, one1_any]) (by rw [et, uqS_snoc, one1_len])
    refine wpAny_pure ⟨plainId_quiet PyProof.Rows.F.plain_set_update_loop _, ih (i + 1) _ (by omega) hlt (W.frame _ s' _ _ hst' (Nat.le_succ _) fun b hb' o e => ?_) hSi fun s'' hm'' hS'' => ?_⟩
    · rw [hsb.2 b (fun h : b = S => hSf (by rw [← h]; exact hb'))]; exact e
    · refine hR s'' (Moved.trans W.gtrans ((hm.mono up).then_heap (Nat.le_succ _) fun b o hb' e => ?_) hm'') hS''
      rw [hsb.2 b (fun h : b = S => hb' (by rw [h]; exact List.mem_cons_self))]; exact e
end
section
variable {prog : Program} {w : World} {A : Around} {E : Value → Shared → Prop} {s : Shared}
set_option maxHeartbeats 3200000 in
theorem set_listR {l : Addr} {items : Array Value} {xs : List Str} {Q : Value → Shared → Prop} (hh : A.handled = none) (hl : s.heap.IsList l items) (hi : StrsAre items.toList xs) (hb : (uqS xs).length + 1 < scanBound)
    (h : ∀ (h' : Heap) (tk : Nat), SetRS prog w h' s.heap.objs.size (fun k' => (uqS xs).any (· == k')) (uqS xs).length → (∀ b o, b < s.heap.objs.size → s.heap.get? b = some o → h'.get? b = some o) → Q (.ref s.heap.objs.size) { s with heap := h', toks := tk }) :
    wpAny (model prog w) A (call (.type "set") [.ref l]) Q E s := by
  have hsz : xs.length = items.size := by rw [← StrsAre.len_eq hi, Array.length_toList]
  have htk : xs.take items.size = xs := List.take_of_length_le (by omega)
  obtain ⟨c, tl, hmro⟩ := PySem.F.called_set.mro
  have hmade := PySem.F.called_set.made
  have hsub := PySem.F.called_set.sub
  refine wpAny_call (codeAny_of_tree ?_)
  show wpAny _ _ (callAny (.type "set") _) _ _ _
  refine wpAny_pure ⟨Code.quiet_builtin _ (by decide +kernel), codeAny_builtin PySem.F.entry_type_call ?_⟩
  rw [Around.under_plain (weight_type_call_type "set" [.ref l] []) rfl]
  have h1 := PySem.F.called_set.notType
  have h2 := PySem.F.called_set.canCreate
  have hct := PySem.F.typeCall_set_1 (.ref l)
  repeat (any_goals (first | assumption | wp_step))
  refine codeAny_mono (code_set_led1 (.ref l) (E := E) (Q₁ := fun obj s₁ => ∃ led : Bool, led = (!w.params.followText "set-order") ∧ obj = .ref s.heap.objs.size ∧ s₁ = { s with heap := s.heap.push (nw led) }) ⟨_, rfl, rfl, rfl⟩) fun r s₁ hr => ?_
  cases r with
  | error e => exact hr
  | ok fl =>
    cases fl with
    | ret obj =>
      obtain ⟨led, hled, rfl, rfl⟩ := hr
      have hS : (s.heap.push (nw led)).get? s.heap.objs.size = some (nw led) := Heap.get?_push_size _ rfl
      have hT : Shared.TypeIs { s with heap := s.heap.push (nw led) } (.ref s.heap.objs.size) "set" := ⟨_, hS, rfl⟩
      have hli := PySem.F.called_set.init.lookup
      have hbi := PySem.F.called_set.init.bind (.ref s.heap.objs.size)
      repeat (any_goals (first | assumption | wp_step))
      refine codeAny_mono (codeAny_call_builtin (R := wants (fun r s₂ => r = .none ∧ ∃ h' tk, s₂ = { s with heap := h', toks := tk } ∧
          SetRS prog w h' s.heap.objs.size (seen xs items.size) (uqS (xs.take items.size)).length ∧
          (∀ b o, b < s.heap.objs.size → s.heap.get? b = some o → h'.get? b = some o)) E) PySem.F.called_set.init.plain PySem.F.entry_set_init (check_set_init_1 hT ?_)) fun r₂ s₂ hr₂ => ?_
      · have hl1 : (s.heap.push (nw led)).IsList l items := hl.push _
        obtain ⟨⟨ocls, odict, odata, oslots⟩, hol', hcl, nl, hdl⟩ := id hl1
        simp only at hcl hdl
        subst hcl; subst hdl
        have hlS : l < s.heap.objs.size := by
          obtain ⟨o, ho, _⟩ := hl
          exact Heap.lt_size ho
        have hsls := PySem.F.sub_list_set
        have hslf := PySem.F.sub_list_frozenset
        have hne : (Value.type "list" == Value.type "dict") = false := by decide
        unfold Builtin.«set.__init__» noKeywords Builtin.Frozenset.updateFrom
        generalize hPI : pyIter = PI
        wp_walk
        subst hPI
        refine wpAny_pyIter_list hl1 ?_
        refine wpAny_bind (wpAny_runValue ?_)
        have hh3 : A.in1.in1.in1.handled = none := by simp [hh]
        have hneI : l ≠ (s.heap.push (nw led)).objs.size := by
          rw [Heap.size_push]; exact Nat.ne_of_lt (Nat.lt_succ_of_lt hlS)
        have hSf : s.heap.objs.size ∉ [(s.heap.push (nw led)).objs.size, l] := by
          rw [Heap.size_push]; simp only [List.mem_cons, List.mem_singleton, List.not_mem_nil, or_false, not_or]
          exact ⟨Nat.ne_of_lt (Nat.lt_succ_self _), Nat.ne_of_gt hlS⟩
        have hval : ∀ (i : Nat) (v : Value), items[i]? = some v → ∃ t, v = .str (xs.getD i Str.empty) t := fun i v hv => SS.strs_at hi i v (by rw [Array.getElem?_toList]; exact hv)
        refine turnsR ((Walks.list hh3 _ l hneI items).toS) s.heap.objs.size hSf xs hsz hb hval (items.size - 0) 0 _ (by omega) (Nat.zero_le _)
          ⟨⟨_, Heap.get?_push_size _ rfl, rfl, rfl⟩, (hl1.push _)⟩ ?hS0 ?hR
        case hS0 =>
          have hget := Heap.get?_push_of_some (h := s.heap.push (nw led)) { cls := .type "list_iterator", data := .fields #[.ref l, .int 0 0] } hS
          refine ⟨_, #[], 0, _, hget, ⟨rfl, rfl, rfl⟩, rfl, (fun e he => by simp at he), (by simp), (fun k => by simp [uqS]), (by decide), (by rfl), rfl, List.Pairwise.nil, ?_⟩
          show _ ∨ led = true
          rw [hled]
          cases w.params.followText "set-order"
          · exact .inr rfl
          · exact .inl rfl
        case hR =>
          intro s' hm hS'
          obtain ⟨h', g', d', tk', os'⟩ := s'
          obtain rfl : g' = s.gens := hm.gens
          obtain rfl : d' = s.drawn := hm.drawn
          obtain rfl : os' = s.os := hm.os
          show wpAny _ _ _ _ _ _
          refine wpAny_pure ?_
          show wpAny _ _ (ret Value.none) _ _ _
          refine wpAny_pure ⟨rfl, h', tk', rfl, hS', fun b o hb' e => ?_⟩
          refine hm.heap b o ?_ (Heap.get?_push_of_some _ (Heap.get?_push_of_some _ e))
          simp only [List.mem_cons, List.mem_singleton, List.not_mem_nil, or_false, not_or, Heap.size_push]
          exact ⟨Nat.ne_of_lt hb', Nat.ne_of_lt (Nat.lt_succ_of_lt hb')⟩
      · cases r₂ with
        | error e => exact hr₂
        | ok fl₂ =>
          cases fl₂ with
          | ret r =>
            obtain ⟨rfl, h', tk, rfl, hS', hk'⟩ := hr₂
            repeat (any_goals (first | assumption | wp_step))
            unfold seen at hS'
            rw [htk] at hS'
            exact h _ _ hS' hk'
          | _ => exact hr₂.elim
    | _ => exact hr.elim
theorem strs_all : ∀ (l : List (Int × Value)), (∀ e ∈ l, GoodS prog w e) → StrsAre (l.map (·.2)) (l.map skOf)
  | [], _ => .nil
  | e :: l, h => by
    obtain ⟨k, tk, h1, _⟩ := h e List.mem_cons_self
    have e2 : skOf e = k := by unfold skOf; rw [h1]
    rw [List.map_cons, List.map_cons, e2, h1]
    exact .cons k tk (strs_all l fun u hu => h u (List.mem_cons_of_mem _ hu))
def vS (v : Value) : Str := match v with
  | .str k _ => k
  | _ => Str.empty
theorem strs_perm (l : List Value) (h : ∀ v ∈ l, ∃ k tk, v = Value.str k tk) : StrsAre l (l.map vS) := by
  induction l with
  | nil => exact .nil
  | cons v l ih =>
    obtain ⟨k, tk, rfl⟩ := h v List.mem_cons_self
    exact .cons k tk (ih fun u hu => h u (List.mem_cons_of_mem _ hu))
theorem sorted_setRS {a : Addr} {S : Str → Bool} {n : Nat} {Q : Value → Shared → Prop} (R : SetRS prog w s.heap a S n) (hh : A.handled = none) (h64 : n < 64)
    (hQ : ∀ s' p (out : Array Value) (c : Nat) (ys : List Str), (∀ b o, s.heap.get? b = some o → s'.heap.get? b = some o) → s'.gens = s.gens → s'.os = s.os → s.heap.objs.size ≤ p →
      s'.heap.get? p = some (seqObj "list" out c) → StrsAre out.toList ys → sortedS ys = true → ys.Nodup → (∀ k, k ∈ ys ↔ S k = true) → ys.length = n → Q (.ref p) s') :
    wpAny (model prog w) A (call (.builtin "sorted") [.ref a]) Q E s := by
  obtain ⟨o, es, ep, t, ho, hex, hd, g, nd, hm, hb, hf, hn, hr, hl⟩ := R
  refine Calls.call_function_entry PyProof.Rows.kind_sorted PyProof.Rows.plain_sorted PyProof.Rows.entry_sorted (PyProof.Rows.args_sorted1 _) ?_
  unfold Builtin.«sorted»
  refine wpAny_bind (m := checkCount "sorted" 1 1 _) (wpAny_pure ?_)
  refine wpAny_bind (collect_set (A := A.in1) hh ⟨o, ho, hex.1, hd⟩ hf hb hr hl fun s1 vs k1 hz g1 o1 pm => ?_)
  have hvl : vs.length = n := by rw [pm.length_eq, List.length_map, Array.length_toList]; exact hn
  have hS : StrsAre vs (vs.map vS) := strs_perm vs fun v hv => by
    obtain ⟨e, he, q⟩ := List.mem_map.mp (pm.mem_iff.mp hv)
    obtain ⟨k, tk, h1, _⟩ := g e he
    exact ⟨k, tk, by rw [← q]; exact h1⟩
  have pk : (vs.map vS).Perm (es.toList.map skOf) := by
    have q := pm.map vS
    rw [List.map_map] at q
    have e : es.toList.map skOf = es.toList.map (vS ∘ fun x => x.2) := List.map_congr_left fun e he => rfl
    rw [e]
    exact q
  refine wpAny_bind (wpAny_newList ?_ (by rw [hvl, sizeLine_eq]; omega))
  have hoL : (s1.heap.push (seqObj "list" vs.toArray 0)).get? s1.heap.objs.size = some (seqObj "list" vs.toArray 0) := Heap.get?_push_size _ rfl
  refine wpAny_bind (wpAny_holding (wpAny_call_entry PyProof.Rows.slot_list_sort ⟨_, hoL, rfl⟩ PyProof.Rows.entry_list_sort
    (list_sort_treeK strKind_oneLt hoL hS.keysOf (fun v₁ v₂ rest e => keyKind_strs (by rw [← e]; exact hS)) (by rw [hvl]; exact h64) fun st' hp hs => ⟨_, rfl, ?_⟩)
    (PyProof.Rows.args_list_sort _)))
  obtain ⟨ys, a1, a2, a3⟩ := sorted_out_str hS hp hs
  obtain ⟨c, hc⟩ := PyProof.Rows.sortedHeap_at (vs := vs) (out := (arrOf st').map (·.2)) hoL
  have pn : ys.Perm (es.toList.map skOf) := a2.trans pk
  refine wpAny_pure ⟨_, rfl, hQ _ s1.heap.objs.size ((arrOf st').map (·.2)) c ys (fun b u e => ?_) g1 o1 hz hc a1 a3 (pn.nodup_iff.mpr nd) (fun k => by rw [pn.mem_iff, ← hm k]) ?_⟩
  · have q := k1 b u e
    have hlt := Heap.lt_size q
    show (PyProof.Rows.sortedHeap (s1.heap.push (seqObj "list" vs.toArray 0)) s1.heap.objs.size vs _).get? b = some u
    rw [PyProof.Rows.sortedHeap_old (Nat.ne_of_lt hlt) (by rw [size_push']; exact Nat.lt_succ_of_lt hlt)]
    exact Heap.get?_push_of_some _ q
  · rw [pn.length_eq, List.length_map, Array.length_toList]; exact hn
end
end NHSet
namespace NH
variable [W : TheW]
open PySem L2
def Ty.s : Ty → String
  | .str => "str" | .int => "int" | .bool => "bool" | .tuple => "tuple" | .list => "list" | .dict => "dict"
def tyN : P → String
  | .non => "NoneType" | .bl _ => "bool" | .int _ => "int" | .str _ => "str" | .tup _ => "tuple" | .lst _ => "list" | .dic _ => "dict"
def oN : Option Ty → String
  | none => "NoneType"
  | some t => t.s
def isO (o : Option Ty) (t : Ty) : Bool := match o, t with
  | some .bool, .int => true
  | some s, t => decide (s = t)
  | none, _ => false
theorem kit_o : ∀ (o : Option Ty) (t : Ty), kitB (oN o) t.s = some (isO o t)
  | none, t => by cases t <;> decide +kernel
  | some .str, t => by cases t <;> decide +kernel
  | some .int, t => by cases t <;> decide +kernel
  | some .bool, t => by cases t <;> decide +kernel
  | some .tuple, t => by cases t <;> decide +kernel
  | some .list, t => by cases t <;> decide +kernel
  | some .dict, t => by cases t <;> decide +kernel
theorem tyN_o (p : P) : tyN p = oN (tyOf p) := by cases p <;> rfl
theorem isTy_o (p : P) (t : Ty) : isTy p t = isO (tyOf p) t := rfl
theorem kit_of_ty (p : P) (t : Ty) : kitB (tyN p) t.s = some (isTy p t) := by
  rw [tyN_o, isTy_o]; exact kit_o _ t
section
variable {K : PySem.W.Frag} {U : Addr → Prop} {H : Hp}
theorem tyX_of {p : P} {v : V} (r : Top K U H p v) : TyX K H v (.type (tyN p)) := by
  cases p with
  | non => rw [show v = _ from r]; exact .base .non
  | bl b => rw [show v = _ from r]; exact .base (.bl b)
  | int b => rw [show v = _ from r]; exact .base (.int b)
  | str b => rw [show v = _ from r]; exact .base (.str _)
  | tup l =>
    obtain ⟨a, vs, rfl, h, _⟩ := r
    rcases h with (h | ⟨o, h⟩) | ⟨o, _, _, h1, h2, _⟩
    · exact .base (.tup h)
    · exact .fTuple h
    · exact .kTuple h1 h2
  | lst l =>
    obtain ⟨a, vs, rfl, h, _⟩ := r
    rcases h with (h | ⟨o, h⟩) | ⟨o, _, _, h1, h2, _⟩
    · exact .base (.lst h)
    · exact .base (.frz h)
    · exact .kList h1 h2
  | dic l =>
    obtain ⟨a, vs, rfl, h, _⟩ := r
    rcases h with h | ⟨o, h⟩
    · exact .base (.dK h)
    · exact .fDict h
theorem kitAny_of {p : P} : ∀ ts : List Ty, PySem.W.kitAny K (.type (tyN p)) (ts.map fun t => Value.type t.s) = some (ts.any (isTy p))
  | [] => kitAny_nil
  | t :: ts => by
    refine kitAny_cons (b := isTy p t) (kit_ty (kit_of_ty p t)) (fun h => ?_) fun h => ?_
    · rw [List.any_cons, h]; exact kitAny_of ts
    · rw [List.any_cons, h]; rfl
theorem clsV_all : ∀ ts : List Ty, Paired ClsV (ts.map fun t => V.ty t.s) (ts.map fun t => Value.type t.s)
  | [] => .nil
  | t :: ts => .cons (.ty _) (clsV_all ts)
end
section
variable {I : Inf} {T : Nat → Option Fn} {n : Nat} {S : Sx} {X : Cx} {C : Calls} {cs : CEs} {c : CE} {e : Expr} {es : List Expr} {p p2 pos : Pos} {x : Str}
theorem boot_ty (t : Ty) : bootBuiltins t.s = some (.type t.s) := by cases t <;> decide +kernel
theorem pe_ty (G : Good I T n S X) {t : Ty} (B : Bl I S t.s) : PE X (.Name t.s p) (tC (.ty t.s)) :=
  pe_bltn (gl_of G B.g) (G.bl _ B.b) (boot_ty t) rfl (nodbg_of B.d).2 (nodbg_of B.d).1
theorem s_isi1 (G : Good I T n S X) (B : Bl I S "isinstance") {t : Ty} (Bt : Bl I S t.s) (he : PE X e (tE X.K C c)) (hs : starB e = true) :
    PE X (.Call (.Name "isinstance" p) [e, .Name t.s p2] [] pos) (tE X.K C (.bi (.isi [t]) (.cons c .nil))) := by
  refine PE.weak (pe_callB call_isi (gl_of G B.g) (G.bl _ B.b) (by decide +kernel) (pa_cons he (pa_cons (pe_ty G Bt) pa_nil) (star_of hs)) (nodbg_of B.d).2 (nodbg_of B.d).1 (star_of hs) rfl) fun σ H Q h => ?_
  obtain ⟨Z, M, st, δ, d, st', sr, er, ev, k⟩ := h
  obtain ⟨ds, st1, e1, ev⟩ := R.bind_eq_ok ev
  obtain ⟨y, st2, e2, e3⟩ := R.bind_eq_ok e1
  obtain ⟨ds2, st3, e4, e5⟩ := R.bind_eq_ok e3
  cases e4
  cases e5
  obtain ⟨ev2, rfl⟩ := lift_eq_ok ev
  obtain ⟨ps, hps, ev3⟩ := Option.bind_eq_some_iff.mp ev2
  obtain ⟨r, hr, rfl⟩ := Option.map_eq_some_iff.mp ev3
  refine one sr er e2 fun v M2 H2 f2 s2 r2 => ?_
  rw [if_neg (by simp)] at hps
  simp only [rds] at hps
  split at hps
  · rename_i q l hq hl
    cases hl
    cases hps
    cases hr
    exact ⟨v, _, _, _, _, rfl, .ty _, tyX_of (rd_top s2 r2 hq), kit_ty (kit_of_ty q t), k _ M2 H2 f2 s2 (by simp [RelD, RelP])⟩
  · cases hps
def tyNames : List Expr → List Ty → Bool
  | [], [] => true
  | .Name x _ :: es, t :: ts => x == (Str.ofString t.s) && tyNames es ts
  | _, _ => false
theorem tyNames_star {env : PySem.Env} : ∀ {es : List Expr} {ts : List Ty}, tyNames es ts = true → plainEs es = true
  | [], [], _ => rfl
  | .Name x _ :: es, t :: ts, h => by
    simp only [tyNames, Bool.and_eq_true] at h
    simp only [plainEs, starB, Bool.true_and]
    exact tyNames_star (env := env) h.2
def tTys (ts : List Ty) : TA := fun _ H Q => Q (ts.map fun t => V.ty t.s) H
theorem pa_tys (G : Good I T n S X) : ∀ {es : List Expr} {ts : List Ty}, tyNames es ts = true → (∀ t ∈ ts, Bl I S t.s) → PA X es (tTys ts)
  | [], [], _, _ => pa_nil
  | .Name x q :: es, t :: ts, h, B => by
    simp only [tyNames, Bool.and_eq_true, beq_iff_eq] at h
    obtain ⟨rfl, h2⟩ := h
    exact PA.weak (pa_cons (pe_ty G (B t List.mem_cons_self)) (pa_tys G h2 fun t' ht => B t' (List.mem_cons_of_mem _ ht)) rfl) fun σ H Q q => q
theorem s_isiN (G : Good I T n S X) (B : Bl I S "isinstance") {ts : List Ty} {k1 : Nat} (Bt : ∀ t ∈ ts, Bl I S t.s) (hn : tyNames es ts = true) (hl : ts.length ≤ 100) (he : PE X e (tE X.K C c)) (hs : starB e = true) :
    PE X (.Call (.Name "isinstance" p) [e, .Tuple es k1 p2] [] pos) (tE X.K C (.bi (.isi ts) (.cons c .nil))) := by
  refine PE.weak (pe_callB call_isiT (gl_of G B.g) (G.bl _ B.b) (by decide +kernel) (pa_cons he (pa_cons (pe_tup (pa_tys G hn Bt)) pa_nil) (star_of hs)) (nodbg_of B.d).2 (nodbg_of B.d).1 (star_of hs) rfl) fun σ H Q h => ?_
  obtain ⟨Z, M, st, δ, d, st', sr, er, ev, k⟩ := h
  obtain ⟨ds, st1, e1, ev⟩ := R.bind_eq_ok ev
  obtain ⟨y, st2, e2, e3⟩ := R.bind_eq_ok e1
  obtain ⟨ds2, st3, e4, e5⟩ := R.bind_eq_ok e3
  cases e4
  cases e5
  obtain ⟨ev2, rfl⟩ := lift_eq_ok ev
  obtain ⟨ps, hps, ev3⟩ := Option.bind_eq_some_iff.mp ev2
  obtain ⟨r, hr, rfl⟩ := Option.map_eq_some_iff.mp ev3
  refine one sr er e2 fun v M2 H2 f2 s2 r2 => ?_
  rw [if_neg (by simp)] at hps
  simp only [rds] at hps
  split at hps
  · rename_i q l hq hl
    cases hl
    cases hps
    cases hr
    refine ⟨by rw [List.length_map]; exact Nat.le_trans hl (by decide), fun tp htp => ?_⟩
    have s3 := SRel.new (o := .tup (ts.map fun t => V.ty t.s)) s2 htp
    have f3 := Frm.new (o := .tup (ts.map fun t => V.ty t.s)) s2 htp
    refine ⟨v, tp, _, _, _, _, rfl, upd_same, clsV_all ts, tyX_of (rd_top s3 (r2.fr f3) hq), kitAny_of ts, ?_⟩
    exact k _ M2 _ (f2.trans f3) s3 (by simp [RelD, RelP])
  · cases hps
theorem s_lcopy (G : Good I T n S X) (B : Bl I S "list") {m : Bool} (he : PE X e (tE X.K C c)) (hs : starB e = true) : PE X (.Call (.Name "list" p) [e] [] pos) (tE X.K C (.lcopy m c)) := by
  refine PE.weak (pe_callTy call_list_of (gl_of G B.g) (G.bl _ B.b) (by decide +kernel) (pa_cons he pa_nil (star_of hs)) (nodbg_of B.d).2 (nodbg_of B.d).1 (star_of hs) rfl) fun σ H Q h => ?_
  obtain ⟨Z, M, st, δ, d, st', sr, er, ev, k⟩ := h
  obtain ⟨y, st1, e1, ev⟩ := R.bind_eq_ok ev
  refine one sr er e1 fun v M2 H2 f2 s2 r2 => ?_
  split at ev
  · rename_i l hl
    obtain ⟨q, hq, hl2⟩ := Option.bind_eq_some_iff.mp hl
    cases q with
    | tup l' =>
      cases hl2
      obtain ⟨a, vs, rfl, h1, h2⟩ := rd_top s2 r2 hq
      refine ⟨a, vs, rfl, .inr h1, fun p3 hp3 => ?_⟩
      obtain ⟨M3, f3, s3, r3⟩ := mkL_ok (K := X.K) s2 h2 ev hp3
      exact k _ M3 _ (f2.trans f3) s3 r3
    | lst l' =>
      cases hl2
      obtain ⟨a, vs, rfl, h1, h2⟩ := rd_top s2 r2 hq
      refine ⟨a, vs, rfl, .inl h1, fun p3 hp3 => ?_⟩
      obtain ⟨M3, f3, s3, r3⟩ := mkL_ok (K := X.K) s2 h2 ev hp3
      exact k _ M3 _ (f2.trans f3) s3 r3
    | _ => cases hl2
  · cases ev
theorem paired_sqT {K : PySem.W.Frag} {H : Hp} {ps : List Addr} {kvs : List (Key × V)} (h : Paired (fun p kv => H p = some (.tup [kV kv.1, kv.2])) ps kvs) : Paired (fun p kv => SqT K H p [kV kv.1, kv.2]) ps kvs := by
  induction h with
  | nil => exact .nil
  | cons h _ ih => exact .cons (.of h) ih
theorem s_dcopy (G : Good I T n S X) (B : Bl I S "dict") {m : Bool} (he : PE X e (tE X.K C c)) (hs : starB e = true) : PE X (.Call (.Name "dict" p) [e] [] pos) (tE X.K C (.dcopy m c)) := by
  refine PE.cases fun σ H Q h => ?_
  obtain ⟨Z, M, st, δ, d, st', sr, er, ev, k⟩ := h
  obtain ⟨y, st1, e1, ev⟩ := R.bind_eq_ok ev
  split at ev
  · rename_i l hl
    obtain ⟨q, hq, hl2⟩ := Option.bind_eq_some_iff.mp hl
    cases q with
    | dic l' =>
      cases hl2
      refine ⟨_, pe_callTy call_dictR (gl_of G B.g) (G.bl _ B.b) (by decide +kernel) (pa_cons he pa_nil (star_of hs)) (nodbg_of B.d).2 (nodbg_of B.d).1 (star_of hs) rfl, one sr er e1 fun v M2 H2 f2 s2 r2 => ?_⟩
      obtain ⟨a, ks, rfl, h1, h2⟩ := rd_top s2 r2 hq
      refine ⟨a, ks, rfl, h1, fun p3 hp3 => ?_⟩
      obtain ⟨M3, f3, s3, r3⟩ := mkD_ok (K := X.K) s2 h2 ev hp3
      exact k _ M3 _ (f2.trans f3) s3 r3
    | lst l' =>
      obtain ⟨es, hes, rfl⟩ := Option.map_eq_some_iff.mp hl2
      refine ⟨_, pe_callTy (call_dictP G.calm) (gl_of G B.g) (G.bl _ B.b) (by decide +kernel) (pa_cons he pa_nil (star_of hs)) (nodbg_of B.d).2 (nodbg_of B.d).1 (star_of hs) rfl, one sr er e1 fun v M2 H2 f2 s2 r2 => ?_⟩
      obtain ⟨a, vs, rfl, h1, h2⟩ := rd_top s2 r2 hq
      obtain ⟨ps, kvs, rfl, g1, g2⟩ := toEnts_V hes h2
      refine ⟨a, ps, kvs, rfl, h1, paired_sqT g1, fun p3 hp3 => ?_⟩
      have rk : RelKs (Mu Z M2 st1) H2 (kmerge [] es) (mergeK [] kvs) := g2.merge (by simp [RelKs])
      obtain ⟨M3, f3, s3, r3⟩ := mkD_ok (K := X.K) s2 rk ev hp3
      exact k _ M3 _ (f2.trans f3) s3 r3
    | _ => cases hl2
  · cases ev
end
end NH
namespace NH
variable [W : TheW]
open PySem L2
mutual
theorem alk_toPy : ∀ a b : P, PySem.W.alike (toPy a) (toPy b) = a.alk b
  | .non, b => by cases b <;> simp [toPy, PySem.W.alike, P.alk]
  | .bl _, b => by cases b <;> simp [toPy, PySem.W.alike, P.alk]
  | .int _, b => by cases b <;> simp [toPy, PySem.W.alike, P.alk]
  | .str _, b => by cases b <;> simp [toPy, PySem.W.alike, P.alk]
  | .lst l, b => by
    cases b with
    | lst m => simp only [toPy, PySem.W.alike, P.alk]; exact alks_toPys l m
    | _ => simp [toPy, PySem.W.alike, P.alk]
  | .tup l, b => by
    cases b with
    | tup m => simp only [toPy, PySem.W.alike, P.alk]; exact alks_toPys l m
    | _ => simp [toPy, PySem.W.alike, P.alk]
  | .dic _, b => by cases b <;> simp [toPy, PySem.W.alike, P.alk]
theorem alks_toPys : ∀ a b : List P, PySem.W.alikeAll (toPys a) (toPys b) = P.alks a b
  | [], b => by cases b <;> simp [toPys, PySem.W.alikeAll, P.alks]
  | a :: l, [] => by simp [toPys, PySem.W.alikeAll, P.alks]
  | a :: l, b :: m => by simp only [toPys, PySem.W.alikeAll, P.alks]; rw [alk_toPy a b, alks_toPys l m]
end
theorem LINE_eq' : LINE = 16777216 := rfl
theorem ts_cps (x : Tx) : (TS_ x).cps.toList = x := by simp [TS_]
mutual
theorem lt_toPy : ∀ a b : P, a.alk b = true → PySem.W.dataLt (toPy a) (toPy b) = a.lt b
  | .non, b, h => by cases b <;> simp [P.alk] at h; simp only [toPy, P.lt]; exact PyProof.Rows.lex_irrefl _
  | .bl x, b, h => by
    cases b with
    | bl y => simp only [toPy, P.lt]; rw [PySem.W.dataLt_bool]; cases x <;> cases y <;> rfl
    | _ => simp [P.alk] at h
  | .int x, b, h => by
    cases b with
    | int y => simp only [toPy, P.lt]; rw [PySem.W.dataLt_int]
    | _ => simp [P.alk] at h
  | .str x, b, h => by
    cases b with
    | str y => simp only [toPy, P.lt]; rw [PySem.W.dataLt_str, ts_cps, ts_cps]
    | _ => simp [P.alk] at h
  | .lst l, b, h => by
    cases b with
    | lst m => simp only [toPy, P.lt, P.alk] at h ⊢; rw [PySem.W.dataLt_list]; exact lts_toPys l m h
    | _ => simp [P.alk] at h
  | .tup l, b, h => by
    cases b with
    | tup m => simp only [toPy, P.lt, P.alk] at h ⊢; rw [PySem.W.dataLt_tuple]; exact lts_toPys l m h
    | _ => simp [P.alk] at h
  | .dic _, b, h => by cases b <;> simp [P.alk] at h
theorem lts_toPys : ∀ a b : List P, P.alks a b = true → PyProof.Rows.lexLt PyProof.Rows.itemOrd (PySem.W.keyToksAll (toPys a)) (PySem.W.keyToksAll (toPys b)) = P.lts a b
  | [], [], _ => by simp only [toPys, P.lts]; exact PyProof.Rows.lex_irrefl _
  | [], b :: m, _ => by
    simp only [toPys, P.lts]
    rw [PySem.W.toks_all_cons]
    simp only [PySem.W.keyToksAll]
    rw [PyProof.Rows.lex_diff (O := PyProof.Rows.itemOrd) (by simp)]
    rfl
  | a :: l, [], _ => by
    simp only [toPys, P.lts]
    rw [PySem.W.toks_all_cons]
    simp only [PySem.W.keyToksAll]
    rw [PyProof.Rows.lex_diff (O := PyProof.Rows.itemOrd) (by simp)]
    rfl
  | a :: l, b :: m, h => by
    simp only [P.alks, Bool.and_eq_true] at h
    simp only [toPys, P.lts]
    rw [PySem.W.dataLt_cons (by rw [alk_toPy]; exact h.1), eqv_toPy, lts_toPys l m h.2, lt_toPy a b h.1]
end
theorem toPy_tuple {p : P} (h : neT p = true) : ∃ x r, toPy p = .tuple (x :: r) := by
  cases p with
  | tup l => cases l with
    | nil => simp [neT] at h
    | cons a l => exact ⟨_, _, by simp [toPy, toPys]; exact ⟨rfl, rfl⟩⟩
  | _ => simp [neT] at h
theorem toPy_not {p : P} (h : notT p = true) : toPy p ≠ .none ∧ ∀ xs, toPy p ≠ .tuple xs := by
  cases p <;> simp [notT, toPy] at h ⊢
section
variable {X : Cx} {U : Addr → Prop}
def rSrt (X : Cx) : List V → Hp → VK → Prop := fun vs H Q => ∃ (U : Addr → Prop) (a : Addr) (xs : List V) (l : List P), vs = [V.ref a] ∧ SqL X.K H a xs ∧ RelPs U H l xs ∧ srtOk l = true ∧ l.length ≤ LINE ∧
  ∀ ys p, RelPs U H (l.mergeSort srtLe) ys → H p = none → Q (.ref p) (upd H p (.lst ys))
theorem relPs_map {H : Hp} : ∀ {zs : List (V × P)}, (∀ z ∈ zs, RelP U H z.2 z.1) → RelPs U H (zs.map (·.2)) (zs.map (·.1))
  | [], _ => by simp [RelPs]
  | z :: zs, h => by
    simp only [List.map_cons, RelPs]
    exact ⟨_, _, rfl, h z List.mem_cons_self, relPs_map fun y m => h y (List.mem_cons_of_mem _ m)⟩
theorem relPs_zip {H : Hp} : ∀ {l : List P} {xs : List V}, RelPs U H l xs → (xs.zip l).map (·.1) = xs ∧ (xs.zip l).map (·.2) = l ∧ ∀ z ∈ xs.zip l, RelP U H z.2 z.1
  | [], xs, r => by simp only [RelPs] at r; subst r; simp
  | p :: l, xs, r => by
    simp only [RelPs] at r
    obtain ⟨v, q, rfl, h1, h2⟩ := r
    obtain ⟨a, b, c⟩ := relPs_zip h2
    refine ⟨by simp [a], by simp [b], fun z hz => ?_⟩
    rcases List.mem_cons.mp hz with rfl | hz
    · exact h1
    · exact c z hz
theorem each_of_vals : ∀ {zs : List (V × P)} {us : List Value}, Vals (zs.map (·.1)) us → PySem.W.EachIs (fun (u : Value) (z : V × P) => RelV z.1 u) us zs
  | [], us, r => by cases r; exact .nil
  | z :: zs, us, r => by
    cases r with
    | cons h t => exact .cons h (each_of_vals t)
theorem vals_of_each : ∀ {zs : List (V × P)} {us : List Value}, PySem.W.EachIs (fun (u : Value) (z : V × P) => RelV z.1 u) us zs → Vals (zs.map (·.1)) us
  | _, _, .nil => .nil
  | _, _, .cons h t => .cons h (vals_of_each t)
theorem cr_srt (hu : X.A.units + 64 < cLine) : CallR X (.builtin "sorted") (rSrt X) := by
  intro pins s σ H vs us Q I r h
  obtain ⟨U, a, xs, l, rfl, hs, hr, hok, hlen, q⟩ := h
  obtain ⟨its, rv, hl, hz⟩ := I.list hs
  obtain ⟨u, rfl, ru⟩ := vals1 r
  obtain rfl : u = Value.ref a := ru
  obtain ⟨e1, e2, e3⟩ := relPs_zip hr
  generalize xs.zip l = zs at e1 e2 e3
  subst e1 e2
  simp only [srtOk, Bool.and_eq_true, Bool.or_eq_true, List.all_eq_true, decide_eq_true_eq] at hok
  obtain ⟨⟨ha, hd⟩, hk⟩ := hok
  have hm : ∀ z ∈ zs, z.2 ∈ zs.map (·.2) := fun z hz => List.mem_map_of_mem hz
  have ee := each_of_vals rv
  have er : PySem.W.EachIs (fun v (b : V × P) => ∃ as, Reads s.heap v (toPy b.2) as) its zs := (PySem.W.each_mem ee).mono fun v b ⟨rv, mb⟩ => by
    exact Dp.reads I _ _ _ (dp_of _ _ (hd _ (hm b mb)).1 (e3 b mb)) rv
  have hal : PySem.W.AllAlike (zs.map fun z => toPy z.2) := by
    intro d hd1 d' hd2
    obtain ⟨z, hz1, rfl⟩ := List.mem_map.mp hd1
    obtain ⟨z', hz2, rfl⟩ := List.mem_map.mp hd2
    rw [alk_toPy]
    exact ha _ (hm z hz1) _ (hm z' hz2)
  have hzl : zs.length ≤ sizeLine := by
    have := LINE_eq'
    rw [sizeLine_eq]
    rw [List.length_map] at hlen
    omega
  have hdp : ∀ b, b ∈ zs → X.A.units + 2 + (toPy b.2).depth < cLine := by
    intro b mb
    have := depth_toPy b.2
    have := (hd _ (hm b mb)).2
    omega
  have fin : ∀ out, out.length = zs.length → PySem.W.EachIs (fun (u : Value) (z : V × P) => RelV z.1 u) out (zs.mergeSort (PySem.W.dataLe false fun z : V × P => toPy z.2)) → EP X pins σ Q (.ref (s.heap.objs.size + 1)) { s with heap := PyProof.Rows.sortedAll s.heap its (List.toArray out) } := by
    intro out ho eo
    have hv := vals_of_each eo
    have hle : ∀ a ∈ zs, ∀ b ∈ zs, (PySem.W.dataLe false fun z : V × P => toPy z.2) a b = srtLe a.2 b.2 := by
      intro a ha' b hb'
      show (!PySem.W.dataLt (toPy b.2) (toPy a.2)) = !(b.2.lt a.2)
      rw [lt_toPy _ _ (ha _ (hm b hb') _ (hm a ha'))]
    have hmap : (zs.mergeSort (PySem.W.dataLe false fun z : V × P => toPy z.2)).map (·.2) = (zs.map (·.2)).mergeSort srtLe := List.map_mergeSort hle
    have hrel : RelPs U H ((zs.map (·.2)).mergeSort srtLe) ((zs.mergeSort (PySem.W.dataLe false fun z : V × P => toPy z.2)).map (·.1)) := by
      rw [← hmap]
      exact relPs_map fun z hz => e3 z ((List.mergeSort_perm _ _).mem_iff.mp hz)
    obtain ⟨n, hn⟩ := PyProof.Rows.sortedAll_at s.heap its out.toArray
    refine ⟨.ref (s.heap.objs.size + 1), upd H (s.heap.objs.size + 1) (.lst _), I.laid (t' := s.toks) (fun b o e => PyProof.Rows.sortedAll_old e) (Nat.le_succ _) ⟨?_, out, n, hv, hn⟩, rfl, q _ _ hrel (I.hok.fresh (Nat.le_succ _))⟩
    rw [List.length_map, List.length_mergeSort]
    rw [List.length_map] at hz
    exact hz
  rcases hk with hk | hk
  · by_cases hall : ∀ x ∈ zs.map (·.2), neT x = true
    · exact PySem.W.sorted_data (enc := fun z : V × P => toPy z.2) (bs := zs) (R := fun u z => RelV z.1 u) hl.isList ee er hal (.inl fun d hd1 => by
        obtain ⟨z, hz1, rfl⟩ := List.mem_map.mp hd1
        exact toPy_tuple (hall _ (hm z hz1))) hzl hdp fin
    · obtain ⟨x, hx1, hx2⟩ : ∃ x ∈ zs.map (·.2), neT x = false := by
        apply Classical.byContradiction
        intro hno
        exact hall fun x hx => by
          cases hxx : neT x with
          | true => rfl
          | false => exact absurd ⟨x, hx, hxx⟩ hno
      refine PySem.W.nh_sorted (enc := fun z : V × P => toPy z.2) (bs := zs) (R := fun u z => RelV z.1 u) hl.isList ee er hal ?_ ?_ hzl hdp fin
      · intro d hd1
        obtain ⟨z, hz1, rfl⟩ := List.mem_map.mp hd1
        have := hk _ (hm z hz1)
        cases hq : z.2 <;> rw [hq] at this <;> simp [isTupB] at this
        exact ⟨_, rfl⟩
      · obtain ⟨z, hz1, rfl⟩ := List.mem_map.mp hx1
        refine ⟨_, List.mem_map_of_mem hz1, ?_⟩
        have h1 := hk _ (hm z hz1)
        cases hq : z.2 <;> rw [hq] at h1 hx2 <;> simp [isTupB] at h1
        rename_i l
        cases l with
        | nil => rfl
        | cons a l => simp [neT] at hx2
  · exact PySem.W.sorted_data (enc := fun z : V × P => toPy z.2) (bs := zs) (R := fun u z => RelV z.1 u) hl.isList ee er hal (.inr fun d hd1 => by
      obtain ⟨z, hz1, rfl⟩ := List.mem_map.mp hd1
      exact toPy_not (hk _ (hm z hz1))) hzl hdp fin
end
section
variable {I : Inf} {T : Nat → Option Fn} {n : Nat} {S : Sx} {X : Cx} {C : Calls} {c : CE} {e : Expr} {p pos : Pos}
theorem s_srt (G : Good I T n S X) (B : Bl I S "sorted") {m : Bool} (he : PE X e (tE X.K C c)) (hs : starB e = true) : PE X (.Call (.Name "sorted" p) [e] [] pos) (tE X.K C (.srt m c)) := by
  refine PE.weak (pe_callB (cr_srt G.hu) (gl_of G B.g) (G.bl _ B.b) (by decide +kernel) (pa_cons he pa_nil (star_of hs)) (nodbg_of B.d).2 (nodbg_of B.d).1 (star_of hs) rfl) fun σ H Q h => ?_
  obtain ⟨Z, M, st, δ, d, st', sr, er, ev, k⟩ := h
  obtain ⟨y, st1, e1, ev⟩ := R.bind_eq_ok ev
  refine one sr er e1 fun v M2 H2 f2 s2 r2 => ?_
  split at ev
  · rename_i l hl
    obtain ⟨q, hq, hl2⟩ := Option.bind_eq_some_iff.mp hl
    cases q with
    | lst l' =>
      have hl3 : (if srtOk l' && decide (l'.length ≤ LINE) then some (l'.mergeSort srtLe) else none) = some l := hl2
      split at hl3
      · rename_i hc
        have hl4 := Option.some.inj hl3
        subst hl4
        simp only [Bool.and_eq_true, decide_eq_true_eq] at hc
        obtain ⟨a, vs, rfl, h1, h2⟩ := rd_top s2 r2 hq
        refine ⟨_, a, vs, l', rfl, h1, h2, hc.1, hc.2, fun ys p3 hr3 hp3 => ?_⟩
        obtain ⟨M3, f3, s3, r3⟩ := mkL_ok (K := X.K) s2 hr3 ev hp3
        exact k _ M3 _ (f2.trans f3) s3 r3
      · cases hl3
    | _ => exact absurd hl2 (by simp [srtP])
  · cases ev
end
end NH
namespace NH
variable [W : TheW]
open PySem L2
theorem sign_char : ∀ c, c < 123 → okSign c = true → Builtin.Str.reprChar 39 c = [c] := by decide +kernel
theorem sign_lt {c : Nat} (h : okSign c = true) : c < 123 ∧ c ≠ 39 := by
  simp only [okSign, Bool.or_eq_true, Bool.and_eq_true, decide_eq_true_eq] at h
  omega
theorem fold_say : ∀ (l : List Nat) (acc : Array Nat), l.all okSign = true → l.foldl (fun out c => out ++ (Builtin.Str.reprChar 39 c).toArray) acc = acc ++ l.toArray
  | [], acc, _ => by simp
  | c :: l, acc, h => by
    simp only [List.all_cons, Bool.and_eq_true] at h
    rw [List.foldl_cons, sign_char c (sign_lt h.1).1 h.1, fold_say l _ h.2]
    apply Array.ext'
    simp
theorem say_str {x : Tx} (h : x.all okSign = true) : PySem.reprText (TS_ x) = TS_ (39 :: (x ++ [39])) := by
  have hq : PySem.reprQuote (TS_ x) = 39 := by
    unfold PySem.reprQuote
    rw [if_neg]
    intro hc
    simp only [Bool.and_eq_true] at hc
    have h1 := hc.1
    have : (39 : Nat) ∈ x := by simpa [TS_] using h1
    have := List.all_eq_true.mp h _ this
    exact (sign_lt this).2 rfl
  unfold PySem.reprText
  rw [hq, ← Array.foldl_toList]
  have : (TS_ x).cps.toList = x := ts_cps x
  rw [this, fold_say x _ h]
  apply congrArg Str.mk
  apply Array.ext'
  simp
theorem comma_tx : ((", " : String) : Str) = TS_ [44, 32] := by decide +kernel
theorem textFrom_say : ∀ (ts : List Tx) (k : Nat) (a : Tx), PySem.textFrom (k + 1) (TS_ a) (ts.map TS_) = TS_ (a ++ (ts.map fun t => 44 :: 32 :: t).flatten)
  | [], k, a => by
    show TS_ a = _
    simp
  | t :: ts, k, a => by
    show PySem.textFrom (k + 1 + 1) (TS_ a ++ (if k + 1 > 0 then ", " else "" : String) ++ TS_ t) (ts.map TS_) = _
    have : ((if k + 1 > 0 then ", " else "" : String) : Str) = TS_ [44, 32] := by
      rw [if_pos (by omega)]; exact comma_tx
    rw [this, ts_cat, ts_cat, textFrom_say ts (k + 1)]
    simp
theorem joinTx_flat (t : Tx) : ∀ ts : List Tx, joinTx [44, 32] (t :: ts) = t ++ (ts.map fun t => 44 :: 32 :: t).flatten
  | [] => by simp [joinTx]
  | u :: ts => by
    rw [joinTx, joinTx_flat u ts]
    simp
theorem say_list (ts : List Tx) : PySem.listText (ts.map TS_) = TS_ (91 :: (joinTx [44, 32] ts ++ [93])) := by
  unfold PySem.listText
  have e1 : (("[" : String) : Str) = TS_ [91] := by decide +kernel
  have e2 : (("]" : String) : Str) = TS_ [93] := by decide +kernel
  cases ts with
  | nil => show (("[" : String) : Str) ++ _ = _; rw [e1, e2, ts_cat]; simp [joinTx]
  | cons t ts =>
    show PySem.textFrom (0 + 1) ((("[" : String) : Str) ++ ((if 0 > 0 then ", " else "" : String) : Str) ++ TS_ t) (ts.map TS_) ++ _ = _
    have e3 : ((if 0 > 0 then ", " else "" : String) : Str) = TS_ [] := by decide +kernel
    rw [e1, e2, e3, ts_cat, ts_cat, textFrom_say, ts_cat, joinTx_flat]
    simp
theorem join_say : ∀ ts : List Tx, Str.join ", " (ts.map TS_) = TS_ (joinTx [44, 32] ts)
  | [] => by show Str.empty = _; decide +kernel
  | [t] => by show TS_ t = _; rw [joinTx]
  | t :: u :: ts => by
    show TS_ t ++ ((", " : String) : Str) ++ Str.join ", " ((u :: ts).map TS_) = _
    rw [join_say (u :: ts), comma_tx, ts_cat, ts_cat, joinTx]
    simp
theorem say_tup (ts : List Tx) : PySem.tupleText (ts.map TS_) = TS_ (40 :: (joinTx [44, 32] ts ++ (if ts.length = 1 then [44, 41] else [41]))) := by
  unfold PySem.tupleText
  have e1 : (("(" : String) : Str) = TS_ [40] := by decide +kernel
  have e2 : ((",)" : String) : Str) = TS_ [44, 41] := by decide +kernel
  have e3 : ((")" : String) : Str) = TS_ [41] := by decide +kernel
  rw [join_say, e1, List.length_map]
  by_cases h : ts.length = 1
  · rw [if_pos (by simpa using h), if_pos h, e2, ts_cat, ts_cat]; simp
  · rw [if_neg (by simpa using h), if_neg h, e3, ts_cat, ts_cat]; simp
mutual
theorem say_ok : ∀ (p : P) (t : Tx), sayO p = some t → (toPy p).shown = TS_ t ∧ (toPy p).showable = true ∧ p.sh = true ∧ (toPy p).hasDict = false
  | .non, t, h => by simp only [sayO, Option.some.injEq] at h; subst h; exact ⟨by simp only [toPy, PyData.shown]; decide +kernel, by simp [toPy, PyData.showable], rfl, by simp [toPy, PyData.hasDict]⟩
  | .bl b, t, h => by
    simp only [sayO, Option.some.injEq] at h; subst h
    refine ⟨by cases b <;> (simp only [toPy, PyData.shown]; decide +kernel), by simp [toPy, PyData.showable], rfl, by simp [toPy, PyData.hasDict]⟩
  | .int i, t, h => by
    simp only [sayO] at h
    split at h
    · rename_i hi
      cases h
      exact ⟨by simp only [toPy, PyData.shown]; exact num_tx hi.1, by simp only [toPy, PyData.showable]; exact decide_eq_true (log2_small hi), rfl, by simp [toPy, PyData.hasDict]⟩
    · cases h
  | .str x, t, h => by
    simp only [sayO] at h
    split at h
    · rename_i hx
      cases h
      refine ⟨by simp only [toPy, PyData.shown]; exact say_str hx, by simp [toPy, PyData.showable], ?_, by simp [toPy, PyData.hasDict]⟩
      simp only [P.sh, List.all_eq_true, decide_eq_true_eq] at hx ⊢
      intro c hc
      have := (sign_lt (hx c hc)).1
      omega
    · cases h
  | .tup l, t, h => by
    simp only [sayO, Option.map_eq_some_iff] at h
    obtain ⟨ts, h1, rfl⟩ := h
    obtain ⟨a, b, c, d⟩ := says_ok l ts h1
    refine ⟨?_, by simpa only [toPy, PyData.showable] using b, by simpa only [P.sh] using c, by simpa only [toPy, PyData.hasDict] using d⟩
    simp only [toPy, PyData.shown]
    rw [a, say_tup]
  | .lst l, t, h => by
    simp only [sayO, Option.map_eq_some_iff] at h
    obtain ⟨ts, h1, rfl⟩ := h
    obtain ⟨a, b, c, d⟩ := says_ok l ts h1
    refine ⟨?_, by simpa only [toPy, PyData.showable] using b, by simpa only [P.sh] using c, by simpa only [toPy, PyData.hasDict] using d⟩
    simp only [toPy, PyData.shown]
    rw [a, say_list]
  | .dic _, t, h => by simp [sayO] at h
theorem says_ok : ∀ (p : List P) (ts : List Tx), sayOs p = some ts → PyData.shownAll (toPys p) = ts.map TS_ ∧ PyData.showableAll (toPys p) = true ∧ P.shs p = true ∧ PyData.hasDictAll (toPys p) = false
  | [], ts, h => by simp only [sayOs, Option.some.injEq] at h; subst h; simp [toPys, PyData.shownAll, PyData.showableAll, P.shs, PyData.hasDictAll]
  | a :: l, ts, h => by
    simp only [sayOs] at h
    cases h1 : sayO a with
    | none => simp [h1] at h
    | some t =>
      cases h2 : sayOs l with
      | none => simp [h1, h2] at h
      | some us =>
        simp only [h1, h2, Option.some.injEq] at h
        subst h
        obtain ⟨a1, a2, a3, a4⟩ := say_ok a t h1
        obtain ⟨b1, b2, b3, b4⟩ := says_ok l us h2
        refine ⟨?_, ?_, ?_, ?_⟩
        · simp only [toPys, PyData.shownAll, List.map_cons]; rw [a1, b1]
        · simp only [toPys, PyData.showableAll, Bool.and_eq_true]; exact ⟨a2, b2⟩
        · simp only [P.shs, Bool.and_eq_true]; exact ⟨a3, b3⟩
        · simp only [toPys, PyData.hasDictAll, Bool.or_eq_false_iff]; exact ⟨a4, b4⟩
end
section
variable {X : Cx}
def rRep (X : Cx) : List V → Hp → VK → Prop := fun vs H Q => ∃ (a : Addr) (d : PyData), vs = [V.ref a] ∧ Dp X.K H (.ref a) d ∧ d.showable = true ∧ d.hasDict = false ∧ d.depth ≤ 60 ∧ d.shown.length ≤ sizeLine ∧ Q (.str d.shown) H
theorem cr_rep (hg : X.A.guards = some []) (hu : X.A.units + 64 < cLine) : CallR X (.builtin "repr") (rRep X) := by
  intro pins s σ H vs us Q I r h
  obtain ⟨a, d, rfl, h1, h2, h3, h4, h5, q⟩ := h
  obtain ⟨u, rfl, ru⟩ := vals1 r
  obtain ⟨as, hr⟩ := Dp.reads I _ _ _ h1 ru
  obtain rfl : u = Value.ref a := ru
  refine repr_of_reads' hr h2 (fun z => by rw [h3] at z; cases z) hg (by omega) (fun b o e => e) (fun h' u tk hk => ?_) h5
  exact ⟨.str d.shown, H, I.kept hk, ⟨u, rfl⟩, q⟩
end
section
variable {I : Inf} {T : Nat → Option Fn} {n : Nat} {S : Sx} {X : Cx} {C : Calls} {c : CE} {e : Expr} {p pos : Pos}
theorem s_rep (G : Good I T n S X) (B : Bl I S "repr") (he : PE X e (tE X.K C c)) (hs : starB e = true) : PE X (.Call (.Name "repr" p) [e] [] pos) (tE X.K C (.rep c)) := by
  refine PE.weak (pe_callB (cr_rep G.gd G.hu) (gl_of G B.g) (G.bl _ B.b) (by decide +kernel) (pa_cons he pa_nil (star_of hs)) (nodbg_of B.d).2 (nodbg_of B.d).1 (star_of hs) rfl) fun σ H Q h => ?_
  obtain ⟨Z, M, st, δ, d, st', sr, er, ev, k⟩ := h
  obtain ⟨y, st1, e1, ev⟩ := R.bind_eq_ok ev
  obtain ⟨ev2, rfl⟩ := lift_eq_ok ev
  obtain ⟨p, hp, ev3⟩ := Option.bind_eq_some_iff.mp ev2
  obtain ⟨r, hr, rfl⟩ := Option.map_eq_some_iff.mp ev3
  have key : ∀ t, sayO p = some t → t.length ≤ LINE → p.deep ≤ 60 → r = .str t → ∀ v M2 H2, Frm Z M st H M2 st' H2 → SRel Z M2 st' H2 → RelD X.K Z M2 st' H2 y v → (∃ a, v = V.ref a) → rRep X [v] H2 Q := by
    intro t ht hz hd hrt v M2 H2 f2 s2 r2 ⟨a, ha⟩
    subst ha hrt
    obtain ⟨a1, a2, a3, a4⟩ := say_ok p t ht
    refine ⟨a, toPy p, rfl, dp_top a3 (rd_top s2 r2 hp), a2, a4, Nat.le_trans (depth_toPy p) hd, ?_, ?_⟩
    · rw [a1, ts_len, ← line_eq]; exact hz
    · rw [a1]; exact k _ M2 H2 f2 s2 (by simp [RelD, RelP])
  refine one sr er e1 fun v M2 H2 f2 s2 r2 => ?_
  cases p <;> simp only [repP] at hr <;> try cases hr
  all_goals
    split at hr
    · rename_i hd
      obtain ⟨t, ht, h3⟩ := Option.bind_eq_some_iff.mp hr
      split at h3
      · rename_i hz
        cases h3
        refine key t ht hz (by simpa using hd) rfl v M2 H2 f2 s2 r2 ?_
        obtain ⟨a, vs, e, _⟩ := rd_top s2 r2 hp
        exact ⟨a, e⟩
      · cases h3
    · cases hr
end
end NH
namespace NH
variable [W : TheW]
open PySem L2
theorem uq_map (l : List Tx) : (NHSet.uqS (l.map TS_)).length = (uqT l).length := by
  have key : ∀ (l : List Tx) (a : List Tx), l.foldl (fun a x => NHSet.one1 a (TS_ x)) (a.map TS_) = (l.foldl one1T a).map TS_ := by
    intro l
    induction l with
    | nil => intro a; rfl
    | cons x l ih =>
      intro a
      simp only [List.foldl_cons]
      have h1 : NHSet.one1 (a.map TS_) (TS_ x) = (one1T a x).map TS_ := by
        unfold NHSet.one1 one1T
        have h2 : (a.map TS_).any (· == TS_ x) = a.any (· == x) := by
          rw [List.any_map]
          congr 1
          funext y
          exact ts_beq y x
        rw [h2]
        split <;> simp
      rw [h1, ih]
  have := key l []
  simp only [List.map_nil] at this
  unfold NHSet.uqS uqT
  rw [List.foldl_map, this, List.length_map]
section
variable {K : PySem.W.Frag} {U : Addr → Prop} {H : Hp}
theorem strs_of : ∀ {l : List P} {xs : List V} {ts : List Tx}, allStr l = some ts → RelPs U H l xs → xs = (ts.map TS_).map V.str
  | [], xs, ts, h, r => by
    simp only [allStr, Option.some.injEq] at h
    subst h
    simp only [RelPs] at r
    simp [r]
  | p :: l, xs, ts, h, r => by
    cases p with
    | str x =>
      simp only [allStr, Option.map_eq_some_iff] at h
      obtain ⟨ts', h1, rfl⟩ := h
      simp only [RelPs] at r
      obtain ⟨v, q, rfl, h2, h3⟩ := r
      simp only [RelP] at h2
      rw [strs_of h1 h3, h2]
      rfl
    | _ => simp [allStr] at h
end
section
open PySem.Spec PyProof.Rows
variable {X : Cx}
def tLS (K : PySem.W.Frag) (ta : TE) : TE := fun σ H Q => ta σ H fun x H1 => ∃ (l : Addr) (ts : List Tx), x = .ref l ∧ (SqL K H1 l ((ts.map TS_).map V.str) ∨ SqT K H1 l ((ts.map TS_).map V.str)) ∧ ts.length < 4000 ∧ Q (.int (uqT ts).length) H1
theorem pe_LS {a : Expr} {ta : TE} {p p2 q pos : Pos} (hc : X.calm = true) (hg : Gl X "len") (hm : X.mg "len" = none) (hg2 : Gl X "set") (hm2 : X.mg "set" = none) (ha : PE X a ta)
    (na : starEach [a] X.env = (false, eval a X.env) :: starEach [] X.env) : PE X (.Call (.Name "len" p) [.Call (.Name "set" p2) [a] [] q] [] pos) (tLS X.K ta) := by
  refine ⟨fun pins s σ H Q I h => ?_⟩
  refine Call_ (ld_blt I hg hm boot_len ?_)
  refine PyProof.Rows.callWith_builtin1 (PyProof.Rows.args_cons ?_ rfl) rfl rfl
  refine Call_ (ld_blt I hg2 hm2 boot_set ?_)
  refine PyProof.Rows.callWith_type1 (PyProof.Rows.args_cons (thn (ha.run pins s σ H _ I h) fun v s1 ⟨x, H1, I1, r1, q1⟩ => PyProof.Rows.args_nil ?_) na) na rfl
  obtain ⟨l, ts, rfl, hq, h1, q1⟩ := q1
  cases r1
  have hbd : (ts.map TS_).length + 1 < scanBound := by rw [List.length_map]; unfold scanBound; omega
  have fin : ∀ (h' : Heap) (tk : Nat), h'.SetOf (PySem.strKind X.prog X.w) s1.heap.objs.size (fun k' => (NHSet.uqS (ts.map TS_)).any (· == k')) (NHSet.uqS (ts.map TS_)).length → (∀ b o, b < s1.heap.objs.size → s1.heap.get? b = some o → h'.get? b = some o) →
      wpAny (model X.prog X.w) X.A (spliced (backTo pos (starEach [] X.env))) (fun vs s₂ => wpAny (model X.prog X.w) X.A (call (.builtin "len") (Value.ref s1.heap.objs.size :: vs)) (EP X pins σ Q) X.xe s₂) X.xe { s1 with heap := h', toks := tk } := fun h' tk hS hk => by
    refine PyProof.Rows.args_nil ?_
    obtain ⟨o, es, ep, t, ho, hex, hd, _, _, _, hf, hn⟩ := hS
    have I2 : Inv X pins σ H1 { s1 with heap := h', toks := tk } := I1.kept fun b o e => hk b o (Heap.lt_size e) e
    have hle := NHSet.uqS_le (ts.map TS_)
    rw [List.length_map] at hle
    refine call_len_set ho hex hd hf (by rw [hn]; omega) ⟨.int (uqT ts).length, H1, I2.tok _, ⟨_, by rw [hn, uq_map]⟩, q1⟩
  rcases hq with hq | hq
  · obtain ⟨its, r, pl, hz⟩ := I1.list hq
    exact NHSet.set_list (I1.ok.hd hc) pl.isList (by simpa using strsAre_of r) hbd fun h' tk hS hk => fin h' tk hS hk
  · obtain ⟨its, r, pl, hz⟩ := I1.tuple hq
    exact NHSet.set_tuple (I1.ok.hd hc) pl (by simpa using strsAre_of r) hbd fun h' tk hS hk => fin h' tk hS hk
end
section
variable {I : Inf} {T : Nat → Option Fn} {n : Nat} {S : Sx} {X : Cx} {C : Calls} {c : CE} {e : Expr} {p p2 q pos : Pos}
theorem s_lset (G : Good I T n S X) (B : Bl I S "len") (B2 : Bl I S "set") (he : PE X e (tE X.K C c)) (hs : starB e = true) : PE X (.Call (.Name "len" p) [.Call (.Name "set" p2) [e] [] q] [] pos) (tE X.K C (.lset c)) := by
  refine PE.weak (pe_LS G.calm (gl_of G B.g) (G.bl _ B.b) (gl_of G B2.g) (G.bl _ B2.b) he (star_of hs)) fun σ H Q h => ?_
  obtain ⟨Z, M, st, δ, d, st', sr, er, ev, k⟩ := h
  obtain ⟨y, st1, e1, ev⟩ := R.bind_eq_ok ev
  refine one sr er e1 fun v M2 H2 f2 s2 r2 => ?_
  obtain ⟨ev2, rfl⟩ := lift_eq_ok ev
  obtain ⟨pq, hq, ev3⟩ := Option.bind_eq_some_iff.mp ev2
  obtain ⟨nn, hn, rfl⟩ := Option.map_eq_some_iff.mp ev3
  cases pq with
  | lst l =>
    simp only [lsetP, Option.bind_eq_some_iff] at hn
    obtain ⟨ts, h1, h2⟩ := hn
    split at h2
    · rename_i hlt
      have h3 : (uqT ts).length = nn := Option.some.inj h2
      subst h3
      obtain ⟨a, vs, rfl, h4, h5⟩ := rd_top s2 r2 hq
      rw [strs_of h1 h5] at h4
      exact ⟨a, ts, rfl, .inl h4, hlt, k _ M2 H2 f2 s2 (by simp [RelD, RelP])⟩
    · cases h2
  | tup l =>
    simp only [lsetP, Option.bind_eq_some_iff] at hn
    obtain ⟨ts, h1, h2⟩ := hn
    split at h2
    · rename_i hlt
      have h3 : (uqT ts).length = nn := Option.some.inj h2
      subst h3
      obtain ⟨a, vs, rfl, h4, h5⟩ := rd_top s2 r2 hq
      rw [strs_of h1 h5] at h4
      exact ⟨a, ts, rfl, .inr h4, hlt, k _ M2 H2 f2 s2 (by simp [RelD, RelP])⟩
    · cases h2
  | _ => simp [lsetP] at hn
end
end NH
namespace NH
variable [W : TheW]
open PySem L2
def leT (a b : Tx) : Bool := !decide (b < a)
theorem leT_iff {a b : Tx} : leT a b = true ↔ a ≤ b := by
  unfold leT
  rw [Bool.not_eq_true', decide_eq_false_iff_not, List.not_lt]
theorem srt_leT (us : List Tx) : (us.map P.str).mergeSort srtLe = (us.mergeSort leT).map P.str := by
  refine (List.map_mergeSort fun a _ b _ => ?_).symm
  unfold leT srtLe
  simp only [P.lt]
theorem rising_unique {l m : List Tx} (h1 : l.Pairwise (· ≤ ·)) (h2 : m.Pairwise (· ≤ ·)) (p : l.Perm m) : l = m :=
  p.eq_of_pairwise (fun a b _ _ h g => List.le_antisymm h g) h1 h2
theorem leT_sorted (us : List Tx) : (us.mergeSort leT).Pairwise (· ≤ ·) := by
  have := List.pairwise_mergeSort (le := leT) (fun a b c h g => leT_iff.mpr (List.le_trans (leT_iff.mp h) (leT_iff.mp g))) (fun a b => by
    rw [Bool.or_eq_true, leT_iff, leT_iff]
    exact List.le_total a b) us
  exact this.imp fun h => leT_iff.mp h
theorem rising_pw : ∀ (p : Str) (l : List Str), PyProof.Rows.risingS p l = true → (p.cps.toList :: l.map (·.cps.toList)).Pairwise (· ≤ ·)
  | p, [], _ => by simp
  | p, x :: r, h => by
    have h' : (!PySem.Spec.ltCps x.cps.toList p.cps.toList && PyProof.Rows.risingS x r) = true := h
    rw [Bool.and_eq_true, Bool.not_eq_true', PyProof.Rows.ltCps_eq, decide_eq_false_iff_not, List.not_lt] at h'
    have ih := rising_pw x r h'.2
    rw [List.map_cons]
    refine List.pairwise_cons.mpr ⟨fun y hy => ?_, ih⟩
    rcases List.mem_cons.mp hy with rfl | hy
    · exact h'.1
    · exact List.le_trans h'.1 ((List.pairwise_cons.mp ih).1 y hy)
theorem sortedS_pw {l : List Str} (h : PyProof.Rows.sortedS l = true) : (l.map (·.cps.toList)).Pairwise (· ≤ ·) := by
  cases l with
  | nil => simp
  | cons p l => exact rising_pw p l h
theorem sorted_is {ys : List Str} {us : List Tx} (h : PyProof.Rows.sortedS ys = true) (p : ys.Perm (us.map TS_)) : ys = (us.mergeSort leT).map TS_ := by
  have e : (us.map TS_).map (·.cps.toList) = us := by
    rw [List.map_map]
    conv => rhs; rw [← List.map_id us]
    exact List.map_congr_left fun a _ => by simp [TS_]
  have q := p.map (fun s : Str => s.cps.toList)
  rw [e] at q
  have := rising_unique (sortedS_pw h) (leT_sorted us) (q.trans (List.mergeSort_perm us leT).symm)
  rw [← this, List.map_map]
  conv => lhs; rw [← List.map_id ys]
  exact List.map_congr_left fun a _ => by simp [TS_]
theorem relPs_strs {U : Addr → Prop} {H : Hp} : ∀ (l : List Tx), RelPs U H (l.map P.str) ((l.map TS_).map V.str)
  | [] => by simp [RelPs]
  | x :: l => by
    simp only [List.map_cons, RelPs]
    exact ⟨_, _, rfl, by simp only [RelP], relPs_strs l⟩
theorem uq_list (l : List Tx) : NHSet.uqS (l.map TS_) = (uqT l).map TS_ := by
  have key : ∀ (l : List Tx) (a : List Tx), l.foldl (fun a x => NHSet.one1 a (TS_ x)) (a.map TS_) = (l.foldl one1T a).map TS_ := by
    intro l
    induction l with
    | nil => intro a; rfl
    | cons x l ih =>
      intro a
      simp only [List.foldl_cons]
      have h1 : NHSet.one1 (a.map TS_) (TS_ x) = (one1T a x).map TS_ := by
        unfold NHSet.one1 one1T
        have h2 : (a.map TS_).any (· == TS_ x) = a.any (· == x) := by
          rw [List.any_map]
          congr 1
          funext y
          exact ts_beq y x
        rw [h2]
        split <;> simp
      rw [h1, ih]
  have := key l []
  simp only [List.map_nil] at this
  unfold NHSet.uqS uqT
  rw [List.foldl_map, this]
theorem uqT_nodup (l : List Tx) : (uqT l).Nodup := by
  have key : ∀ (l a : List Tx), a.Nodup → (l.foldl one1T a).Nodup := by
    intro l
    induction l with
    | nil => intro a h; exact h
    | cons x l ih =>
      intro a h
      simp only [List.foldl_cons]
      refine ih _ ?_
      unfold one1T
      split
      · exact h
      · rename_i hx
        rw [List.nodup_append]
        refine ⟨h, by simp, fun b hb c hc e => ?_⟩
        simp only [List.mem_cons, List.not_mem_nil, or_false] at hc
        subst hc
        subst e
        simp only [Bool.not_eq_true, List.any_eq_false, beq_iff_eq] at hx
        exact hx b hb rfl
  exact key l [] (by simp)
end NH
section
open NH PySem PySem.Spec PyProof.Rows L2
namespace NH
variable [W : TheW]
variable {X : Cx}
def tSS (K : PySem.W.Frag) (ta : TE) : TE := fun σ H Q => ta σ H fun x H1 => ∃ (l : Addr) (ts : List Tx), x = .ref l ∧ SqL K H1 l ((ts.map TS_).map V.str) ∧ (uqT ts).length < 64 ∧
  ∀ p, H1 p = none → Q (.ref p) (upd H1 p (.lst ((((uqT ts).mergeSort leT).map TS_).map V.str)))
theorem sset_run {pins : List (Addr × Obj)} {σ : L2.St} {H1 : Hp} {s2 : Shared} {a : Addr} {ts : List Tx} {Q : VK} (hc : X.calm = true) (I2 : Inv X pins σ H1 s2) (hS : NHSet.SetRS X.prog X.w s2.heap a (fun k' => ((uqT ts).map TS_).any (· == k')) ((uqT ts).map TS_).length) (h64 : (uqT ts).length < 64)
    (q1 : ∀ p, H1 p = none → Q (.ref p) (upd H1 p (.lst ((((uqT ts).mergeSort leT).map TS_).map V.str)))) : wpAny (model X.prog X.w) X.A (call (.builtin "sorted") [Value.ref a]) (EP X pins σ Q) X.xe s2 := by
  refine NHSet.sorted_setRS hS (I2.ok.hd hc) (by rw [List.length_map]; exact h64) fun s' p' out c ys k g o hp hg' hi hs hnd hm' hl => ?_
  have hys : ys.Perm ((uqT ts).map TS_) := by
    refine (List.perm_ext_iff_of_nodup hnd ((uqT_nodup ts).map (f := TS_) fun a b hab e => hab (by have := congrArg (fun s : Str => s.cps.toList) e; simpa [TS_] using this))).mpr fun k' => ?_
    rw [hm' k', List.any_eq_true]
    constructor
    · rintro ⟨y, hy, e⟩
      rw [beq_iff_eq] at e
      exact e ▸ hy
    · exact fun hy => ⟨k', hy, by simp⟩
  have hyi := sorted_is hs hys
  have hlen : (ys.map V.str).length ≤ sizeLine := by rw [List.length_map, hl, List.length_map, sizeLine_eq]; omega
  have hn : H1 p' = none := I2.hok.fresh hp
  have J : Inv X pins σ (upd H1 p' (.lst (ys.map V.str))) { s2 with heap := s'.heap, gens := s'.gens, drawn := s'.drawn, toks := s'.toks } :=
    I2.call (ch := []) (Un.laid k hp hn) (I2.hok.laid k hp ⟨hlen, out.toList, c, vals_of_strs hi, hg'⟩) (by rw [g]; exact I2.bare) (fun _ z => nomatch z)
  have e : s' = { s2 with heap := s'.heap, gens := s'.gens, drawn := s'.drawn, toks := s'.toks } := by
    cases s'
    cases s2
    cases o
    rfl
  rw [e]
  rw [hyi] at J
  exact ⟨.ref p', _, J, rfl, q1 p' hn⟩
theorem pe_SS {a : Expr} {ta : TE} {p p2 q pos : Pos} (hc : X.calm = true) (hg : Gl X "sorted") (hm : X.mg "sorted" = none) (hg2 : Gl X "set") (hm2 : X.mg "set" = none) (ha : PE X a ta)
    (na : starEach [a] X.env = (false, eval a X.env) :: starEach [] X.env) : PE X (.Call (.Name "sorted" p) [.Call (.Name "set" p2) [a] [] q] [] pos) (tSS X.K ta) := by
  refine ⟨fun pins s σ H Q I h => ?_⟩
  refine Call_ (ld_blt I hg hm (show bootBuiltins "sorted" = some (.builtin "sorted") by decide +kernel) ?_)
  refine PyProof.Rows.callWith_builtin1 (PyProof.Rows.args_cons ?_ rfl) rfl rfl
  refine Call_ (ld_blt I hg2 hm2 boot_set ?_)
  refine PyProof.Rows.callWith_type1 (PyProof.Rows.args_cons (thn (ha.run pins s σ H _ I h) fun v s1 ⟨x, H1, I1, r1, q1⟩ => PyProof.Rows.args_nil ?_) na) na rfl
  obtain ⟨l, ts, rfl, hq, h64, q1⟩ := q1
  cases r1
  have hbd : (NHSet.uqS (ts.map TS_)).length + 1 < scanBound := by rw [uq_list, List.length_map]; unfold scanBound; omega
  obtain ⟨its, r, pl, hz⟩ := I1.list hq
  refine NHSet.set_listR (I1.ok.hd hc) pl.isList (by simpa using strsAre_of r) hbd fun h' tk hS hk => ?_
  refine PyProof.Rows.args_nil ?_
  have I2 : Inv X pins σ H1 { s1 with heap := h', toks := tk } := I1.kept fun b o e => hk b o (Heap.lt_size e) e
  rw [uq_list] at hS
  exact sset_run hc I2 hS h64 q1
end NH
end
namespace NH
variable [W : TheW]
open PySem L2
section
variable {I : Inf} {T : Nat → Option Fn} {n : Nat} {S : Sx} {X : Cx} {C : Calls} {c : CE} {e : Expr} {p p2 q pos : Pos}
theorem s_sset (G : Good I T n S X) (B : Bl I S "sorted") (B2 : Bl I S "set") {m : Bool} (he : PE X e (tE X.K C c)) (hs : starB e = true) : PE X (.Call (.Name "sorted" p) [.Call (.Name "set" p2) [e] [] q] [] pos) (tE X.K C (.sset m c)) := by
  refine PE.weak (pe_SS G.calm (gl_of G B.g) (G.bl _ B.b) (gl_of G B2.g) (G.bl _ B2.b) he (star_of hs)) fun σ H Q h => ?_
  obtain ⟨Z, M, st, δ, d, st', sr, er, ev, k⟩ := h
  obtain ⟨y, st1, e1, ev⟩ := R.bind_eq_ok ev
  refine one sr er e1 fun v M2 H2 f2 s2 r2 => ?_
  split at ev
  · rename_i l hl
    obtain ⟨q, hq, hl2⟩ := Option.bind_eq_some_iff.mp hl
    cases q with
    | lst l' =>
      simp only [ssetP, Option.bind_eq_some_iff] at hl2
      obtain ⟨ts, h1, h2⟩ := hl2
      split at h2
      · rename_i hlt
        have h3 := Option.some.inj h2
        obtain ⟨a, vs, rfl, h4, h5⟩ := rd_top s2 r2 hq
        rw [strs_of h1 h5] at h4
        refine ⟨a, ts, rfl, h4, hlt, fun p3 hp3 => ?_⟩
        rw [srt_leT] at h3
        subst h3
        obtain ⟨M3, f3, s3, r3⟩ := mkL_ok (K := X.K) s2 (relPs_strs _) ev hp3
        exact k _ M3 _ (f2.trans f3) s3 r3
      · cases h2
    | _ => simp [ssetP] at hl2
  · cases ev
theorem ks_of {U : Addr → Prop} {H : Hp} : ∀ {l : List (Ky × P)} {ks : List (Key × V)} {ts : List Tx}, RelKs U H l ks → allStr (l.map fun e => e.1.toP) = some ts → ks.map (·.1) = (ts.map TS_).map Sum.inr
  | [], ks, ts, r, h => by
    simp only [RelKs] at r
    subst r
    simp only [List.map_nil, allStr, Option.some.injEq] at h
    subst h
    rfl
  | (k, p) :: l, ks, ts, r, h => by
    simp only [RelKs] at r
    obtain ⟨v, q, rfl, h1, h2⟩ := r
    cases k with
    | int i => simp [allStr, Ky.toP] at h
    | str x =>
      simp only [List.map_cons, Ky.toP, allStr, Option.map_eq_some_iff] at h
      obtain ⟨ts', h3, rfl⟩ := h
      simp only [List.map_cons]
      rw [ks_of h2 h3]
      rfl
theorem s_ksrt (G : Good I T n S X) (B : Bl I S "sorted") {m : Bool} (he : PE X e (tE X.K C c)) (hs : starB e = true) : PE X (.Call (.Name "sorted" p) [e] [] pos) (tE X.K C (.ksrt m c)) := by
  refine PE.weak (pe_callB (call_sortedD G.calm) (gl_of G B.g) (G.bl _ B.b) (by decide +kernel) (pa_cons he pa_nil (star_of hs)) (nodbg_of B.d).2 (nodbg_of B.d).1 (star_of hs) rfl) fun σ H Q h => ?_
  obtain ⟨Z, M, st, δ, d, st', sr, er, ev, k⟩ := h
  obtain ⟨y, st1, e1, ev⟩ := R.bind_eq_ok ev
  refine one sr er e1 fun v M2 H2 f2 s2 r2 => ?_
  split at ev
  · rename_i l hl
    obtain ⟨q, hq, hl2⟩ := Option.bind_eq_some_iff.mp hl
    cases q with
    | dic l' =>
      simp only [ksrtP, Option.bind_eq_some_iff] at hl2
      obtain ⟨ts, h1, h2⟩ := hl2
      split at h2
      · rename_i hlt
        have h3 := Option.some.inj h2
        obtain ⟨a, ks, rfl, h4, h6⟩ := rd_top s2 r2 hq
        refine ⟨a, ks, ts.map TS_, rfl, h4, ks_of h6 h1, by rw [List.length_map]; exact hlt, fun ys p3 hp hys hp3 => ?_⟩
        have hyi := sorted_is hys hp
        rw [srt_leT] at h3
        subst h3
        obtain ⟨M3, f3, s3, r3⟩ := mkL_ok (K := X.K) s2 (relPs_strs _) ev hp3
        rw [hyi]
        exact k _ M3 _ (f2.trans f3) s3 r3
      · cases h2
    | _ => simp [ksrtP] at hl2
  · cases ev
end
end NH
namespace NH
variable [W : TheW]
open PySem L2
def supB : Expr → Bool
  | .Call (.Name _ _) [] [] _ => false
  | _ => true
theorem sup_of {o : Expr} {nm : Str} {env : PySem.Env} (h : supB o = true) : attributeBase o nm env (eval o env) = eval o env := by
  unfold attributeBase
  split
  · simp [supB] at h
  · rfl
def lineB (a c : Pos) : Bool := a.endLine == c.line
theorem few_of {pos : Pos} {env : PySem.Env} {es : List Expr} (h : plainEs es = true) (hl : es.length < 29) :
    ((backTo pos (starEach es env)).all (fun x => !x.1) && (backToKw pos (keywordEach [] env)).all (fun x => x.1.isSome)
      && decide (es.length + ([] : List Keyword).length + (if ([] : List Keyword).isEmpty then 0 else 1) < 30)) = true := by
  rw [plain_all h]
  show (true && true && decide _) = true
  simp only [Bool.true_and, decide_eq_true_eq]
  show es.length + 0 + 0 < 30
  omega
section
variable {K : PySem.W.Frag} {Z : Addr → Prop} {M : List Addr} {st : Store} {H : Hp}
theorem tyV_list {d : D} {v : V} (sr : SRel Z M st H) (r : RelD K Z M st H d v) (h : (rd st d).bind tyOf = some .list) : tyV K "list" v H := by
  obtain ⟨p, hp, ht⟩ := Option.bind_eq_some_iff.mp h
  have t := rd_top sr r hp
  cases p <;> simp only [tyOf] at ht <;> cases ht
  obtain ⟨a, vs, rfl, h1, _⟩ := t
  exact .inl ⟨rfl, vs, h1⟩
theorem isD_of {d : D} {v : V} (sr : SRel Z M st H) (r : RelD K Z M st H d v) (h : (rd st d).bind tyOf = some .dict) : ∃ a, v = .ref a ∧ IsD H a := by
  obtain ⟨p, hp, ht⟩ := Option.bind_eq_some_iff.mp h
  have t := rd_top sr r hp
  cases p <;> simp only [tyOf] at ht <;> cases ht
  obtain ⟨a, vs, rfl, h1, _⟩ := t
  exact ⟨a, rfl, .inl ⟨vs, h1⟩⟩
theorem str_of {d : D} {v : V} (sr : SRel Z M st H) (r : RelD K Z M st H d v) (h : (rd st d).bind tyOf = some .str) : ∃ x, rd st d = some (.str x) ∧ v = .str (TS_ x) := by
  obtain ⟨p, hp, ht⟩ := Option.bind_eq_some_iff.mp h
  have t := rd_top sr r hp
  cases p <;> simp only [tyOf] at ht <;> cases ht
  exact ⟨_, hp, t⟩
theorem rds_pures {ds : List D} {l : List P} : pures ds = some l → rds st ds = some l := by
  induction ds generalizing l with
  | nil => intro h; exact h
  | cons d ds ih =>
    intro h
    cases d with
    | p x =>
      simp only [pures] at h
      split at h
      · rename_i l' hl; cases h; simp only [rds, rd, ih hl]
      · cases h
    | r k => cases h
    | c x => cases h
theorem write_lst {k : Nat} {l l' : List P} {vs vs' : List V} {a : Addr} (sr : SRel Z M st H) (hk : M[k]? = some a) (h1 : st[k]? = some (.lst l)) (h2 : H a = some (.lst vs)) (r : RelPs (Mu Z M st) H l' vs') :
    Frm Z M st H M (st.set k (.lst l')) (upd H a (.lst vs')) ∧ SRel Z M (st.set k (.lst l')) (upd H a (.lst vs')) := by
  have f := Frm.write (ob' := .lst l') (o := .lst vs') sr hk h1 (by simp) (by simp) (fun x u z => by rw [h2] at z; cases z)
  exact ⟨f, .write sr hk h1 (by simp) (by simp) (by simp) (fun x u z => by rw [h2] at z; cases z) ⟨vs', upd_same, r.fr f⟩⟩
theorem write_dic {k : Nat} {l l' : List (Ky × P)} {vs vs' : List (Key × V)} {a : Addr} (sr : SRel Z M st H) (hk : M[k]? = some a) (h1 : st[k]? = some (.dic l)) (h2 : H a = some (.dK vs)) (r : RelKs (Mu Z M st) H l' vs') :
    Frm Z M st H M (st.set k (.dic l')) (upd H a (.dK vs')) ∧ SRel Z M (st.set k (.dic l')) (upd H a (.dK vs')) := by
  have f := Frm.write (ob' := .dic l') (o := .dK vs') sr hk h1 (by simp) (by simp) (fun x u z => by rw [h2] at z; cases z)
  exact ⟨f, .write sr hk h1 (by simp) (by simp) (by simp) (fun x u z => by rw [h2] at z; cases z) ⟨vs', upd_same, r.fr f⟩⟩
theorem RelPs.one' {U : Addr → Prop} {p : P} {vs : List V} (r : RelPs U H [p] vs) : ∃ v, vs = [v] ∧ RelP U H p v := by
  simp only [RelPs] at r
  obtain ⟨v, q, rfl, h, rfl⟩ := r
  exact ⟨v, rfl, h⟩
theorem RelPs.two' {U : Addr → Prop} {p q : P} {vs : List V} (r : RelPs U H [p, q] vs) : ∃ v w, vs = [v, w] ∧ RelP U H p v ∧ RelP U H q w := by
  simp only [RelPs] at r
  obtain ⟨v, q', rfl, h, w, q2, rfl, h2, rfl⟩ := r
  exact ⟨v, w, rfl, h, h2⟩
theorem RelPs.dropLast {U : Addr → Prop} {l : List P} {vs : List V} (r : RelPs U H l vs) : RelPs U H l.dropLast vs.dropLast := by
  rw [List.dropLast_eq_take, List.dropLast_eq_take, r.length]
  exact r.take _
theorem RelPs.last {U : Addr → Prop} {l : List P} {vs : List V} {p : P} (r : RelPs U H l vs) (h : l.getLast? = some p) : ∃ v, vs[vs.length - 1]? = some v ∧ RelP U H p v := by
  rw [List.getLast?_eq_getElem?] at h
  rw [r.length]
  exact r.get h
end
section
variable {I : Inf} {T : Nat → Option Fn} {n : Nat} {S : Sx} {X : Cx} {C : Calls} {cs : CEs} {co : CE} {o e : Expr} {es : List Expr} {apos pos : Pos}
theorem notMu_ref {U : Addr → Prop} {H : Hp} {b : Addr} : ∀ {p : P}, RelP U H p (.ref b) → ¬ U b
  | .non, h => by simp [RelP] at h
  | .bl _, h => by simp [RelP] at h
  | .int _, h => by simp [RelP] at h
  | .str _, h => by simp [RelP] at h
  | .tup l, h => by
    simp only [RelP] at h
    obtain ⟨a', _, e4, _, n, _⟩ := h
    cases e4; exact n
  | .lst l, h => by
    simp only [RelP] at h
    obtain ⟨a', _, e4, _, n, _⟩ := h
    cases e4; exact n
  | .dic l, h => by
    simp only [RelP] at h
    obtain ⟨a', _, e4, _, n, _⟩ := h
    cases e4; exact n
theorem recv_ty {m : Mt} {st : Store} {x : D} (h : recvOk m st x = true) : (rd st x).bind tyOf = some (mtTy m) := by
  unfold recvOk at h
  split at h
  · split at h
    · rename_i hk
      simp only [rd, hk]
      rfl
    · cases h
  · cases h
  · simpa using h
theorem meth_r {m : Mt} {δ : Env} {st st' : Store} {d_ : D} (ev : evE C (.meth m co cs) δ st = .ok d_ st') : ∃ x st1 ds st2 ps, evE C co δ st = .ok x st1 ∧ recvOk m st1 x = true ∧ evEs C cs δ st1 = .ok ds st2 ∧ pures ds = some ps ∧
    ((∃ k ob v ob', x = .r k ∧ st2[k]? = some ob ∧ mtM m ob ps = some (v, ob') ∧ d_ = .p v ∧ st' = st2.set k ob') ∨ (∃ p v, rd st2 x = some p ∧ mtP m p ps = some v ∧ d_ = .p v ∧ st' = st2)) := by
  obtain ⟨x, st1, e1, ev⟩ := R.bind_eq_ok ev
  split at ev
  · rename_i ht
    obtain ⟨ds, st2, e2, ev⟩ := R.bind_eq_ok ev
    have gen : ∀ {d : D}, lift ((rd st2 d).bind fun p => (pures ds).bind fun ps => (mtP m p ps).map .p) st2 = R.ok d_ st' → ∃ ps, pures ds = some ps ∧ ∃ p v, rd st2 d = some p ∧ mtP m p ps = some v ∧ d_ = .p v ∧ st' = st2 := fun {d} ev => by
      obtain ⟨ev2, rfl⟩ := lift_eq_ok ev
      obtain ⟨p, hp, ev3⟩ := Option.bind_eq_some_iff.mp ev2
      obtain ⟨ps, hps, ev4⟩ := Option.bind_eq_some_iff.mp ev3
      obtain ⟨v, hv, rfl⟩ := Option.map_eq_some_iff.mp ev4
      exact ⟨ps, hps, p, v, hp, hv, rfl, rfl⟩
    cases x with
    | r k =>
      dsimp only at ev
      split at ev
      · rename_i ob ps ho hps
        split at ev
        · rename_i v ob' hm
          cases ev
          exact ⟨_, st1, ds, st2, ps, e1, ht, e2, hps, .inl ⟨k, ob, v, ob', rfl, ho, hm, rfl, rfl⟩⟩
        · obtain ⟨ev2, rfl⟩ := lift_eq_ok ev
          obtain ⟨p, hp, ev3⟩ := Option.bind_eq_some_iff.mp ev2
          obtain ⟨v, hv, rfl⟩ := Option.map_eq_some_iff.mp ev3
          exact ⟨_, st1, ds, _, ps, e1, ht, e2, hps, .inr ⟨p, v, hp, hv, rfl, rfl⟩⟩
      · cases ev
    | p y =>
      obtain ⟨ps, hps, z⟩ := gen ev
      exact ⟨_, st1, ds, _, ps, e1, ht, e2, hps, .inr z⟩
    | c y =>
      obtain ⟨ps, hps, z⟩ := gen ev
      exact ⟨_, st1, ds, _, ps, e1, ht, e2, hps, .inr z⟩
  · cases ev
structure LM (X : Cx) (m : Mt) (name : Str) (id : String) (r : V → List V → Hp → VK → Prop) : Prop where
  slot : Slot "list" name id
  ty : typeOf (.builtin id) = pure (.type "method_descriptor")
  mt : MtR X id r
  kind : mtTy m = .list
  rule : ∀ (l : List P) (ps : List P) (v : P) (ob' : MO), mtM m (.lst l) ps = some (v, ob') → ∃ l', ob' = .lst l' ∧ ∀ (U : Addr → Prop) (H : Hp) (a : Addr) (vs ws : List V) (Q : VK), H a = some (.lst vs) → (∀ b, ws = [.ref b] → b ≠ a) → RelPs U H l vs → RelPs U H ps ws →
      ∃ vs' u, RelPs U H l' vs' ∧ RelP U H v u ∧ (Q u (upd H a (.lst vs')) → r (.ref a) ws H Q)
  np : ∀ p ps, mtP m p ps = none
  ob : ∀ ob ps v ob', mtM m ob ps = some (v, ob') → ∃ l, ob = .lst l
theorem lm_fin {m : Mt} {name : Str} {id : String} {r : V → List V → Hp → VK → Prop} (L : LM X m name id r) {Z : Addr → Prop} {M1 M2 : List Addr} {st1 st2 st' : Store} {H1 H2 : Hp} {x : D} {v1 : V} {ds : List D} {ps : List P} {ws : List V} {d : D} {Q : VK}
    (f2 : Frm Z M1 st1 H1 M2 st2 H2) (s2 : SRel Z M2 st2 H2) (r1 : RelD X.K Z M1 st1 H1 x v1) (r2 : RelDs X.K Z M2 st2 H2 ds ws) (hps : pures ds = some ps)
    (h2 : (∃ k ob v ob', x = .r k ∧ st2[k]? = some ob ∧ mtM m ob ps = some (v, ob') ∧ d = .p v ∧ st' = st2.set k ob') ∨ (∃ p v, rd st2 x = some p ∧ mtP m p ps = some v ∧ d = .p v ∧ st' = st2))
    (k : ∀ v M' H', Frm Z M2 st2 H2 M' st' H' → SRel Z M' st' H' → RelD X.K Z M' st' H' d v → Q v H') : r v1 ws H2 Q := by
  rcases h2 with ⟨kk, ob, v, ob', rfl, h3, h4, rfl, rfl⟩ | ⟨p, v, _, h4, _⟩
  · obtain ⟨l, rfl⟩ := L.ob _ _ _ _ h4
    obtain ⟨l', rfl, h5⟩ := L.rule l ps v _ h4
    obtain ⟨a, rfl, h6, vs, h7, h8⟩ := RelD.ref_get s2 (r1.fr f2) h3
    have hne : ∀ b, ws = [.ref b] → b ≠ a := fun b e e2 => by
      subst e; subst e2
      have rp := r2.pures hps
      cases ps with
      | nil => simp [RelPs] at rp
      | cons p ps =>
        simp only [RelPs] at rp
        obtain ⟨v, q, e3, h9, _⟩ := rp
        cases e3
        exact notMu_ref h9 (.inr ⟨kk, _, h6, h3, by simp⟩)
    obtain ⟨vs', u, q1, q2, q3⟩ := h5 _ H2 a vs ws Q h7 hne h8 (r2.pures hps)
    refine q3 ?_
    obtain ⟨f3, s3⟩ := write_lst s2 h6 h3 h7 q1
    exact k u M2 _ f3 s3 (q2.fr f3)
  · rw [L.np] at h4; cases h4
theorem s_lm {m : Mt} {name : Str} {id : String} {r : V → List V → Hp → VK → Prop} (L : LM X m name id r) (ho : PE X o (tE X.K C co)) (ha : PA X (e :: es) (tEs X.K C cs)) (hs : supB o = true) (hl : lineB apos pos = true) (hp : plainEs (e :: es) = true) (hlen : (e :: es).length < 29) :
    PE X (.Call (.Attribute o name apos) (e :: es) [] pos) (tE X.K C (.meth m co cs)) := by
  have hp' := hp
  simp only [plainEs, Bool.and_eq_true] at hp'
  refine PE.weak (pe_bm PySem.F.plainAttrs_list L.slot L.ty L.mt ho ha (sup_of hs) (few_of hp hlen) hl (star_of hp'.1) (plain_any hp'.2)) fun σ H Q h => ?_
  obtain ⟨Z, M, st, δ, d, st', sr, er, ev, k⟩ := h
  obtain ⟨x, st1, ds, st2, ps, e1, ht, e2, hps, h2⟩ := meth_r ev
  refine one sr er e1 fun v1 M1 H1 f1 s1 r1 => ⟨tyV_list s1 r1 (by rw [← L.kind]; exact recv_ty ht), many s1 (er.fr f1) e2 fun ws M2 H2 f2 s2 r2 => ?_⟩
  exact lm_fin L f2 s2 r1 r2 hps h2 fun v M' H' f s q => k v M' H' (f1.trans (f2.trans f)) s q
theorem s_lm0 {m : Mt} {name : Str} {id : String} {r : V → List V → Hp → VK → Prop} (L : LM X m name id r) (ho : PE X o (tE X.K C co)) (hs : supB o = true) (hl : lineB apos pos = true) :
    PE X (.Call (.Attribute o name apos) [] [] pos) (tE X.K C (.meth m co .nil)) := by
  refine PE.weak (pe_bm0 PySem.F.plainAttrs_list L.slot L.ty L.mt ho (sup_of hs) hl) fun σ H Q h => ?_
  obtain ⟨Z, M, st, δ, d, st', sr, er, ev, k⟩ := h
  obtain ⟨x, st1, ds, st2, ps, e1, ht, e2, hps, h2⟩ := meth_r ev
  cases e2
  refine one sr er e1 fun v1 M1 H1 f1 s1 r1 => ⟨tyV_list s1 r1 (by rw [← L.kind]; exact recv_ty ht), ?_⟩
  exact lm_fin L .refl s1 r1 (ds := []) (by rfl) hps h2 fun v M' H' f s q => k v M' H' (f1.trans f) s q
theorem lm_append : LM X .append "append" "list.append" rAppend where
  slot := PySem.F.slot_list_append
  ty := PySem.F.type_list_append
  mt := mt_append
  kind := rfl
  rule := fun l ps v ob' h => by
    rcases ps with _ | ⟨x, _ | ⟨y, r⟩⟩ <;> simp only [mtM] at h <;> try cases h
    split at h
    · rename_i hz
      cases h
      refine ⟨_, rfl, fun U H a vs ws Q ha _ r1 r2 => ?_⟩
      obtain ⟨w, rfl, r3⟩ := r2.one'
      exact ⟨vs ++ [w], .non, r1.append r2, rfl, fun q => ⟨a, vs, w, rfl, rfl, ha, by rw [r1.length, ← line_eq]; exact hz, q⟩⟩
    · cases h
  np := fun p ps => by cases p <;> cases ps <;> rfl
  ob := fun ob ps v ob' h => by
    cases ob <;> simp only [mtM] at h <;> first | exact ⟨_, rfl⟩ | cases h
theorem lm_extend : LM X .extend "extend" "list.extend" rExtend where
  slot := PySem.F.slot_list_extend
  ty := PySem.F.type_list_extend
  mt := mt_extend
  kind := rfl
  rule := fun l ps v ob' h => by
    rcases ps with _ | ⟨x, _ | ⟨y, r⟩⟩ <;> try (simp only [mtM] at h; cases h; done)
    · cases x <;> simp only [mtM] at h <;> try cases h
      split at h
      · rename_i hz
        cases h
        refine ⟨_, rfl, fun U H a vs ws Q ha _ r1 r2 => ?_⟩
        obtain ⟨w, rfl, r3⟩ := r2.one'
        simp only [RelP] at r3
        obtain ⟨b, zs, rfl, hb, _, r4⟩ := r3
        exact ⟨vs ++ zs, .non, r1.append r4, rfl, fun q => ⟨a, b, vs, zs, rfl, rfl, ha, hb, by rw [r1.length, r4.length, ← line_eq]; exact hz, q⟩⟩
      · cases h
  np := fun p ps => by cases p <;> cases ps <;> rfl
  ob := fun ob ps v ob' h => by
    cases ob <;> simp only [mtM] at h <;> first | exact ⟨_, rfl⟩ | cases h
theorem lm_pop0 : LM X .pop0 "pop" "list.pop" rPop where
  slot := PySem.F.slot_list_pop
  ty := PySem.F.type_list_pop
  mt := mt_pop
  kind := rfl
  rule := fun l ps v ob' h => by
    rcases ps with _ | ⟨x, r⟩ <;> simp only [mtM] at h <;> try cases h
    split at h
    · rename_i x hx
      cases h
      refine ⟨_, rfl, fun U H a vs ws Q ha _ r1 r2 => ?_⟩
      simp only [RelPs] at r2
      subst r2
      obtain ⟨w, h1, h2⟩ := r1.last hx
      exact ⟨vs.dropLast, w, r1.dropLast, h2, fun q => ⟨a, vs, w, rfl, rfl, ha, h1, q⟩⟩
    · cases h
  np := fun p ps => by cases p <;> cases ps <;> rfl
  ob := fun ob ps v ob' h => by
    cases ob <;> simp only [mtM] at h <;> first | exact ⟨_, rfl⟩ | cases h
theorem ixOf_seq {n : Nat} {i : Int} {k : Nat} (h : ixOf n i = some k) : seqIndex? i n = some k := (ixN_seq (show ixN n i = some k from h)).1
theorem lm_pop1 : LM X .pop1 "pop" "list.pop" rPopAt where
  slot := PySem.F.slot_list_pop
  ty := PySem.F.type_list_pop
  mt := mt_popAt
  kind := rfl
  rule := fun l ps v ob' h => by
    rcases ps with _ | ⟨x, _ | ⟨y, r⟩⟩ <;> try (simp only [mtM] at h; cases h; done)
    · cases x <;> simp only [mtM] at h <;> try cases h
      split at h
      · rename_i hz
        obtain ⟨k, hk, h2⟩ := Option.bind_eq_some_iff.mp h
        obtain ⟨p, hp, h3⟩ := Option.map_eq_some_iff.mp h2
        cases h3
        refine ⟨_, rfl, fun U H a vs ws Q ha _ r1 r2 => ?_⟩
        obtain ⟨w, rfl, r3⟩ := r2.one'
        simp only [RelP] at r3
        subst r3
        obtain ⟨u, h4, h5⟩ := r1.get hp
        exact ⟨vs.eraseIdx k, u, r1.eraseIdx k, h5, fun q => ⟨a, vs, _, k, u, rfl, rfl, ha, by omega, by omega, by rw [r1.length]; exact ixOf_seq hk, h4, q⟩⟩
      · cases h
  np := fun p ps => by cases p <;> cases ps <;> rfl
  ob := fun ob ps v ob' h => by
    cases ob <;> simp only [mtM] at h <;> first | exact ⟨_, rfl⟩ | cases h
theorem lm_reverse : LM X .reverse "reverse" "list.reverse" rReverse where
  slot := PySem.F.slot_list_reverse
  ty := PySem.F.type_list_reverse
  mt := mt_reverse
  kind := rfl
  rule := fun l ps v ob' h => by
    rcases ps with _ | ⟨x, r⟩ <;> simp only [mtM] at h <;> try cases h
    refine ⟨_, rfl, fun U H a vs ws Q ha _ r1 r2 => ?_⟩
    simp only [RelPs] at r2
    subst r2
    exact ⟨vs.reverse, .non, r1.reverse, rfl, fun q => ⟨a, vs, rfl, rfl, ha, q⟩⟩
  np := fun p ps => by cases p <;> cases ps <;> rfl
  ob := fun ob ps v ob' h => by
    cases ob <;> simp only [mtM] at h <;> first | exact ⟨_, rfl⟩ | cases h
theorem lm_clear : LM X .clear "clear" "list.clear" rClear where
  slot := PySem.F.slot_list_clear
  ty := PySem.F.type_list_clear
  mt := mt_clear
  kind := rfl
  rule := fun l ps v ob' h => by
    rcases ps with _ | ⟨x, r⟩ <;> simp only [mtM] at h <;> try cases h
    refine ⟨_, rfl, fun U H a vs ws Q ha _ r1 r2 => ?_⟩
    simp only [RelPs] at r2
    subst r2
    exact ⟨[], .non, by simp [RelPs], rfl, fun q => ⟨a, vs, rfl, rfl, ha, q⟩⟩
  np := fun p ps => by cases p <;> cases ps <;> rfl
  ob := fun ob ps v ob' h => by
    cases ob <;> simp only [mtM] at h <;> first | exact ⟨_, rfl⟩ | cases h
def rInsert : V → List V → Hp → VK → Prop := fun x vs H Q => ∃ (l : Addr) (xs : List V) (i : Int) (y : V), x = .ref l ∧ vs = [.int i, y] ∧ H l = some (.lst xs) ∧ xs.length < sizeLine ∧ 0 ≤ i ∧ i < 2 ^ 63 ∧
    Q .non (upd H l (.lst (xs.take i.toNat ++ [y] ++ xs.drop i.toNat)))
theorem lm_insert : LM X .insert "insert" "list.insert" rInsert where
  slot := PySem.F.slot_list_insert
  ty := PySem.F.type_list_insert
  mt := mt_insert
  kind := rfl
  rule := fun l ps v ob' h => by
    rcases ps with _ | ⟨x, _ | ⟨y, _ | ⟨z, r⟩⟩⟩ <;> try (simp only [mtM] at h; cases h; done)
    · cases x <;> simp only [mtM] at h <;> try cases h
      split at h
      · rename_i hz
        cases h
        refine ⟨_, rfl, fun U H a vs ws Q ha _ r1 r2 => ?_⟩
        obtain ⟨w, u, rfl, r3, r4⟩ := r2.two'
        simp only [RelP] at r3
        subst r3
        refine ⟨vs.take _ ++ [u] ++ vs.drop _, .non, ?_, rfl, fun q => ⟨a, vs, _, u, rfl, rfl, ha, by rw [r1.length, ← line_eq]; exact hz.2.2, hz.1, by omega, q⟩⟩
        rw [List.append_assoc]
        exact (r1.take _).append ((RelPs.one r4).append (r1.drop _))
      · cases h
  np := fun p ps => by cases p <;> cases ps <;> rfl
  ob := fun ob ps v ob' h => by
    cases ob <;> simp only [mtM] at h <;> first | exact ⟨_, rfl⟩ | cases h
end
end NH
namespace NH
variable [W : TheW]
open PySem L2
section
variable {I : Inf} {T : Nat → Option Fn} {n : Nat} {S : Sx} {X : Cx} {C : Calls} {cs : CEs} {co c1 c2 : CE} {o e f : Expr} {es : List Expr} {apos pos : Pos}
theorem m1_of {name : Str} (hs : supB o = true) (hl : lineB apos pos = true) (he : starB e = true) : M1 X o name apos e pos :=
  ⟨sup_of hs, few_of (es := [e]) (by simp [plainEs, he]) (by simp), hl, by rw [star_of he]; rfl⟩
theorem m2_of {name : Str} (hs : supB o = true) (hl : lineB apos pos = true) (he : starB e = true) (hf : starB f = true) : M2 X o name apos e f pos :=
  ⟨sup_of hs, few_of (es := [e, f]) (by simp [plainEs, he, hf]) (by simp), hl, by rw [star_of he, star_of hf]; rfl⟩
theorem evEs1 {δ : Env} {st st' : Store} {ds : List D} (h : evEs C (.cons c1 .nil) δ st = .ok ds st') : ∃ d, evE C c1 δ st = .ok d st' ∧ ds = [d] := by
  obtain ⟨x, st1, e1, h⟩ := R.bind_eq_ok h
  obtain ⟨y, st2, e2, h⟩ := R.bind_eq_ok h
  cases e2
  cases h
  exact ⟨x, e1, rfl⟩
theorem evEs2 {δ : Env} {st st' : Store} {ds : List D} (h : evEs C (.cons c1 (.cons c2 .nil)) δ st = .ok ds st') : ∃ d st1 d', evE C c1 δ st = .ok d st1 ∧ evE C c2 δ st1 = .ok d' st' ∧ ds = [d, d'] := by
  obtain ⟨x, st1, e1, h⟩ := R.bind_eq_ok h
  obtain ⟨y, st2, e2, h⟩ := R.bind_eq_ok h
  cases h
  obtain ⟨d, e3, rfl⟩ := evEs1 e2
  exact ⟨x, st1, d, e1, e3, rfl⟩
theorem pures1 {d : D} {ps : List P} (h : pures [d] = some ps) : ∃ p, d = .p p ∧ ps = [p] := by
  cases d with
  | p x => cases h; exact ⟨x, rfl, rfl⟩
  | _ => cases h
theorem pures2 {d d' : D} {ps : List P} (h : pures [d, d'] = some ps) : ∃ p q, d = .p p ∧ d' = .p q ∧ ps = [p, q] := by
  cases d with
  | p x =>
    cases d' with
    | p y => cases h; exact ⟨x, y, rfl, rfl, rfl⟩
    | _ => cases h
  | _ => cases h
theorem RelP.toV_ky {U : Addr → Prop} {H : Hp} {p : P} {k : Ky} {v : V} (h : p.toKy = some k) (r : RelP U H p v) : v = kV (kyK k) := by
  cases p <;> simp only [P.toKy] at h <;> first | (cases h; simp only [RelP] at r; exact r) | cases h
theorem set_same {α : Type} : ∀ {l : List α} {k : Nat} {x : α}, l[k]? = some x → l.set k x = l
  | [], k, x, h => by simp at h
  | y :: l, 0, x, h => by simp at h; subst h; rfl
  | y :: l, k + 1, x, h => by simp at h; show y :: l.set k x = y :: l; rw [set_same h]
theorem hu1 (G : Good I T n S X) : X.A.units + 1 < cLine := by have := G.hu; omega
theorem s_get1 (G : Good I T n S X) (ho : PE X o (tE X.K C co)) (he : PE X e (tE X.K C c1)) (hs : supB o = true) (hl : lineB apos pos = true) (hp : starB e = true) :
    PE X (.Call (.Attribute o "get" apos) [e] [] pos) (tE X.K C (.meth .get1 co (.cons c1 .nil))) := by
  refine PE.weak (pe_dget1 (hu1 G) ho he (m1_of hs hl hp)) fun σ H Q h => ?_
  obtain ⟨Z, M, st, δ, d, st', sr, er, ev, k⟩ := h
  obtain ⟨x, st1, ds, st2, ps, e1, ht, e2, hps, h2⟩ := meth_r ev
  obtain ⟨d1, e3, rfl⟩ := evEs1 e2
  obtain ⟨p, rfl, rfl⟩ := pures1 hps
  refine one sr er e1 fun v1 M1 H1 f1 s1 r1 => ?_
  obtain ⟨a, rfl, hd⟩ := isD_of s1 r1 (recv_ty ht)
  refine ⟨a, rfl, hd, one s1 (er.fr f1) e3 fun w M2 H2 f2 s2 r2 => ?_⟩
  rcases h2 with ⟨kk, ob, v, ob', rfl, h3, h4, rfl, rfl⟩ | ⟨q, v, h3, h4, rfl, rfl⟩
  · cases ob <;> simp only [mtM] at h4 <;> cases h4
  · cases q <;> simp only [mtP] at h4 <;> try cases h4
    obtain ⟨ky, hk, rfl⟩ := Option.map_eq_some_iff.mp h4
    obtain ⟨a2, ks, e4, h5, h6⟩ := rd_top s2 (r1.fr f2) h3
    cases e4
    have ew := RelP.toV_ky hk r2
    subst ew
    obtain ⟨o', g, z⟩ := dget_of (k := ky) h5 h6
    refine ⟨o', g, ?_⟩
    rcases z with ⟨z1, rfl⟩ | ⟨p', v', z1, rfl, z3⟩
    · exact k _ M2 H2 (f1.trans f2) s2 (by rw [z1]; simp [RelD, RelP])
    · exact k _ M2 H2 (f1.trans f2) s2 (by rw [z1]; exact z3)
theorem s_get2 (G : Good I T n S X) (ho : PE X o (tE X.K C co)) (he : PE X e (tE X.K C c1)) (hf : PE X f (tE X.K C c2)) (hs : supB o = true) (hl : lineB apos pos = true) (hp : starB e = true) (hp2 : starB f = true) :
    PE X (.Call (.Attribute o "get" apos) [e, f] [] pos) (tE X.K C (.meth .get2 co (.cons c1 (.cons c2 .nil)))) := by
  refine PE.weak (pe_dget2 (hu1 G) ho he hf (m2_of hs hl hp hp2)) fun σ H Q h => ?_
  obtain ⟨Z, M, st, δ, d, st', sr, er, ev, k⟩ := h
  obtain ⟨x, st1, ds, st2, ps, e1, ht, e2, hps, h2⟩ := meth_r ev
  obtain ⟨d1, st3, d2, e3, e4, rfl⟩ := evEs2 e2
  obtain ⟨p, p', rfl, rfl, rfl⟩ := pures2 hps
  refine one sr er e1 fun v1 M1 H1 f1 s1 r1 => ?_
  obtain ⟨a, rfl, hd⟩ := isD_of s1 r1 (recv_ty ht)
  refine ⟨a, rfl, hd, one s1 (er.fr f1) e3 fun w M2 H2 f2 s2 r2 => one s2 (er.fr (f1.trans f2)) e4 fun u M3 H3 f3 s3 r3 => ?_⟩
  rcases h2 with ⟨kk, ob, v, ob', rfl, h3, h4, rfl, rfl⟩ | ⟨q, v, h3, h4, rfl, rfl⟩
  · cases ob <;> simp only [mtM] at h4 <;> cases h4
  · cases q <;> simp only [mtP] at h4 <;> try cases h4
    obtain ⟨ky, hk, rfl⟩ := Option.map_eq_some_iff.mp h4
    obtain ⟨a2, ks, e4, h5, h6⟩ := rd_top s3 (r1.fr (f2.trans f3)) h3
    cases e4
    have ew := RelP.toV_ky hk r2
    subst ew
    obtain ⟨o', g, z⟩ := dget_of (k := ky) h5 h6
    refine ⟨o', g, ?_⟩
    rcases z with ⟨z1, rfl⟩ | ⟨p'', v', z1, rfl, z3⟩
    · exact k _ M3 H3 (f1.trans (f2.trans f3)) s3 (by rw [z1]; exact r3)
    · exact k _ M3 H3 (f1.trans (f2.trans f3)) s3 (by rw [z1]; exact z3)
theorem s_setd (G : Good I T n S X) (ho : PE X o (tE X.K C co)) (he : PE X e (tE X.K C c1)) (hf : PE X f (tE X.K C c2)) (hs : supB o = true) (hl : lineB apos pos = true) (hp : starB e = true) (hp2 : starB f = true) :
    PE X (.Call (.Attribute o "setdefault" apos) [e, f] [] pos) (tE X.K C (.meth .setdefault co (.cons c1 (.cons c2 .nil)))) := by
  refine PE.weak (pe_dsetd ho he hf (m2_of hs hl hp hp2)) fun σ H Q h => ?_
  obtain ⟨Z, M, st, δ, d, st', sr, er, ev, k⟩ := h
  obtain ⟨x, st1, ds, st2, ps, e1, ht, e2, hps, h2⟩ := meth_r ev
  obtain ⟨d1, st3, d2, e3, e4, rfl⟩ := evEs2 e2
  obtain ⟨p, p', rfl, rfl, rfl⟩ := pures2 hps
  refine one sr er e1 fun v1 M1 H1 f1 s1 r1 => ?_
  obtain ⟨a, rfl, hd⟩ := isD_of s1 r1 (recv_ty ht)
  refine ⟨a, rfl, hd, one s1 (er.fr f1) e3 fun w M2 H2 f2 s2 r2 => one s2 (er.fr (f1.trans f2)) e4 fun u M3 H3 f3 s3 r3 => ?_⟩
  rcases h2 with ⟨kk, ob, v, ob', rfl, h3, h4, rfl, rfl⟩ | ⟨q, v, h3, h4, rfl, rfl⟩
  · cases ob <;> simp only [mtM] at h4 <;> try cases h4
    split at h4
    · rename_i hz
      obtain ⟨ky, hk, h5⟩ := Option.map_eq_some_iff.mp h4
      obtain ⟨a2, e5, h6, ks, h7, h8⟩ := RelD.ref_get s3 (r1.fr (f2.trans f3)) h3
      cases e5
      have ew := RelP.toV_ky hk (show RelP _ _ _ _ from r2)
      subst ew
      refine ⟨ks, kyK ky, h7, rfl, by rw [h8.length, ← line_eq]; exact hz, fun v' hv => ?_, fun hv => ?_⟩
      · rcases h8.val ky with ⟨p1, v1, g1, g2, g3⟩ | ⟨g1, g2⟩
        · rw [g2] at hv; cases hv
          rw [g1] at h5
          cases h5
          rw [set_same h3] at k
          exact k _ M3 H3 (f1.trans (f2.trans f3)) s3 g3
        · rw [g2] at hv; cases hv
      · rcases h8.val ky with ⟨p1, v1, g1, g2, g3⟩ | ⟨g1, g2⟩
        · rw [g2] at hv; cases hv
        · rw [g1] at h5
          cases h5
          obtain ⟨f4, s4⟩ := write_dic s3 h6 h3 h7 (h8.put ky (show RelP _ _ _ _ from r3))
          exact k _ M3 _ (f1.trans (f2.trans (f3.trans f4))) s4 ((show RelD X.K Z M3 _ H3 (.p p') u from r3).fr f4)
    · cases h4
  · cases q <;> simp only [mtP] at h4 <;> cases h4
theorem s_dpop (G : Good I T n S X) (ho : PE X o (tE X.K C co)) (he : PE X e (tE X.K C c1)) (hs : supB o = true) (hl : lineB apos pos = true) (hp : starB e = true) :
    PE X (.Call (.Attribute o "pop" apos) [e] [] pos) (tE X.K C (.meth .dpop1 co (.cons c1 .nil))) := by
  refine PE.weak (pe_dpop1 ho he (m1_of hs hl hp)) fun σ H Q h => ?_
  obtain ⟨Z, M, st, δ, d, st', sr, er, ev, k⟩ := h
  obtain ⟨x, st1, ds, st2, ps, e1, ht, e2, hps, h2⟩ := meth_r ev
  obtain ⟨d1, e3, rfl⟩ := evEs1 e2
  obtain ⟨p, rfl, rfl⟩ := pures1 hps
  refine one sr er e1 fun v1 M1 H1 f1 s1 r1 => ?_
  obtain ⟨a, rfl, hd⟩ := isD_of s1 r1 (recv_ty ht)
  refine ⟨a, rfl, hd, one s1 (er.fr f1) e3 fun w M2 H2 f2 s2 r2 => ?_⟩
  rcases h2 with ⟨kk, ob, v, ob', rfl, h3, h4, rfl, rfl⟩ | ⟨q, v, h3, h4, rfl, rfl⟩
  · cases ob <;> simp only [mtM] at h4 <;> try cases h4
    obtain ⟨ky, hk, h5⟩ := Option.bind_eq_some_iff.mp h4
    obtain ⟨p5, h6, h7⟩ := Option.map_eq_some_iff.mp h5
    injection h7 with h7 h7'
    subst h7
    subst h7'
    obtain ⟨a2, e5, h8, ks, h9, h10⟩ := RelD.ref_get s2 (r1.fr f2) h3
    cases e5
    have ew := RelP.toV_ky hk (show RelP _ _ _ _ from r2)
    subst ew
    rcases h10.val ky with ⟨p1, v1, g1, g2, g3⟩ | ⟨g1, g2⟩
    · rw [g1] at h6; cases h6
      refine ⟨ks, kyK ky, v1, h9, rfl, g2, ?_⟩
      obtain ⟨f4, s4⟩ := write_dic s2 h8 h3 h9 (h10.drop ky)
      exact k _ M2 _ (f1.trans (f2.trans f4)) s4 ((show RelD X.K Z M2 _ H2 (.p _) v1 from g3).fr f4)
    · rw [g1] at h6; cases h6
  · cases q <;> simp only [mtP] at h4 <;> cases h4
theorem s_upd (G : Good I T n S X) (ho : PE X o (tE X.K C co)) (he : PE X e (tE X.K C c1)) (hs : supB o = true) (hl : lineB apos pos = true) (hp : starB e = true) :
    PE X (.Call (.Attribute o "update" apos) [e] [] pos) (tE X.K C (.meth .update co (.cons c1 .nil))) := by
  have go : ∀ {r : V → List V → Hp → VK → Prop}, MtR X "dict.update" r → PE X (.Call (.Attribute o "update" apos) [e] [] pos) (tBM X.K "dict" r (tE X.K C co) (tCons (tE X.K C c1) tNil)) := fun hr =>
    pe_bm PySem.F.plainAttrs_dict PySem.F.slot_dict_update PySem.F.type_dict_update hr ho (pa_cons he pa_nil (star_of hp)) (sup_of hs) (few_of (es := [e]) (by simp [plainEs, hp]) (by simp)) hl (star_of hp) rfl
  refine PE.cases fun σ H Q h => ?_
  obtain ⟨Z, M, st, δ, d, st', sr, er, ev, k⟩ := h
  obtain ⟨x, st1, ds, st2, ps, e1, ht, e2, hps, h2⟩ := meth_r ev
  obtain ⟨d1, e3, rfl⟩ := evEs1 e2
  obtain ⟨p, rfl, rfl⟩ := pures1 hps
  cases x with
  | p y => simp [recvOk] at ht
  | c y => simp [recvOk] at ht
  | r kk =>
    have ht' : ∃ l, st1[kk]? = some (.dic l) := by
      simp only [recvOk] at ht
      split at ht
      · rename_i l hl; exact ⟨l, hl⟩
      · cases ht
    obtain ⟨l0, hl0⟩ := ht'
    rcases h2 with ⟨kk', ob, v, ob', e9, h3, h4, rfl, rfl⟩ | ⟨q, v, h3, h4, rfl, rfl⟩
    · cases e9
      cases ob <;> cases p <;> simp only [mtM] at h4 <;> try cases h4
      · refine ⟨_, go (mt_update G.calm), ?_⟩
        refine one sr er e1 fun v1 M1 H1 f1 s1 r1 => ?_
        obtain ⟨a, rfl, h8, ks0, h9, _⟩ := RelD.ref_get s1 r1 hl0
        refine ⟨.inr (.inr (.inl ⟨rfl, .inl ⟨ks0, h9⟩⟩)), one (R := fun y H2 => rUpd (.ref a) [y] H2 Q) s1 (er.fr f1) e3 fun w M2 H2 f2 s2 r2 => ?_⟩
        obtain ⟨es, hes, h5⟩ := Option.bind_eq_some_iff.mp h4
        split at h5
        · rename_i hz
          cases h5
          obtain ⟨a2, e5, h10, ks, h11, h12⟩ := RelD.ref_get s2 (r1.fr f2) h3
          cases e5
          have r2' := r2
          simp only [RelD, RelP] at r2'
          obtain ⟨b, vs, rfl, hb, nb, rvs⟩ := r2'
          obtain ⟨ps, kvs, rfl, g1, g2⟩ := toEnts_V hes rvs
          have hlen : (ps.map V.ref).length = _ := rvs.length
          have hk2 : kvs.length = ps.length := by
            have : ∀ {ps : List Addr} {kvs : List (Key × V)}, Paired (fun p kv => H2 p = some (.tup [kV kv.1, kv.2])) ps kvs → kvs.length = ps.length := by
              intro ps kvs h
              induction h with
              | nil => rfl
              | cons _ _ ih => simp [ih]
            exact this g1
          refine ⟨a, b, ps, ks, kvs, rfl, rfl, h11, hb, g1, ?_, ?_⟩
          · rw [List.length_map] at hlen
            rw [h12.length, hk2, hlen, ← line_eq]; exact hz
          · obtain ⟨f4, s4⟩ := write_dic s2 h10 h3 h11 (g2.merge h12)
            exact k _ M2 _ (f1.trans (f2.trans f4)) s4 rfl
        · cases h5
      · split at h4
        · rename_i hz
          cases h4
          refine ⟨_, go mt_updateD, ?_⟩
          refine one sr er e1 fun v1 M1 H1 f1 s1 r1 => ?_
          obtain ⟨a, rfl, h8, ks0, h9, _⟩ := RelD.ref_get s1 r1 hl0
          refine ⟨.inr (.inr (.inl ⟨rfl, .inl ⟨ks0, h9⟩⟩)), one (R := fun y H2 => rUpdD (.ref a) [y] H2 Q) s1 (er.fr f1) e3 fun w M2 H2 f2 s2 r2 => ?_⟩
          obtain ⟨a2, e5, h10, ks, h11, h12⟩ := RelD.ref_get s2 (r1.fr f2) h3
          cases e5
          have r2' := r2
          simp only [RelD, RelP] at r2'
          obtain ⟨b, js, rfl, hb, nb, rjs⟩ := r2'
          refine ⟨a, b, ks, js, rfl, rfl, h11, fun z => nb (z ▸ .inr ⟨kk, _, h10, h3, by simp⟩), hb, by rw [h12.length, rjs.length, ← line_eq]; exact hz, ?_⟩
          obtain ⟨f4, s4⟩ := write_dic s2 h10 h3 h11 (rjs.merge h12)
          exact k _ M2 _ (f1.trans (f2.trans f4)) s4 rfl
        · cases h4
    · cases q <;> simp only [mtP] at h4 <;> cases h4
theorem join_tx (s : Tx) : ∀ xs : List Tx, joinTx s xs = TL.joinL s xs
  | [] => rfl
  | [x] => rfl
  | x :: y :: r => by
    show x ++ (s ++ joinTx s (y :: r)) = x ++ (s ++ TL.joinL s (y :: r))
    rw [join_tx s (y :: r)]
theorem s_join (G : Good I T n S X) (ho : PE X o (tE X.K C co)) (he : PE X e (tE X.K C c1)) (hs : supB o = true) (hl : lineB apos pos = true) (hp : starB e = true) :
    PE X (.Call (.Attribute o "join" apos) [e] [] pos) (tE X.K C (.meth .join co (.cons c1 .nil))) := by
  refine PE.weak (pe_join ho he (by rw [star_of hp]; rfl) (sup_of hs) hl) fun σ H Q h => ?_
  obtain ⟨Z, M, st, δ, d, st', sr, er, ev, k⟩ := h
  obtain ⟨x, st1, ds, st2, ps, e1, ht, e2, hps, h2⟩ := meth_r ev
  obtain ⟨d1, e3, rfl⟩ := evEs1 e2
  obtain ⟨p, rfl, rfl⟩ := pures1 hps
  refine one sr er e1 fun v1 M1 H1 f1 s1 r1 => ?_
  obtain ⟨z, hz, rfl⟩ := str_of s1 r1 (recv_ty ht)
  refine ⟨⟨_, rfl⟩, one s1 (er.fr f1) e3 fun w M2 H2 f2 s2 r2 => ?_⟩
  have hx : rd st2 x = some (.str z) := by
    cases x with
    | p y => exact hz
    | c y => exact hz
    | r kk => simp only [rd] at hz; split at hz <;> cases hz
  rcases h2 with ⟨kk, ob, v, ob', rfl, h3, h4, rfl, rfl⟩ | ⟨q, v, h3, h4, rfl, rfl⟩
  · cases ob <;> simp only [mtM] at h4 <;> cases h4
  · rw [hx] at h3
    cases h3
    cases p <;> simp only [mtP] at h4 <;> try cases h4
    obtain ⟨xs, hxs, h5⟩ := Option.bind_eq_some_iff.mp h4
    split at h5
    · rename_i hsz
      cases h5
      have r2' := r2
      simp only [RelD, RelP] at r2'
      obtain ⟨b, vs, rfl, hb, nb, rvs⟩ := r2'
      have ev' := allStr_V hxs rvs
      subst ev'
      refine ⟨TS_ z, b, xs.map TS_, rfl, rfl, .inl (.of hb), ?_, ?_⟩
      · rw [SX.lens, List.length_map, ts_len]; exact hsz
      · rw [SX.join_S, ← join_tx]
        exact k _ M2 H2 (f1.trans f2) s2 rfl
    · cases h5
end
end NH
namespace NH
variable [W : TheW]
open PySem L2
section
variable {I : Inf} {T : Nat → Option Fn} {n : Nat} {S : Sx} {X : Cx} {C : Calls} {co c1 c2 : CE} {o e f : Expr} {pos apos : Pos}
theorem s_nget (G : Good I T n S X) (ho : PE X o (tE X.K C co)) (he : PE X e (tE X.K C c1)) (hf : PE X f (tE X.K C c2)) (hs : supB o = true) (hl : lineB apos pos = true) (hp : starB e = true) (hp2 : starB f = true) :
    PE X (.Call (.Attribute o "get" apos) [e, f] [] pos) (tE X.K C (.nget co c1 c2)) := by
  refine PE.weak (pe_nget2 ho he hf (m2_of hs hl hp hp2)) fun σ H Q h => ?_
  obtain ⟨Z, M, st, δ, d, st', sr, er, ev, k⟩ := h
  obtain ⟨y, st1, e1, ev⟩ := R.bind_eq_ok ev
  split at ev
  · rename_i hd
    obtain ⟨l0, hl0⟩ := Option.isSome_iff_exists.mp hd
    obtain ⟨x1, st2, e2, ev⟩ := R.bind_eq_ok ev
    obtain ⟨z, st3, e3, ev⟩ := R.bind_eq_ok ev
    obtain ⟨ev2, rfl⟩ := lift_eq_ok ev
    obtain ⟨l, hl, ev3⟩ := Option.bind_eq_some_iff.mp ev2
    obtain ⟨p, hp, ev4⟩ := Option.bind_eq_some_iff.mp ev3
    obtain ⟨kk, hkk, ev5⟩ := Option.bind_eq_some_iff.mp ev4
    obtain ⟨q, hq, rfl⟩ := Option.map_eq_some_iff.mp ev5
    refine one sr er e1 fun v1 M1 H1 f1 s1 r1 => ?_
    obtain ⟨a', ks0, rfl, g0, _⟩ := dnOf_rel s1 hl0 r1
    rw [← G.wd.1, ← G.wd.2] at g0
    refine ⟨a', ks0, rfl, g0, one s1 (er.fr f1) e2 fun w M2 H2 f2 s2 r2 => one s2 (er.fr (f1.trans f2)) e3 fun u M3 H3 f3 s3 r3 => ?_⟩
    obtain ⟨a2, ks, e4, g1, g2⟩ := dnOf_rel s3 hl (r1.fr (f2.trans f3))
    cases e4
    have e := nk_rel hp hkk r2
    rw [← G.wd.1, ← G.wd.2] at g1
    refine ⟨ks, olK kk, g1, e, k _ M3 H3 (f1.trans (f2.trans f3)) s3 ?_⟩
    have hz : RelP (Mu Z M3 st') H3 q u := by
      cases z with
      | p q' => cases hq; exact r3
      | _ => cases hq
    rcases g2.val kk with ⟨q', v', h1, h2, h3⟩ | ⟨h1, h2⟩
    · rw [h1, h2]; exact h3
    · rw [h1, h2]; exact hz
  · cases ev
end
section
variable {I : Inf} {T : Nat → Option Fn} {n : Nat} {S : Sx} {X : Cx} {C : Calls} {ca cb : CE} {a b : Expr} {pos apos : Pos}
theorem t_ninn (G : Good I T n S X) (ha : PE X a (tE X.K C ca)) (hb : PE X b (tE X.K C cb)) (hm : behindInMarks .In b = false) : PT X (.Compare a [.In] [b] pos) (tT X.K C (.ninn ca cb)) := by
  refine PT.weak (pt_cmp (pc_nin ha hb) hm) fun σ H Q h => ?_
  obtain ⟨Z, M, st, δ, d, st', sr, er, ev, k⟩ := h
  obtain ⟨z', st9, ev, ev9⟩ := R.bind_eq_ok ev
  obtain ⟨ev8, rfl⟩ := lift_eq_ok ev9
  obtain ⟨x, st1, e1, ev⟩ := R.bind_eq_ok ev
  obtain ⟨y, st2, e2, ev⟩ := R.bind_eq_ok ev
  obtain ⟨ev2, rfl⟩ := lift_eq_ok ev
  obtain ⟨p, hp, ev3⟩ := Option.bind_eq_some_iff.mp ev2
  obtain ⟨kk, hkk, ev4⟩ := Option.bind_eq_some_iff.mp ev3
  obtain ⟨l, hl, rfl⟩ := Option.map_eq_some_iff.mp ev4
  cases ev8
  refine two (R := fun v w H2 => ∃ a' ks kk', w = .ref a' ∧ IsN X.prog X.w H2 a' ks ∧ v = lfV kk' ∧ ∃ c, (V.bl (valV ks kk').isSome) = .bl c ∧ Q c H2) sr er e1 e2 fun v w M2 H2 f2 s2 r1 r2 => ?_
  obtain ⟨a', ks, rfl, g1, g2⟩ := dnOf_rel s2 hl r2
  have e := nk_rel hp hkk r1
  rw [← G.wd.1, ← G.wd.2] at g1
  refine ⟨a', ks, olK kk, rfl, g1, e, _, rfl, ?_⟩
  have : (valV ks (olK kk)).isSome = (nkget l kk).isSome := by
    rcases g2.val kk with ⟨q, u, h1, h2, _⟩ | ⟨h1, h2⟩ <;> rw [h1, h2] <;> rfl
  rw [this]
  exact k M2 H2 f2 s2
end
section
variable {Z : Addr → Prop} {M : List Addr} {st : Store} {H : Hp}
theorem dnO_ne {P : Program} {w : World} {a : Addr} {ks : List (Leaf × V)} (h : H a = some (dnO P w a ks)) : ∀ x u, H a ≠ some (.frz x u) := fun x u z => by rw [h] at z; cases z
theorem write_dn {k : Nat} {l l' : List (Option Ky × P)} {vs vs' : List (Leaf × V)} {a : Addr} (sr : SRel Z M st H) (hk : M[k]? = some a) (h1 : st[k]? = some (.dn l)) (h2 : H a = some (dnO W.P W.w a vs)) (r : RelNs (Mu Z M st) H l' vs') :
    Frm Z M st H M (st.set k (.dn l')) (upd H a (dnO W.P W.w a vs')) ∧ SRel Z M (st.set k (.dn l')) (upd H a (dnO W.P W.w a vs')) := by
  have f := Frm.write (ob' := .dn l') (o := dnO W.P W.w a vs') sr hk h1 (by simp) (by simp) (dnO_ne h2)
  exact ⟨f, .write sr hk h1 (by simp) (by simp) (by simp) (dnO_ne h2) ⟨vs', upd_same, RelNs.mono f.keep l' vs' r⟩⟩
end
section
variable {I : Inf} {T : Nat → Option Fn} {n : Nat} {S : Sx} {X : Cx} {C : Calls} {co c1 c2 : CE} {o e f : Expr} {pos apos : Pos}
def tyDn (P : Program) (w : World) (x : V) (H : Hp) : Prop := ∃ a ks, x = .ref a ∧ IsN P w H a ks
theorem ty_dn : TyOk X "dict" (tyDn X.prog X.w) := by
  intro pins σ H s x v I r ty
  obtain ⟨a, ks, rfl, h⟩ := ty
  cases r
  obtain ⟨t1, t2, _⟩ := isN_at I h
  exact ⟨t1, t2⟩
theorem relNs_len {U : Addr → Prop} {H : Hp} : ∀ {l : List (Option Ky × P)} {ks : List (Leaf × V)}, RelNs U H l ks → ks.length = l.length
  | [], _, r => by simp only [RelNs] at r; subst r; rfl
  | (k, p) :: l, ks, r => by
    simp only [RelNs] at r
    obtain ⟨v, q, rfl, _, h2⟩ := r
    simp [relNs_len h2]
theorem s_nupd (G : Good I T n S X) (ho : PE X o (tE X.K C co)) (he : PE X e (tE X.K C c1)) (hs : supB o = true) (hl : lineB apos pos = true) (hp : starB e = true) :
    PE X (.Call (.Attribute o "update" apos) [e] [] pos) (tE X.K C (.nupd co c1)) := by
  refine PE.weak (pe_mG ty_dn PySem.F.plainAttrs_dict PySem.F.slot_dict_update PySem.F.type_dict_update (mt_updN G.calm) ho (pa_cons he pa_nil (star_of hp)) (sup_of hs) (few_of (es := [e]) (by simp [plainEs, hp]) (by simp)) hl (star_of hp) rfl) fun σ H Q h => ?_
  obtain ⟨Z, M, st, δ, d, st', sr, er, ev, k⟩ := h
  obtain ⟨y, st1, e1, ev⟩ := R.bind_eq_ok ev
  split at ev
  · rename_i hd
    obtain ⟨x1, st2, e2, ev⟩ := R.bind_eq_ok ev
    cases y with
    | p _ => cases ev
    | c _ => cases ev
    | r kk =>
    obtain ⟨l0, hl0⟩ : ∃ l, st1[kk]? = some (.dn l) := by
      simp only [isDn] at hd
      split at hd
      · rename_i l hl; exact ⟨l, hl⟩
      · cases hd
    dsimp only at ev
    split at ev
    · rename_i ob' hob
      cases ev
      obtain ⟨ob, h3, h4⟩ := Option.bind_eq_some_iff.mp hob
      obtain ⟨p, h5, h6⟩ := Option.bind_eq_some_iff.mp h4
      cases x1 with
      | r _ => cases h5
      | c _ => cases h5
      | p p' =>
      cases h5
      cases ob <;> cases p <;> simp only [nupdM] at h6 <;> try cases h6
      rename_i l m
      obtain ⟨es, hes, h7⟩ := Option.bind_eq_some_iff.mp h6
      split at h7
      · rename_i hz
        cases h7
        refine one sr er e1 fun v1 M1 H1 f1 s1 r1 => ?_
        obtain ⟨a, rfl, h8, ks0, h9, _⟩ := RelD.ref_get s1 r1 hl0
        refine ⟨⟨a, ks0, rfl, .inl (by rw [G.wd.1, G.wd.2]; exact h9)⟩, one (R := fun y H2 => rUpdN X.prog X.w (.ref a) [y] H2 Q) s1 (er.fr f1) e2 fun w M2 H2 f2 s2 r2 => ?_⟩
        obtain ⟨a2, e5, h10, ks, h11, h12⟩ := RelD.ref_get s2 (r1.fr f2) h3
        cases e5
        have r2' := r2
        simp only [RelD, RelP] at r2'
        obtain ⟨b, vs, rfl, hb, nb, rvs⟩ := r2'
        obtain ⟨ps, kvs, rfl, g1, g2⟩ := toNEnts_V hes rvs
        have hlen : (ps.map V.ref).length = _ := rvs.length
        have hk2 : kvs.length = ps.length := by
          have : ∀ {ps : List Addr} {kvs : List (Leaf × V)}, Paired (fun p kv => H2 p = some (.tup [lfV kv.1, kv.2])) ps kvs → kvs.length = ps.length := by
            intro ps kvs h
            induction h with
            | nil => rfl
            | cons _ _ ih => simp [ih]
          exact this g1
        refine ⟨a, b, ps, ks, kvs, rfl, rfl, by rw [G.wd.1, G.wd.2]; exact h11, hb, g1, ?_, ?_⟩
        · rw [List.length_map] at hlen
          rw [relNs_len h12, hk2, hlen, ← line_eq]; exact hz
        · obtain ⟨f4, s4⟩ := write_dn s2 h10 h3 h11 (g2.merge h12)
          rw [G.wd.1, G.wd.2]
          exact k _ M2 _ (f1.trans (f2.trans f4)) s4 rfl
      · cases h7
    · cases ev
  · cases ev
end
section
variable {I : Inf} {T : Nat → Option Fn} {n : Nat} {S : Sx} {X : Cx} {C : Calls} {co c1 c2 : CE} {o e f : Expr} {pos apos : Pos}
theorem idxT_at : ∀ {ts : List Tx} {z : Tx} {j : Nat}, idxT ts z = some j → ts[j]? = some z ∧ ∀ m y, m < j → ts[m]? = some y → y ≠ z
  | [], _, _, h => by cases h
  | x :: l, z, j, h => by
    unfold idxT at h
    split at h
    · rename_i e
      cases h
      exact ⟨by rw [e]; rfl, fun m y hm => by omega⟩
    · rename_i e
      obtain ⟨i, hi, rfl⟩ := Option.map_eq_some_iff.mp h
      obtain ⟨a, b⟩ := idxT_at hi
      refine ⟨a, fun m y hm hy => ?_⟩
      cases m with
      | zero => simp only [List.getElem?_cons_zero, Option.some.injEq] at hy; exact hy ▸ e
      | succ m => exact b m y (by omega) (by simpa using hy)
theorem s_lidx (G : Good I T n S X) (ho : PE X o (tE X.K C co)) (he : PE X e (tE X.K C c1)) (hs : supB o = true) (hl : lineB apos pos = true) (hp : starB e = true) :
    PE X (.Call (.Attribute o "index" apos) [e] [] pos) (tE X.K C (.lidx co c1)) := by
  refine PE.weak (pe_bm PySem.F.plainAttrs_list PySem.F.slot_list_index PySem.F.type_list_index mt_index ho (pa_cons he pa_nil (star_of hp)) (sup_of hs) (few_of (es := [e]) (by simp [plainEs, hp]) (by simp)) hl (star_of hp) rfl) fun σ H Q h => ?_
  obtain ⟨Z, M, st, δ, d, st', sr, er, ev, k⟩ := h
  obtain ⟨x, st1, e1, ev⟩ := R.bind_eq_ok ev
  split at ev
  · rename_i hd
    obtain ⟨y, st2, e2, ev⟩ := R.bind_eq_ok ev
    obtain ⟨ev2, rfl⟩ := lift_eq_ok ev
    obtain ⟨p, hp1, ev3⟩ := Option.bind_eq_some_iff.mp ev2
    obtain ⟨q, hq, ev4⟩ := Option.bind_eq_some_iff.mp ev3
    obtain ⟨r, hr, rfl⟩ := Option.map_eq_some_iff.mp ev4
    obtain ⟨l0, hl0⟩ := Option.isSome_iff_exists.mp hd
    obtain ⟨p0, hp0, hl1⟩ := Option.bind_eq_some_iff.mp hl0
    refine one sr er e1 fun v1 M1 H1 f1 s1 r1 => ⟨tyV_list s1 r1 (by rw [hp0]; cases p0 <;> first | rfl | cases hl1), one s1 (er.fr f1) e2 fun w M2 H2 f2 s2 r2 => ?_⟩
    cases p <;> cases q <;> simp only [lidxP] at hr <;> try cases hr
    rename_i l z
    obtain ⟨ts, ht, hr2⟩ := Option.bind_eq_some_iff.mp hr
    obtain ⟨j, hj, rfl⟩ := Option.map_eq_some_iff.mp hr2
    obtain ⟨a, vs, rfl, h5, h6⟩ := rd_top s2 (r1.fr f2) hp1
    rw [strs_of ht h6] at h5
    cases y with
    | r _ => cases hq
    | c _ => cases hq
    | p y' =>
    cases hq
    simp only [RelD, RelP] at r2
    subst r2
    obtain ⟨g1, g2⟩ := idxT_at hj
    refine ⟨a, _, .str (TS_ z), j, .str (TS_ z), rfl, rfl, h5, rfl, ?_, ?_, ?_, ?_, k _ M2 H2 (f1.trans f2) s2 (by simp [RelD, RelP])⟩
    · simp [flatV]
    · simp [g1]
    · simp [eqV]
    · intro m z' hm hz'
      simp only [List.getElem?_map, Option.map_eq_some_iff] at hz'
      obtain ⟨s', ⟨y, hy, rfl⟩, rfl⟩ := hz'
      have := g2 m y hm hy
      show (TS_ y == TS_ z) = false
      rw [ts_beq]
      simpa using this
  · cases ev
end
end NH
namespace NH
variable [W : TheW]
open PySem L2
mutual
theorem plain_toPy : ∀ p : P, p.sh = true → (toPy p).plain = true
  | .non, _ => by simp [toPy, PyData.plain]
  | .bl _, _ => by simp [toPy, PyData.plain]
  | .int _, _ => by simp [toPy, PyData.plain]
  | .str _, _ => by simp [toPy, PyData.plain]
  | .tup l, h => by simp only [toPy, PyData.plain]; exact plains_toPys l (by simpa [P.sh] using h)
  | .lst l, h => by simp only [toPy, PyData.plain]; exact plains_toPys l (by simpa [P.sh] using h)
  | .dic _, h => by simp [P.sh] at h
theorem plains_toPys : ∀ p : List P, P.shs p = true → PyData.plainAll (toPys p) = true
  | [], _ => by simp [toPys, PyData.plainAll]
  | a :: l, h => by
    simp only [P.shs, Bool.and_eq_true] at h
    simp only [toPys, PyData.plainAll, Bool.and_eq_true]
    exact ⟨plain_toPy a h.1, plains_toPys l h.2⟩
end
theorem countP_toPys (x : P) : ∀ l : List P, (toPys l).countP (fun y => PyData.eqv y (toPy x)) = l.countP fun y => y.eqv x
  | [] => by simp [toPys]
  | a :: l => by
    simp only [toPys, List.countP_cons, eqv_toPy]
    rw [countP_toPys x l]
theorem shs_all : ∀ {l : List P}, (l.all fun a => a.sh) = true → P.shs l = true
  | [], _ => rfl
  | a :: l, h => by
    simp only [List.all_cons, Bool.and_eq_true] at h
    simp only [P.shs, Bool.and_eq_true]
    exact ⟨h.1, shs_all h.2⟩
section
variable {X : Cx}
def rCnt (K : PySem.W.Frag) : V → List V → Hp → VK → Prop := fun x xs H Q => ∃ (a : Addr) (vs : List V) (w : V) (l : List P) (p : P), x = .ref a ∧ xs = [w] ∧ SqL K H a vs ∧ DpAll K H vs (toPys l) ∧ Dp K H w (toPy p) ∧ P.shs l = true ∧ p.sh = true ∧ p.deep ≤ 60 ∧ Q (.int ((l.countP fun y => y.eqv p : Nat) : Int)) H
theorem mt_cnt (hu : X.A.units + 64 < cLine) : MtR X "list.count" (rCnt X.K) := by
  intro pins s σ H x xs v us Q I rx rxs h
  obtain ⟨a, vs, w, l, p, rfl, rfl, hs, h1, h2, h3, h4, h5, q⟩ := h
  cases rx
  obtain ⟨u, rfl, ru⟩ := rxs.one
  obtain ⟨its, rv, hl, hz⟩ := I.list hs
  obtain ⟨as, hr⟩ := Dp.readsAll I _ _ _ h1 rv
  obtain ⟨bs, hb⟩ := Dp.reads I _ _ _ h2 ru
  have hd := depth_toPy p
  refine SeqAt.count_list_data hl.isList (by simpa using hr) hb (plains_toPys l h3) (plain_toPy p h4) (by omega) ?_
  refine ⟨.int ((l.countP fun y => y.eqv p : Nat) : Int), H, I.tok _, ⟨s.toks, ?_⟩, q⟩
  rw [countP_toPys]
end
section
variable {I : Inf} {T : Nat → Option Fn} {n : Nat} {S : Sx} {X : Cx} {C : Calls} {co c1 c2 : CE} {o e f : Expr} {pos apos : Pos}
theorem s_lcnt (G : Good I T n S X) (ho : PE X o (tE X.K C co)) (he : PE X e (tE X.K C c1)) (hs : supB o = true) (hl : lineB apos pos = true) (hp : starB e = true) :
    PE X (.Call (.Attribute o "count" apos) [e] [] pos) (tE X.K C (.lcnt co c1)) := by
  refine PE.weak (pe_bm PySem.F.plainAttrs_list PySem.F.slot_list_count PySem.F.type_list_count (mt_cnt G.hu) ho (pa_cons he pa_nil (star_of hp)) (sup_of hs) (few_of (es := [e]) (by simp [plainEs, hp]) (by simp)) hl (star_of hp) rfl) fun σ H Q h => ?_
  obtain ⟨Z, M, st, δ, d, st', sr, er, ev, k⟩ := h
  obtain ⟨x, st1, e1, ev⟩ := R.bind_eq_ok ev
  split at ev
  · rename_i hd
    obtain ⟨y, st2, e2, ev⟩ := R.bind_eq_ok ev
    obtain ⟨ev2, rfl⟩ := lift_eq_ok ev
    obtain ⟨p, hp1, ev3⟩ := Option.bind_eq_some_iff.mp ev2
    obtain ⟨q, hq, ev4⟩ := Option.bind_eq_some_iff.mp ev3
    obtain ⟨r, hr, rfl⟩ := Option.map_eq_some_iff.mp ev4
    obtain ⟨l0, hl0⟩ := Option.isSome_iff_exists.mp hd
    obtain ⟨p0, hp0, hl1⟩ := Option.bind_eq_some_iff.mp hl0
    refine one sr er e1 fun v1 M1 H1 f1 s1 r1 => ⟨tyV_list s1 r1 (by rw [hp0]; cases p0 <;> first | rfl | cases hl1), one s1 (er.fr f1) e2 fun w M2 H2 f2 s2 r2 => ?_⟩
    cases p <;> simp only [lcntP] at hr <;> try cases hr
    rename_i l
    split at hr
    · rename_i hc
      cases hr
      simp only [Bool.and_eq_true, decide_eq_true_eq] at hc
      obtain ⟨a, vs, rfl, h5, h6⟩ := rd_top s2 (r1.fr f2) hp1
      have hy := pure1_some hq
      subst hy
      exact ⟨a, vs, w, l, q, rfl, rfl, h5, dps_of l vs (shs_all hc.1.1) h6, dp_of q w hc.1.2 r2, shs_all hc.1.1, hc.1.2, hc.2, k _ M2 H2 (f1.trans f2) s2 (by simp [RelD, RelP])⟩
    · cases hr
  · cases ev
end
end NH
namespace NH
variable [W : TheW]
open PySem L2
section
variable {K : PySem.W.Frag} {Z : Addr → Prop} {M M2 : List Addr} {st st2 st3 : Store} {H H2 : Hp} {p : Addr} {o o1 : HO} {d : D}
theorem Mu.snocZ {ob : MO} (s2 : SRel (plusZ Z p) M2 st2 H2) {b : Addr} (m : Mu Z (M2 ++ [p]) (st2 ++ [ob]) b) : Mu (plusZ Z p) M2 st2 b := by
  rcases m with m | ⟨k, u, h1, h2, h3⟩
  · exact .inl (.inl m)
  by_cases hk : k < M2.length
  · rw [List.getElem?_append_left hk] at h1
    rw [List.getElem?_append_left (by rw [← s2.len]; exact hk)] at h2
    exact .inr ⟨k, u, h1, h2, h3⟩
  · rw [List.getElem?_append_right (by omega)] at h1
    have : k - M2.length = 0 := by
      have := (List.getElem?_eq_some_iff.mp h1).1
      simp at this; omega
    rw [this] at h1
    simp at h1
    exact .inl (.inr h1.symm)
theorem SRel.enter {ob : MO} (nz : ¬ Z p) (s2 : SRel (plusZ Z p) M2 st2 H2) (ho : ObjR (Mu Z (M2 ++ [p]) (st2 ++ [ob])) H2 ob p) : SRel Z (M2 ++ [p]) (st2 ++ [ob]) H2 where
  len := by simp [s2.len]
  nd := by
    rw [List.nodup_append]
    refine ⟨s2.nd, by simp, fun x hx y hy => ?_⟩
    have : y = p := by simpa using hy
    subst this
    exact fun e => (s2.hid y (.inr rfl)).2 (e ▸ hx)
  trk := fun b h => by
    rcases List.mem_append.mp h with h | h
    · exact s2.trk b h
    · have : b = p := by simpa using h
      subst this
      exact (s2.hid b (.inr rfl)).1
  hid := fun b h => ⟨(s2.hid b (.inl h)).1, fun hm => by
    rcases List.mem_append.mp hm with hm | hm
    · exact (s2.hid b (.inl h)).2 hm
    · have : b = p := by simpa using hm
      subst this
      exact nz h⟩
  obj := fun k b u h1 h2 => by
    by_cases hk : k < M2.length
    · rw [List.getElem?_append_left hk] at h1
      rw [List.getElem?_append_left (by rw [← s2.len]; exact hk)] at h2
      exact (s2.obj k b u h1 h2).mono (fun a u e n => ⟨e, fun m => n (m.snocZ s2)⟩) fun u e => e
    · have hk2 : k = M2.length := by
        have := (List.getElem?_eq_some_iff.mp h1).1
        simp at this; omega
      subst hk2
      rw [List.getElem?_append_right (Nat.le_refl _)] at h1
      rw [s2.len, List.getElem?_append_right (Nat.le_refl _)] at h2
      simp at h1 h2
      subst h1 h2
      exact ho
theorem Frm.enter {ob : MO} (s2 : SRel (plusZ Z p) M2 st2 H2) (f : Frm Z M st H M2 st2 H2) (hn : H p = none) : Frm Z M st H (M2 ++ [p]) (st2 ++ [ob]) H2 where
  pre := fun k b h => by
    have := f.pre k b h
    rw [List.getElem?_append_left (List.getElem?_eq_some_iff.mp this).1]; exact this
  keep := fun b u h n => by
    obtain ⟨h1, h2⟩ := f.keep b u h n
    refine ⟨h1, fun m => ?_⟩
    rcases m.snocZ s2 with (m | m) | m
    · exact h2 (.inl m)
    · exact ne_of_none h hn m
    · exact h2 (.inr m)
  stay := f.stay
  frz := f.frz
  hid := f.hid
  lk := fun k l h => by
    have := f.lk k l h
    rw [List.getElem?_append_left (List.getElem?_eq_some_iff.mp this).1]; exact this
theorem notZ (sr : SRel Z M st H) (hn : H p = none) : ¬ Z p := fun z => (sr.hid p z).1 hn
theorem mkL_made {m : Bool} {l : List P} {vs : List V} (sr : SRel Z M st H) (hn : H p = none) (f : Frm (plusZ Z p) M st (upd H p o1) M2 st2 H2) (s2 : SRel (plusZ Z p) M2 st2 H2) (r : RelPs (Mu (plusZ Z p) M2 st2) H2 l vs) (h : mkL m l st2 = .ok d st3) :
    ∃ M3, Frm Z M st H M3 st3 (upd H2 p (.lst vs)) ∧ SRel Z M3 st3 (upd H2 p (.lst vs)) ∧ RelD K Z M3 st3 (upd H2 p (.lst vs)) d (.ref p) := by
  have nz := notZ sr hn
  have f1 := Frm.made (o := .lst vs) sr hn f
  have s3 := SRel.remake (o := .lst vs) s2
  have r3 : RelPs (Mu (plusZ Z p) M2 st2) (upd H2 p (.lst vs)) l vs := RelPs.mono keep_remake _ _ r
  unfold mkL at h
  split at h
  · cases h
    refine ⟨M2 ++ [p], f1.enter s3 hn, s3.enter nz ⟨vs, upd_same, RelPs.mono (fun a u e n => ⟨e, fun m => n (m.snocZ s3)⟩) _ _ r3⟩, p, ?_, rfl⟩
    rw [← s2.len, List.getElem?_append_right (Nat.le_refl _)]; simp
  · cases h
    refine ⟨M2, f1, s3.show nz, ?_⟩
    simp only [RelD, RelP]
    exact ⟨p, vs, rfl, upd_same, notMu_show nz s2, RelPs.mono (keep_show nz s3) _ _ r3⟩
theorem mkD_made {m : Bool} {l : List (Ky × P)} {vs : List (Key × V)} (sr : SRel Z M st H) (hn : H p = none) (f : Frm (plusZ Z p) M st (upd H p o1) M2 st2 H2) (s2 : SRel (plusZ Z p) M2 st2 H2) (r : RelKs (Mu (plusZ Z p) M2 st2) H2 l vs) (h : mkD m l st2 = .ok d st3) :
    ∃ M3, Frm Z M st H M3 st3 (upd H2 p (.dK vs)) ∧ SRel Z M3 st3 (upd H2 p (.dK vs)) ∧ RelD K Z M3 st3 (upd H2 p (.dK vs)) d (.ref p) := by
  have nz := notZ sr hn
  have f1 := Frm.made (o := .dK vs) sr hn f
  have s3 := SRel.remake (o := .dK vs) s2
  have r3 : RelKs (Mu (plusZ Z p) M2 st2) (upd H2 p (.dK vs)) l vs := RelKs.mono keep_remake _ _ r
  unfold mkD at h
  split at h
  · cases h
    refine ⟨M2 ++ [p], f1.enter s3 hn, s3.enter nz ⟨vs, upd_same, RelKs.mono (fun a u e n => ⟨e, fun m => n (m.snocZ s3)⟩) _ _ r3⟩, p, ?_, rfl⟩
    rw [← s2.len, List.getElem?_append_right (Nat.le_refl _)]; simp
  · cases h
    refine ⟨M2, f1, s3.show nz, ?_⟩
    simp only [RelD, RelP]
    exact ⟨p, vs, rfl, .inl upd_same, notMu_show nz s2, RelKs.mono (keep_show nz s3) _ _ r3⟩
end
inductive Alt : List (Option Expr) → List Expr → CEs → Prop where
  | nil : Alt [] [] .nil
  | cons {k v : Expr} {ks : List (Option Expr)} {vs : List Expr} {ck cv : CE} {cs : CEs} : Alt ks vs cs → Alt (some k :: ks) (v :: vs) (.cons ck (.cons cv cs))
def trsOf (K : PySem.W.Frag) (C : Calls) : CEs → List (TE × TE)
  | .cons ck (.cons cv cs) => (tE K C ck, tE K C cv) :: trsOf K C cs
  | _ => []
section
variable {K : PySem.W.Frag} {C : Calls}
theorem pairs_rd : ∀ {cs : CEs} {l : List (Ky × P)} {ds : List D} {Z : Addr → Prop} {M : List Addr} {st st' : Store} {H : Hp} {δ : Env} {σ : St} {Q : List (V × V) → Hp → Prop}, SRel Z M st H → EnvRel K Z M st H δ σ → evEs C cs δ st = .ok ds st' → (pures ds).bind pairUp = some l →
    (∀ M2 H2 kvs, Frm Z M st H M2 st' H2 → SRel Z M2 st' H2 → RelKs (Mu Z M2 st') H2 l kvs → Q (kvs.map fun kv => (kV kv.1, kv.2)) H2) → tPairs (trsOf K C cs) σ H Q
  | .nil, l, ds, Z, M, st, st', H, δ, σ, Q, sr, er, ev, hp, k => by
    cases ev
    cases hp
    exact k M H [] .refl sr (by simp [RelKs])
  | .cons ck .nil, l, ds, Z, M, st, st', H, δ, σ, Q, sr, er, ev, hp, k => by
    obtain ⟨d, e1, rfl⟩ := evEs1 ev
    obtain ⟨ps, h1, h2⟩ := Option.bind_eq_some_iff.mp hp
    obtain ⟨q, rfl, rfl⟩ := pures1 h1
    cases h2
  | .cons ck (.cons cv cs), l, ds, Z, M, st, st', H, δ, σ, Q, sr, er, ev, hp, k => by
    obtain ⟨x, st1, e1, ev⟩ := R.bind_eq_ok ev
    obtain ⟨ds2, st2, e2, ev⟩ := R.bind_eq_ok ev
    cases ev
    obtain ⟨y, st3, e3, ev⟩ := R.bind_eq_ok e2
    obtain ⟨ds3, st4, e4, ev⟩ := R.bind_eq_ok ev
    cases ev
    obtain ⟨ps, h1, h2⟩ := Option.bind_eq_some_iff.mp hp
    cases x with
    | p x =>
      simp only [pures] at h1
      split at h1
      · rename_i l1 hl1
        cases h1
        cases y with
        | p y =>
          simp only [pures] at hl1
          split at hl1
          · rename_i l2 hl2
            cases hl1
            simp only [pairUp] at h2
            split at h2
            · rename_i ky l3 hk hl3
              cases h2
              refine one sr er e1 fun v M1 H1 f1 s1 r1 => one s1 (er.fr f1) e3 fun w M2 H2 f2 s2 r2 => ?_
              refine pairs_rd (cs := cs) s2 (er.fr (f1.trans f2)) e4 (by rw [hl2]; exact hl3) fun M3 H3 kvs f3 s3 r3 => ?_
              have ek := RelP.toV_ky hk (show RelP _ _ _ _ from r1)
              subst ek
              refine k M3 H3 ((kyK ky, w) :: kvs) (f1.trans (f2.trans f3)) s3 ?_
              simp only [RelKs]
              exact ⟨w, kvs, rfl, RelP.fr f3 r2, r3⟩
            · cases h2
          · cases hl1
        | _ => cases hl1
      · cases h1
    | _ => cases h1
end
section
variable {X : Cx} {C : Calls} {pos : Pos}
theorem RelKs.len15 {U : Addr → Prop} {H : Hp} {l : List (Ky × P)} {ks : List (Key × V)} (r : RelKs U H l ks) : ks.length = l.length := r.length
theorem s_dct {m : Bool} {cs : CEs} {keys : List (Option Expr)} {values : List Expr} (h : PPs X pos keys values (trsOf X.K C cs)) (hall : keys.all (·.isSome) = true) (hl : keys.length = values.length) (h0 : keys ≠ []) :
    ∀ (h1 : ∀ {t : List (TE × TE)}, PPs X pos keys values t → PE X (.Dict keys values pos) (tDisp t)), PE X (.Dict keys values pos) (tE X.K C (.dct m cs)) := fun h1 => by
  refine PE.weak (h1 h) fun σ H Q hq => ?_
  obtain ⟨Z, M, st, δ, d, st', sr, er, ev, k⟩ := hq
  obtain ⟨ds, st1, e1, ev⟩ := R.bind_eq_ok ev
  intro p hp
  split at ev
  · rename_i l hl
    split at ev
    · rename_i hz
      refine pairs_rd (sr.hide hp) (er.hide hp) e1 hl fun M2 H2 kvs f2 s2 r2 => ?_
      refine ⟨by rw [f2.hid p (.inr rfl)]; exact upd_same, kvs, rfl, by rw [r2.length]; exact hz, ?_⟩
      have rk : RelKs (Mu (plusZ Z p) M2 st1) H2 (kmerge [] l) (mergeK [] kvs) := r2.merge (by simp [RelKs])
      obtain ⟨M3, f3, s3, r3⟩ := mkD_made (K := X.K) sr hp f2 s2 rk ev
      exact k (.ref p) M3 _ f3 s3 r3
    · cases ev
  · cases ev
end
end NH
namespace NH
variable [W : TheW]
open PySem L2
structure Ltr (Z : Addr → Prop) (M : List Addr) (st : Store) (H : Hp) (Z' : Addr → Prop) (M' : List Addr) (st' : Store) (H' : Hp) : Prop where
  pre : ∀ (k : Nat) (a : Addr), M[k]? = some a → M'[k]? = some a
  keep : ∀ a o, H a = some o → ¬ Mu Z M st a → H' a = some o ∧ ¬ Mu Z' M' st' a
  lk : ∀ (k : Nat) (l : List P), st[k]? = some (MO.lstL l) → st'[k]? = some (MO.lstL l)
section
variable {K : PySem.W.Frag} {Z Z' Z'' : Addr → Prop} {M M' M'' : List Addr} {st st1 st' st'' : Store} {H H' H'' : Hp} {a : Addr} {o : HO}
theorem Frm.ltr (f : Frm Z M st H M' st' H') : Ltr Z M st H Z M' st' H' := ⟨f.pre, f.keep, f.lk⟩
theorem Ltr.refl : Ltr Z M st H Z M st H := Frm.refl.ltr
theorem Ltr.trans (f : Ltr Z M st H Z' M' st' H') (g : Ltr Z' M' st' H' Z'' M'' st'' H'') : Ltr Z M st H Z'' M'' st'' H'' :=
  ⟨fun k a h => g.pre k a (f.pre k a h), fun a o h n => g.keep a o (f.keep a o h n).1 (f.keep a o h n).2, fun k a h => g.lk k a (f.lk k a h)⟩
theorem Ltr.hide (hn : H a = none) : Ltr Z M st H (plusZ Z a) M st (upd H a o) := ⟨fun _ _ h => h, keep_hide hn, fun _ _ h => h⟩
theorem Ltr.remake : Ltr (plusZ Z a) M st H (plusZ Z a) M st (upd H a o) := ⟨fun _ _ h => h, keep_remake, fun _ _ h => h⟩
theorem RelP.lt {p : P} {v : V} (f : Ltr Z M st H Z' M' st' H') (r : RelP (Mu Z M st) H p v) : RelP (Mu Z' M' st') H' p v := RelP.mono f.keep p v r
theorem RelPs.lt {p : List P} {v : List V} (f : Ltr Z M st H Z' M' st' H') (r : RelPs (Mu Z M st) H p v) : RelPs (Mu Z' M' st') H' p v := RelPs.mono f.keep p v r
theorem RelD.lt {d : D} {v : V} (f : Ltr Z M st H Z' M' st' H') (r : RelD K Z M st H d v) : RelD K Z' M' st' H' d v := by
  cases d with
  | p x => exact RelP.lt f r
  | r k => obtain ⟨a, h, e⟩ := r; exact ⟨a, f.pre k a h, e⟩
  | c x => exact RelC.mono f.keep r
theorem EnvRel.lt {δ : Env} {σ : St} (f : Ltr Z M st H Z' M' st' H') (r : EnvRel K Z M st H δ σ) : EnvRel K Z' M' st' H' δ σ :=
  ⟨r.1, fun i d h => let ⟨v, a, b⟩ := r.2 i d h; ⟨v, a, b.lt f⟩⟩
def Lkd (st st1 : Store) : Prop := st.length = st1.length ∧ ∀ k : Nat, st1[k]? = st[k]? ∨ ∃ l, st[k]? = some (.lst l) ∧ st1[k]? = some (.lstL l)
def Lks (st : Store) (ks : List Nat) (st1 : Store) : Prop := Lkd st st1 ∧ ∀ k ∈ ks, ∃ l, st[k]? = some (.lst l)
theorem Lkd.refl : Lkd st st := ⟨rfl, fun _ => .inl rfl⟩
theorem Lkd.trans (a : Lkd st st1) (b : Lkd st1 st') : Lkd st st' := ⟨a.1.trans b.1, fun k => by
  rcases a.2 k with h | ⟨l, h1, h2⟩
  · rcases b.2 k with g | ⟨l, g1, g2⟩
    · exact .inl (g.trans h)
    · exact .inr ⟨l, h ▸ g1, g2⟩
  · rcases b.2 k with g | ⟨l', g1, g2⟩
    · exact .inr ⟨l, h1, g.trans h2⟩
    · rw [h2] at g1; cases g1⟩
theorem Lkd.mu (h : Lkd st st1) : Mu Z M st a ↔ Mu Z M st1 a := by
  constructor
  · rintro (m | ⟨k, o, h1, h2, h3⟩)
    · exact .inl m
    · rcases h.2 k with g | ⟨l, g1, g2⟩
      · exact .inr ⟨k, o, h1, g.trans h2, h3⟩
      · exact .inr ⟨k, _, h1, g2, by simp⟩
  · rintro (m | ⟨k, o, h1, h2, h3⟩)
    · exact .inl m
    · rcases h.2 k with g | ⟨l, g1, g2⟩
      · exact .inr ⟨k, o, h1, g.symm.trans h2, h3⟩
      · exact .inr ⟨k, _, h1, g1, by simp⟩
theorem Lkd.muEq (h : Lkd st st1) : Mu Z M st = Mu Z M st1 := funext fun a => propext h.mu
theorem Lkd.srel (h : Lkd st st1) (sr : SRel Z M st H) : SRel Z M st1 H where
  len := sr.len.trans h.1
  nd := sr.nd
  trk := sr.trk
  hid := sr.hid
  obj := fun k a o h1 h2 => by
    rw [← h.muEq]
    rcases h.2 k with g | ⟨l, g1, g2⟩
    · exact sr.obj k a o h1 (g.symm.trans h2)
    · rw [g2] at h2; cases h2
      exact sr.obj k a (.lst l) h1 g1
theorem Lkd.srel' (h : Lkd st st1) (sr : SRel Z M st1 H) : SRel Z M st H where
  len := sr.len.trans h.1.symm
  nd := sr.nd
  trk := sr.trk
  hid := sr.hid
  obj := fun k a o h1 h2 => by
    rw [h.muEq]
    rcases h.2 k with g | ⟨l, g1, g2⟩
    · exact sr.obj k a o h1 (g.trans h2)
    · rw [g1] at h2; cases h2
      exact sr.obj k a (.lstL l) h1 g2
theorem Lkd.reld (h : Lkd st st1) {d : D} {v : V} : RelD K Z M st H d v ↔ RelD K Z M st1 H d v := by
  cases d <;> simp only [RelD, h.muEq (Z := Z) (M := M)]
theorem Lkd.env (h : Lkd st st1) {δ : Env} {σ : St} : EnvRel K Z M st H δ σ ↔ EnvRel K Z M st1 H δ σ := by
  simp only [EnvRel, h.reld]
theorem Lkd.set {k : Nat} {l : List P} (h : st[k]? = some (.lst l)) : Lkd st (st.set k (.lstL l)) := ⟨by simp, fun j => by
  by_cases e : j = k
  · subst e
    exact .inr ⟨l, h, by rw [List.getElem?_set_self (List.getElem?_eq_some_iff.mp h).1]⟩
  · exact .inl (List.getElem?_set_ne (Ne.symm e))⟩
theorem Lkd.unset {k : Nat} {l : List P} (h : st[k]? = some (.lstL l)) : Lkd (st.set k (.lst l)) st := ⟨by simp, fun j => by
  by_cases e : j = k
  · subst e
    exact .inr ⟨l, by rw [List.getElem?_set_self (List.getElem?_eq_some_iff.mp h).1], h⟩
  · exact .inl (List.getElem?_set_ne (Ne.symm e)).symm⟩
theorem unlock_ok : ∀ {ks : List Nat} {st st' : Store} {u : Unit}, unlock ks st = .ok u st' → Lkd st' st ∧ ∀ k, k ∉ ks → st'[k]? = st[k]?
  | [], st, st', u, h => by cases h; exact ⟨.refl, fun _ _ => rfl⟩
  | k :: r, st, st', u, h => by
    unfold unlock at h
    split at h
    · rename_i l hl
      obtain ⟨h1, h2⟩ := unlock_ok h
      refine ⟨h1.trans (.unset hl), fun j hj => ?_⟩
      rw [h2 j (fun m => hj (List.mem_cons_of_mem _ m)), List.getElem?_set_ne (fun e => hj (by rw [e]; exact List.mem_cons_self))]
    · cases h
theorem Frm.unlk {ks : List Nat} {st2 st3 : Store} {u : Unit} (h : Lks st ks st1) (f : Frm Z M st1 H M' st2 H') (hu : unlock ks st2 = .ok u st3) : Frm Z M st H M' st3 H' := by
  obtain ⟨h1, h2⟩ := unlock_ok hu
  refine ⟨f.pre, fun a o e n => ?_, f.stay, f.frz, f.hid, fun k l e => ?_⟩
  · obtain ⟨g1, g2⟩ := f.keep a o e (fun m => n (h.1.mu.mpr m))
    exact ⟨g1, fun m => g2 (h1.mu.mp m)⟩
  · have hk : k ∉ ks := fun m => by
      obtain ⟨l', e'⟩ := h.2 k m
      rw [e] at e'; cases e'
    have e1 : st1[k]? = some (.lstL l) := by
      rcases h.1.2 k with g | ⟨l', g1, g2⟩
      · exact g.trans e
      · rw [e] at g1; cases g1
    rw [h2 k hk]
    exact f.lk k l e1
def Src (K : PySem.W.Frag) (Z : Addr → Prop) (M : List Addr) (st : Store) (H : Hp) (p : P) (v : V) : Prop :=
  ∀ Z' M' st' H', SRel Z' M' st' H' → Ltr Z M st H Z' M' st' H' → Top K (Mu Z' M' st') H' p v
theorem Src.lt {p : P} {v : V} (f : Ltr Z M st H Z' M' st' H') (s : Src K Z M st H p v) : Src K Z' M' st' H' p v := fun _ _ _ _ sr g => s _ _ _ _ sr (f.trans g)
theorem lockD_ok {d : D} {v : V} {p : P} {ks : List Nat} (sr : SRel Z M st H) (r : RelD K Z M st H d v) (h : lockD d st = .ok (p, ks) st1) : Lks st ks st1 ∧ Src K Z M st1 H p v := by
  cases d with
  | p x => cases h; exact ⟨⟨.refl, by simp⟩, fun Z' M' st' H' s' f => (RelP.topN (RelP.lt f r)).top⟩
  | c x => cases h; exact ⟨⟨.refl, by simp⟩, fun Z' M' st' H' s' f => RelC.top (RelC.mono f.keep r)⟩
  | r k =>
    obtain ⟨a, hk, rfl⟩ := r
    unfold lockD at h
    simp only at h
    split at h
    · rename_i l hl
      cases h
      refine ⟨⟨.set hl, fun j hj => ?_⟩, fun Z' M' st' H' s' f => ?_⟩
      · have : j = k := by simpa using hj
        subst this
        exact ⟨l, hl⟩
      · have e := f.lk k l (by rw [List.getElem?_set_self (List.getElem?_eq_some_iff.mp hl).1])
        obtain ⟨vs, e1, e2⟩ := s'.obj k a _ (f.pre k a hk) e
        exact ⟨a, vs, rfl, .of e1, e2⟩
    · rename_i l hl
      cases h
      refine ⟨⟨.refl, by simp⟩, fun Z' M' st' H' s' f => ?_⟩
      have e := f.lk k l hl
      obtain ⟨vs, e1, e2⟩ := s'.obj k a _ (f.pre k a hk) e
      exact ⟨a, vs, rfl, .of e1, e2⟩
    · cases h
theorem Lks.app {ks js : List Nat} (a : Lks st ks st1) (b : Lks st1 js st') : Lks st (ks ++ js) st' := ⟨a.1.trans b.1, fun k m => by
  rcases List.mem_append.mp m with m | m
  · exact a.2 k m
  · obtain ⟨l, e⟩ := b.2 k m
    rcases a.1.2 k with g | ⟨l', g1, g2⟩
    · exact ⟨l, g ▸ e⟩
    · exact ⟨l', g1⟩⟩
theorem Lkd.lt (h : Lkd st st1) (hl : ∀ (k : Nat) (l : List P), st[k]? = some (MO.lstL l) → st1[k]? = some (MO.lstL l)) : Ltr Z M st H Z M st1 H := ⟨fun _ _ h => h, fun a o e n => ⟨e, fun m => n (h.mu.mpr m)⟩, hl⟩
theorem Lkd.lt' (h : Lkd st st1) : Ltr Z M st H Z M st1 H := h.lt fun k l e => by
  rcases h.2 k with g | ⟨l', g1, g2⟩
  · exact g.trans e
  · rw [e] at g1; cases g1
structure WOK (Z : Addr → Prop) (M : List Addr) (st : Store) (H : Hp) (l : List P) (J : It) : Prop where
  goes : ∀ (i : Nat) Z' M' st' H', i < l.length → SRel Z' M' st' H' → Ltr Z M st H Z' M' st' H' → J.go i H'
  stops : ∀ Z' M' st' H', SRel Z' M' st' H' → Ltr Z M st H Z' M' st' H' → J.stop l.length H'
  yields : ∀ (i : Nat) Z' M' st' H' x H'', i < l.length → SRel Z' M' st' H' → Ltr Z M st H Z' M' st' H' → J.yld i H' x H'' →
    ∃ p, l[i]? = some p ∧ Frm Z' M' st' H' M' st' H'' ∧ SRel Z' M' st' H'' ∧ RelP (Mu Z' M' st') H'' p x
theorem WOK.lt {l : List P} {J : It} (f : Ltr Z M st H Z' M' st' H') (w : WOK Z M st H l J) : WOK Z' M' st' H' l J :=
  ⟨fun i _ _ _ _ h s g => w.goes i _ _ _ _ h s (f.trans g), fun _ _ _ _ s g => w.stops _ _ _ _ s (f.trans g), fun i _ _ _ _ _ _ h s g y => w.yields i _ _ _ _ _ _ h s (f.trans g) y⟩
theorem get_ex {α : Type} {l : List α} {i : Nat} (h : i < l.length) : ∃ x, l[i]? = some x := ⟨l[i], List.getElem?_eq_getElem h⟩
theorem wok_list {l : List P} {a : Addr} (s : Src K Z M st H (.lst l) (.ref a)) : WOK Z M st H l (Itl K a) where
  goes := fun i Z' M' st' H' hi sr f => by
    obtain ⟨b, vs, e, q, r⟩ := s _ _ _ _ sr f
    cases e
    obtain ⟨x, hx⟩ := get_ex (l := vs) (i := i) (by rw [r.length]; exact hi)
    exact ⟨vs, x, q, hx⟩
  stops := fun Z' M' st' H' sr f => by
    obtain ⟨b, vs, e, q, r⟩ := s _ _ _ _ sr f
    cases e
    exact ⟨vs, q, by rw [r.length]; exact Nat.le_refl _⟩
  yields := fun i Z' M' st' H' x H'' hi sr f y => by
    obtain ⟨b, vs, e, q, r⟩ := s _ _ _ _ sr f
    cases e
    obtain ⟨rfl, y⟩ := y
    obtain ⟨p, h1, h2⟩ := r.get' (y vs q)
    exact ⟨p, h1, .refl, sr, h2⟩
theorem wok_tup {l : List P} {a : Addr} (s : Src K Z M st H (.tup l) (.ref a)) : WOK Z M st H l (Itt K a) where
  goes := fun i Z' M' st' H' hi sr f => by
    obtain ⟨b, vs, e, q, r⟩ := s _ _ _ _ sr f
    cases e
    obtain ⟨x, hx⟩ := get_ex (l := vs) (i := i) (by rw [r.length]; exact hi)
    exact ⟨vs, x, q, hx⟩
  stops := fun Z' M' st' H' sr f => by
    obtain ⟨b, vs, e, q, r⟩ := s _ _ _ _ sr f
    cases e
    exact ⟨vs, q, by rw [r.length]; exact Nat.le_refl _⟩
  yields := fun i Z' M' st' H' x H'' hi sr f y => by
    obtain ⟨b, vs, e, q, r⟩ := s _ _ _ _ sr f
    cases e
    obtain ⟨rfl, y⟩ := y
    obtain ⟨p, h1, h2⟩ := r.get' (y vs q)
    exact ⟨p, h1, .refl, sr, h2⟩
theorem wok_str {x : Tx} : WOK Z M st H (x.map fun c => P.str [c]) (Its ⟨x.toArray⟩) where
  goes := fun i Z' M' st' H' hi sr f => by
    show i < x.toArray.size
    simpa using hi
  stops := fun Z' M' st' H' sr f => by
    show x.toArray.size ≤ _
    simp
  yields := fun i Z' M' st' H' v H'' hi sr f y => by
    obtain ⟨rfl, c, hc, rfl⟩ := y
    refine ⟨.str [c], ?_, .refl, sr, by simp [RelP]⟩
    have hc : x[i]? = some c := by simpa using hc
    simp [hc]
theorem rngL_len (lo : Int) : ∀ n, (rngL lo n).length = n
  | 0 => rfl
  | n + 1 => by simp [rngL, rngL_len (lo + 1) n]
theorem rngL_get : ∀ (n i : Nat) (lo : Int), i < n → (rngL lo n)[i]? = some (.int (lo + i))
  | 0, _, _, h => absurd h (Nat.not_lt_zero _)
  | n + 1, 0, lo, _ => by simp [rngL]
  | n + 1, i + 1, lo, h => by
    rw [rngL, List.getElem?_cons_succ, rngL_get n i (lo + 1) (by omega)]
    congr 2
    omega
theorem wok_rng {lo : Int} {n : Nat} : WOK Z M st H (rngL lo n) (Itr lo n) where
  goes := fun i Z' M' st' H' hi sr f => by rw [rngL_len] at hi; exact hi
  stops := fun Z' M' st' H' sr f => by rw [rngL_len]; exact Nat.le_refl _
  yields := fun i Z' M' st' H' v H'' hi sr f y => by
    obtain ⟨rfl, rfl⟩ := y
    rw [rngL_len] at hi
    exact ⟨_, rngL_get n i lo hi, .refl, sr, by simp [RelP]⟩
theorem enumL_len : ∀ (l : List P) (n : Nat), (enumL n l).length = l.length
  | [], _ => rfl
  | x :: r, n => by simp [enumL, enumL_len r (n + 1)]
theorem enumL_get : ∀ (l : List P) (n i : Nat) {p : P}, l[i]? = some p → (enumL n l)[i]? = some (.tup [.int ((n + i : Nat) : Int), p])
  | [], _, _, _, h => by simp at h
  | x :: r, n, 0, p, h => by simp at h; subst h; simp [enumL]
  | x :: r, n, i + 1, p, h => by
    rw [enumL, List.getElem?_cons_succ, enumL_get r (n + 1) i (by simpa using h), show n + 1 + i = n + (i + 1) by omega]
theorem wok_enum {l : List P} {a : Addr} (s : Src K Z M st H (.lst l) (.ref a)) : WOK Z M st H (enumL 0 l) (Ite K a) where
  goes := fun i Z' M' st' H' hi sr f => by
    obtain ⟨b, vs, e, q, r⟩ := s _ _ _ _ sr f
    cases e
    rw [enumL_len] at hi
    obtain ⟨x, hx⟩ := get_ex (l := vs) (i := i) (by rw [r.length]; exact hi)
    exact ⟨vs, x, q, hx⟩
  stops := fun Z' M' st' H' sr f => by
    obtain ⟨b, vs, e, q, r⟩ := s _ _ _ _ sr f
    cases e
    exact ⟨vs, q, by rw [r.length, enumL_len]; exact Nat.le_refl _⟩
  yields := fun i Z' M' st' H' v H'' hi sr f y => by
    obtain ⟨b, vs, e, q, r⟩ := s _ _ _ _ sr f
    cases e
    obtain ⟨T, x, rfl, hn, rfl, y⟩ := y
    obtain ⟨p, h1, h2⟩ := r.get' (y vs q)
    refine ⟨_, by have := enumL_get l 0 i h1; simpa using this, .new sr hn, .new sr hn, ?_⟩
    exact RelP.newT sr hn (.two (by simp [RelP]) h2)
theorem zipL_get : ∀ (l m : List P) (i : Nat) {p q : P}, l[i]? = some p → m[i]? = some q → (zipL l m)[i]? = some (.tup [p, q])
  | [], _, _, _, _, h, _ => by simp at h
  | _ :: _, [], _, _, _, _, h => by simp at h
  | x :: r, y :: s, 0, p, q, h, g => by simp at h g; subst h g; simp [zipL]
  | x :: r, y :: s, i + 1, p, q, h, g => by
    rw [zipL, List.getElem?_cons_succ]
    exact zipL_get r s i (by simpa using h) (by simpa using g)
theorem zipL_len : ∀ (l m : List P), (zipL l m).length = min l.length m.length
  | [], m => by simp [zipL]
  | x :: r, [] => by simp [zipL]
  | x :: r, y :: s => by simp [zipL, zipL_len r s]
theorem wok_zip {l m : List P} {a b : Addr} (s : Src K Z M st H (.lst l) (.ref a)) (t : Src K Z M st H (.lst m) (.ref b)) : WOK Z M st H (zipL l m) (Itz K a b) where
  goes := fun i Z' M' st' H' hi sr f => by
    obtain ⟨_, vs, e, q, r⟩ := s _ _ _ _ sr f
    cases e
    obtain ⟨_, ws, e, q2, r2⟩ := t _ _ _ _ sr f
    cases e
    rw [zipL_len] at hi
    obtain ⟨x, hx⟩ := get_ex (l := vs) (i := i) (by rw [r.length]; omega)
    obtain ⟨y, hy⟩ := get_ex (l := ws) (i := i) (by rw [r2.length]; omega)
    exact ⟨vs, ws, x, y, q, q2, hx, hy⟩
  stops := fun Z' M' st' H' sr f => by
    obtain ⟨_, vs, e, q, r⟩ := s _ _ _ _ sr f
    cases e
    obtain ⟨_, ws, e, q2, r2⟩ := t _ _ _ _ sr f
    cases e
    exact ⟨vs, ws, q, q2, by rw [r.length, r2.length, zipL_len]; omega⟩
  yields := fun i Z' M' st' H' v H'' hi sr f y => by
    obtain ⟨_, vs, e, q, r⟩ := s _ _ _ _ sr f
    cases e
    obtain ⟨_, ws, e, q2, r2⟩ := t _ _ _ _ sr f
    cases e
    obtain ⟨T, x, z, rfl, hn, rfl, y1, y2⟩ := y
    obtain ⟨p, h1, h2⟩ := r.get' (y1 vs q)
    obtain ⟨p2, g1, g2⟩ := r2.get' (y2 ws q2)
    exact ⟨_, zipL_get l m i h1 g1, .new sr hn, .new sr hn, RelP.newT sr hn (.two h2 g2)⟩
theorem wok_zipT {l m : List P} {a b : Addr} (s : Src K Z M st H (.tup l) (.ref a)) (t : Src K Z M st H (.tup m) (.ref b)) : WOK Z M st H (zipL l m) (RZ.ItzT K a b) where
  goes := fun i Z' M' st' H' hi sr f => by
    obtain ⟨_, vs, e, q, r⟩ := s _ _ _ _ sr f
    cases e
    obtain ⟨_, ws, e, q2, r2⟩ := t _ _ _ _ sr f
    cases e
    rw [zipL_len] at hi
    obtain ⟨x, hx⟩ := get_ex (l := vs) (i := i) (by rw [r.length]; omega)
    obtain ⟨y, hy⟩ := get_ex (l := ws) (i := i) (by rw [r2.length]; omega)
    exact ⟨vs, ws, x, y, q, q2, hx, hy⟩
  stops := fun Z' M' st' H' sr f => by
    obtain ⟨_, vs, e, q, r⟩ := s _ _ _ _ sr f
    cases e
    obtain ⟨_, ws, e, q2, r2⟩ := t _ _ _ _ sr f
    cases e
    exact ⟨vs, ws, q, q2, by rw [r.length, r2.length, zipL_len]; omega⟩
  yields := fun i Z' M' st' H' v H'' hi sr f y => by
    obtain ⟨_, vs, e, q, r⟩ := s _ _ _ _ sr f
    cases e
    obtain ⟨_, ws, e, q2, r2⟩ := t _ _ _ _ sr f
    cases e
    obtain ⟨T, x, z, rfl, hn, rfl, y1, y2⟩ := y
    obtain ⟨p, h1, h2⟩ := r.get' (y1 vs q)
    obtain ⟨p2, g1, g2⟩ := r2.get' (y2 ws q2)
    exact ⟨_, zipL_get l m i h1 g1, .new sr hn, .new sr hn, RelP.newT sr hn (.two h2 g2)⟩
end
end NH
namespace NH
variable [W : TheW]
open PySem PySem.Spec PyProof.Rows L2
open PySem.Sem (wp)
theorem meets_enumT (a : Addr) (items : Array Value) :
    Meets (Builtin.«enumerate.__new__» ⟨[.type "enumerate", .ref a], []⟩) (fun _ R s => s.heap.IsTuple a items ∧
      R (.ok (.ret (.ref (s.heap.push { cls := .type "tuple_iterator", data := .fields #[.ref a, .int 0 0] }).objs.size)))
        { s with heap := (s.heap.push { cls := .type "tuple_iterator", data := .fields #[.ref a, .int 0 0] }).push { cls := .type "enumerate", data := .fields #[.none, .bool false, .ref s.heap.objs.size, rawInt 0, .none, .none] } }) :=
  .of_wp fun prog w A R s h => by
    obtain ⟨hp, g, d, tk, os⟩ := s; obtain ⟨h1, h⟩ := h
    have hsub := sub_enumerate
    have q1 : ∀ {A' : Around} {E : Value → Shared → Prop} {Q : Value → Shared → Prop}, Q (.ref hp.objs.size) ⟨hp.push { cls := .type "tuple_iterator", data := .fields #[.ref a, .int 0 0] }, g, d, tk, os⟩ → wpAny (model prog w) A' (pyIter (.ref a)) Q E ⟨hp, g, d, tk, os⟩ :=
      fun q => wpAny_pyIter_tuple (s := ⟨hp, g, d, tk, os⟩) h1 q
    wp_walk using q1
    refine wpAny_stack_any fun st => wpAny_pure ?_
    split
    · rename_i c _ _ _ _ _
      cases (c == Value.type "enumerate")
      · wp_walk using q1
        exact ⟨_, rfl, h⟩
      · wp_walk using q1
        exact ⟨_, rfl, h⟩
    · wp_walk using q1
      exact ⟨_, rfl, h⟩
theorem call_enumT {prog : Program} {w : World} {A : Around} {E : Value → Shared → Prop} {s : Shared} {l : Addr} {items : Array Value} {Q : Value → Shared → Prop} (hL : s.heap.IsTuple l items)
    (h : ∀ h', IsEnum h' (s.heap.objs.size + 1) s.heap.objs.size 0 .none → h'.IsTupleIter s.heap.objs.size l 0 → h'.objs.size = s.heap.objs.size + 2 →
      (∀ b o, s.heap.get? b = some o → h'.get? b = some o) → Q (.ref (s.heap.objs.size + 1)) { s with heap := h' }) :
    wpAny (model prog w) A (call (.type "enumerate") [.ref l]) Q E s := by
  refine callType_new F.called_enumerate (by decide) (F.typeCall_enumerate_1 _) (F.newCall_enumerate_1 _) (fun obj => F.args_object_init_2 obj _) F.entry_enumerate_new
    (meets_enumT l items) ⟨hL, ?_⟩
  have hz : (s.heap.push { cls := .type "tuple_iterator", data := .fields #[.ref l, .int 0 0] }).objs.size = s.heap.objs.size + 1 := Heap.size_push ..
  show _ ∧ _
  rw [hz]
  have he : IsEnum ((s.heap.push { cls := .type "tuple_iterator", data := .fields #[.ref l, .int 0 0] }).push
      { cls := .type "enumerate", data := .fields #[.none, .bool false, .ref s.heap.objs.size, rawInt 0, .none, .none] }) (s.heap.objs.size + 1) s.heap.objs.size 0 .none := by
    have := Heap.get?_push_size (s.heap.push { cls := .type "tuple_iterator", data := .fields #[.ref l, .int 0 0] })
      (o := { cls := .type "enumerate", data := .fields #[.none, .bool false, .ref s.heap.objs.size, rawInt 0, .none, .none] }) rfl
    rw [hz] at this; exact this
  refine ⟨⟨_, he, rfl⟩, h _ he ⟨_, Heap.get?_push_of_some _ (Heap.get?_push_size _ rfl), rfl, rfl⟩ (by rw [Heap.size_push, hz]) fun b o x => Heap.get?_push_of_some _ (Heap.get?_push_of_some _ x)⟩
def IteT (K : PySem.W.Frag) (a : Addr) : It :=
  ⟨fun i H => ∃ (xs : List V) (x : V), SqT K H a xs ∧ xs[i]? = some x, fun i H v H' => ∃ T x, v = .ref T ∧ H T = none ∧ H' = upd H T (.tup [.int (i : Nat), x]) ∧ ∀ xs, SqT K H a xs → xs[i]? = some x, fun i H => ∃ xs : List V, SqT K H a xs ∧ xs.length ≤ i⟩
theorem turn_enumT {P : Program} {w : World} {K : PySem.W.Frag} {elts : List Expr} {kk : Nat} {tpos : Pos} (a e it : Addr) :
    Turn P w K (.Tuple elts kk tpos) (IteT K a) [e, it] e (fun i h => (∃ old, IsEnum h e it ((i : Nat) : Int) old) ∧ h.IsTupleIter it a i ∧ e ≠ it ∧ e ≠ a ∧ a ≠ it) where
  mem := by simp
  obj := fun i h st b hb => by
    obtain ⟨⟨old, he⟩, ⟨o, ho, hc, hd⟩, _⟩ := st
    have e' : b = e ∨ b = it := by simpa using hb
    rcases e' with z | z
    · rw [z]; exact ⟨_, he, fun v q => nomatch q⟩
    · rw [z]; exact ⟨o, ho, fun v q => by rw [hd] at q; cases q⟩
  keep := fun i h h' st k => let ⟨⟨old, he⟩, hi, hne⟩ := st; ⟨⟨old, k e (by simp) _ he⟩, hi.at fun o q => k it (by simp) o q, hne⟩
  item := by
    intro X hP hw hK hc i pins s σ H E I hf st hg
    subst hP hw hK
    obtain ⟨⟨old, he⟩, hit, hne, hea, hai⟩ := st
    obtain ⟨xs, x, hq, hx⟩ := hg
    obtain ⟨its, rv, p, hz⟩ := I.tuple hq
    obtain ⟨u, hu, ru⟩ := rv.get hx
    have hel : e < s.heap.objs.size := Heap.lt_size he
    have hil : it < s.heap.objs.size := by obtain ⟨_, q, _⟩ := hit; exact Heap.lt_size q
    have hlt : i < its.toArray.size := by
      have := (List.getElem?_eq_some_iff.mp hu).1
      simpa using this
    refine wpAny_pyNext_enum_itemD (Draws.tuple (show X.A.in1.handled = none from I.ok.hd hc) it a hai its.toArray) he ⟨hit, p⟩ hlt hne (by simp [hne, hea]) fun u' h' tk hu' ho hit' hT hsz hk => ?_
    have hu' : its[i]? = some u' := by simpa using hu'
    rw [hu] at hu'
    cases hu'
    obtain ⟨hit', _⟩ := hit'
    refine ⟨_, rfl, wpAny_letOwnedTupleGo_enum (s := { s with heap := h', toks := tk + 1 }) ho fun h'' he' sb => ?_⟩
    have hT2 : h''.get? s.heap.objs.size = some { cls := .type "tuple", data := .seq #[.int i tk, u] } := (sb.2 _ (Nat.ne_of_gt hel)).trans hT
    have new : ObjOk X.prog X.w (upd H s.heap.objs.size (.tup [.int (i : Nat), x])) h'' s.heap.objs.size (.tup [.int (i : Nat), x]) :=
      ⟨by show 2 ≤ sizeLine; decide, [.int i tk, u], .cons ⟨_, rfl⟩ (.cons ru .nil), ⟨_, hT2, rfl, _, rfl⟩⟩
    have I1 : Inv X pins σ (upd H s.heap.objs.size (.tup [.int (i : Nat), x])) { s with heap := h'', toks := tk + 1 } :=
      I.turnedNew (ch := [e, it]) (fun b ob hb q => (sb.2 b (fun z => hb (by simp [z]))).trans (hk b ob (fun z => hb (by simp [z])) (fun z => hb (by simp [z])) q)) hf (Nat.le_refl _) new
    refine ⟨.ref s.heap.objs.size, _, I1, rfl, ⟨_, x, rfl, I.hok.fresh (Nat.le_refl _), rfl, fun ys hy => by rw [I.tuple_inj hy hq]; exact hx⟩, ⟨⟨u, ?_⟩, hit'.at fun o q => (sb.2 it (Ne.symm hne)).trans q, hne, hea, hai⟩, fun b hb => ?_⟩
    · have e1 : ((i + 1 : Nat) : Int) = (i : Int) + 1 := by omega
      rw [e1]; exact he'
    · have hb' : b < s.heap.objs.size := by
        have e' : b = e ∨ b = it := by simpa using hb
        rcases e' with z | z
        · rw [z]; exact hel
        · rw [z]; exact hil
      rw [upd_ne (Nat.ne_of_lt hb')]
      exact (hf b hb).1
  done := by
    intro X hP hw hK hc i pins s σ H E I hf st hg
    subst hP hw hK
    obtain ⟨⟨old, he⟩, hit, hne, hea, hai⟩ := st
    obtain ⟨xs, hq, hx⟩ := hg
    obtain ⟨its, rv, p, hz⟩ := I.tuple hq
    obtain ⟨f0, f1, f2, f3, f4, f5⟩ := hf it (by simp)
    have hl := rv.length
    have hT : s.TypeIs (.ref e) "enumerate" := ⟨_, he, rfl⟩
    unfold pyNext
    refine wpAny_bind (wpAny_attempt (wpAny_callSpecial?_slot (name := Str.ofString "__next__") hT F.slot_enumerate_next
      (wpAny_call_entry F.slot_enumerate_next hT F.entry_enumerate_next ?_ (F.args_enumerate_next_1 _))))
    show wpAny _ _ (field (.ref e) 2 >>= _) _ _ _
    refine wpAny_bind (wpAny_field he rfl (x := .ref it) rfl ?_)
    refine wpAny_bind (RZ.nextOf_tuple_end (I.ok.hd hc) hit p (by simp; omega) fun h' x he' hx' => ?_)
    obtain ⟨o, ho, hcc⟩ := hx'
    refine wpAny_bind (wpAny_isInstance (T := "StopIteration") (b := true) ⟨o, ho, hcc⟩ isSubtype_stop ?_)
    exact wpAny_pure ⟨rfl, I.turned (t' := s.toks) (fun b o hb q => he' b o hb q) f0 f1 f3 f4 f5⟩
  self := fun A i s Q E st h => let ⟨⟨_, he⟩, _⟩ := st; wpAny_pyIter_enum he h
def iEnumT (K : PySem.W.Frag) (ta : TA) : TI := fun σ H R => ta σ H fun vs H1 => ∃ a xs, vs = [.ref a] ∧ SqT K H1 a xs ∧ R (IteT K a) H1
theorem pi_enumT {X : Cx} {e : Expr} {ta : TA} {p pos tpos : Pos} {elts : List Expr} {kk : Nat} (hg : Gl X "enumerate") (hm : X.mg "enumerate" = none) (ha : PA X [e] ta) (hs : starEach [e] X.env = [(false, eval e X.env)]) :
    PI X (.Tuple elts kk tpos) (.Call (.Name "enumerate" p) [e] [] pos) (iEnumT X.K ta) := by
  refine ⟨fun pins s σ H R I h => ?_⟩
  refine Call_ (ld_blt I hg hm boot_enumerate (PyProof.Rows.callWith_type1 (thn (ha.run pos pins s σ H _ I h) fun us s1 ⟨vs, H1, I1, r1, q1⟩ => ?_) hs rfl))
  obtain ⟨a, xs, ex, hq, q⟩ := q1
  subst ex
  cases r1 with
  | cons r rr =>
    cases rr
    cases r
    obtain ⟨its, rv, p', hz⟩ := I1.tuple hq
    obtain ⟨o1, ho1, _⟩ := id p'
    have hal : a < s1.heap.objs.size := Heap.lt_size ho1
    refine call_enumT (show s1.heap.IsTuple a its.toArray from p') fun h' he hit hsz hk => wpAny_pyIter_enum he ?_
    have I2 : Inv X pins σ H1 { s1 with heap := h' } := I1.kept (t' := s1.toks) hk
    refine ⟨s1.heap.objs.size + 1, [s1.heap.objs.size + 1, s1.heap.objs.size], _, _, H1, rfl, I2, turn_enumT a (s1.heap.objs.size + 1) s1.heap.objs.size, ⟨⟨.none, he⟩, hit, Nat.succ_ne_self _, Nat.ne_of_gt (Nat.lt_succ_of_lt hal), Nat.ne_of_lt hal⟩, fun b hb => ?_, q⟩
    have e' : b = s1.heap.objs.size + 1 ∨ b = s1.heap.objs.size := by simpa using hb
    have hle : s1.heap.objs.size ≤ b := by
      rcases e' with z | z
      · rw [z]; exact Nat.le_add_right _ _
      · rw [z]; exact Nat.le_refl _
    exact I1.fpOk hle (I1.hok.fresh hle)
theorem wok_enumT {K : PySem.W.Frag} {Z : Addr → Prop} {M : List Addr} {st : Store} {H : Hp} {l : List P} {a : Addr} (s : Src K Z M st H (.tup l) (.ref a)) : WOK Z M st H (enumL 0 l) (IteT K a) where
  goes := fun i Z' M' st' H' hi sr f => by
    obtain ⟨b, vs, e, q, r⟩ := s _ _ _ _ sr f
    cases e
    rw [enumL_len] at hi
    obtain ⟨x, hx⟩ := get_ex (l := vs) (i := i) (by rw [r.length]; exact hi)
    exact ⟨vs, x, q, hx⟩
  stops := fun Z' M' st' H' sr f => by
    obtain ⟨b, vs, e, q, r⟩ := s _ _ _ _ sr f
    cases e
    exact ⟨vs, q, by rw [r.length, enumL_len]; exact Nat.le_refl _⟩
  yields := fun i Z' M' st' H' v H'' hi sr f y => by
    obtain ⟨b, vs, e, q, r⟩ := s _ _ _ _ sr f
    cases e
    obtain ⟨T, x, rfl, hn, rfl, y⟩ := y
    obtain ⟨p, h1, h2⟩ := r.get' (y vs q)
    refine ⟨_, by have := enumL_get l 0 i h1; simpa using this, .new sr hn, .new sr hn, ?_⟩
    exact RelP.newT sr hn (.two (by simp [RelP]) h2)
end NH
namespace NH
variable [W : TheW]
open PySem L2
def tI (K : PySem.W.Frag) (C : Calls) (c : CI) : TI := fun σ H R => ∃ Z M st δ l ks st', SRel Z M st H ∧ EnvRel K Z M st H δ σ ∧ evI C c δ st = .ok (l, ks) st' ∧
  ∀ J M1 st1 H1, Frm Z M st H M1 st1 H1 → SRel Z M1 st1 H1 → Lks st1 ks st' → WOK Z M1 st' H1 l J → R J H1
theorem PI.weak {X : Cx} {tg e : Expr} {t t' : TI} (h : PI X tg e t) (hw : ∀ σ H Q, t' σ H Q → t σ H Q) : PI X tg e t' := ⟨fun pins s σ H Q I hq => h.run pins s σ H Q I (hw σ H Q hq)⟩
theorem PI.cases {X : Cx} {tg e : Expr} {t' : TI} (h : ∀ σ H Q, t' σ H Q → ∃ t, PI X tg e t ∧ t σ H Q) : PI X tg e t' := ⟨fun pins s σ H Q I hq => let ⟨_, h1, h2⟩ := h σ H Q hq; h1.run pins s σ H Q I h2⟩
section
variable {I : Inf} {T : Nat → Option Fn} {n : Nat} {S : Sx} {X : Cx} {C : Calls}
theorem evEs_one {c : CE} {δ : Env} {st st' : Store} {d : D} (h : evE C c δ st = .ok d st') : evEs C (.cons c .nil) δ st = .ok [d] st' := by simp [evEs, h]
theorem evEs_two {c c' : CE} {δ : Env} {st st' st'' : Store} {d d' : D} (h : evE C c δ st = .ok d st') (h' : evE C c' δ st' = .ok d' st'') : evEs C (.cons c (.cons c' .nil)) δ st = .ok [d, d'] st'' := by simp [evEs, h, h']
theorem RelDs.one' {K : PySem.W.Frag} {Z : Addr → Prop} {M : List Addr} {st : Store} {H : Hp} {d : D} {vs : List V} (r : RelDs K Z M st H [d] vs) : ∃ v, vs = [v] ∧ RelD K Z M st H d v := by
  obtain ⟨v, q, rfl, h, rfl⟩ := r
  exact ⟨v, rfl, h⟩
theorem RelDs.two' {K : PySem.W.Frag} {Z : Addr → Prop} {M : List Addr} {st : Store} {H : Hp} {d e : D} {vs : List V} (r : RelDs K Z M st H [d, e] vs) : ∃ v w, vs = [v, w] ∧ RelD K Z M st H d v ∧ RelD K Z M st H e w := by
  obtain ⟨v, q, rfl, h, w, q', rfl, h', rfl⟩ := r
  exact ⟨v, w, rfl, h, h'⟩
theorem i_val {tg e : Expr} {c : CE} (he : PE X e (tE X.K C c)) : PI X tg e (tI X.K C (.val c)) := by
  refine PI.cases fun σ H RR h => ?_
  obtain ⟨Z, M, st, δ, l, ks, st', sr, er, ev, k⟩ := h
  obtain ⟨d, st1, e1, ev⟩ := R.bind_eq_ok ev
  obtain ⟨⟨p, ks'⟩, st2, e2, ev⟩ := R.bind_eq_ok ev
  obtain ⟨ev2, rfl⟩ := lift_eq_ok ev
  obtain ⟨l', hl, ee⟩ := Option.map_eq_some_iff.mp ev2
  cases ee
  cases p with
  | lst x =>
    cases hl
    refine ⟨_, pi_list he, one sr er e1 fun v M2 H2 f2 s2 r2 => ?_⟩
    obtain ⟨lk, src⟩ := lockD_ok s2 r2 e2
    obtain ⟨a, vs, rfl, q, rr⟩ := src _ _ _ _ (lk.1.srel s2) .refl
    exact ⟨a, rfl, ⟨vs, q⟩, k _ M2 _ H2 f2 s2 lk (wok_list src)⟩
  | tup x =>
    cases hl
    refine ⟨_, pi_tup he, one sr er e1 fun v M2 H2 f2 s2 r2 => ?_⟩
    obtain ⟨lk, src⟩ := lockD_ok s2 r2 e2
    obtain ⟨a, vs, rfl, q, rr⟩ := src _ _ _ _ (lk.1.srel s2) .refl
    exact ⟨a, rfl, ⟨vs, q⟩, k _ M2 _ H2 f2 s2 lk (wok_tup src)⟩
  | str x =>
    cases hl
    refine ⟨_, pi_str he, one sr er e1 fun v M2 H2 f2 s2 r2 => ?_⟩
    obtain ⟨lk, src⟩ := lockD_ok s2 r2 e2
    have q := src _ _ _ _ (lk.1.srel s2) .refl
    have q : v = .str ⟨x.toArray⟩ := by simpa [Top, RelP] using q
    exact ⟨_, q, k _ M2 _ H2 f2 s2 lk wok_str⟩
  | _ => cases hl
def inB (I : Inf) (x : Str) : Bool := I.B.any (· == x)
theorem bl_of (G : Good I T n S X) {x : Str} (h : inB I x = true) : X.mg x = none := G.bl x (by
  simp only [inB, List.any_eq_true, beq_iff_eq] at h
  obtain ⟨y, h1, h2⟩ := h
  exact h2 ▸ h1)
theorem i_rng1 (G : Good I T n S X) {tg a : Expr} {c : CE} {p pos : Pos} (hg : glB S.sc "range" = true) (hb : inB I "range" = true) (hs : starB a = true) (he : PE X a (tE X.K C c)) : PI X tg (.Call (.Name "range" p) [a] [] pos) (tI X.K C (.rng1 c)) := by
  refine PI.weak (pi_range1 (gl_of G hg) (bl_of G hb) (s_cons he s_nil hs) (star_of hs)) fun σ H RR h => ?_
  obtain ⟨Z, M, st, δ, l, ks, st', sr, er, ev, k⟩ := h
  obtain ⟨d, st1, e1, ev⟩ := R.bind_eq_ok ev
  split at ev
  · rename_i i
    split at ev
    · rename_i hi
      cases ev
      refine many sr er (evEs_one e1) fun vs M2 H2 f2 s2 r2 => ?_
      obtain ⟨v, rfl, r⟩ := r2.one'
      have r : v = .int i := by simpa [RelD, RelP] using r
      subst r
      refine ⟨i, rfl, by omega, by omega, k _ M2 _ H2 f2 s2 ⟨.refl, by simp⟩ wok_rng⟩
    · cases ev
  · cases ev
theorem i_rng2 (G : Good I T n S X) {tg a b : Expr} {c c' : CE} {p pos : Pos} (hg : glB S.sc "range" = true) (hb : inB I "range" = true) (hs : starB a = true) (hs' : starB b = true) (he : PE X a (tE X.K C c)) (he' : PE X b (tE X.K C c')) :
    PI X tg (.Call (.Name "range" p) [a, b] [] pos) (tI X.K C (.rng2 c c')) := by
  refine PI.weak (pi_range2 (gl_of G hg) (bl_of G hb) (s_cons he (s_cons he' s_nil hs') hs) (by rw [star_of hs, star_of hs']; rfl) (star_of hs')) fun σ H RR h => ?_
  obtain ⟨Z, M, st, δ, l, ks, st', sr, er, ev, k⟩ := h
  obtain ⟨d, st1, e1, ev⟩ := R.bind_eq_ok ev
  obtain ⟨d', st2, e2, ev⟩ := R.bind_eq_ok ev
  split at ev
  · rename_i _ _ i j _
    split at ev
    · rename_i hi
      cases ev
      refine many sr er (evEs_two e1 e2) fun vs M2 H2 f2 s2 r2 => ?_
      obtain ⟨v, w, rfl, r, r'⟩ := r2.two'
      have r : v = .int i := by simpa [RelD, RelP] using r
      have r' : w = .int j := by simpa [RelD, RelP] using r'
      subst r r'
      refine ⟨i, j, rfl, by omega, k _ M2 _ H2 f2 s2 ⟨.refl, by simp⟩ wok_rng⟩
    · cases ev
  · cases ev
theorem i_enum (G : Good I T n S X) {e : Expr} {elts : List Expr} {kk : Nat} {tpos p pos : Pos} {c : CE} (hg : glB S.sc "enumerate" = true) (hb : inB I "enumerate" = true) (hs : starB e = true) (he : PE X e (tE X.K C c)) :
    PI X (.Tuple elts kk tpos) (.Call (.Name "enumerate" p) [e] [] pos) (tI X.K C (.enum c)) := by
  refine PI.cases fun σ H RR h => ?_
  obtain ⟨Z, M, st, δ, l, ks, st', sr, er, ev, k⟩ := h
  obtain ⟨d, st1, e1, ev⟩ := R.bind_eq_ok ev
  obtain ⟨⟨q, ks'⟩, st2, e2, ev⟩ := R.bind_eq_ok ev
  obtain ⟨ev2, rfl⟩ := lift_eq_ok ev
  obtain ⟨l', hl, ee⟩ := Option.map_eq_some_iff.mp ev2
  cases ee
  unfold enumP at hl
  split at hl
  · rename_i hq
    have hq : q = _ := hq
    subst hq
    cases hl
    refine ⟨_, pi_enum (gl_of G hg) (bl_of G hb) (s_cons he s_nil hs) (star_of hs), many sr er (evEs_one e1) fun vs M2 H2 f2 s2 r2 => ?_⟩
    obtain ⟨v, rfl, r⟩ := r2.one'
    obtain ⟨lk, src⟩ := lockD_ok s2 r e2
    obtain ⟨a, vs, rfl, q, rr⟩ := src _ _ _ _ (lk.1.srel s2) .refl
    exact ⟨a, vs, rfl, q, k _ M2 _ H2 f2 s2 lk (wok_enum src)⟩
  · rename_i hq
    have hq : q = _ := hq
    subst hq
    cases hl
    refine ⟨_, pi_enumT (gl_of G hg) (bl_of G hb) (s_cons he s_nil hs) (star_of hs), many sr er (evEs_one e1) fun vs M2 H2 f2 s2 r2 => ?_⟩
    obtain ⟨v, rfl, r⟩ := r2.one'
    obtain ⟨lk, src⟩ := lockD_ok s2 r e2
    obtain ⟨a, vs, rfl, q, rr⟩ := src _ _ _ _ (lk.1.srel s2) .refl
    exact ⟨a, vs, rfl, q, k _ M2 _ H2 f2 s2 lk (wok_enumT src)⟩
  · cases hl
theorem i_zip (G : Good I T n S X) {e e' : Expr} {elts : List Expr} {kk : Nat} {tpos p pos : Pos} {c c' : CE} (hg : glB S.sc "zip" = true) (hb : inB I "zip" = true) (hs : starB e = true) (hs' : starB e' = true) (he : PE X e (tE X.K C c)) (he' : PE X e' (tE X.K C c')) :
    PI X (.Tuple elts kk tpos) (.Call (.Name "zip" p) [e, e'] [] pos) (tI X.K C (.zip c c')) := by
  refine PI.weak (RZ.pi_zipA (gl_of G hg) (bl_of G hb) (s_cons he (s_cons he' s_nil hs') hs) (star_of hs) (by rw [star_of hs']; rfl)) fun σ H RR h => ?_
  obtain ⟨Z, M, st, δ, l, ks, st', sr, er, ev, k⟩ := h
  obtain ⟨d, st1, e1, ev⟩ := R.bind_eq_ok ev
  obtain ⟨d', st2, e2, ev⟩ := R.bind_eq_ok ev
  obtain ⟨⟨q, ks1⟩, st3, e3, ev⟩ := R.bind_eq_ok ev
  obtain ⟨⟨q', ks2⟩, st4, e4, ev⟩ := R.bind_eq_ok ev
  obtain ⟨ev2, rfl⟩ := lift_eq_ok ev
  obtain ⟨l', hl, ee⟩ := Option.map_eq_some_iff.mp ev2
  cases ee
  refine many sr er (evEs_two e1 e2) fun vs M2 H2 f2 s2 r2 => ?_
  obtain ⟨v, w, rfl, r, r'⟩ := r2.two'
  obtain ⟨lk, src⟩ := lockD_ok s2 r e3
  have s3 := lk.1.srel s2
  obtain ⟨lk', src'⟩ := lockD_ok s3 (lk.1.reld.mp r') e4
  have s4 := lk'.1.srel s3
  have src := src.lt lk'.1.lt'
  unfold zipP at hl
  split at hl
  · rename_i hq hq'
    have hq : q = _ := hq
    have hq' : q' = _ := hq'
    subst hq hq'
    cases hl
    obtain ⟨a, vs, rfl, q, rr⟩ := src _ _ _ _ s4 .refl
    obtain ⟨b, ws, rfl, q2, rr2⟩ := src' _ _ _ _ s4 .refl
    exact ⟨a, b, vs, ws, rfl, .inl ⟨q, q2, k _ M2 _ H2 f2 s2 (lk.app lk') (wok_zip src src')⟩⟩
  · rename_i hq hq'
    have hq : q = _ := hq
    have hq' : q' = _ := hq'
    subst hq hq'
    cases hl
    obtain ⟨a, vs, rfl, q, rr⟩ := src _ _ _ _ s4 .refl
    obtain ⟨b, ws, rfl, q2, rr2⟩ := src' _ _ _ _ s4 .refl
    exact ⟨a, b, vs, ws, rfl, .inr ⟨q, q2, k _ M2 _ H2 f2 s2 (lk.app lk') (wok_zipT src src')⟩⟩
  · cases hl
end
end NH
namespace NHZT
open PySem PySem.Spec PyProof.Rows L2
section
variable {prog : Program} {w : World} {A : Around} {E : Value → Shared → Prop} {s : Shared}
theorem zipT_next_item_held {z TI TO T i1 i2 l1 l2 : Addr} {f : Bool} {oT : Obj} {k1 k2 : Nat} {xs ys : Array Value} {x y : Value} {Q : Value → Shared → Prop} (D : ZipApart z TI TO i1 i2 l1 l2)
    (hz : IsZipHeld s.heap z TI TO T f) (hT : s.heap.get? T = some oT) (hTI : IsPair s.heap TI (.ref i1) (.ref i2))
    (h1 : s.heap.IsTupleIter i1 l1 k1) (h2 : s.heap.IsTupleIter i2 l2 k2) (hl1 : s.heap.IsTuple l1 xs) (hl2 : s.heap.IsTuple l2 ys) (hx : xs[k1]? = some x) (hy : ys[k2]? = some y)
    (hQ : ∀ h', IsZipHeld h' z TI TO T true → h'.IsTupleIter i1 l1 (k1 + 1) → h'.IsTupleIter i2 l2 (k2 + 1) → IsPair h' s.heap.objs.size x y → h'.objs.size = s.heap.objs.size + 1 →
      (∀ c o, c ≠ z → c ≠ i1 → c ≠ i2 → s.heap.get? c = some o → h'.get? c = some o) → Q (.ref s.heap.objs.size) { s with heap := h' }) :
    wpAny (model prog w) A (Builtin.«zip.__next__» ⟨[.ref z], []⟩) (fun fin s' => ∃ v, fin = .done (.ret v) ∧ Q v s') E s := by
  show wpAny _ _ (field (.ref z) 2 >>= _) _ _ _
  refine wpAny_bind (wpAny_field hz rfl (x := .bool false) rfl ?_)
  show wpAny _ _ (field (.ref z) 3 >>= _) _ _ _
  refine wpAny_bind (wpAny_field hz rfl (x := .ref TI) rfl ?_)
  refine wpAny_bind (wpAny_seqItems hTI rfl ?_)
  show wpAny _ _ (Builtin.SmallTypes.ownedTupleIsFree (.ref z) >>= _) _ _ _
  refine wpAny_bind (wpAny_tupleHeld_zip hz hT fun h₁ hz₁ hs₁ => ?_)
  simp only [Bool.false_eq_true, if_false]
  refine wpAny_bind ?_
  rw [← Array.forIn_toList]
  simp only [List.forIn_cons, List.forIn_nil]
  refine wpAny_bind (wpAny_bind (wpAny_holding ?_))
  show wpAny _ _ (Builtin.SmallTypes.nextOf (.ref i1) >>= _) _ _ _
  refine wpAny_bind (RZ.nextOf_tuple_item (s := { s with heap := h₁ }) (h1.extBut hs₁.extBut D.i1z) (hl1.extBut hs₁.extBut D.l1z) hx fun h₂ h1₂ hs₂ => wpAny_pure ?_)
  refine wpAny_pure ?_
  refine wpAny_bind (wpAny_bind (wpAny_holding ?_))
  show wpAny _ _ (Builtin.SmallTypes.nextOf (.ref i2) >>= _) _ _ _
  refine wpAny_bind (RZ.nextOf_tuple_item (s := { s with heap := h₂ }) ((h2.extBut hs₁.extBut D.i2z).extBut hs₂.extBut D.i12.symm) ((hl2.extBut hs₁.extBut D.l2z).extBut hs₂.extBut D.l2i1) hy fun h₃ h2₃ hs₃ => wpAny_pure ?_)
  refine wpAny_pure (wpAny_pure ?_)
  show wpAny _ _ (newTuple [x, y] >>= _) _ _ _
  refine wpAny_bind (wpAny_newTuple ?_)
  have hsz : h₃.objs.size = s.heap.objs.size := by rw [hs₃.1, hs₂.1, hs₁.1]
  have hz₃ : IsZipHeld h₃ z TI TO T true := hs₃.extBut _ _ D.i2z.symm (hs₂.extBut _ _ D.i1z.symm hz₁)
  have hk : ∀ c o, c ≠ z → c ≠ i1 → c ≠ i2 → s.heap.get? c = some o → h₃.get? c = some o := fun c o c1 c2 c3 e => hs₃.extBut _ _ c3 (hs₂.extBut _ _ c2 (hs₁.extBut _ _ c1 e))
  have h1₃ : h₃.IsTupleIter i1 l1 (k1 + 1) := h1₂.extBut hs₃.extBut D.i12
  refine wpAny_pure ⟨_, rfl, ?_⟩
  show Q (.ref h₃.objs.size) _
  have hp : IsPair (h₃.push { cls := .type "tuple", data := .seq #[x, y] }) h₃.objs.size x y := Heap.get?_push_size _ rfl
  have hz4 : (h₃.push { cls := .type "tuple", data := .seq #[x, y] }).objs.size = h₃.objs.size + 1 := Heap.size_push ..
  rw [hsz] at hp hz4 ⊢
  exact hQ _ (Heap.get?_push_of_some _ hz₃) (h1₃.at fun o e => Heap.get?_push_of_some _ e) (h2₃.at fun o e => Heap.get?_push_of_some _ e) hp hz4 fun c o c1 c2 c3 e => Heap.get?_push_of_some _ (hk c o c1 c2 c3 e)
theorem zipT_next_end_held {z TI TO T i1 i2 l1 l2 : Addr} {f : Bool} {oT : Obj} {k1 k2 : Nat} {xs ys : Array Value} {Q : Fin → Shared → Prop} (hh : A.handled = none) (D : ZipApart z TI TO i1 i2 l1 l2)
    (hz : IsZipHeld s.heap z TI TO T f) (hT : s.heap.get? T = some oT) (hTI : IsPair s.heap TI (.ref i1) (.ref i2))
    (h1 : s.heap.IsTupleIter i1 l1 k1) (h2 : s.heap.IsTupleIter i2 l2 k2) (hl1 : s.heap.IsTuple l1 xs) (hl2 : s.heap.IsTuple l2 ys) (hend : xs[k1]? = none ∨ ys[k2]? = none)
    (hE : ∀ h' e, (∀ c o, c ≠ z → c ≠ i1 → c ≠ i2 → s.heap.get? c = some o → h'.get? c = some o) → (∃ o, h'.get? e = some o ∧ o.cls = .type "StopIteration") → E (.ref e) { s with heap := h' }) :
    wpAny (model prog w) A (Builtin.«zip.__next__» ⟨[.ref z], []⟩) Q E s := by
  show wpAny _ _ (field (.ref z) 2 >>= _) _ _ _
  refine wpAny_bind (wpAny_field hz rfl (x := .bool false) rfl ?_)
  show wpAny _ _ (field (.ref z) 3 >>= _) _ _ _
  refine wpAny_bind (wpAny_field hz rfl (x := .ref TI) rfl ?_)
  refine wpAny_bind (wpAny_seqItems hTI rfl ?_)
  show wpAny _ _ (Builtin.SmallTypes.ownedTupleIsFree (.ref z) >>= _) _ _ _
  refine wpAny_bind (wpAny_tupleHeld_zip hz hT fun h₁ hz₁ hs₁ => ?_)
  simp only [Bool.false_eq_true, if_false]
  refine wpAny_bind ?_
  rw [← Array.forIn_toList]
  simp only [List.forIn_cons, List.forIn_nil]
  refine wpAny_bind (wpAny_bind (wpAny_holding ?_))
  show wpAny _ _ (Builtin.SmallTypes.nextOf (.ref i1) >>= _) _ _ _
  cases hx : xs[k1]? with
  | none =>
    refine wpAny_bind (RZ.nextOf_tuple_end (s := { s with heap := h₁ }) hh (h1.extBut hs₁.extBut D.i1z) (hl1.extBut hs₁.extBut D.l1z) hx fun h₂ e hs₂ he => ?_)
    exact hE h₂ e (fun c o c1 c2 _ x => hs₂ _ _ c2 (hs₁.extBut _ _ c1 x)) he
  | some x =>
    have hy : ys[k2]? = none := by rcases hend with h | h; rw [hx] at h; cases h; exact h
    refine wpAny_bind (RZ.nextOf_tuple_item (s := { s with heap := h₁ }) (h1.extBut hs₁.extBut D.i1z) (hl1.extBut hs₁.extBut D.l1z) hx fun h₂ h1₂ hs₂ => wpAny_pure ?_)
    refine wpAny_pure ?_
    refine wpAny_bind (wpAny_bind (wpAny_holding ?_))
    show wpAny _ _ (Builtin.SmallTypes.nextOf (.ref i2) >>= _) _ _ _
    refine wpAny_bind (RZ.nextOf_tuple_end (s := { s with heap := h₂ }) hh ((h2.extBut hs₁.extBut D.i2z).extBut hs₂.extBut D.i12.symm) ((hl2.extBut hs₁.extBut D.l2z).extBut hs₂.extBut D.l2i1) hy fun h₃ e hs₃ he => ?_)
    exact hE h₃ e (fun c o c1 c2 c3 x => hs₃ _ _ c3 (hs₂.extBut _ _ c2 (hs₁.extBut _ _ c1 x))) he
theorem pyNext_zipT_item_held {z TI TO T i1 i2 l1 l2 : Addr} {f : Bool} {oT : Obj} {k1 k2 : Nat} {xs ys : Array Value} {x y : Value} {Q : Option Value → Shared → Prop} (D : ZipApart z TI TO i1 i2 l1 l2)
    (hz : IsZipHeld s.heap z TI TO T f) (hT : s.heap.get? T = some oT) (hTI : IsPair s.heap TI (.ref i1) (.ref i2))
    (h1 : s.heap.IsTupleIter i1 l1 k1) (h2 : s.heap.IsTupleIter i2 l2 k2) (hl1 : s.heap.IsTuple l1 xs) (hl2 : s.heap.IsTuple l2 ys) (hx : xs[k1]? = some x) (hy : ys[k2]? = some y)
    (hQ : ∀ h', IsZipHeld h' z TI TO T true → h'.IsTupleIter i1 l1 (k1 + 1) → h'.IsTupleIter i2 l2 (k2 + 1) → IsPair h' s.heap.objs.size x y → h'.objs.size = s.heap.objs.size + 1 →
      (∀ c o, c ≠ z → c ≠ i1 → c ≠ i2 → s.heap.get? c = some o → h'.get? c = some o) → Q (some (.ref s.heap.objs.size)) { s with heap := h' }) :
    wpAny (model prog w) A (pyNext (.ref z)) Q E s := by
  have hTy : s.TypeIs (.ref z) "zip" := ⟨_, hz, rfl⟩
  unfold pyNext
  exact wpAny_bind (wpAny_attempt (wpAny_callSpecial?_slot (name := Str.ofString "__next__") hTy F.slot_zip_next
    (wpAny_call_entry F.slot_zip_next hTy F.entry_zip_next
      (zipT_next_item_held D hz hT hTI h1 h2 hl1 hl2 hx hy fun h' a1 a3 a4 a5 a6 a7 => wpAny_pure (hQ h' a1 a3 a4 a5 a6 a7)) (F.args_zip_next_1 _))))
theorem pyNext_zipT_end_held {z TI TO T i1 i2 l1 l2 : Addr} {f : Bool} {oT : Obj} {k1 k2 : Nat} {xs ys : Array Value} {Q : Option Value → Shared → Prop} (hh : A.handled = none) (D : ZipApart z TI TO i1 i2 l1 l2)
    (hz : IsZipHeld s.heap z TI TO T f) (hT : s.heap.get? T = some oT) (hTI : IsPair s.heap TI (.ref i1) (.ref i2))
    (h1 : s.heap.IsTupleIter i1 l1 k1) (h2 : s.heap.IsTupleIter i2 l2 k2) (hl1 : s.heap.IsTuple l1 xs) (hl2 : s.heap.IsTuple l2 ys) (hend : xs[k1]? = none ∨ ys[k2]? = none)
    (hQ : ∀ h', (∀ c o, c ≠ z → c ≠ i1 → c ≠ i2 → s.heap.get? c = some o → h'.get? c = some o) → Q none { s with heap := h' }) : wpAny (model prog w) A (pyNext (.ref z)) Q E s := by
  have hTy : s.TypeIs (.ref z) "zip" := ⟨_, hz, rfl⟩
  unfold pyNext
  refine wpAny_bind (wpAny_attempt (wpAny_callSpecial?_slot (name := Str.ofString "__next__") hTy F.slot_zip_next
    (wpAny_call_entry F.slot_zip_next hTy F.entry_zip_next (zipT_next_end_held hh D hz hT hTI h1 h2 hl1 hl2 hend fun h' e hk he => ?_) (F.args_zip_next_1 _))))
  obtain ⟨o, ho, hc⟩ := he
  refine wpAny_bind (wpAny_isInstance (T := "StopIteration") (b := true) ⟨o, ho, hc⟩ isSubtype_stop ?_)
  exact wpAny_pure (hQ _ hk)
theorem pairZipT (z TI TO i1 i2 l1 l2 : Addr) (D : ZipApart z TI TO i1 i2 l1 l2) (xs ys : Array Value) :
    PairArg prog w "zip" z [z, TI, TO, i1, i2, l1, l2] [z, TO, i1, i2] (min xs.size ys.size) (fun i k v => xs[i]? = some k ∧ ys[i]? = some v)
      (fun h => IsZip h z TI TO .none ∧ IsPair h TI (.ref i1) (.ref i2) ∧ (∃ a b, IsPair h TO a b) ∧ h.IsTupleIter i1 l1 0 ∧ h.IsTupleIter i2 l2 0 ∧ h.IsTuple l1 xs ∧ h.IsTuple l2 ys) where
  type := fun s ok => ⟨_, ok.1, rfl⟩
  notDict := by decide
  keep := fun h h' ok hk => by
    obtain ⟨hz, hTI, ⟨a, b, hTO⟩, h1, h2, hl1, hl2⟩ := ok
    exact ⟨hk _ _ hz, hk _ _ hTI, ⟨a, b, hk _ _ hTO⟩, h1.at fun o e => hk _ o e, h2.at fun o e => hk _ o e, hl1.at fun o e => hk _ o e, hl2.at fun o e => hk _ o e⟩
  there := fun h ok b hb => by
    obtain ⟨hz, hTI, ⟨a, c, hTO⟩, ⟨o1, h1, _⟩, ⟨o2, h2, _⟩, ⟨o3, hl1, _⟩, ⟨o4, hl2, _⟩⟩ := ok
    simp only [List.mem_cons, List.not_mem_nil, or_false] at hb
    rcases hb with rfl | rfl | rfl | rfl | rfl | rfl | rfl
    all_goals first | exact ⟨_, hz⟩ | exact ⟨_, hTI⟩ | exact ⟨_, hTO⟩ | exact ⟨_, h1⟩ | exact ⟨_, h2⟩ | exact ⟨_, hl1⟩ | exact ⟨_, hl2⟩
  sub := fun b hb => by simp at hb ⊢; rcases hb with rfl | rfl | rfl | rfl <;> simp
  noKeys := fun A s Q E hA ok h => getAttrOr_miss_zip ok.1 rfl rfl rfl zip_no_keys (by decide +kernel) hA h
  iter := fun A s d Q E hA ok hd hdf h => by
    obtain ⟨hz, hTI, ⟨a, b, hTO⟩, h1, h2, hl1, hl2⟩ := ok
    simp only [List.mem_cons, List.not_mem_nil, or_false, not_or] at hdf
    obtain ⟨dz, dTI, dTO, di1, di2, dl1, dl2⟩ := hdf
    refine wpAny_pyIter_zip hz (h z [z, TO, i1, i2] (fun i h => IsPair h TI (.ref i1) (.ref i2) ∧ h.IsTupleIter i1 l1 i ∧ h.IsTupleIter i2 l2 i ∧ h.IsTuple l1 xs ∧ h.IsTuple l2 ys ∧
      ((IsZip h z TI TO .none ∧ ∃ a b, IsPair h TO a b) ∨ ∃ T f oT, IsZipHeld h z TI TO T f ∧ h.get? T = some oT ∧ T ≠ z ∧ T ≠ i1 ∧ T ≠ i2 ∧ T ≠ d)) s.heap s.toks ?_
      ⟨hTI, h1, h2, hl1, hl2, .inl ⟨hz, a, b, hTO⟩⟩ (fun _ _ e => e) fun b hb => .inl hb)
    exact {
      off := fun hm => by
        simp only [List.mem_cons, List.not_mem_nil, or_false] at hm
        rcases hm with e | e | e | e
        · exact dz e
        · exact dTO e
        · exact di1 e
        · exact di2 e
      frame := fun i h₁ h₂ st hk => by
        obtain ⟨hTI, h1, h2, hl1, hl2, hz⟩ := st
        refine ⟨hk _ _ (Ne.symm dTI) hTI, h1.at fun o e => hk _ o (Ne.symm di1) e, h2.at fun o e => hk _ o (Ne.symm di2) e, hl1.at fun o e => hk _ o (Ne.symm dl1) e, hl2.at fun o e => hk _ o (Ne.symm dl2) e, ?_⟩
        rcases hz with ⟨hz, a, b, hTO⟩ | ⟨T, f, oT, hz, hT, r1, r2, r3, r4⟩
        · exact .inl ⟨hk _ _ (Ne.symm dz) hz, a, b, hk _ _ (Ne.symm dTO) hTO⟩
        · exact .inr ⟨T, f, oT, hk _ _ (Ne.symm dz) hz, hk _ _ r4 hT, r1, r2, r3, r4⟩
      item := fun i s₁ Q₁ E₁ hi st hds hQ => by
        obtain ⟨hTI, h1, h2, hl1, hl2, hz⟩ := st
        have hix : i < xs.size := Nat.lt_of_lt_of_le hi (Nat.min_le_left ..)
        have hiy : i < ys.size := Nat.lt_of_lt_of_le hi (Nat.min_le_right ..)
        have ex := Array.getElem?_eq_getElem hix
        have ey := Array.getElem?_eq_getElem hiy
        have lt : ∀ {c o}, s₁.heap.get? c = some o → s₁.heap.objs.size ≠ c := fun e => Nat.ne_of_gt (Heap.lt_size e)
        have n1 : s₁.heap.objs.size ≠ i1 := let ⟨_, e, _⟩ := h1; lt e
        have n2 : s₁.heap.objs.size ≠ i2 := let ⟨_, e, _⟩ := h2; lt e
        rcases hz with ⟨hz, a, b, hTO⟩ | ⟨T, f, oT, hz, hT, r1, r2, r3, r4⟩
        · refine RZ.pyNext_zipT_item D hz hTI hTO h1 h2 hl1 hl2 ex ey fun h' a1 a2 a3 a4 a5 a6 hk => ?_
          exact hQ s₁.heap.objs.size _ _ h' s₁.toks ⟨ex, ey⟩ (.inl ⟨_, a5, rfl, _, rfl⟩)
            ⟨hk _ _ D.TIz D.TITO D.TIi1 D.TIi2 hTI, a3, a4, hl1.at fun o e => hk _ o D.l1z D.l1TO D.l1i1 D.l1i2 e, hl2.at fun o e => hk _ o D.l2z D.l2TO D.l2i1 D.l2i2 e,
              .inr ⟨s₁.heap.objs.size, false, _, a1, a5, lt hz, n1, n2, Nat.ne_of_gt hds⟩⟩
            fun c o hc e => hk c o (fun x => hc (by simp [x])) (fun x => hc (by simp [x])) (fun x => hc (by simp [x])) (fun x => hc (by simp [x])) e
        · refine pyNext_zipT_item_held D hz hT hTI h1 h2 hl1 hl2 ex ey fun h' a1 a3 a4 a5 a6 hk => ?_
          exact hQ s₁.heap.objs.size _ _ h' s₁.toks ⟨ex, ey⟩ (.inl ⟨_, a5, rfl, _, rfl⟩)
            ⟨hk _ _ D.TIz D.TIi1 D.TIi2 hTI, a3, a4, hl1.at fun o e => hk _ o D.l1z D.l1i1 D.l1i2 e, hl2.at fun o e => hk _ o D.l2z D.l2i1 D.l2i2 e,
              .inr ⟨T, true, oT, a1, hk _ _ r1 r2 r3 hT, r1, r2, r3, r4⟩⟩
            fun c o hc e => hk c o (fun x => hc (by simp [x])) (fun x => hc (by simp [x])) (fun x => hc (by simp [x])) e
      done := fun s₁ Q₁ E₁ st hQ => by
        obtain ⟨hTI, h1, h2, hl1, hl2, hz⟩ := st
        have hend : xs[min xs.size ys.size]? = none ∨ ys[min xs.size ys.size]? = none := by
          rcases Nat.le_total xs.size ys.size with h | h
          · exact .inl (Array.getElem?_eq_none (by rw [Nat.min_eq_left h]; exact Nat.le_refl _))
          · exact .inr (Array.getElem?_eq_none (by rw [Nat.min_eq_right h]; exact Nat.le_refl _))
        rcases hz with ⟨hz, a, b, hTO⟩ | ⟨T, f, oT, hz, hT, r1, r2, r3, r4⟩
        · exact RZ.pyNext_zipT_end hA D hz hTI hTO h1 h2 hl1 hl2 hend fun h' hk => hQ h' s₁.toks fun c o hc e => hk c o (fun x => hc (by simp [x])) (fun x => hc (by simp [x])) (fun x => hc (by simp [x])) (fun x => hc (by simp [x])) e
        · exact pyNext_zipT_end_held hA D hz hT hTI h1 h2 hl1 hl2 hend fun h' hk => hQ h' s₁.toks fun c o hc e => hk c o (fun x => hc (by simp [x])) (fun x => hc (by simp [x])) (fun x => hc (by simp [x])) e }
end
end NHZT
namespace NH
variable [W : TheW]
open PySem PySem.Spec PyProof.Rows L2
section
variable {X : Cx}
def tDZ (K : PySem.W.Frag) (ta : TA) : TE := fun σ H Q => ta σ H fun vs H1 => ∃ (a b : Addr) (ks : List Key) (ys : List V), vs = [.ref a, .ref b] ∧ SqT K H1 a (ks.map kV) ∧ SqT K H1 b ys ∧ ks.length = ys.length ∧ ∀ p, H1 p = none → Q (.ref p) (upd H1 p (.dK (mergeK [] (ks.zip ys))))
theorem kv_zip : ∀ {ks : List Key} {ys : List V} {us : List Value}, Vals ys us → KV (ks.zip ys) (ks.zip us)
  | [], _, _, _ => by simp [KV]; exact .nil
  | k :: ks, [], _, r => by cases r; exact .nil
  | k :: ks, y :: ys, us, r => by
    cases r with
    | cons h t => exact .cons ⟨rfl, h⟩ (kv_zip t)
theorem pe_DZ {a b : Expr} {ta : TA} {p p2 q pos : Pos} (hc : X.calm = true) (hg : Gl X "dict") (hm : X.mg "dict" = none) (hg2 : Gl X "zip") (hm2 : X.mg "zip" = none) (ha : PA X [a, b] ta)
    (hs : starEach [a, b] X.env = (false, eval a X.env) :: starEach [b] X.env) (hpl : (backTo q (starEach [b] X.env)).any (·.1) = false) : PE X (.Call (.Name "dict" p) [.Call (.Name "zip" p2) [a, b] [] q] [] pos) (tDZ X.K ta) := by
  refine ⟨fun pins s σ H Q I h => ?_⟩
  refine Call_ (ld_blt I hg hm boot_dict ?_)
  refine PyProof.Rows.callWith_type1 (PyProof.Rows.args_cons ?_ rfl) rfl rfl
  refine Call_ (ld_blt I hg2 hm2 PyProof.Rows.boot_zip (PyProof.Rows.callWith_type1 (thn (ha.run q pins s σ H _ I h) fun us s1 ⟨vs, H1, I1, r1, q1⟩ => ?_) hs hpl))
  obtain ⟨l1, l2, ks, ys, ex, hqx, hqy, hlen, q1⟩ := q1
  subst ex
  cases r1 with
  | cons r rr =>
  cases rr with
  | cons r' rr =>
  cases rr
  cases r
  cases r'
  obtain ⟨its, rv, p1, hz1⟩ := I1.tuple hqx
  obtain ⟨its2, rv2, p2', hz2⟩ := I1.tuple hqy
  obtain ⟨o1, ho1, _⟩ := id p1
  obtain ⟨o2, ho2, _⟩ := id p2'
  refine RZ.call_zipT (show s1.heap.IsTuple l1 its.toArray from p1) (show s1.heap.IsTuple l2 its2.toArray from p2') fun h' hz hTI hTO h1 h2 hsz hk => ?_
  refine PyProof.Rows.args_nil ?_
  have I2 : Inv X pins σ H1 { s1 with heap := h' } := I1.kept (t' := s1.toks) hk
  have e1 := rv.length
  have e2 := rv2.length
  rw [List.length_map] at e1
  have hmin : min its.toArray.size its2.toArray.size = ks.length := by simp; omega
  refine PySem.call_dict_pairs (knd := mixKind X.prog X.w) (kvs := ks.zip its2) (s := { s1 with heap := h' })
    (NHZT.pairZipT (s1.heap.objs.size + 4) (s1.heap.objs.size + 2) (s1.heap.objs.size + 3) s1.heap.objs.size (s1.heap.objs.size + 1) l1 l2 (PySem.W.ktu_apart s1.heap.objs.size l1 l2 (Heap.lt_size ho1) (Heap.lt_size ho2)) its.toArray its2.toArray)
    (I2.ok.hd hc) ⟨hz, hTI, ⟨_, _, hTO⟩, h1, h2, ?_, ?_⟩ ⟨by rw [hmin, List.length_zip]; omega, ?_⟩ (by rw [hmin]; rw [List.length_map] at hz1; exact hz1) fun h'' tk hd' k => ?_
  · obtain ⟨o, e, r⟩ := p1; exact ⟨o, hk _ _ e, r⟩
  · obtain ⟨o, e, r⟩ := p2'; exact ⟨o, hk _ _ e, r⟩
  · rintro i key v ⟨g1, g2⟩
    have g1 : its[i]? = some key := by simpa using g1
    have g2 : its2[i]? = some v := by simpa using g2
    have hi : i < ks.length := by
      have := (List.getElem?_eq_some_iff.mp g1).1
      omega
    refine ⟨ks[i], by rw [List.getElem?_zip_eq_some]; exact ⟨List.getElem?_eq_getElem hi, g2⟩, ?_⟩
    obtain ⟨u, hu, ru⟩ := rv.get (i := i) (x := kV ks[i]) (by simp [hi])
    rw [g1] at hu
    cases hu
    exact kV_is ru
  · have hle : s1.heap.objs.size ≤ h'.objs.size := by rw [hsz]; exact Nat.le_add_right _ _
    have hm : (h'.objs.size == sysModules) = false := beq_eq_false_iff_ne.mpr (Nat.ne_of_gt (Nat.lt_of_lt_of_le I1.big hle))
    have hlen2 : (mergeK [] (ks.zip ys)).length ≤ sizeLine := by
      refine Nat.le_trans (length_mergeK _ []) ?_
      rw [List.length_nil, Nat.zero_add, List.length_zip]
      rw [List.length_map] at hz1
      omega
    refine ⟨.ref h'.objs.size, upd H1 h'.objs.size (.dK (mergeK [] (ks.zip ys))), I1.laid (t' := tk) (fun b o e => ?_) hle (show ObjOk X.prog X.w _ _ _ (.dK (mergeK [] (ks.zip ys))) from ⟨hlen2, hm, merged [] (ks.zip its2), KV.merge (kv_zip rv2) .nil, hd'⟩), rfl, q1 _ (I1.hok.fresh hle)⟩
    refine k b o (fun hb => ?_) (hk b o e)
    have hbl : b < s1.heap.objs.size := Heap.lt_size e
    simp only [List.mem_cons, List.not_mem_nil, or_false] at hb
    rcases hb with z | z | z | z <;> rw [z] at hbl <;> revert hbl <;> simp only [Nat.not_lt, imp_false] <;> first | exact Nat.le_add_right _ _ | exact Nat.le_refl _
end
section
variable {I : Inf} {T : Nat → Option Fn} {n : Nat} {S : Sx} {X : Cx} {C : Calls} {c c' : CE} {a b : Expr} {p p2 q pos : Pos} {U : Addr → Prop} {H : Hp}
theorem kys_V : ∀ {l : List P} {ks : List Ky} {vs : List V}, kysOf l = some ks → RelPs U H l vs → vs = (ks.map kyK).map kV ∧ ks.length = l.length
  | [], ks, vs, h, r => by
    cases h
    simp only [RelPs] at r
    subst r
    exact ⟨rfl, rfl⟩
  | x :: l, ks, vs, h, r => by
    simp only [RelPs] at r
    obtain ⟨v, w, rfl, h1, h2⟩ := r
    unfold kysOf at h
    split at h
    · rename_i k ks' hk hks
      cases h
      obtain ⟨g1, g2⟩ := kys_V hks h2
      have := RelP.toV_ky hk h1
      subst this
      exact ⟨by rw [g1]; rfl, by simp [g2]⟩
    · cases h
theorem relKs_zip : ∀ {ks : List Ky} {l : List P} {ys : List V}, RelPs U H l ys → RelKs U H (ks.zip l) ((ks.map kyK).zip ys)
  | [], l, ys, r => by simp [RelKs]
  | k :: ks, [], ys, r => by simp only [RelPs] at r; subst r; simp [RelKs]
  | k :: ks, x :: l, ys, r => by
    simp only [RelPs] at r
    obtain ⟨v, w, rfl, h1, h2⟩ := r
    simp only [List.zip_cons_cons, List.map_cons, RelKs]
    exact ⟨v, _, rfl, h1, relKs_zip h2⟩
theorem s_dzip (G : Good I T n S X) (B : Bl I S "dict") (B2 : Bl I S "zip") {m : Bool} (he : PE X a (tE X.K C c)) (he' : PE X b (tE X.K C c')) (hs : starB a = true) (hs' : starB b = true) :
    PE X (.Call (.Name "dict" p) [.Call (.Name "zip" p2) [a, b] [] q] [] pos) (tE X.K C (.dzip m c c')) := by
  refine PE.weak (pe_DZ G.calm (gl_of G B.g) (G.bl _ B.b) (gl_of G B2.g) (G.bl _ B2.b) (s_cons he (s_cons he' s_nil hs') hs) (star_of hs) (by rw [star_of hs']; rfl)) fun σ H Q h => ?_
  obtain ⟨Z, M, st, δ, d, st', sr, er, ev, k⟩ := h
  obtain ⟨x, st1, e1, ev⟩ := R.bind_eq_ok ev
  obtain ⟨y, st2, e2, ev⟩ := R.bind_eq_ok ev
  refine many sr er (evEs_two e1 e2) fun vs M2 H2 f2 s2 r2 => ?_
  obtain ⟨v, w, rfl, r, r'⟩ := r2.two'
  split at ev
  · rename_i l hl
    obtain ⟨pp, hp, hl2⟩ := Option.bind_eq_some_iff.mp hl
    obtain ⟨qq, hq, hl3⟩ := Option.bind_eq_some_iff.mp hl2
    cases pp <;> cases qq <;> simp only [dzipP] at hl3 <;> try cases hl3
    split at hl3
    · rename_i hz
      obtain ⟨ks, hks, rfl⟩ := Option.map_eq_some_iff.mp hl3
      obtain ⟨a1, vs1, rfl, q1, q2⟩ := rd_top s2 r hp
      obtain ⟨a2, vs2, rfl, q3, q4⟩ := rd_top s2 r' hq
      obtain ⟨g1, g2⟩ := kys_V hks q2
      subst g1
      have hl1 := q2.length
      have hl4 := q4.length
      refine ⟨a1, a2, ks.map kyK, vs2, rfl, q1, q3, by rw [List.length_map, g2, hl4]; exact hz.1, fun p3 hp3 => ?_⟩
      obtain ⟨M3, f3, s3, r3⟩ := mkD_ok (K := X.K) s2 ((relKs_zip q4).merge (show RelKs (Mu Z M2 st2) H2 [] [] by simp [RelKs])) ev hp3
      exact k _ M3 _ (f2.trans f3) s3 r3
    · cases hl3
  · cases ev
end
end NH
namespace NH
variable [W : TheW]
open PySem L2
mutual
def slots : CT → List Nat
  | .nm i => [i]
  | .tup l => slotss l
def slotss : List CT → List Nat
  | [] => []
  | t :: l => slots t ++ slotss l
end
def Agr (vs : List Nat) (σ σ' : St) : Prop := σ'.length = σ.length ∧ ∀ i, i ∉ vs → σ'[i]? = σ[i]?
theorem Agr.refl {vs : List Nat} {σ : St} : Agr vs σ σ := ⟨rfl, fun _ _ => rfl⟩
theorem Agr.trans {vs ws : List Nat} {σ σ' σ'' : St} (a : Agr vs σ σ') (b : Agr ws σ' σ'') : Agr (vs ++ ws) σ σ'' :=
  ⟨b.1.trans a.1, fun i h => (b.2 i fun m => h (List.mem_append_right _ m)).trans (a.2 i fun m => h (List.mem_append_left _ m))⟩
theorem Agr.set {σ : St} {i : Nat} {v : Option V} : Agr [i] σ (σ.set i v) := ⟨List.length_set, fun j h => List.getElem?_set_ne (fun e => h (by simp [e]))⟩
def tG (K : PySem.W.Frag) (t : CT) : TG := fun v σ H Q => ∃ Z M st δ p δ', SRel Z M st H ∧ EnvRel K Z M st H δ σ ∧ RelP (Mu Z M st) H p v ∧ asgP t p δ = some δ' ∧
  ∀ σ', EnvRel K Z M st H δ' σ' → Agr (slots t) σ σ' → Q σ' H
def tGs (K : PySem.W.Frag) (t : List CT) : TGs := fun v σ H Q => ∃ Z M st δ p δ', SRel Z M st H ∧ EnvRel K Z M st H δ σ ∧ RelPs (Mu Z M st) H p v ∧ asgPs t p δ = some δ' ∧
  ∀ σ', EnvRel K Z M st H δ' σ' → Agr (slotss t) σ σ' → Q σ' H
theorem PG.weak {X : Cx} {e : Expr} {t t' : TG} (h : PG X e t) (hw : ∀ v σ H Q, t' v σ H Q → t v σ H Q) : PG X e t' := ⟨fun pins s σ H v u Q I r hq => h.run pins s σ H v u Q I r (hw v σ H Q hq)⟩
theorem PGs.weak {X : Cx} {e : List Expr} {t t' : TGs} (h : PGs X e t) (hw : ∀ v σ H Q, t' v σ H Q → t v σ H Q) : PGs X e t' := ⟨fun pins s σ H v u Q I r hq => h.run pins s σ H v u Q I r (hw v σ H Q hq)⟩
theorem PG.or {X : Cx} {e : Expr} {t t' : TG} (h : PG X e t) (h' : PG X e t') : PG X e (fun v σ H Q => t v σ H Q ∨ t' v σ H Q) := ⟨fun pins s σ H v u Q I r hq => hq.elim (h.run pins s σ H v u Q I r) (h'.run pins s σ H v u Q I r)⟩
def tgtB (S : Sx) (i : Nat) (x : Str) : Bool := (S.N[i]? == some x) && (S.sc.names.lookup x == some .local || (S.sc.names.lookup x == some .cell && fnOf S.fs x))
mutual
def okT (S : Sx) : CT → Expr → Bool
  | .nm i, .Name x _ => tgtB S i x
  | .tup ts, .Tuple es _ _ => okTs S ts es
  | _, _ => false
def okTs (S : Sx) : List CT → List Expr → Bool
  | [], [] => true
  | t :: ts, e :: es => okT S t e && okTs S ts es
  | _, _ => false
end
section
variable {I : Inf} {T : Nat → Option Fn} {n : Nat} {S : Sx} {X : Cx}
theorem tgt_of (G : Good I T n S X) {i : Nat} {x : Str} (h : tgtB S i x = true) : X.N[i]? = some x ∧ Loc X.env.scope x ∧ (X.fn x = true ∨ X.env.scope.names.lookup x = some .local) := by
  simp only [tgtB, Bool.and_eq_true, Bool.or_eq_true, beq_iff_eq] at h
  refine ⟨by rw [G.N]; exact h.1, ?_, ?_⟩
  · rw [G.sc]
    rcases h.2 with h | ⟨h, _⟩
    · exact .inl h
    · exact .inr h
  · rw [G.sc, G.fn]
    rcases h.2 with h | ⟨_, h⟩
    · exact .inr h
    · exact .inl h
theorem okTs_len (S : Sx) : ∀ {ts : List CT} {es : List Expr}, okTs S ts es = true → ts.length = es.length
  | [], [], _ => rfl
  | t :: ts, e :: es, h => by
    simp only [okTs, Bool.and_eq_true] at h
    simp [okTs_len S h.2]
  | [], _ :: _, h => by simp [okTs] at h
  | _ :: _, [], h => by simp [okTs] at h
theorem each_of {S : Sx} {t : CT} {e : Expr} {es : List Expr} {env : PySem.Env} (h : okT S t e = true) : assignEach (e :: es) env = (false, assign e env) :: assignEach es env := by
  cases t with
  | nm i => cases e <;> first | rfl | (simp [okT] at h)
  | tup l => cases e <;> first | rfl | (simp [okT] at h)
theorem each_len {S : Sx} {env : PySem.Env} : ∀ {ts : List CT} {es : List Expr}, okTs S ts es = true → (assignEach es env).length = es.length
  | [], [], _ => rfl
  | t :: ts, e :: es, h => by
    simp only [okTs, Bool.and_eq_true] at h
    rw [each_of h.1, List.length_cons, List.length_cons, each_len h.2]
  | [], _ :: _, h => by simp [okTs] at h
  | _ :: _, [], h => by simp [okTs] at h
theorem each_plain {S : Sx} {env : PySem.Env} : ∀ {ts : List CT} {es : List Expr}, okTs S ts es = true → (assignEach es env).findIdx? (·.1) = none
  | [], [], _ => rfl
  | t :: ts, e :: es, h => by
    simp only [okTs, Bool.and_eq_true] at h
    rw [each_of h.1, List.findIdx?_cons, each_plain h.2]
    rfl
  | [], _ :: _, h => by simp [okTs] at h
  | _ :: _, [], h => by simp [okTs] at h
theorem asgPs_len : ∀ {ts : List CT} {l : List P} {δ δ' : Env}, asgPs ts l δ = some δ' → ts.length = l.length
  | [], [], _, _, _ => rfl
  | t :: ts, p :: l, δ, δ', h => by
    simp only [asgPs] at h
    split at h
    · simp [asgPs_len h]
    · cases h
  | [], _ :: _, _, _, h => by simp [asgPs] at h
  | _ :: _, [], _, _, h => by simp [asgPs] at h
mutual
theorem g_ok (G : Good I T n S X) : ∀ {t : CT} {e : Expr}, okT S t e = true → PG X e (tG X.K t)
  | .nm i, .Name x _, h => by
    obtain ⟨h1, h2, h3⟩ := tgt_of G (by simpa [okT] using h)
    refine PG.weak (pg_name (by rw [G.N]; exact G.nd) h1 h2 h3) fun v σ H Q hq => ?_
    obtain ⟨Z, M, st, δ, p, δ', sr, er, r, ea, k⟩ := hq
    simp only [asgP, Option.some.injEq] at ea
    subst ea
    exact k _ (er.set r) (by simp only [slots]; exact Agr.set)
  | .tup ts, .Tuple es kk _, h => by
    have h : okTs S ts es = true := by simpa [okT] using h
    refine PG.weak (PG.or (pg_tup G.calm (gs_ok G h) (each_len h) (each_plain h)) (pg_unl G.calm (gs_ok G h) (each_len h) (each_plain h))) fun v σ H Q hq => ?_
    obtain ⟨Z, M, st, δ, p, δ', sr, er, r, ea, k⟩ := hq
    cases p with
    | tup l =>
      simp only [asgP] at ea
      simp only [RelP] at r
      obtain ⟨a, vs, rfl, e, n, r⟩ := r
      refine .inl ⟨a, vs, rfl, .of e, ?_, Z, M, st, δ, l, δ', sr, er, r, ea, ?_⟩
      · rw [r.length, ← asgPs_len ea, okTs_len S h]
      · intro σ' er' ag
        exact k σ' er' (by simpa only [slots] using ag)
    | lst l =>
      simp only [asgP] at ea
      simp only [RelP] at r
      obtain ⟨a, vs, rfl, e, n, r⟩ := r
      refine .inr ⟨a, vs, rfl, .of e, ?_, Z, M, st, δ, l, δ', sr, er, r, ea, ?_⟩
      · rw [r.length, ← asgPs_len ea, okTs_len S h]
      · intro σ' er' ag
        exact k σ' er' (by simpa only [slots] using ag)
    | _ => simp [asgP] at ea
  | .nm _, .Tuple .., h => by simp [okT] at h
  | .tup _, .Name .., h => by simp [okT] at h
  | .nm _, .Constant .., h => by simp [okT] at h
theorem gs_ok (G : Good I T n S X) : ∀ {t : List CT} {e : List Expr}, okTs S t e = true → PGs X e (tGs X.K t)
  | [], [], _ => by
    refine PGs.weak pgs_nil fun v σ H Q hq => ?_
    obtain ⟨Z, M, st, δ, p, δ', sr, er, r, ea, k⟩ := hq
    cases p with
    | nil =>
      simp only [RelPs] at r
      simp only [asgPs, Option.some.injEq] at ea
      subst ea
      exact ⟨r, k σ er (by simp only [slotss]; exact .refl)⟩
    | cons _ _ => simp [asgPs] at ea
  | t :: ts, e :: es, h => by
    simp only [okTs, Bool.and_eq_true] at h
    refine PGs.weak (pgs_cons (g_ok G h.1) (gs_ok G h.2) (by rw [each_of h.1]; rfl)) fun v σ H Q hq => ?_
    obtain ⟨Z, M, st, δ, p, δ', sr, er, r, ea, k⟩ := hq
    cases p with
    | nil => simp [asgPs] at ea
    | cons p ps =>
      simp only [asgPs] at ea
      split at ea
      · rename_i δ1 h1
        simp only [RelPs] at r
        obtain ⟨v, vs, rfl, r1, r2⟩ := r
        refine ⟨v, vs, rfl, Z, M, st, δ, p, δ1, sr, er, r1, h1, fun σ1 er1 ag1 => ⟨Z, M, st, δ1, ps, δ', sr, er1, r2, ea, fun σ2 er2 ag2 => k σ2 er2 ?_⟩⟩
        simp only [slotss]
        exact ag1.trans ag2
      · cases ea
  | [], _ :: _, h => by simp [okTs] at h
  | _ :: _, [], h => by simp [okTs] at h
end
end
end NH
namespace NH
variable [W : TheW]
open PySem L2
def After (K : PySem.W.Frag) (Z : Addr → Prop) (D : Ends) (f : Fl) (δ : Env) (M : List Addr) (st : Store) (H : Hp) : Prop :=
  match f with
  | .nx => ∀ σ, EnvRel K Z M st H δ σ → D.nx σ H
  | .bk => ∀ σ, EnvRel K Z M st H δ σ → D.bk σ H
  | .ct => ∀ σ, EnvRel K Z M st H δ σ → D.ct σ H
  | .rt d => ∀ v, RelD K Z M st H d v → D.rt v H
def tS (K : PySem.W.Frag) (C : Calls) (c : CS) : TS := fun D σ H => ∃ Z M st δ f δ' st', SRel Z M st H ∧ EnvRel K Z M st H δ σ ∧ evS C c δ st = .ok (f, δ') st' ∧
  ∀ M' H', Frm Z M st H M' st' H' → SRel Z M' st' H' → After K Z D f δ' M' st' H'
def tSs (K : PySem.W.Frag) (C : Calls) (c : CSs) : TS := fun D σ H => ∃ Z M st δ f δ' st', SRel Z M st H ∧ EnvRel K Z M st H δ σ ∧ evSs C c δ st = .ok (f, δ') st' ∧
  ∀ M' H', Frm Z M st H M' st' H' → SRel Z M' st' H' → After K Z D f δ' M' st' H'
theorem PS.weak {X : Cx} {e : Stmt} {t t' : TS} (h : PS X e t) (hw : ∀ D σ H, t' D σ H → t D σ H) : PS X e t' := ⟨fun pins s σ H Q I hq => h.run pins s σ H Q I (hw Q σ H hq)⟩
theorem PSs.weak {X : Cx} {e : List Stmt} {t t' : TS} (h : PSs X e t) (hw : ∀ D σ H, t' D σ H → t D σ H) : PSs X e t' := ⟨fun pins s σ H Q I hq => h.run pins s σ H Q I (hw Q σ H hq)⟩
theorem PS.cases {X : Cx} {e : Stmt} {t' : TS} (h : ∀ D σ H, t' D σ H → ∃ t, PS X e t ∧ t D σ H) : PS X e t' := ⟨fun pins s σ H Q I hq => let ⟨_, h1, h2⟩ := h Q σ H hq; h1.run pins s σ H Q I h2⟩
def nsw : Expr → Bool
  | .ListComp .. => false
  | .SetComp .. => false
  | .DictComp .. => false
  | _ => true
theorem nsw_of {e : Expr} {t : Option Expr} {l : Nat} {env : PySem.Env} (h : nsw e = true) : swapsWith e t l env = pure false := by
  cases e <;> first | rfl | cases h
theorem sub_sw {e o i : Expr} {p : Pos} {l : Nat} {env : PySem.Env} : swapsWith e (some (.Subscript o i p)) l env = pure false := by cases e <;> rfl
theorem sub_sole {e o i : Expr} {p : Pos} {l : Nat} {env : PySem.Env} : swapsWithSole [.Subscript o i p] e l env = pure false := by cases e <;> rfl
theorem tup_sole {e : Expr} {ts : List Expr} {k : Nat} {p : Pos} {l : Nat} {env : PySem.Env} : swapsWithSole [.Tuple ts k p] e l env = pure false := by cases e <;> rfl
theorem tup_sw {e : Expr} {ts : List Expr} {k : Nat} {p : Pos} {l : Nat} {env : PySem.Env} : swapsWith e (some (.Tuple ts k p)) l env = pure false := by cases e <;> rfl
section
variable {I : Inf} {T : Nat → Option Fn} {n : Nat} {S : Sx} {X : Cx} {C : Calls} {e a b : Expr} {c ca cb ce : CE} {pos : Pos}
theorem pure1_of {d : D} {p : P} (h : pure1 d = some p) : d = .p p := by cases d <;> simp [pure1] at h; rw [h]
theorem ss_nil : PSs X [] (tSs X.K C .nil) := PSs.weak pss_nil fun D σ H h => by
  obtain ⟨Z, M, st, δ, f, δ', st', sr, er, ev, k⟩ := h
  cases ev
  exact k M H .refl sr σ er
theorem ss_cons {s : Stmt} {ss : List Stmt} {x : CS} {xs : CSs} (h1 : PS X s (tS X.K C x)) (h2 : PSs X ss (tSs X.K C xs)) : PSs X (s :: ss) (tSs X.K C (.cons x xs)) := by
  refine PSs.weak (pss_cons h1 h2) fun D σ H h => ?_
  obtain ⟨Z, M, st, δ, f, δ', st', sr, er, ev, k⟩ := h
  obtain ⟨⟨g, δ1⟩, st1, e1, ev⟩ := R.bind_eq_ok ev
  refine ⟨Z, M, st, δ, g, δ1, st1, sr, er, e1, fun M1 H1 f1 s1 => ?_⟩
  cases g with
  | nx => exact fun σ1 er1 => ⟨Z, M1, st1, δ1, f, δ', st', s1, er1, ev, fun M2 H2 f2 s2 => k M2 H2 (f1.trans f2) s2⟩
  | bk => cases ev; exact k M1 H1 f1 s1
  | ct => cases ev; exact k M1 H1 f1 s1
  | rt d => cases ev; exact k M1 H1 f1 s1
theorem s_expr (he : PE X e (tE X.K C c)) (h : nsw e = true) : PS X (.Expr e pos) (tS X.K C (.expr c)) := by
  refine PS.weak (ps_expr he (nsw_of h)) fun D σ H h => ?_
  obtain ⟨Z, M, st, δ, f, δ', st', sr, er, ev, k⟩ := h
  obtain ⟨d, st1, e1, ev⟩ := R.bind_eq_ok ev
  cases ev
  exact one sr er e1 fun v M1 H1 f1 s1 r1 => k M1 H1 f1 s1 σ (er.fr f1)
theorem s_ret (he : PE X e (tE X.K C c)) : PS X (.Return (some e) pos) (tS X.K C (.ret c)) := by
  refine PS.weak (ps_ret he) fun D σ H h => ?_
  obtain ⟨Z, M, st, δ, f, δ', st', sr, er, ev, k⟩ := h
  obtain ⟨d, st1, e1, ev⟩ := R.bind_eq_ok ev
  cases ev
  exact one sr er e1 fun v M1 H1 f1 s1 r1 => k M1 H1 f1 s1 v r1
theorem s_retN : PS X (.Return none pos) (tS X.K C .retN) := by
  refine PS.weak ps_retN fun D σ H h => ?_
  obtain ⟨Z, M, st, δ, f, δ', st', sr, er, ev, k⟩ := h
  cases ev
  exact k M H .refl sr .non (by simp [RelD, RelP])
theorem s_pass : PS X (.Pass pos) (tS X.K C .pass) := by
  refine PS.weak ps_pass fun D σ H h => ?_
  obtain ⟨Z, M, st, δ, f, δ', st', sr, er, ev, k⟩ := h
  cases ev
  exact k M H .refl sr σ er
theorem s_brk : PS X (.Break pos) (tS X.K C .brk) := by
  refine PS.weak ps_break fun D σ H h => ?_
  obtain ⟨Z, M, st, δ, f, δ', st', sr, er, ev, k⟩ := h
  cases ev
  exact k M H .refl sr σ er
theorem s_cont : PS X (.Continue pos) (tS X.K C .cont) := by
  refine PS.weak ps_continue fun D σ H h => ?_
  obtain ⟨Z, M, st, δ, f, δ', st', sr, er, ev, k⟩ := h
  cases ev
  exact k M H .refl sr σ er
theorem s_if {p q : List Stmt} {xs ys : CSs} (hc : PT X e (tT X.K C c)) (h1 : PSs X p (tSs X.K C xs)) (h2 : PSs X q (tSs X.K C ys)) : PS X (.If e p q pos) (tS X.K C (.ife c xs ys)) := by
  refine PS.weak (ps_if hc h1 h2) fun D σ H h => ?_
  obtain ⟨Z, M, st, δ, f, δ', st', sr, er, ev, k⟩ := h
  obtain ⟨b, st1, e1, ev⟩ := R.bind_eq_ok ev
  refine ⟨Z, M, st, δ, b, st1, sr, er, e1, fun M1 H1 f1 s1 => ?_⟩
  cases b with
  | true =>
    rw [if_pos rfl] at ev
    rw [if_pos rfl]
    exact ⟨Z, M1, st1, δ, f, δ', st', s1, er.fr f1, ev, fun M2 H2 f2 s2 => k M2 H2 (f1.trans f2) s2⟩
  | false =>
    rw [if_neg (by decide)] at ev
    rw [if_neg (by decide)]
    exact ⟨Z, M1, st1, δ, f, δ', st', s1, er.fr f1, ev, fun M2 H2 f2 s2 => k M2 H2 (f1.trans f2) s2⟩
theorem set_read {i : Nat} {D : Ends} {σ : St} {H : Hp} (h : tS X.K C (.asg (.nm i) c) D σ H) : tAsg (tE X.K C c) (gName i) D σ H := by
  obtain ⟨Z, M, st, δ, f, δ', st', sr, er, ev, k⟩ := h
  obtain ⟨d, st1, e1, ev⟩ := R.bind_eq_ok ev
  obtain ⟨ev2, rfl⟩ := lift_eq_ok ev
  cases ev2
  exact one sr er e1 fun v M1 H1 f1 s1 r1 => k M1 H1 f1 s1 _ ((er.fr f1).set r1)
theorem s_set (G : Good I T n S X) {i : Nat} {x : Str} {pos' : Pos} (he : PE X e (tE X.K C c)) (h : nsw e = true) (ht : tgtB S i x = true) : PS X (.Assign [.Name x pos'] e pos) (tS X.K C (.asg (.nm i) c)) := by
  obtain ⟨h1, h2, h3⟩ := tgt_of G ht
  exact PS.weak (ps_set (by rw [G.N]; exact G.nd) h1 h2 he (nsw_of h) h3) fun D σ H h => set_read h
def nsp (sc : Scope) : List Expr → Expr → Bool
  | ts, .Tuple vs _ _ => !(ts.length == 2 || ts.length == 3) || vs.length != ts.length || (!(vs.any fun | .Starred .. => true | _ => false) && vs.all (foldedForSure 8)) || ts.any (fun | .Name x _ => sc.names.lookup x != some .local | _ => true)
  | _, _ => true
theorem s_asgT (G : Good I T n S X) {ts : List Expr} {cts : List CT} {kk : Nat} {tpos : Pos} (he : PE X e (tE X.K C c)) (ht : okTs S cts ts = true) (hw : swappedStores [.Tuple ts kk tpos] e X.env = pure none) : PS X (.Assign [.Tuple ts kk tpos] e pos) (tS X.K C (.asg (.tup cts) c)) := by
  have hT : okT S (.tup cts) (.Tuple ts kk tpos) = true := by simpa [okT] using ht
  refine PS.weak (ps_asg he (g_ok G hT) tup_sole hw (by rw [each_of hT]; rfl)) fun D σ H h => ?_
  obtain ⟨Z, M, st, δ, f, δ', st', sr, er, ev, k⟩ := h
  obtain ⟨d, st1, e1, ev⟩ := R.bind_eq_ok ev
  obtain ⟨ev2, rfl⟩ := lift_eq_ok ev
  obtain ⟨δ1, h1, ee⟩ := Option.map_eq_some_iff.mp ev2
  cases ee
  cases d with
  | p p =>
    refine one sr er e1 fun v M1 H1 f1 s1 r1 => ⟨Z, M1, _, δ, p, δ', s1, er.fr f1, r1, h1, fun σ' er' _ => k M1 H1 f1 s1 σ' er'⟩
  | _ => simp [asgD] at h1
theorem s_par (G : Good I T n S X) {i j : Nat} {x y : Str} {px py pt : Pos} {kt k2 pt2} (ha : PE X a (tE X.K C ca)) (hb : PE X b (tE X.K C cb)) (h1 : starB a = true) (h2 : starB b = true)
    (hi : S.N[i]? = some x) (hj : S.N[j]? = some y) (hij : i ≠ j) (hx : S.sc.names.lookup x = some .local) (hy : S.sc.names.lookup y = some .local)
    (hw : swappedStores [.Tuple [.Name x px, .Name y py] kt pt] (.Tuple [a, b] k2 pt2) X.env = pure (some [x, y])) :
    PS X (.Assign [.Tuple [.Name x px, .Name y py] kt pt] (.Tuple [a, b] k2 pt2) pos) (tS X.K C (.par i j ca cb)) := by
  refine PS.weak (ps_par G.calm (by rw [G.N]; exact G.nd) (by rw [G.N]; exact hi) (by rw [G.N]; exact hj) hij (by rw [G.sc]; exact hx) (by rw [G.sc]; exact hy) (s_cons ha (s_cons hb s_nil h2) h1) hw) fun D σ H h => ?_
  obtain ⟨Z, M, st, δ, f, δ', st', sr, er, ev, k⟩ := h
  obtain ⟨d, st1, e1, ev⟩ := R.bind_eq_ok ev
  obtain ⟨d', st2, e2, ev⟩ := R.bind_eq_ok ev
  cases ev
  refine many sr er (evEs_two e1 e2) fun vs M2 H2 f2 s2 r2 => ?_
  obtain ⟨v, w, rfl, r, r'⟩ := r2.two'
  exact ⟨v, w, rfl, k M2 H2 f2 s2 _ (((er.fr f2).set r).set r')⟩
def notSl : Expr → Bool
  | .Slice .. => false
  | _ => true
theorem asg_sub {o i : Expr} {pos : Pos} {env : PySem.Env} (h : notSl i = true) (v : Value) : assign (.Subscript o i pos) env v = (do
      let ov ← holding [v] (eval o env)
      let iv ← holding [v, ov] (eval i env)
      standAt pos
      holding [v, ov, iv] (setItem ov iv v)
      release [v, ov, iv] []) := by cases i <;> first | rfl | cases h
theorem s_sub (G : Good I T n S X) {o i : Expr} {co ci : CE} {pos' : Pos} (ho : PE X o (tE X.K C co)) (hi : PE X i (tE X.K C ci)) (he : PE X e (tE X.K C ce)) (hn : notSl i = true) :
    PS X (.Assign [.Subscript o i pos'] e pos) (tS X.K C (.sub co ci ce)) := by
  refine PS.cases fun D σ H h => ?_
  obtain ⟨Z, M, st, δ, f, δ', st', sr, er, ev, k⟩ := h
  obtain ⟨d, st1, e1, ev1⟩ := R.bind_eq_ok ev
  obtain ⟨d2, st2, e2, ev2⟩ := R.bind_eq_ok ev1
  obtain ⟨d3, st3, e3, ev3⟩ := R.bind_eq_ok ev2
  clear ev ev1 ev2
  cases d2 with
  | p _ => cases ev3
  | c _ => cases ev3
  | r kk =>
  cases hq : pure1 d3 with
  | none => rw [hq] at ev3; cases ev3
  | some q =>
  cases hw : pure1 d with
  | none => rw [hq, hw] at ev3; cases ev3
  | some w =>
    rw [hq, hw] at ev3
    have e3q := pure1_of hq
    have e1w := pure1_of hw
    subst e3q e1w
    dsimp only at ev3
    split at ev3
    · rename_i ob hob
      split at ev3
      · rename_i ob' hs
        cases ev3
        cases ob with
        | lst l =>
          cases q <;> simp only [subM] at hs <;> try cases hs
          rename_i ix
          obtain ⟨j, hj, eo⟩ := Option.map_eq_some_iff.mp hs
          cases eo
          refine ⟨_, ps_asg he (pg_sub ho hi set_list (asg_sub hn)) sub_sole (by cases e <;> rfl), one sr er e1 fun v M1 H1 f1 s1 r1 => one s1 (er.fr f1) e2 fun x M2 H2 f2 s2 r2 => one s2 (er.fr (f1.trans f2)) e3 fun y M3 H3 f3 s3 r3 => ?_⟩
          have r3 := r3.int
          subst r3
          obtain ⟨a, rfl, hk, vs, hv, rv⟩ := RelD.ref_get s3 (r2.fr f3) hob
          refine ⟨a, vs, ix, j, rfl, rfl, hv, by rw [rv.length]; exact hj, ?_⟩
          have rw' : RelP (Mu Z M3 st3) H3 w v := r1.fr (f2.trans f3)
          obtain ⟨f4, s4⟩ := write_lst (l' := l.set j w) s3 hk hob hv (rv.set j rw')
          exact k M3 _ (f1.trans (f2.trans (f3.trans f4))) s4 σ (er.fr (f1.trans (f2.trans (f3.trans f4))))
        | dic l =>
          simp only [subM] at hs
          split at hs
          · rename_i hz
            obtain ⟨ky, hj, eo⟩ := Option.map_eq_some_iff.mp hs
            cases eo
            refine ⟨_, ps_asg he (pg_sub ho hi (L2.set_dict (by have := G.hu; omega)) (asg_sub hn)) sub_sole (by cases e <;> rfl), one sr er e1 fun v M1 H1 f1 s1 r1 => one s1 (er.fr f1) e2 fun x M2 H2 f2 s2 r2 => one s2 (er.fr (f1.trans f2)) e3 fun y M3 H3 f3 s3 r3 => ?_⟩
            have ew := RelP.toV_ky hj (show RelP _ _ _ _ from r3)
            subst ew
            obtain ⟨a, rfl, hk, ks, hv, rv⟩ := RelD.ref_get s3 (r2.fr f3) hob
            have rw' : RelP (Mu Z M3 st3) H3 w v := r1.fr (f2.trans f3)
            obtain ⟨f4, s4⟩ := write_dic (l' := kput l ky w) s3 hk hob hv (rv.put ky rw')
            exact ⟨a, _, rfl, .inl ⟨ks, kyK ky, hv, rfl, by rw [rv.length, ← line_eq]; exact hz, rfl⟩, k M3 _ (f1.trans (f2.trans (f3.trans f4))) s4 σ (er.fr (f1.trans (f2.trans (f3.trans f4))))⟩
          · cases hs
        | _ => simp [subM] at hs
      · cases ev3
    · cases ev3
theorem s_nset (G : Good I T n S X) {o i : Expr} {co ci : CE} {pos' : Pos} (ho : PE X o (tE X.K C co)) (hi : PE X i (tE X.K C ci)) (he : PE X e (tE X.K C ce)) :
    PS X (.Assign [.Subscript o i pos'] e pos) (tS X.K C (.nset co ci ce)) := by
  refine PS.weak (ps_nput ho hi he (by cases e <;> rfl)) fun D σ H h => ?_
  obtain ⟨Z, M, st, δ, f, δ', st', sr, er, ev, k⟩ := h
  obtain ⟨d, st1, e1, ev1⟩ := R.bind_eq_ok ev
  obtain ⟨d2, st2, e2, ev2⟩ := R.bind_eq_ok ev1
  obtain ⟨d3, st3, e3, ev3⟩ := R.bind_eq_ok ev2
  clear ev ev1 ev2
  cases d2 with
  | p _ => cases ev3
  | c _ => cases ev3
  | r kk =>
  dsimp only at ev3
  split at ev3
  · rename_i ob' hob
    cases ev3
    obtain ⟨ob, h3, h4⟩ := Option.bind_eq_some_iff.mp hob
    obtain ⟨q, hq, h5⟩ := Option.bind_eq_some_iff.mp h4
    obtain ⟨w, hw, h6⟩ := Option.bind_eq_some_iff.mp h5
    have e1w := pure1_of hw
    subst e1w
    cases ob <;> simp only [nsetM] at h6 <;> try cases h6
    rename_i l
    split at h6
    · rename_i hz
      obtain ⟨ky, hky, eo⟩ := Option.map_eq_some_iff.mp h6
      cases eo
      refine one sr er e1 fun v M1 H1 f1 s1 r1 => one s1 (er.fr f1) e2 fun x M2 H2 f2 s2 r2 => one s2 (er.fr (f1.trans f2)) e3 fun y M3 H3 f3 s3 r3 => ?_
      have ey := nk_rel hq hky r3
      subst ey
      obtain ⟨a, rfl, hk, ks, hv, rv⟩ := RelD.ref_get s3 (r2.fr f3) h3
      have rw' : RelP (Mu Z M3 st3) H3 w v := r1.fr (f2.trans f3)
      obtain ⟨f4, s4⟩ := write_dn s3 hk h3 hv (rv.put ky rw')
      refine ⟨a, ks, olK ky, rfl, by rw [G.wd.1, G.wd.2]; exact hv, rfl, by rw [relNs_len rv, ← line_eq]; exact hz, ?_⟩
      rw [G.wd.1, G.wd.2]
      exact k M3 _ (f1.trans (f2.trans (f3.trans f4))) s4 σ (er.fr (f1.trans (f2.trans (f3.trans f4))))
    · cases h6
  · cases ev3
end
end NH
namespace NH
variable [W : TheW]
open PySem L2
theorem After.lkd {K : PySem.W.Frag} {Z : Addr → Prop} {D : Ends} {f : Fl} {δ : Env} {M : List Addr} {st st1 : Store} {H : Hp} (h : Lkd st st1) (a : After K Z D f δ M st H) : After K Z D f δ M st1 H := by
  cases f with
  | nx => exact fun σ e => a σ (h.env.mpr e)
  | bk => exact fun σ e => a σ (h.env.mpr e)
  | ct => exact fun σ e => a σ (h.env.mpr e)
  | rt d => exact fun v e => a v (h.reld.mpr e)
def fsB : Expr → Bool
  | .Set .. => false
  | _ => true
theorem fs_of {e : Expr} {env : PySem.Env} (h : fsB e = true) (x : Value) : foldedSetIterable e env x = pure x := by
  cases e <;> first | rfl | cases h
theorem drop_at {α : Type} {l : List α} {i : Nat} {x : α} (h : l[i]? = some x) : l.drop i = x :: l.drop (i + 1) := by
  obtain ⟨h1, h2⟩ := List.getElem?_eq_some_iff.mp h
  rw [List.drop_eq_getElem_cons h1, h2]
section
variable {I : Inf} {T : Nat → Option Fn} {n : Nat} {S : Sx} {X : Cx} {C : Calls} {e a b : Expr} {c ca cb ce : CE} {pos : Pos}
theorem passes (G : Good I T n S X) : PassesOwn (model X.prog X.w) X.A X.env X.xe := by rw [G.xe]; exact PassesOwn.never
def augB : BOp → Operator → Bool
  | .add, .Add => true
  | .sub, .Sub => true
  | _, _ => false
theorem s_aug (G : Good I T n S X) {i : Nat} {x : Str} {op : Operator} {bo : BOp} {pos' : Pos} (ho : augB bo op = true) (ht : tgtB S i x = true) (he : PE X e (tE X.K C c)) : PS X (.AugAssign (.Name x pos') op e pos) (tS X.K C (.aug i bo c)) := by
  obtain ⟨h1, h2, h3⟩ := tgt_of G ht
  have hN : X.N.Nodup := by rw [G.N]; exact G.nd
  refine PS.cases fun D σ H h => ?_
  obtain ⟨Z, M, st, δ, f, δ', st', sr, er, ev, k⟩ := h
  unfold evS at ev
  split at ev
  · rename_i p hp
    obtain ⟨d, st1, e1, ev1⟩ := R.bind_eq_ok ev
    obtain ⟨ev2, rfl⟩ := lift_eq_ok ev1
    obtain ⟨q, hq, ev3⟩ := Option.bind_eq_some_iff.mp ev2
    have := pure1_of hq
    subst this
    obtain ⟨x', hx, rx⟩ := er.2 i _ hp
    clear ev ev1 ev2
    split at ev3
    · rename_i i' j'
      cases ev3
      cases op <;> simp [augB] at ho
      have rx := rx.int
      subst rx
      refine ⟨_, ps_aug hN h1 h2 he ip_add h3, _, hx, one sr er e1 fun v M1 H1 f1 s1 r1 => ?_⟩
      have r1 := r1.int
      subst r1
      exact ⟨_, _, rfl, rfl, k M1 H1 f1 s1 _ ((er.fr f1).set (by simp [RelD, RelP]))⟩
    · rename_i i' j'
      cases ev3
      cases op <;> simp [augB] at ho
      have rx := rx.int
      subst rx
      refine ⟨_, ps_aug hN h1 h2 he ip_sub h3, _, hx, one sr er e1 fun v M1 H1 f1 s1 r1 => ?_⟩
      have r1 := r1.int
      subst r1
      exact ⟨_, _, rfl, rfl, k M1 H1 f1 s1 _ ((er.fr f1).set (by simp [RelD, RelP]))⟩
    · rename_i i' j'
      split at ev3
      · rename_i hz
        cases ev3
        cases op <;> simp [augB] at ho
        have rx : x' = .str ⟨i'.toArray⟩ := by simpa [RelD, RelP] using rx
        subst rx
        refine ⟨_, ps_aug (ti := fun x y H Q => ∃ i j, x = .str i ∧ y = .str j ∧ i.length + j.length ≤ sizeLine ∧ Q (.str (i ++ j)) H) hN h1 h2 he iop_add_str h3, _, hx, one sr er e1 fun v M1 H1 f1 s1 r1 => ?_⟩
        have r1 : v = .str ⟨j'.toArray⟩ := by simpa [RelD, RelP] using r1
        subst r1
        refine ⟨_, _, rfl, rfl, by rw [← line_eq]; exact hz, k M1 H1 f1 s1 _ ((er.fr f1).set ?_)⟩
        simp only [RelD, RelP]
        show V.str ⟨i'.toArray ++ j'.toArray⟩ = V.str ⟨(i' ++ j').toArray⟩
        simp
      · cases ev3
    · cases ev3
  · cases ev
theorem s_for (G : Good I T n S X) {tg iter : Expr} {t : CT} {src : CI} {body : List Stmt} {bs : CSs} (hi : PI X tg iter (tI X.K C src)) (ht : okT S t tg = true) (hb : PSs X body (tSs X.K C bs)) (hf : fsB iter = true) :
    PS X (.For tg iter body [] pos) (tS X.K C (.forr t src bs)) := by
  refine PS.weak (ps_for (passes G) G.calm hi (g_ok G ht) hb (fs_of hf)) fun D σ H h => ?_
  obtain ⟨Z, M, st, δ, f, δ', st', sr, er, ev, k⟩ := h
  obtain ⟨⟨l, ks⟩, stL, e1, ev1⟩ := R.bind_eq_ok ev
  obtain ⟨⟨f', δ2⟩, stF, e2, ev2⟩ := R.bind_eq_ok ev1
  obtain ⟨u, stU, e3, ev3⟩ := R.bind_eq_ok ev2
  cases ev3
  refine ⟨Z, M, st, δ, l, ks, stL, sr, er, e1, fun J M1 st1 H1 f1 s1 lk w => ?_⟩
  have hU := unlock_ok e3
  have fin : ∀ M2 H2, Frm Z M1 stL H1 M2 stF H2 → SRel Z M2 stF H2 → After X.K Z D f δ' M2 stF H2 := fun M2 H2 f2 s2 => (k M2 H2 (f1.trans (f2.unlk lk e3)) (hU.1.srel' s2)).lkd hU.1
  refine ⟨fun i m σ' H' => m = l.length - i ∧ i ≤ l.length ∧ ∃ Mi sti δi, Frm Z M1 stL H1 Mi sti H' ∧ SRel Z Mi sti H' ∧ EnvRel X.K Z Mi sti H' δi σ' ∧ forL t (fun δ st => evSs C bs δ st) (l.drop i) δi sti = .ok (f, δ') stF,
    ⟨_, rfl, Nat.zero_le _, M1, stL, δ, .refl, lk.1.srel s1, lk.1.env.mp (er.fr f1), e2⟩, ?_⟩
  rintro i m σ' H' ⟨rfl, hi, Mi, sti, δi, fi, si, ei, ef⟩
  by_cases hlt : i < l.length
  · obtain ⟨p, hp⟩ := get_ex hlt
    rw [drop_at hp] at ef
    unfold forL at ef
    cases hA : asgP t p δi with
    | none => rw [hA] at ef; cases ef
    | some δ1 =>
    rw [hA] at ef
    obtain ⟨⟨g, δb⟩, stb, eb, ef2⟩ := R.bind_eq_ok ef
    refine .inr ⟨w.goes i _ _ _ _ hlt si fi.ltr, fun σ2 H2 => (l.length - (i + 1)) = l.length - (i + 1) ∧ i + 1 ≤ l.length ∧ ∃ Mi sti δi, Frm Z M1 stL H1 Mi sti H2 ∧ SRel Z Mi sti H2 ∧ EnvRel X.K Z Mi sti H2 δi σ2 ∧ forL t (fun δ st => evSs C bs δ st) (l.drop (i + 1)) δi sti = .ok (f, δ') stF,
      fun σ2 H2 h => ⟨l.length - (i + 1), by omega, h⟩, fun x H2 y => ?_⟩
    obtain ⟨p', hp', fy, sy, ry⟩ := w.yields i _ _ _ _ _ _ hlt si fi.ltr y
    rw [hp] at hp'; cases hp'
    refine ⟨Z, Mi, sti, δi, p, δ1, sy, ei.fr fy, ry, hA, fun σ2 e2 _ => ⟨Z, Mi, sti, δ1, g, δb, stb, sy, e2, eb, fun M3 H3 f3 s3 => ?_⟩⟩
    have f4 := fi.trans (fy.trans f3)
    cases g with
    | nx => exact fun σ3 e3 => ⟨rfl, hlt, M3, stb, δb, f4, s3, e3, ef2⟩
    | ct => exact fun σ3 e3 => ⟨rfl, hlt, M3, stb, δb, f4, s3, e3, ef2⟩
    | bk =>
      cases ef2
      exact fin M3 H3 f4 s3
    | rt d =>
      cases ef2
      exact fin M3 H3 f4 s3
  · have : i = l.length := by omega
    subst this
    rw [List.drop_length] at ef
    cases ef
    exact .inl ⟨w.stops _ _ _ _ si fi.ltr, fin Mi H' fi si σ' ei⟩
theorem s_while (G : Good I T n S X) {body : List Stmt} {bs : CSs} (hc : PT X e (tT X.K C c)) (hb : PSs X body (tSs X.K C bs)) : PS X (.While e body [] pos) (tS X.K C (.whil c bs)) := by
  refine PS.weak (ps_while (passes G) hc hb) fun D σ H h => ?_
  obtain ⟨Z, M, st, δ, f, δ', st', sr, er, ev, k⟩ := h
  refine ⟨fun m σ' H' => ∃ Mi sti δi, Frm Z M st H Mi sti H' ∧ SRel Z Mi sti H' ∧ EnvRel X.K Z Mi sti H' δi σ' ∧ whileL (fun δ st => evT C c δ st) (fun δ st => evSs C bs δ st) m δi sti = .ok (f, δ') st', ⟨WH, M, st, δ, .refl, sr, er, ev⟩, ?_⟩
  rintro m σ' H' ⟨Mi, sti, δi, fi, si, ei, ef⟩
  cases m with
  | zero => cases ef
  | succ m =>
    unfold whileL at ef
    obtain ⟨b, st1, e1, ef1⟩ := R.bind_eq_ok ef
    refine ⟨Z, Mi, sti, δi, b, st1, si, ei, e1, fun M2 H2 f2 s2 => ?_⟩
    cases b with
    | false =>
      cases ef1
      exact k M2 H2 (fi.trans f2) s2 σ' (ei.fr f2)
    | true =>
      rw [if_pos rfl] at ef1
      rw [if_pos rfl]
      obtain ⟨⟨g, δb⟩, stb, eb, ef2⟩ := R.bind_eq_ok ef1
      refine ⟨fun σ3 H3 => ∃ Mi sti δi, Frm Z M st H Mi sti H3 ∧ SRel Z Mi sti H3 ∧ EnvRel X.K Z Mi sti H3 δi σ3 ∧ whileL (fun δ st => evT C c δ st) (fun δ st => evSs C bs δ st) m δi sti = .ok (f, δ') st', fun σ3 H3 h => ⟨m, by omega, h⟩,
        Z, M2, st1, δi, g, δb, stb, s2, ei.fr f2, eb, fun M3 H3 f3 s3 => ?_⟩
      have f4 := fi.trans (f2.trans f3)
      cases g with
      | nx => exact fun σ3 e3 => ⟨M3, stb, δb, f4, s3, e3, ef2⟩
      | ct => exact fun σ3 e3 => ⟨M3, stb, δb, f4, s3, e3, ef2⟩
      | bk =>
        cases ef2
        exact k M3 H3 f4 s3
      | rt d =>
        cases ef2
        exact k M3 H3 f4 s3
end
section
variable {K : PySem.W.Frag} {Z : Addr → Prop} {M M' Mi : List Addr} {st st' sti st3 : Store} {H H' Hi : Hp} {p : Addr} {o : HO} {d : D}
theorem Ltr.hid (hn : H p = none) (f : Frm Z M st H Mi sti Hi) : Ltr Z M st H (plusZ Z p) Mi sti Hi := ⟨f.pre, fun b u h n => by
  obtain ⟨h1, h2⟩ := f.keep b u h n
  refine ⟨h1, fun m => ?_⟩
  rcases m with (m | m) | m
  · exact h2 (.inl m)
  · exact ne_of_none h hn m
  · exact h2 (.inr m), f.lk⟩
theorem Frm.step (hn : H p = none) (sr : SRel Z M st H) (f : Frm Z M st H Mi sti Hi) (g : Frm (plusZ Z p) Mi sti Hi M' st' H') : Frm Z M st H M' st' (upd H' p o) where
  pre := fun k a h => g.pre k a (f.pre k a h)
  keep := fun b u h n => by
    have ne : b ≠ p := ne_of_none h hn
    obtain ⟨h1, h2⟩ := (Ltr.hid hn f).keep b u h n
    obtain ⟨h3, h4⟩ := g.keep b u h1 h2
    exact ⟨by rw [upd_ne ne]; exact h3, fun m => h4 (m.elim (fun z => .inl (.inl z)) .inr)⟩
  stay := fun b h => by
    unfold upd; split
    · simp
    · exact g.stay b (f.stay b h)
  frz := fun b x u h => by
    rw [upd_ne (ne_of_none h hn)]
    exact g.frz b x u (f.frz b x u h)
  hid := fun b h => by
    have hb : b ≠ p := fun e => (sr.hid b h).1 (e ▸ hn)
    rw [upd_ne hb, g.hid b (.inl h), f.hid b h]
  lk := fun k l h => g.lk k l (f.lk k l h)
theorem Frm.step' (hn : H p = none) (sr : SRel Z M st H) (f : Frm Z M st H Mi sti Hi) (g : Frm (plusZ Z p) Mi sti Hi M' st' H') : Frm Z M st H M' st' H' where
  pre := fun k a h => g.pre k a (f.pre k a h)
  keep := fun b u h n => by
    obtain ⟨h1, h2⟩ := (Ltr.hid hn f).keep b u h n
    obtain ⟨h3, h4⟩ := g.keep b u h1 h2
    exact ⟨h3, fun m => h4 (m.elim (fun z => .inl (.inl z)) .inr)⟩
  stay := fun b h => g.stay b (f.stay b h)
  frz := fun b x u h => g.frz b x u (f.frz b x u h)
  hid := fun b h => by rw [g.hid b (.inl h), f.hid b h]
  lk := fun k l h => g.lk k l (f.lk k l h)
theorem mkL_done {m : Bool} {l : List P} {vs : List V} (sr : SRel Z M st H) (hn : H p = none) (f : Frm Z M st H Mi sti Hi) (s2 : SRel (plusZ Z p) Mi sti Hi) (hp : Hi p = some (.lst vs)) (r : RelPs (Mu (plusZ Z p) Mi sti) Hi l vs) (h : mkL m l sti = .ok d st3) :
    ∃ M3, Frm Z M st H M3 st3 Hi ∧ SRel Z M3 st3 Hi ∧ RelD K Z M3 st3 Hi d (.ref p) := by
  have nz := notZ sr hn
  unfold mkL at h
  split at h
  · cases h
    refine ⟨Mi ++ [p], f.enter s2 hn, s2.enter nz ⟨vs, hp, RelPs.mono (fun a u e n => ⟨e, fun m => n (m.snocZ s2)⟩) _ _ r⟩, p, ?_, rfl⟩
    rw [← s2.len, List.getElem?_append_right (Nat.le_refl _)]; simp
  · cases h
    refine ⟨Mi, f, s2.show nz, ?_⟩
    simp only [RelD, RelP]
    exact ⟨p, vs, rfl, hp, notMu_show nz s2, RelPs.mono (keep_show nz s2) _ _ r⟩
theorem wipe_get : ∀ (vs : List Nat) (σ : St) (i : Nat), (wipe σ vs)[i]? = if i ∈ vs then (if i < σ.length then some none else none) else σ[i]?
  | [], σ, i => by simp [wipe]
  | v :: vs, σ, i => by
    unfold wipe
    by_cases e : v = i
    · subst e
      by_cases hl : v < σ.length
      · rw [List.getElem?_set_self (by rw [wipe_length]; exact hl)]; simp [hl]
      · rw [List.getElem?_eq_none (by rw [List.length_set, wipe_length]; omega)]; simp [hl]
    · rw [List.getElem?_set_ne e, wipe_get vs σ i]
      have : (i ∈ v :: vs) ↔ i ∈ vs := by simp [Ne.symm e]
      simp only [this]
theorem wipe_agr {vs ws : List Nat} {σ σ' : St} (h : ∀ i ∈ ws, i ∈ vs) (a : Agr ws (wipe σ vs) σ') : wipe σ' vs = wipe σ vs := by
  apply List.ext_getElem?
  intro i
  rw [wipe_get, wipe_get]
  have hl : σ'.length = σ.length := by rw [a.1, wipe_length]
  by_cases m : i ∈ vs
  · simp [m, hl]
  · have := a.2 i (fun z => m (h i z))
    rw [wipe_get] at this
    simp only [m, if_false] at this ⊢
    exact this
end
section
variable {I : Inf} {T : Nat → Option Fn} {n : Nat} {S : Sx} {X : Cx} {C : Calls} {pos : Pos}
def tI1 (K : PySem.W.Frag) (C : Calls) : CO → TT
  | .none => tYes
  | .some c => tT K C c
theorem lc_read {m : Bool} {elt : CE} {tg : CT} {src : CI} {ifc : CO} {own : List Nat} (hs : ∀ i ∈ slots tg, i ∈ own) {σ : St} {H : Hp} {Q : VK} (h : tE X.K C (.comp m elt tg src ifc own) σ H Q) :
    tLc (tI X.K C src) (tG X.K tg) (tI1 X.K C ifc) (tE X.K C elt) own σ H Q := by
  obtain ⟨Z, M, st, δ, d, st', sr, er, ev, k⟩ := h
  unfold evE at ev
  obtain ⟨⟨l, ks⟩, stL, e1, ev1⟩ := R.bind_eq_ok ev
  obtain ⟨ps, stF, e2, ev2⟩ := R.bind_eq_ok ev1
  obtain ⟨u, stU, e3, ev3⟩ := R.bind_eq_ok ev2
  clear ev ev1 ev2
  refine ⟨Z, M, st, δ, l, ks, stL, sr, er, e1, fun J M1 st1 H1 f1 s1 lk w => fun D hD => ?_⟩
  have hU := unlock_ok e3
  have sL := lk.1.srel s1
  have eL := lk.1.env.mp (er.fr f1)
  let W : Nat → Hp → Prop := fun i H' => i ≤ l.length ∧ ∃ Mi sti acc vs, Frm Z M1 stL H1 Mi sti H' ∧ SRel (plusZ Z D) Mi sti H' ∧ H' D = some (.lst vs) ∧ RelPs (Mu (plusZ Z D) Mi sti) H' acc vs ∧
    compL tg own (fun δ st => evF C ifc δ st) (fun δ st => evE C elt δ st) δ acc (l.drop i) sti = .ok ps stF
  refine ⟨fun i m H' => m = l.length - i ∧ W i H', ⟨_, rfl, Nat.zero_le _, M1, stL, [], [], .new sL hD, sL.hide hD, upd_same, by simp [RelPs], e2⟩, ?_⟩
  rintro i m H' ⟨rfl, hi, Mi, sti, acc, vs, fi, si, hv, rv, ec⟩
  by_cases hlt : i < l.length
  · obtain ⟨p, hp⟩ := get_ex hlt
    rw [drop_at hp] at ec
    unfold compL at ec
    cases hA : asgP tg p (delVs δ own) with
    | none => rw [hA] at ec; cases ec
    | some δ1 =>
    rw [hA] at ec
    obtain ⟨b, st2, eb, ec2⟩ := R.bind_eq_ok ec
    have lt := Ltr.hid hD fi
    refine .inr ⟨w.goes i _ _ _ _ hlt si lt, W (i + 1), fun H2 h => ⟨_, by omega, rfl, h⟩, fun x H2 y => ?_⟩
    obtain ⟨p', hp', fy, sy, ry⟩ := w.yields i _ _ _ _ _ _ hlt si lt y
    rw [hp] at hp'; cases hp'
    have e2 := ((eL.lt lt).fr fy).wipe own
    refine ⟨plusZ Z D, Mi, sti, delVs δ own, p, δ1, sy, e2, ry, hA, fun σ2 er2 ag => ⟨wipe_agr hs ag, ?_⟩⟩
    have body : ∀ M3 H3, Frm (plusZ Z D) Mi sti H2 M3 st2 H3 → SRel (plusZ Z D) M3 st2 H3 → if b = true then tE X.K C elt σ2 H3 fun y H4 => ∃ acc, H4 D = some (.lst acc) ∧ acc.length < sizeLine ∧ W (i + 1) (upd H4 D (.lst (acc ++ [y]))) else W (i + 1) H3 := fun M3 H3 f3 s3 => by
      cases b with
      | true =>
        rw [if_pos rfl] at ec2 ⊢
        obtain ⟨q, st4, eq, ec3⟩ := R.bind_eq_ok ec2
        refine ⟨plusZ Z D, M3, st2, δ1, q, st4, s3, er2.fr f3, eq, fun v M4 H4 f4 s4 r4 => ?_⟩
        split at ec3
        · rename_i q' hq
          have := pure1_of hq
          subst this
          split at ec3
          · rename_i hz
            have fa := fy.trans (f3.trans f4)
            have hv4 : H4 D = some (.lst vs) := (fa.hid D (.inr rfl)).trans hv
            have rv4 := rv.fr fa
            refine ⟨vs, hv4, by rw [rv.length, ← line_eq]; exact hz, hlt, M4, st4, acc ++ [q'], vs ++ [v], Frm.step hD sL fi fa, s4.remake, upd_same, ?_, ec3⟩
            exact RelPs.mono keep_remake _ _ (rv4.append (.one r4))
          · cases ec3
        · cases ec3
      | false =>
        rw [if_neg (by decide)] at ec2 ⊢
        have fa := fy.trans f3
        exact ⟨hlt, M3, st2, acc, vs, Frm.step' hD sL fi fa, s3, (fa.hid D (.inr rfl)).trans hv, rv.fr fa, ec2⟩
    cases ifc with
    | none =>
      cases eb
      exact body Mi H2 .refl sy
    | some c =>
      exact ⟨plusZ Z D, Mi, sti, δ1, b, st2, sy, er2, eb, fun M3 H3 f3 s3 => body M3 H3 f3 s3⟩
  · have : i = l.length := by omega
    subst this
    rw [List.drop_length] at ec
    cases ec
    refine .inl ⟨w.stops _ _ _ _ si (Ltr.hid hD fi), ?_⟩
    have fU := fi.unlk lk e3
    have sU := hU.1.srel' si
    have rU : RelPs (Mu (plusZ Z D) Mi stU) H' ps vs := by rw [hU.1.muEq]; exact rv
    obtain ⟨M3, f3, s3, r3⟩ := mkL_done (K := X.K) s1 hD fU sU hv rU ev3
    exact k _ M3 H' (f1.trans f3) s3 r3
def Sx.blk (S : Sx) (scope : Scope) : Sx := ⟨S.N, relS scope S.sc, some scope⟩
theorem Good.blk (G : Good I T n S X) {s : Shared} {H : Hp} {scope : Scope} {cl : List (Str × Addr)} {A : Addr} {fp : List Addr} : Good I T n (S.blk scope) (X.blk s H scope (compEnvC scope cl A X.env) fp) where
  wd := G.wd
  N := G.N
  nd := G.nd
  sc := by
    show relS scope X.env.scope = relS scope S.sc
    rw [G.sc]
  fn := rfl
  calm := G.calm
  xe := rfl
  room := G.room
  fns := G.fns
  gd := G.gd
  bl := G.bl
  gv := G.gv
end
end NH
namespace NH
variable [W : TheW]
open PySem PySem.Spec PyProof.Rows L2
def iKeysL (X : Cx) (td : TE) : TI := fun σ H R => td σ H fun x H1 => ∃ d kvs, x = .ref d ∧ H1 d = some (.dK kvs) ∧ ∀ o, (∀ o' u', X.H_0 d ≠ some (.frz o' u')) → R (Itk d o kvs) (upd H1 d (.frz o (.dK kvs)))
def tUnl (X : Cx) (t : TE) : TE := fun σ H Q => t σ H fun v H' => ∃ d od u, H' d = some (.frz od u) ∧ (∀ o' u', X.H_0 d ≠ some (.frz o' u')) ∧ Q v (upd H' d u)
section
variable {X : Cx} {tg e : Expr} {td t : TE}
theorem pi_keysL (he : PE X e td) : PI X tg e (iKeysL X td) := by
  refine ⟨fun pins s σ H R I h => ?_⟩
  refine thn (he.run pins s σ H _ I h) fun u s1 ⟨x, H1, I1, rx, d, kvs, ex, hd, q⟩ => ?_
  subst ex
  obtain rfl : u = Value.ref d := rx
  obtain ⟨od, I2⟩ := I1.lock hd True.intro
  have hd2 : upd H1 d (.frz od (.dK kvs)) d = some (.frz od (.dK kvs)) := upd_same
  obtain ⟨hs, hgd, hx, es, ep, vs, hdt, hsz, kv, hm⟩ := I2.frzK hd2
  refine iter_keys hs hgd hx hdt (pi_one (tk := s1.toks) I2 _ (turn_keys _ hdt) ⟨_, Heap.get?_push_size _ rfl, rfl, ?_⟩ (q od (I1.nofrz hd True.intro)))
  rw [hsz] <;> rfl
theorem pe_unl (h : PE X e t) : PE X e (tUnl X t) := by
  refine ⟨fun pins s σ H Q I hw => ?_⟩
  exact thn (h.run pins s σ _ _ I hw) fun v s1 ⟨x, H1, I2, r, d, od, u, e2, hn, q⟩ => ⟨x, _, I2.unlock e2 hn, r, q⟩
end
section
variable {Z : Addr → Prop} {M : List Addr} {st : Store} {H : Hp} {a : Addr} {k : Nat} {o : HO}
theorem keep_unl {l : List (Ky × P)} (hk : M[k]? = some a) (h1 : st[k]? = some (.dicL l)) : ∀ b u, H b = some u → ¬ Mu Z M st b → upd H a o b = some u ∧ ¬ Mu Z M (st.set k (.dic l)) b := fun b u h n => by
  have : b ≠ a := fun e => n (e ▸ .inr ⟨k, _, hk, h1, by simp⟩)
  exact ⟨by rw [upd_ne this]; exact h, fun m => n (m.set h1 (by simp))⟩
theorem upd_some {b : Addr} (h : H b ≠ none) : upd H a o b ≠ none := by
  unfold upd; split
  · simp
  · exact h
theorem SRel.unl {l : List (Ky × P)} {ks : List (Key × V)} (sr : SRel Z M st H) (hk : M[k]? = some a) (h1 : st[k]? = some (.dicL l)) (r : RelKs (Mu Z M st) H l ks) : SRel Z M (st.set k (.dic l)) (upd H a (.dK ks)) where
  len := by rw [List.length_set]; exact sr.len
  nd := sr.nd
  trk := fun b h => upd_some (sr.trk b h)
  hid := fun b h => ⟨upd_some (sr.hid b h).1, (sr.hid b h).2⟩
  obj := fun j b u g1 g2 => by
    by_cases e : j = k
    · subst e
      rw [hk] at g1; cases g1
      rw [List.getElem?_set_self (List.getElem?_eq_some_iff.mp h1).1] at g2
      cases g2
      exact ⟨ks, upd_same, RelKs.mono (keep_unl hk h1) l ks r⟩
    · rw [List.getElem?_set_ne (Ne.symm e)] at g2
      have hne : b ≠ a := fun z => e (by subst z; exact ix_inj sr.nd g1 hk)
      exact (sr.obj j b u g1 g2).mono (keep_unl hk h1) fun u e => by rw [upd_ne hne]; exact e
theorem Frm.unl {M' : List Addr} {st' : Store} {H' : Hp} {l l' : List (Ky × P)} {ks : List (Key × V)} {x : Obj} (sr : SRel Z M st H) (hk : M[k]? = some a) (h1 : st[k]? = some (.dic l)) (hd : H a = some (.dK ks)) (f : Frm Z M (st.set k (.dicL l)) (upd H a (.frz x (.dK ks))) M' st' H') (h2 : st'[k]? = some (.dicL l')) :
    Frm Z M st H M' (st'.set k (.dic l')) (upd H' a (.dK ks)) where
  pre := f.pre
  keep := fun b u h n => by
    have hb : b ≠ a := fun e => n (e ▸ .inr ⟨k, _, hk, h1, by simp⟩)
    obtain ⟨g1, g2⟩ := f.keep b u (by rw [upd_ne hb]; exact h) (fun m => n (m.set h1 (by simp)))
    exact ⟨by rw [upd_ne hb]; exact g1, fun m => g2 (m.set h2 (by simp))⟩
  stay := fun b h => upd_some (f.stay b (upd_some h))
  frz := fun b y u h => by
    have hb : b ≠ a := fun e => by rw [e, hd] at h; cases h
    rw [upd_ne hb]
    exact f.frz b y u (by rw [upd_ne hb]; exact h)
  hid := fun b h => by
    have hb : b ≠ a := fun e => (sr.hid b h).2 (e ▸ List.mem_of_getElem? hk)
    rw [upd_ne hb, f.hid b h, upd_ne hb]
  lk := fun j q h => by
    have hj : k ≠ j := fun e => by subst e; rw [h] at h1; cases h1
    rw [List.getElem?_set_ne hj]
    exact f.lk j q (by rw [List.getElem?_set_ne hj]; exact h)
end
theorem kyP_V {U : Addr → Prop} {H : Hp} (k : Ky) : RelP U H k.toP (kV (kyK k)) := by cases k <;> simp [Ky.toP, RelP, kyK, kV]
theorem relKs_at {U : Addr → Prop} {H : Hp} : ∀ {l : List (Ky × P)} {ks : List (Key × V)} {i : Nat} {k : Key} {v : V}, RelKs U H l ks → ks[i]? = some (k, v) → ∃ y, (l.map fun e => e.1.toP)[i]? = some (Ky.toP y) ∧ k = kyK y
  | [], ks, i, k, v, r, h => by simp only [RelKs] at r; subst r; simp at h
  | (j, p) :: l, ks, i, k, v, r, h => by
    simp only [RelKs] at r
    obtain ⟨w, q, rfl, h1, h2⟩ := r
    cases i with
    | zero =>
      simp only [List.getElem?_cons_zero, Option.some.injEq, Prod.mk.injEq] at h
      exact ⟨j, rfl, h.1.symm⟩
    | succ i =>
      simp only [List.getElem?_cons_succ] at h
      obtain ⟨y, a, b⟩ := relKs_at h2 h
      exact ⟨y, a, b⟩
section
variable {I : Inf} {T : Nat → Option Fn} {n : Nat} {S : Sx} {X : Cx} {C : Calls} {pos : Pos}
theorem kc_read {m : Bool} {elt : CE} {tg : CT} {src : CE} {ifc : CO} {own : List Nat} (hs : ∀ i ∈ slots tg, i ∈ own) {σ : L2.St} {H : Hp} {Q : VK} (h : tE X.K C (.kcomp m elt tg src ifc own) σ H Q) :
    tUnl X (tLc (iKeysL X (tE X.K C src)) (tG X.K tg) (tI1 X.K C ifc) (tE X.K C elt) own) σ H Q := by
  obtain ⟨Z, M, st, δ, d, st', sr, er, ev, kQ⟩ := h
  unfold evE at ev
  obtain ⟨x, st1, e1, ev1⟩ := R.bind_eq_ok ev
  clear ev
  cases x with
  | p _ => cases ev1
  | c _ => cases ev1
  | r k =>
  dsimp only at ev1
  split at ev1
  · rename_i l hl
    obtain ⟨ps, stF, e2, ev2⟩ := R.bind_eq_ok ev1
    clear ev1
    refine one sr er e1 fun v M1 H1 f1 s1 r1 => ?_
    obtain ⟨a, rfl, hk, ks, hd, rks⟩ := RelD.ref_get s1 r1 hl
    refine ⟨a, ks, rfl, hd, fun o hn => fun D hD => ?_⟩
    have hnf : ∀ x u, H1 a ≠ some (.frz x u) := fun x u z => by rw [hd] at z; cases z
    have fL := Frm.write (ob' := .dicL l) (o := .frz o (.dK ks)) s1 hk hl (by simp) (by simp) hnf
    have sL := SRel.write (ob' := .dicL l) (o := .frz o (.dK ks)) s1 hk hl (by simp) (by simp) (by simp) hnf ⟨ks, o, upd_same, rks.fr fL⟩
    have eL := er.fr (f1.trans fL)
    have hDa : D ≠ a := fun e => by rw [e, upd_same] at hD; cases hD
    have hD1 : H1 D = none := by rw [upd_ne hDa] at hD; exact hD
    have hkl : ks.length = l.length := rks.length
    generalize hH : upd H1 a (.frz o (.dK ks)) = HL at *
    generalize hSt : st1.set k (.dicL l) = stL at *
    have hfz : HL a = some (.frz o (.dK ks)) := by rw [← hH]; exact upd_same
    let W : Nat → Hp → Prop := fun i H' => i ≤ l.length ∧ ∃ Mi sti acc vs, Frm Z M1 stL HL Mi sti H' ∧ SRel (plusZ Z D) Mi sti H' ∧ H' D = some (.lst vs) ∧ RelPs (Mu (plusZ Z D) Mi sti) H' acc vs ∧
      compL tg own (fun δ st => evF C ifc δ st) (fun δ st => evE C elt δ st) δ acc ((l.map fun e => e.1.toP).drop i) sti = .ok ps stF
    refine ⟨fun i m H' => m = l.length - i ∧ W i H', ⟨_, rfl, Nat.zero_le _, M1, stL, [], [], .new sL hD, sL.hide hD, upd_same, by simp [RelPs], e2⟩, ?_⟩
    rintro i m H' ⟨rfl, hi, Mi, sti, acc, vs, fi, si, hv, rv, ec⟩
    by_cases hlt : i < l.length
    · obtain ⟨p, hp⟩ := get_ex (l := l.map fun e => e.1.toP) (i := i) (by rw [List.length_map]; exact hlt)
      rw [drop_at hp] at ec
      unfold compL at ec
      cases hA : asgP tg p (delVs δ own) with
      | none => rw [hA] at ec; cases ec
      | some δ1 =>
      rw [hA] at ec
      obtain ⟨b, st2, eb, ec2⟩ := R.bind_eq_ok ec
      have lt := Ltr.hid hD fi
      refine .inr ⟨⟨fi.frz _ _ _ hfz, by rw [hkl]; exact hlt⟩, W (i + 1), fun H2 h => ⟨_, by omega, rfl, h⟩, fun x H2 y => ?_⟩
      obtain ⟨rfl, k', v', hk', rfl⟩ := y
      obtain ⟨y, hy, rfl⟩ := relKs_at rks hk'
      rw [hp] at hy
      cases hy
      have ry : RelP (Mu (plusZ Z D) Mi sti) H2 (Ky.toP y) (kV (kyK y)) := kyP_V y
      have e2 := (eL.lt lt).wipe own
      refine ⟨plusZ Z D, Mi, sti, delVs δ own, Ky.toP y, δ1, si, e2, ry, hA, fun σ2 er2 ag => ⟨wipe_agr hs ag, ?_⟩⟩
      have body : ∀ M3 H3, Frm (plusZ Z D) Mi sti H2 M3 st2 H3 → SRel (plusZ Z D) M3 st2 H3 → if b = true then tE X.K C elt σ2 H3 fun y H4 => ∃ acc, H4 D = some (.lst acc) ∧ acc.length < sizeLine ∧ W (i + 1) (upd H4 D (.lst (acc ++ [y]))) else W (i + 1) H3 := fun M3 H3 f3 s3 => by
        cases b with
        | true =>
          rw [if_pos rfl] at ec2 ⊢
          obtain ⟨q, st4, eq, ec3⟩ := R.bind_eq_ok ec2
          refine ⟨plusZ Z D, M3, st2, δ1, q, st4, s3, er2.fr f3, eq, fun v M4 H4 f4 s4 r4 => ?_⟩
          split at ec3
          · rename_i q' hq
            have := pure1_of hq
            subst this
            split at ec3
            · rename_i hz
              have fa := f3.trans f4
              have hv4 : H4 D = some (.lst vs) := (fa.hid D (.inr rfl)).trans hv
              have rv4 := rv.fr fa
              refine ⟨vs, hv4, by rw [rv.length, ← line_eq]; exact hz, hlt, M4, st4, acc ++ [q'], vs ++ [v], Frm.step hD sL fi fa, s4.remake, upd_same, ?_, ec3⟩
              exact RelPs.mono keep_remake _ _ (rv4.append (.one r4))
            · cases ec3
          · cases ec3
        | false =>
          rw [if_neg (by decide)] at ec2 ⊢
          exact ⟨hlt, M3, st2, acc, vs, Frm.step' hD sL fi f3, s3, (f3.hid D (.inr rfl)).trans hv, rv.fr f3, ec2⟩
      cases ifc with
      | none =>
        cases eb
        exact body Mi H2 .refl si
      | some c =>
        exact ⟨plusZ Z D, Mi, sti, δ1, b, st2, si, er2, eb, fun M3 H3 f3 s3 => body M3 H3 f3 s3⟩
    · have : i = l.length := by omega
      subst this
      rw [List.drop_of_length_le (by rw [List.length_map]; exact Nat.le_refl _)] at ec
      cases ec
      refine .inl ⟨⟨fi.frz _ _ _ hfz, by rw [hkl]; exact Nat.le_refl _⟩, a, o, _, fi.frz _ _ _ hfz, hn, ?_⟩
      split at ev2
      · rename_i l' hl'
        have hk2 := fi.pre _ _ hk
        obtain ⟨ks', o', g1, g2⟩ := si.obj k a _ hk2 hl'
        have g3 := fi.frz _ _ _ hfz
        rw [g1] at g3
        cases g3
        subst hH hSt
        have fU := Frm.unl s1 hk hl hd fi hl'
        have sU := si.unl hk2 hl' g2
        have rU : RelPs (Mu (plusZ Z D) Mi (stF.set k (.dic l'))) (upd H' a (.dK ks)) ps vs := RelPs.mono (keep_unl hk2 hl') _ _ rv
        obtain ⟨M3, f3, s3, r3⟩ := mkL_done (K := X.K) s1 hD1 fU sU (by rw [upd_ne hDa]; exact hv) rU ev2
        exact kQ _ M3 _ (f1.trans f3) s3 r3
      · cases ev2
  · cases ev1
end
def unlE (X : Cx) (D : Ends) : Ends where
  nx := fun σ H' => ∃ d od u, H' d = some (.frz od u) ∧ (∀ o' u', X.H_0 d ≠ some (.frz o' u')) ∧ D.nx σ (upd H' d u)
  rt := fun v H' => ∃ d od u, H' d = some (.frz od u) ∧ (∀ o' u', X.H_0 d ≠ some (.frz o' u')) ∧ D.rt v (upd H' d u)
  bk := fun σ H' => ∃ d od u, H' d = some (.frz od u) ∧ (∀ o' u', X.H_0 d ≠ some (.frz o' u')) ∧ D.bk σ (upd H' d u)
  ct := fun σ H' => ∃ d od u, H' d = some (.frz od u) ∧ (∀ o' u', X.H_0 d ≠ some (.frz o' u')) ∧ D.ct σ (upd H' d u)
def tUnlS (X : Cx) (t : TS) : TS := fun D σ H => t (unlE X D) σ H
theorem ps_unl {X : Cx} {s : Stmt} {t : TS} (h : PS X s t) : PS X s (tUnlS X t) := by
  refine ⟨fun pins sh σ H D I hw => ?_⟩
  refine thn (h.run pins sh σ H _ I hw) fun f s1 hf => ?_
  cases f with
  | next => obtain ⟨σ', H', I2, d, od, u, e2, hn, q⟩ := hf; exact ⟨σ', _, I2.unlock e2 hn, q⟩
  | brk => obtain ⟨σ', H', I2, d, od, u, e2, hn, q⟩ := hf; exact ⟨σ', _, I2.unlock e2 hn, q⟩
  | cont => obtain ⟨σ', H', I2, d, od, u, e2, hn, q⟩ := hf; exact ⟨σ', _, I2.unlock e2 hn, q⟩
  | ret v => obtain ⟨x, σ', H', I2, r, d, od, u, e2, hn, q⟩ := hf; exact ⟨x, σ', _, I2.unlock e2 hn, r, q⟩
section
variable {K : PySem.W.Frag} {Z : Addr → Prop} {M : List Addr} {st : Store} {H : Hp} {a : Addr} {k : Nat} {o : HO}
theorem RelD.unl {l : List (Ky × P)} {d : D} {v : V} (hk : M[k]? = some a) (h1 : st[k]? = some (.dicL l)) (r : RelD K Z M st H d v) : RelD K Z M (st.set k (.dic l)) (upd H a o) d v := by
  cases d with
  | p x => exact RelP.mono (keep_unl hk h1) _ _ r
  | r k => exact r
  | c x => exact RelC.mono (keep_unl hk h1) r
theorem EnvRel.unl {l : List (Ky × P)} {δ : NH.Env} {σ : L2.St} (hk : M[k]? = some a) (h1 : st[k]? = some (.dicL l)) (r : EnvRel K Z M st H δ σ) : EnvRel K Z M (st.set k (.dic l)) (upd H a o) δ σ :=
  ⟨r.1, fun i d h => let ⟨v, p, q⟩ := r.2 i d h; ⟨v, p, q.unl hk h1⟩⟩
end
section
variable {I : Inf} {T : Nat → Option Fn} {n : Nat} {S : Sx} {X : Cx} {C : Calls} {pos : Pos}
theorem s_kfor (G : Good I T n S X) {tg iter : Expr} {t : CT} {ce : CE} {body : List Stmt} {bs : CSs} (he : PE X iter (tE X.K C ce)) (ht : okT S t tg = true) (hb : PSs X body (tSs X.K C bs)) (hf : fsB iter = true) :
    PS X (.For tg iter body [] pos) (tS X.K C (.kfor t ce bs)) := by
  refine PS.weak (ps_unl (ps_for (passes G) G.calm (pi_keysL he) (g_ok G ht) hb (fs_of hf))) fun D σ H h => ?_
  obtain ⟨Z, M, st, δ, f, δ', st', sr, er, ev, kQ⟩ := h
  unfold evS at ev
  obtain ⟨x, st1, e1, ev1⟩ := R.bind_eq_ok ev
  clear ev
  cases x with
  | p _ => cases ev1
  | c _ => cases ev1
  | r k =>
  dsimp only at ev1
  split at ev1
  · rename_i l hl
    obtain ⟨fd, stF, e2, ev2⟩ := R.bind_eq_ok ev1
    clear ev1
    split at ev2
    · rename_i l' hl'
      cases ev2
      refine one sr er e1 fun v M1 H1 f1 s1 r1 => ?_
      obtain ⟨a, rfl, hk, ks, hd, rks⟩ := RelD.ref_get s1 r1 hl
      refine ⟨a, ks, rfl, hd, fun o hn => ?_⟩
      have hnf : ∀ x u, H1 a ≠ some (.frz x u) := fun x u z => by rw [hd] at z; cases z
      have fL := Frm.write (ob' := .dicL l) (o := .frz o (.dK ks)) s1 hk hl (by simp) (by simp) hnf
      have sL := SRel.write (ob' := .dicL l) (o := .frz o (.dK ks)) s1 hk hl (by simp) (by simp) (by simp) hnf ⟨ks, o, upd_same, rks.fr fL⟩
      have eL := er.fr (f1.trans fL)
      have hkl : ks.length = l.length := rks.length
      generalize hH : upd H1 a (.frz o (.dK ks)) = HL at *
      generalize hSt : st1.set k (.dicL l) = stL at *
      have hfz : HL a = some (.frz o (.dK ks)) := by rw [← hH]; exact upd_same
      have fin : ∀ M2 H2, Frm Z M1 stL HL M2 stF H2 → SRel Z M2 stF H2 → After X.K Z (unlE X D) f δ' M2 stF H2 := fun M2 H2 f2 s2 => by
        have hk2 := f2.pre _ _ hk
        obtain ⟨ks', o', g1, g2⟩ := s2.obj k a _ hk2 hl'
        have g3 := f2.frz _ _ _ hfz
        rw [g1] at g3
        cases g3
        subst hH hSt
        have fU := Frm.unl s1 hk hl hd f2 hl'
        have sU := s2.unl hk2 hl' g2
        have q := kQ M2 _ (f1.trans fU) sU
        cases f with
        | nx => exact fun σ' e' => ⟨a, _, _, g1, hn, q σ' (e'.unl hk2 hl')⟩
        | bk => exact fun σ' e' => ⟨a, _, _, g1, hn, q σ' (e'.unl hk2 hl')⟩
        | ct => exact fun σ' e' => ⟨a, _, _, g1, hn, q σ' (e'.unl hk2 hl')⟩
        | rt d => exact fun v e' => ⟨a, _, _, g1, hn, q v (e'.unl hk2 hl')⟩
      refine ⟨fun i m σ' H' => m = l.length - i ∧ i ≤ l.length ∧ ∃ Mi sti δi, Frm Z M1 stL HL Mi sti H' ∧ SRel Z Mi sti H' ∧ EnvRel X.K Z Mi sti H' δi σ' ∧ forL t (fun δ st => evSs C bs δ st) ((l.map fun e => e.1.toP).drop i) δi sti = .ok (f, δ') stF,
        ⟨_, rfl, Nat.zero_le _, M1, stL, δ, .refl, sL, eL, e2⟩, ?_⟩
      rintro i m σ' H' ⟨rfl, hi, Mi, sti, δi, fi, si, ei, ef⟩
      by_cases hlt : i < l.length
      · obtain ⟨p, hp⟩ := get_ex (l := l.map fun e => e.1.toP) (i := i) (by rw [List.length_map]; exact hlt)
        rw [drop_at hp] at ef
        unfold forL at ef
        cases hA : asgP t p δi with
        | none => rw [hA] at ef; cases ef
        | some δ1 =>
        rw [hA] at ef
        obtain ⟨⟨g, δb⟩, stb, eb, ef2⟩ := R.bind_eq_ok ef
        refine .inr ⟨⟨fi.frz _ _ _ hfz, by rw [hkl]; exact hlt⟩, fun σ2 H2 => (l.length - (i + 1)) = l.length - (i + 1) ∧ i + 1 ≤ l.length ∧ ∃ Mi sti δi, Frm Z M1 stL HL Mi sti H2 ∧ SRel Z Mi sti H2 ∧ EnvRel X.K Z Mi sti H2 δi σ2 ∧ forL t (fun δ st => evSs C bs δ st) ((l.map fun e => e.1.toP).drop (i + 1)) δi sti = .ok (f, δ') stF,
          fun σ2 H2 h => ⟨l.length - (i + 1), by omega, h⟩, fun x H2 y => ?_⟩
        obtain ⟨rfl, k', v', hk', rfl⟩ := y
        obtain ⟨y, hy, rfl⟩ := relKs_at rks hk'
        rw [hp] at hy
        cases hy
        refine ⟨Z, Mi, sti, δi, Ky.toP y, δ1, si, ei, kyP_V y, hA, fun σ2 e2 _ => ⟨Z, Mi, sti, δ1, g, δb, stb, si, e2, eb, fun M3 H3 f3 s3 => ?_⟩⟩
        have f4 := fi.trans f3
        cases g with
        | nx => exact fun σ3 e3 => ⟨rfl, hlt, M3, stb, δb, f4, s3, e3, ef2⟩
        | ct => exact fun σ3 e3 => ⟨rfl, hlt, M3, stb, δb, f4, s3, e3, ef2⟩
        | bk =>
          cases ef2
          exact fin M3 H3 f4 s3
        | rt d =>
          cases ef2
          exact fin M3 H3 f4 s3
      · have : i = l.length := by omega
        subst this
        rw [List.drop_of_length_le (by rw [List.length_map]; exact Nat.le_refl _)] at ef
        cases ef
        exact .inl ⟨⟨fi.frz _ _ _ hfz, by rw [hkl]; exact Nat.le_refl _⟩, fin Mi H' fi si σ' ei⟩
    · cases ev2
  · cases ev1
end
end NH
namespace NH
variable [W : TheW]
open PySem L2
def blB (I : Inf) (S : Sx) (x : Str) : Bool := inB I x && glB S.sc x && nodbgB x
theorem Bl_of {I : Inf} {S : Sx} {x : Str} (h : blB I S x = true) : Bl I S x := by
  simp only [blB, Bool.and_eq_true, inB, List.any_eq_true, beq_iff_eq] at h
  obtain ⟨⟨⟨y, h1, rfl⟩, h2⟩, h3⟩ := h
  exact ⟨h1, h2, h3⟩
def isIsi : Bi → Bool
  | .isi _ => true
  | _ => false
def lmB : Mt → Str → Nat → Bool
  | .append, x, 1 => x == ("append" : Str)
  | .extend, x, 1 => x == ("extend" : Str)
  | .pop0, x, 0 => x == ("pop" : Str)
  | .pop1, x, 1 => x == ("pop" : Str)
  | .reverse, x, 0 => x == ("reverse" : Str)
  | .clear, x, 0 => x == ("clear" : Str)
  | .insert, x, 2 => x == ("insert" : Str)
  | _, _, _ => false
def dmB : Mt → Str → Nat → Bool
  | .get1, x, 1 => x == ("get" : Str)
  | .get2, x, 2 => x == ("get" : Str)
  | .setdefault, x, 2 => x == ("setdefault" : Str)
  | .dpop1, x, 1 => x == ("pop" : Str)
  | .update, x, 1 => x == ("update" : Str)
  | .join, x, 1 => x == ("join" : Str)
  | _, _, _ => false
def ownB (own : List Nat) (N : List Str) : Option (List (Str × Nat)) := own.mapM fun i => N[i]?.map fun x => (x, i)
mutual
def okE (I : Inf) (S : Sx) : CE → Expr → Bool
  | .var i, e => match e with
    | .Name x _ => nameB S i x
    | _ => false
  | .cst p, e => match e with
    | .Constant k _ _ => cstB p k
    | _ => false
  | .glob _ d, e => match e with
    | .Name y _ => glB S.sc y && !(y == ("__debug__" : Str)) && (match I.G.lookup y with
      | some p => gEq p d
      | none => false)
    | _ => false
  | .tup es, e => match e with
    | .Tuple l _ _ => okEs I S es l
    | _ => false
  | .lst _ es, e => match e with
    | .List l _ => okEs I S es l
    | _ => false
  | .dct _ es, e => match e with
    | .Dict ks vs _ => okD I S es ks vs && decide (ks.length ≤ 15)
    | _ => false
  | .lcopy _ c, e => match e with
    | .Call (.Name x _) [a] [] _ => (x == ("list" : Str)) && blB I S "list" && starB a && okE I S c a
    | _ => false
  | .lset c, e => match e with
    | .Call (.Name x _) [.Call (.Name y _) [a] [] _] [] _ => (x == ("len" : Str)) && (y == ("set" : Str)) && blB I S "len" && blB I S "set" && starB a && okE I S c a
    | _ => false
  | .srt _ c, e => match e with
    | .Call (.Name x _) [a] [] _ => (x == ("sorted" : Str)) && blB I S "sorted" && starB a && okE I S c a
    | _ => false
  | .dcopy _ c, e => match e with
    | .Call (.Name x _) [a] [] _ => (x == ("dict" : Str)) && blB I S "dict" && starB a && okE I S c a
    | _ => false
  | .bin op c d, e => match e with
    | .BinOp a o b _ => decide (o = opOf op) && okE I S c a && okE I S d b
    | _ => false
  | .cat c d, e => match e with
    | .BinOp a .Add b _ => okE I S c a && okE I S d b
    | _ => false
  | .ninn c d, e => match e with
    | .Compare a [.In] [b] _ => setB b && okE I S c a && okE I S d b
    | _ => false
  | .nidx c d, e => match e with
    | .Subscript a b _ => ixB b && okE I S c a && okE I S d b
    | _ => false
  | .nget c d f, e => match e with
    | .Call (.Attribute o x apos) [a, b] [] pos => (x == ("get" : Str)) && supB o && lineB apos pos && starB a && starB b && okE I S c o && okE I S d a && okE I S f b
    | _ => false
  | .stuck, _ => true
  | .dzip _ c d, e => match e with
    | .Call (.Name x _) [.Call (.Name y _) [a, b] [] _] [] _ => (x == ("dict" : Str)) && (y == ("zip" : Str)) && blB I S "dict" && blB I S "zip" && starB a && starB b && okE I S c a && okE I S d b
    | _ => false
  | .lidx c d, e => match e with
    | .Call (.Attribute o x apos) [a] [] pos => (x == ("index" : Str)) && supB o && lineB apos pos && starB a && okE I S c o && okE I S d a
    | _ => false
  | .lcnt c d, e => match e with
    | .Call (.Attribute o x apos) [a] [] pos => (x == ("count" : Str)) && supB o && lineB apos pos && starB a && okE I S c o && okE I S d a
    | _ => false
  | .rep c, e => match e with
    | .Call (.Name x _) [a] [] _ => (x == ("repr" : Str)) && blB I S "repr" && starB a && okE I S c a
    | _ => false
  | .nupd c d, e => match e with
    | .Call (.Attribute o x apos) [a] [] pos => (x == ("update" : Str)) && supB o && lineB apos pos && starB a && okE I S c o && okE I S d a
    | _ => false
  | .sset _ c, e => match e with
    | .Call (.Name x _) [.Call (.Name y _) [a] [] _] [] _ => (x == ("sorted" : Str)) && (y == ("set" : Str)) && blB I S "sorted" && blB I S "set" && starB a && okE I S c a
    | _ => false
  | .ksrt _ c, e => match e with
    | .Call (.Name x _) [a] [] _ => (x == ("sorted" : Str)) && blB I S "sorted" && starB a && okE I S c a
    | _ => false
  | .ncopy c, e => match e with
    | .Call (.Name x _) [a] [] _ => (x == ("dict" : Str)) && blB I S "dict" && starB a && okE I S c a
    | _ => false
  | .neg c, e => match e with
    | .UnaryOp .USub a _ => okE I S c a
    | _ => false
  | .cmp op c d, e => match e with
    | .Compare a [o] [b] _ => decide (o = opC op) && setB b && okE I S c a && okE I S d b
    | _ => false
  | .chain op op' c d f, e => match e with
    | .Compare a [o, o'] [b, g] _ => decide (o = opC op) && decide (o' = opC op') && setB g && okE I S c a && okE I S d b && okE I S f g
    | _ => false
  | .and es, e => match e with
    | .BoolOp .And l _ => okEs I S es l && !l.isEmpty
    | _ => false
  | .or es, e => match e with
    | .BoolOp .Or l _ => okEs I S es l && !l.isEmpty
    | _ => false
  | .not c, e => match e with
    | .UnaryOp .Not a _ => okE I S c a
    | _ => false
  | .ife c d f, e => match e with
    | .IfExp a b g _ => okE I S c a && tsE c a && okE I S d b && okE I S f g
    | _ => false
  | .idx c d, e => match e with
    | .Subscript a b _ => ixB b && okE I S c a && okE I S d b
    | _ => false
  | .sl c lo hi, e => match e with
    | .Subscript a (.Slice l h none _) _ => okE I S c a && okO I S lo l && okO I S hi h
    | _ => false
  | .rev c, e => match e with
    | .Subscript a (.Slice none none (some (.UnaryOp .USub (.Constant (.int 1) _ _) _)) _) _ => okE I S c a
    | _ => false
  | .call f es, e => match e with
    | .Call (.Name x _) l [] _ => (I.nm f == some x) && glB S.sc x && nodbgB x && plainEs l && okEs I S es l
    | _ => false
  | .bi b es, e => match e with
    | .Call (.Name x _) l [] _ => match b, l with
      | .isi [t], [a, .Name y _] => (x == ("isinstance" : Str)) && blB I S "isinstance" && (y == Str.ofString t.s) && blB I S t.s && starB a && okI1 I S es a
      | .isi ts, [a, .Tuple l2 _ _] => (x == ("isinstance" : Str)) && blB I S "isinstance" && tyNames l2 ts && (ts.all fun t => blB I S t.s) && decide (ts.length ≤ 100) && starB a && okI1 I S es a
      | b, l => !isIsi b && (x == Str.ofString (biS b)) && blB I S (biS b) && plainEs l && !l.isEmpty && okEs I S es l
    | _ => false
  | .meth m c es, e => match e with
    | .Call (.Attribute o x apos) l [] pos => (lmB m x l.length || dmB m x l.length) && supB o && lineB apos pos && plainEs l && okE I S c o && okEs I S es l
    | _ => false
  | .comp _ elt tg src ifc own, e => match e with
    | .ListComp el [⟨t, it, ifs, 0⟩] scope _ => match ownB own S.N with
      | some ow => blkC S.N S.sc scope ow && okT (S.blk scope) tg t && ((slots tg).all fun i => own.any (· == i)) && fsB it && okI I S src t it && okE I (S.blk scope) elt el &&
        (match ifs with
        | [] => okN ifc
        | [c] => okF I (S.blk scope) ifc c
        | _ => false)
      | none => false
    | _ => false
  | .kcomp _ elt tg src ifc own, e => match e with
    | .ListComp el [⟨t, it, ifs, 0⟩] scope _ => match ownB own S.N with
      | some ow => blkC S.N S.sc scope ow && okT (S.blk scope) tg t && ((slots tg).all fun i => own.any (· == i)) && fsB it && okE I S src it && okE I (S.blk scope) elt el &&
        (match ifs with
        | [] => okN ifc
        | [c] => okF I (S.blk scope) ifc c
        | _ => false)
      | none => false
    | _ => false
  | .frz c, e => okE I S c e
def okI1 (I : Inf) (S : Sx) : CEs → Expr → Bool
  | .cons c .nil, e => okE I S c e
  | _, _ => false
def okEs (I : Inf) (S : Sx) : CEs → List Expr → Bool
  | .nil, l => match l with
    | [] => true
    | _ => false
  | .cons c es, l => match l with
    | e :: l => starB e && okE I S c e && okEs I S es l
    | [] => false
def okD (I : Inf) (S : Sx) : CEs → List (Option Expr) → List Expr → Bool
  | .nil, ks, vs => match ks, vs with
    | [], [] => true
    | _, _ => false
  | .cons ck (.cons cv es), ks, vs => match ks, vs with
    | some k :: ks, v :: vs => okE I S ck k && okE I S cv v && okD I S es ks vs
    | _, _ => false
  | .cons _ .nil, _, _ => false
def okO (I : Inf) (S : Sx) : CO → Option Expr → Bool
  | .none, e => e.isNone
  | .some c, e => match e with
    | some e => okE I S c e
    | none => false
def okF (I : Inf) (S : Sx) : CO → Expr → Bool
  | .none, _ => false
  | .some c, e => okE I S c e && tsE c e
def okN : CO → Bool
  | .none => true
  | .some _ => false
def okI (I : Inf) (S : Sx) : CI → Expr → Expr → Bool
  | .val c, _, e => okE I S c e
  | .keys _, _, _ => false
  | .items _, _, _ => false
  | .rng1 c, _, e => match e with
    | .Call (.Name x _) [a] [] _ => (x == ("range" : Str)) && blB I S "range" && starB a && okE I S c a
    | _ => false
  | .rng2 c d, _, e => match e with
    | .Call (.Name x _) [a, b] [] _ => (x == ("range" : Str)) && blB I S "range" && starB a && starB b && okE I S c a && okE I S d b
    | _ => false
  | .enum c, t, e => match t, e with
    | .Tuple .., .Call (.Name x _) [a] [] _ => (x == ("enumerate" : Str)) && blB I S "enumerate" && starB a && okE I S c a
    | _, _ => false
  | .zip c d, t, e => match t, e with
    | .Tuple .., .Call (.Name x _) [a, b] [] _ => (x == ("zip" : Str)) && blB I S "zip" && starB a && starB b && okE I S c a && okE I S d b
    | _, _ => false
def tsE : CE → Expr → Bool
  | .cmp .., _ => true
  | .ninn .., _ => true
  | .stuck, _ => true
  | .chain .., _ => true
  | .not c, e => match e with
    | .UnaryOp _ a _ => tsE c a
    | _ => false
  | .and es, e => match e with
    | .BoolOp _ l _ => tsEs es l
    | _ => false
  | .or es, e => match e with
    | .BoolOp _ l _ => tsEs es l
    | _ => false
  | _, e => tstB e
def tsEs : CEs → List Expr → Bool
  | .nil, _ => true
  | .cons c es, l => match l with
    | e :: l => tsE c e && tsEs es l
    | [] => true
end
end NH
namespace NH
variable [W : TheW]
open PySem L2
section
variable {I : Inf} {T : Nat → Option Fn} {n : Nat} {X : Cx} {C : Calls} {pos : Pos} {S : Sx}
theorem s_frz {c : CE} {e : Expr} (h : PE X e (tE X.K C c)) : PE X e (tE X.K C (.frz c)) := by
  refine PE.weak h fun σ H Q hq => ?_
  obtain ⟨Z, M, st, δ, d, st', sr, er, ev, k⟩ := hq
  obtain ⟨x, st1, e1, ev⟩ := R.bind_eq_ok ev
  refine one sr er e1 fun v M1 H1 f1 s1 r1 => ?_
  cases x with
  | p p => cases ev; exact k v M1 H1 f1 s1 r1
  | c p => cases ev
  | r j =>
    dsimp only at ev
    split at ev
    · rename_i l hl
      cases ev
      obtain ⟨a, rfl, hk, vs, hv, rv⟩ := RelD.ref_get s1 r1 hl
      have f2 : Frm Z M1 st1 H1 M1 (st1.set j .dead) H1 := .kill fun l' h => by rw [hl] at h; cases h
      refine k _ M1 H1 (f1.trans f2) s1.kill ?_
      simp only [RelD, RelP]
      exact ⟨a, vs, rfl, hv, not_killed s1 hk, rv.fr f2⟩
    · rename_i l hl
      cases ev
      obtain ⟨a, rfl, hk, vs, hv, rv⟩ := RelD.ref_get s1 r1 hl
      have f2 : Frm Z M1 st1 H1 M1 (st1.set j .dead) H1 := .kill fun l' h => by rw [hl] at h; cases h
      refine k _ M1 H1 (f1.trans f2) s1.kill ?_
      simp only [RelD, RelP]
      exact ⟨a, vs, rfl, .inl hv, not_killed s1 hk, rv.fr f2⟩
    · cases ev
theorem both {c : CE} {e : Expr} (h : PE X e (tE X.K C c)) (ht : tsE c e = tstB e) : PE X e (tE X.K C c) ∧ (tsE c e = true → PT X e (tT X.K C c)) := ⟨h, fun t => t_val h (ht ▸ t)⟩
theorem ownB_ok {N : List Str} : ∀ {own : List Nat} {ow : List (Str × Nat)}, ownB own N = some ow → ow.map (·.2) = own
  | [], ow, h => by simp [ownB] at h; subst h; rfl
  | i :: own, ow, h => by
    simp only [ownB, List.mapM_cons, Option.bind_eq_bind, Option.bind_eq_some_iff, Option.map_eq_some_iff, Option.pure_def, Option.some.injEq] at h
    obtain ⟨p, ⟨x, _, rfl⟩, ow', h2, rfl⟩ := h
    simp only [List.map_cons]
    rw [ownB_ok h2]
theorem own_in {own : List Nat} {l : List Nat} (h : (l.all fun i => own.any (· == i)) = true) : ∀ i ∈ l, i ∈ own := fun i m => by
  simp only [List.all_eq_true, List.any_eq_true, beq_iff_eq] at h
  obtain ⟨j, h1, rfl⟩ := h i m
  exact h1
structure ESnd (X : Cx) (C : Calls) (es : CEs) (l : List Expr) : Prop where
  hd : ∀ c1 r e l', es = .cons c1 r → l = e :: l' → PE X e (tE X.K C c1)
  sd : ∀ c1 c2 r e f l', es = .cons c1 (.cons c2 r) → l = e :: f :: l' → PE X f (tE X.K C c2)
  pa : PA X l (tEs X.K C es)
  an : l ≠ [] → ∀ pos, PE X (.BoolOp .And l pos) (tAndE X.K C es) ∧ (tsEs es l = true → PW X (.BoolOp .And l pos) (tAndT X.K C es))
  og : l ≠ [] → ∀ pos, PE X (.BoolOp .Or l pos) (tOrE X.K C es) ∧ (tsEs es l = true → PW X (.BoolOp .Or l pos) (tOrT X.K C es))
theorem es_nil : ESnd X C .nil [] := ⟨fun _ _ _ _ h => (nomatch h), fun _ _ _ _ _ _ h => (nomatch h), s_nil, fun h => absurd rfl h, fun h => absurd rfl h⟩
theorem es_cons {c : CE} {e : Expr} {es : CEs} {l : List Expr} (h1 : PE X e (tE X.K C c) ∧ (tsE c e = true → PT X e (tT X.K C c))) (h2 : ESnd X C es l) (hs : starB e = true) (hl : l = [] → es = .nil) : ESnd X C (.cons c es) (e :: l) where
  hd := fun c1 r e l' h h' => by cases h; cases h'; exact h1.1
  sd := fun c1 c2 r e f l' h h' => by cases h; cases h'; exact h2.hd _ _ _ _ rfl rfl
  pa := s_cons h1.1 h2.pa hs
  an := fun _ pos => by
    cases l with
    | nil =>
      cases hl rfl
      exact ⟨s_and1 h1.1, fun t => t_and1 (h1.2 (by simpa [tsEs] using t))⟩
    | cons b r =>
      have := h2.an (by simp) pos
      refine ⟨s_and2 h1.1 this.1, fun t => ?_⟩
      simp only [tsEs, Bool.and_eq_true] at t
      exact t_and2 (h1.2 t.1) (this.2 t.2)
  og := fun _ pos => by
    cases l with
    | nil =>
      cases hl rfl
      exact ⟨s_or1 h1.1, fun t => t_or1 (h1.2 (by simpa [tsEs] using t))⟩
    | cons b r =>
      have := h2.og (by simp) pos
      refine ⟨s_or2 h1.1 this.1, fun t => ?_⟩
      simp only [tsEs, Bool.and_eq_true] at t
      exact t_or2 (h1.2 t.1) (this.2 t.2)
theorem PTs.weak {X : Cx} {l : List Expr} {t t' : TT} (h : PTs X l t) (hw : ∀ σ H Q, t' σ H Q → t σ H Q) : PTs X l t' := ⟨fun pins s σ H Q I hq => h.run pins s σ H Q I (hw σ H Q hq)⟩
def dsE (K : PySem.W.Frag) (C : Calls) (es : CEs) : List (TE × TE) := trsOf K C es
theorem s_callAny (G : Good I T n S X) {f : Nat} {x : Str} {p : Pos} {l : List Expr} {cs : CEs} (ha : PA X l (tEs X.K (callK T n) cs)) (hc : l = [] → cs = .nil) (hx : I.nm f = some x) (hg : glB S.sc x = true) (hd : nodbgB x = true) (hp : plainEs l = true) :
    PE X (.Call (.Name x p) l [] pos) (tE X.K (callK T n) (.call f cs)) := by
  cases l with
  | nil => cases hc rfl; exact s_call0 G hx hg hd
  | cons e es => exact s_call G ha hx hg hd hp
theorem okEs_nil {es : CEs} {l : List Expr} (h : okEs I S es l = true) (hl : l = []) : es = .nil := by
  subst hl
  cases es with
  | nil => rfl
  | cons c es => simp [okEs] at h
theorem s_lmAny (G : Good I T n S X) {m : Mt} {x : Str} {o : Expr} {l : List Expr} {co : CE} {cs : CEs} {apos : Pos} (hm : lmB m x l.length = true) (ho : PE X o (tE X.K C co)) (ha : PA X l (tEs X.K C cs)) (hc : l = [] → cs = .nil)
    (hs : supB o = true) (hl : lineB apos pos = true) (hp : plainEs l = true) : PE X (.Call (.Attribute o x apos) l [] pos) (tE X.K C (.meth m co cs)) := by
  match l, hm, ha, hc, hp with
  | [], hm, ha, hc, hp =>
    cases hc rfl
    cases m <;> simp only [lmB, List.length_nil, beq_iff_eq] at hm <;> first | (cases hm; done) | skip
    · subst hm; exact s_lm0 lm_pop0 ho hs hl
    · subst hm; exact s_lm0 lm_reverse ho hs hl
    · subst hm; exact s_lm0 lm_clear ho hs hl
  | [e], hm, ha, hc, hp =>
    cases m <;> simp only [lmB, List.length_cons, List.length_nil, beq_iff_eq] at hm <;> first | (cases hm; done) | skip
    · subst hm; exact s_lm lm_append ho ha hs hl hp (by simp)
    · subst hm; exact s_lm lm_extend ho ha hs hl hp (by simp)
    · subst hm; exact s_lm lm_pop1 ho ha hs hl hp (by simp)
  | [e, f], hm, ha, hc, hp =>
    cases m <;> simp only [lmB, List.length_cons, List.length_nil, beq_iff_eq] at hm <;> first | (cases hm; done) | skip
    · subst hm; exact s_lm lm_insert ho ha hs hl hp (by simp)
  | _ :: _ :: _ :: r, hm, _, _, _ => exfalso; cases m <;> simp [lmB] at hm
theorem s_dmAny (G : Good I T n S X) {m : Mt} {x : Str} {o : Expr} {l : List Expr} {co : CE} {cs : CEs} {apos : Pos} (hm : dmB m x l.length = true) (ho : PE X o (tE X.K C co)) (hc : okEs I S cs l = true) (ha : ESnd X C cs l)
    (hs : supB o = true) (hl : lineB apos pos = true) (hp : plainEs l = true) : PE X (.Call (.Attribute o x apos) l [] pos) (tE X.K C (.meth m co cs)) := by
  match l, cs, hm, ha, hc, hp with
  | [], cs, hm, ha, hc, hp => exfalso; cases m <;> simp [dmB] at hm
  | [e], .nil, hm, ha, hc, hp => simp [okEs] at hc
  | [e], .cons c1 .nil, hm, ha, hc, hp =>
    have he := ha.hd _ _ _ _ rfl rfl
    have hp : starB e = true := by simpa [plainEs] using hp
    cases m <;> simp only [dmB, List.length_cons, List.length_nil, beq_iff_eq] at hm <;> first | (cases hm; done) | skip
    · subst hm; exact s_get1 G ho he hs hl hp
    · subst hm; exact s_upd G ho he hs hl hp
    · subst hm; exact s_dpop G ho he hs hl hp
    · subst hm; exact s_join G ho he hs hl hp
  | [e], .cons c1 (.cons _ _), hm, ha, hc, hp => simp [okEs] at hc
  | [e, f], .nil, hm, ha, hc, hp => simp [okEs] at hc
  | [e, f], .cons c1 .nil, hm, ha, hc, hp => simp [okEs] at hc
  | [e, f], .cons c1 (.cons c2 .nil), hm, ha, hc, hp =>
    have he := ha.hd _ _ _ _ rfl rfl
    have hf := ha.sd _ _ _ _ _ _ rfl rfl
    simp only [plainEs, Bool.and_true, Bool.and_eq_true] at hp
    cases m <;> simp only [dmB, List.length_cons, List.length_nil, beq_iff_eq] at hm <;> first | (cases hm; done) | skip
    · subst hm; exact s_get2 G ho he hf hs hl hp.1 hp.2
    · subst hm; exact s_setd G ho he hf hs hl hp.1 hp.2
  | [e, f], .cons c1 (.cons c2 (.cons _ _)), hm, ha, hc, hp => simp [okEs] at hc
  | _ :: _ :: _ :: r, cs, hm, _, _, _ => exfalso; cases m <;> simp [dmB] at hm
theorem s_biAny (G : Good I T n S X) {b : Bi} {l : List Expr} {cs : CEs} {p : Pos} (B : Bl I S (biS b)) (hni : ∀ ts, b ≠ .isi ts) (ha : PA X l (tEs X.K C cs)) (hp : plainEs l = true) (hl : l ≠ []) :
    PE X (.Call (.Name (biS b) p) l [] pos) (tE X.K C (.bi b cs)) := by
  cases l with
  | nil => exact absurd rfl hl
  | cons a l => exact s_bi G B hni ha hp
mutual
theorem snd_e : ∀ (c : CE) {S : Sx} {X : Cx} (G : Good I T n S X) {e : Expr}, okE I S c e = true → PE X e (tE X.K (callK T n) c) ∧ (tsE c e = true → PT X e (tT X.K (callK T n) c))
  | .var i, S, X, G, e, h => by
    unfold okE at h
    split at h
    · exact both (s_var G h) rfl
    · cases h
  | .cst p, S, X, G, e, h => by
    unfold okE at h
    split at h
    · exact both (s_cst h) rfl
    · cases h
  | .glob _ d, S, X, G, e, h => by
    unfold okE at h
    split at h
    · simp only [Bool.and_eq_true] at h
      obtain ⟨⟨h1, h3⟩, h2⟩ := h
      split at h2
      · rename_i p hp
        exact both (s_glob G h1 (by simpa using h3) hp h2) rfl
      · cases h2
    · cases h
  | .tup es, S, X, G, e, h => by
    unfold okE at h
    split at h
    · exact both (s_tup (snd_es es G h).pa) rfl
    · cases h
  | .lst m es, S, X, G, e, h => by
    unfold okE at h
    split at h
    · exact both (s_lst (snd_es es G h).pa) rfl
    · cases h
  | .dct m es, S, X, G, e, h => by
    unfold okE at h
    split at h
    · rename_i ks vs pos
      simp only [Bool.and_eq_true, decide_eq_true_eq] at h
      refine both ?_ rfl
      obtain ⟨h1, h2, h3⟩ := snd_d es G pos h.1
      cases ks with
      | nil =>
        cases vs with
        | nil =>
          have : es = .nil := by
            cases es with
            | nil => rfl
            | cons a b => cases b <;> simp [okD] at h
          subst this
          exact s_dct0
        | cons _ _ => simp at h3
      | cons k ks => exact s_dct h1 h2 h3 (by simp) fun h' => pe_disp h' h2 h3 (by simp) h.2
    · cases h
  | .lcopy m c, S, X, G, e, h => by
    unfold okE at h
    split at h
    · simp only [Bool.and_eq_true, beq_iff_eq] at h
      obtain ⟨⟨⟨rfl, h2⟩, h3⟩, h4⟩ := h
      exact both (s_lcopy G (Bl_of h2) (snd_e c G h4).1 h3) rfl
    · cases h
  | .lset c, S, X, G, e, h => by
    unfold okE at h
    split at h
    · simp only [Bool.and_eq_true, beq_iff_eq] at h
      obtain ⟨⟨⟨⟨⟨rfl, rfl⟩, h2⟩, h5⟩, h3⟩, h4⟩ := h
      exact both (s_lset G (Bl_of h2) (Bl_of h5) (snd_e c G h4).1 h3) rfl
    · cases h
  | .srt m c, S, X, G, e, h => by
    unfold okE at h
    split at h
    · simp only [Bool.and_eq_true, beq_iff_eq] at h
      obtain ⟨⟨⟨rfl, h2⟩, h3⟩, h4⟩ := h
      exact both (s_srt G (Bl_of h2) (snd_e c G h4).1 h3) rfl
    · cases h
  | .dcopy m c, S, X, G, e, h => by
    unfold okE at h
    split at h
    · simp only [Bool.and_eq_true, beq_iff_eq] at h
      obtain ⟨⟨⟨rfl, h2⟩, h3⟩, h4⟩ := h
      exact both (s_dcopy G (Bl_of h2) (snd_e c G h4).1 h3) rfl
    · cases h
  | .bin op c d, S, X, G, e, h => by
    unfold okE at h
    split at h
    · simp only [Bool.and_eq_true, decide_eq_true_eq] at h
      obtain ⟨⟨rfl, h2⟩, h3⟩ := h
      exact both (s_bin (snd_e c G h2).1 (snd_e d G h3).1) rfl
    · cases h
  | .cat c d, S, X, G, e, h => by
    unfold okE at h
    split at h
    · simp only [Bool.and_eq_true] at h
      exact both (s_cat (snd_e c G h.1).1 (snd_e d G h.2).1) rfl
    · cases h
  | .ninn c d, S, X, G, e, h => by
    unfold okE at h
    split at h
    · simp only [Bool.and_eq_true] at h
      exact ⟨s_ninn G (snd_e c G h.1.2).1 (snd_e d G h.2).1 (set_of h.1.1), fun _ => t_ninn G (snd_e c G h.1.2).1 (snd_e d G h.2).1 (set_of h.1.1)⟩
    · cases h
  | .nidx c d, S, X, G, e, h => by
    unfold okE at h
    split at h
    · simp only [Bool.and_eq_true] at h
      exact both (s_nidx G (snd_e c G h.1.2).1 (snd_e d G h.2).1 (nosl_of h.1.1)) rfl
    · cases h
  | .nget c d f, S, X, G, e, h => by
    unfold okE at h
    split at h
    · simp only [Bool.and_eq_true, beq_iff_eq] at h
      obtain ⟨⟨⟨⟨⟨⟨⟨rfl, h2⟩, h3⟩, h4⟩, h5⟩, h6⟩, h7⟩, h8⟩ := h
      exact both (s_nget G (snd_e c G h6).1 (snd_e d G h7).1 (snd_e f G h8).1 h2 h3 h4 h5) rfl
    · cases h
  | .stuck, S, X, G, e, h => ⟨⟨fun pins s σ H Q I hq => by
      obtain ⟨Z, M, st, δ, d, st', sr, er, ev, k⟩ := hq
      cases ev⟩, fun _ => ⟨fun pins s σ H Q I hq => by
      obtain ⟨Z, M, st, δ, d, st', sr, er, ev, k⟩ := hq
      cases ev⟩⟩
  | .dzip m c d, S, X, G, e, h => by
    unfold okE at h
    split at h
    · simp only [Bool.and_eq_true, beq_iff_eq] at h
      obtain ⟨⟨⟨⟨⟨⟨⟨rfl, rfl⟩, h2⟩, h3⟩, h4⟩, h5⟩, h6⟩, h7⟩ := h
      exact both (s_dzip G (Bl_of h2) (Bl_of h3) (snd_e c G h6).1 (snd_e d G h7).1 h4 h5) rfl
    · cases h
  | .lidx c d, S, X, G, e, h => by
    unfold okE at h
    split at h
    · simp only [Bool.and_eq_true, beq_iff_eq] at h
      obtain ⟨⟨⟨⟨⟨rfl, h2⟩, h3⟩, h4⟩, h6⟩, h7⟩ := h
      exact both (s_lidx G (snd_e c G h6).1 (snd_e d G h7).1 h2 h3 h4) rfl
    · cases h
  | .lcnt c d, S, X, G, e, h => by
    unfold okE at h
    split at h
    · simp only [Bool.and_eq_true, beq_iff_eq] at h
      obtain ⟨⟨⟨⟨⟨rfl, h2⟩, h3⟩, h4⟩, h6⟩, h7⟩ := h
      exact both (s_lcnt G (snd_e c G h6).1 (snd_e d G h7).1 h2 h3 h4) rfl
    · cases h
  | .rep c, S, X, G, e, h => by
    unfold okE at h
    split at h
    · simp only [Bool.and_eq_true, beq_iff_eq] at h
      obtain ⟨⟨⟨rfl, h2⟩, h3⟩, h4⟩ := h
      exact both (s_rep G (Bl_of h2) (snd_e c G h4).1 h3) rfl
    · cases h
  | .nupd c d, S, X, G, e, h => by
    unfold okE at h
    split at h
    · simp only [Bool.and_eq_true, beq_iff_eq] at h
      obtain ⟨⟨⟨⟨⟨rfl, h2⟩, h3⟩, h4⟩, h6⟩, h7⟩ := h
      exact both (s_nupd G (snd_e c G h6).1 (snd_e d G h7).1 h2 h3 h4) rfl
    · cases h
  | .sset m c, S, X, G, e, h => by
    unfold okE at h
    split at h
    · simp only [Bool.and_eq_true, beq_iff_eq] at h
      obtain ⟨⟨⟨⟨⟨rfl, rfl⟩, h2⟩, h5⟩, h3⟩, h4⟩ := h
      exact both (s_sset G (Bl_of h2) (Bl_of h5) (snd_e c G h4).1 h3) rfl
    · cases h
  | .ksrt m c, S, X, G, e, h => by
    unfold okE at h
    split at h
    · simp only [Bool.and_eq_true, beq_iff_eq] at h
      obtain ⟨⟨⟨rfl, h2⟩, h3⟩, h4⟩ := h
      exact both (s_ksrt G (Bl_of h2) (snd_e c G h4).1 h3) rfl
    · cases h
  | .ncopy c, S, X, G, e, h => by
    unfold okE at h
    split at h
    · simp only [Bool.and_eq_true, beq_iff_eq] at h
      obtain ⟨⟨⟨rfl, h2⟩, h3⟩, h4⟩ := h
      exact both (s_ncopy G (Bl_of h2) (snd_e c G h4).1 h3) rfl
    · cases h
  | .neg c, S, X, G, e, h => by
    unfold okE at h
    split at h
    · exact both (s_neg (snd_e c G h).1) rfl
    · cases h
  | .cmp op c d, S, X, G, e, h => by
    unfold okE at h
    split at h
    · simp only [Bool.and_eq_true, decide_eq_true_eq] at h
      obtain ⟨⟨⟨rfl, h2⟩, h3⟩, h4⟩ := h
      have a := (snd_e c G h3).1
      have b := (snd_e d G h4).1
      exact ⟨s_cmp G a b h2, fun _ => t_cmp G a b h2⟩
    · cases h
  | .chain op op' c d f, S, X, G, e, h => by
    unfold okE at h
    split at h
    · simp only [Bool.and_eq_true, decide_eq_true_eq] at h
      obtain ⟨⟨⟨⟨⟨rfl, rfl⟩, h2⟩, h3⟩, h4⟩, h5⟩ := h
      have a := (snd_e c G h3).1
      have b := (snd_e d G h4).1
      have g := (snd_e f G h5).1
      exact ⟨s_chain G a b g h2, fun _ => t_chain G a b g h2⟩
    · cases h
  | .and es, S, X, G, e, h => by
    unfold okE at h
    split at h
    · rename_i l pos
      simp only [Bool.and_eq_true, Bool.not_eq_true', List.isEmpty_eq_false_iff] at h
      have := (snd_es es G h.1).an h.2 pos
      exact ⟨s_and this.1, fun t => t_and (this.2 (by simpa [tsE] using t))⟩
    · cases h
  | .or es, S, X, G, e, h => by
    unfold okE at h
    split at h
    · rename_i l pos
      simp only [Bool.and_eq_true, Bool.not_eq_true', List.isEmpty_eq_false_iff] at h
      have := (snd_es es G h.1).og h.2 pos
      exact ⟨s_or this.1, fun t => t_or (this.2 (by simpa [tsE] using t))⟩
    · cases h
  | .not c, S, X, G, e, h => by
    unfold okE at h
    split at h
    · have a := snd_e c G h
      exact ⟨s_not a.1, fun t => t_not (a.2 (by simpa [tsE] using t))⟩
    · cases h
  | .ife c d f, S, X, G, e, h => by
    unfold okE at h
    split at h
    · simp only [Bool.and_eq_true] at h
      obtain ⟨⟨⟨h1, h2⟩, h3⟩, h4⟩ := h
      exact both (s_ife ((snd_e c G h1).2 h2) (snd_e d G h3).1 (snd_e f G h4).1) rfl
    · cases h
  | .idx c d, S, X, G, e, h => by
    unfold okE at h
    split at h
    · simp only [Bool.and_eq_true] at h
      exact both (s_idx G (snd_e c G h.1.2).1 (snd_e d G h.2).1 h.1.1) rfl
    · cases h
  | .sl c lo hi, S, X, G, e, h => by
    unfold okE at h
    split at h
    · simp only [Bool.and_eq_true] at h
      exact both (s_sl (snd_e c G h.1.1).1 (snd_o lo G h.1.2) (snd_o hi G h.2)) rfl
    · cases h
  | .rev c, S, X, G, e, h => by
    unfold okE at h
    split at h
    · exact both (s_rev (snd_e c G h).1) rfl
    · cases h
  | .call f es, S, X, G, e, h => by
    unfold okE at h
    split at h
    · simp only [Bool.and_eq_true, beq_iff_eq] at h
      obtain ⟨⟨⟨⟨h1, h2⟩, h3⟩, h4⟩, h5⟩ := h
      exact both (s_callAny G (snd_es es G h5).pa (okEs_nil h5) h1 h2 h3 h4) rfl
    · cases h
  | .bi b es, S, X, G, e, h => by
    unfold okE at h
    split at h
    · split at h
      · simp only [Bool.and_eq_true, beq_iff_eq] at h
        obtain ⟨⟨⟨⟨⟨rfl, h2⟩, rfl⟩, h4⟩, h5⟩, h6⟩ := h
        obtain ⟨c, rfl, hc⟩ := snd_1 es G h6
        exact both (s_isi1 G (Bl_of h2) (Bl_of h4) hc h5) rfl
      · simp only [Bool.and_eq_true, beq_iff_eq, decide_eq_true_eq, List.all_eq_true] at h
        obtain ⟨⟨⟨⟨⟨⟨rfl, h2⟩, h3⟩, h4⟩, h5⟩, h6⟩, h7⟩ := h
        obtain ⟨c, rfl, hc⟩ := snd_1 es G h7
        exact both (s_isiN G (Bl_of h2) (fun t m => Bl_of (h4 t m)) h3 h5 hc h6) rfl
      · simp only [Bool.and_eq_true, beq_iff_eq, Bool.not_eq_true', List.isEmpty_eq_false_iff] at h
        obtain ⟨⟨⟨⟨⟨h1, rfl⟩, h3⟩, h4⟩, h5⟩, h6⟩ := h
        exact both (s_biAny G (Bl_of h3) (fun ts e => by subst e; simp [isIsi] at h1) (snd_es es G h6).pa h4 h5) rfl
    · cases h
  | .meth m c es, S, X, G, e, h => by
    unfold okE at h
    split at h
    · simp only [Bool.and_eq_true, Bool.or_eq_true] at h
      obtain ⟨⟨⟨⟨⟨h1, h2⟩, h3⟩, h4⟩, h5⟩, h6⟩ := h
      have a := (snd_e c G h5).1
      have b := snd_es es G h6
      rcases h1 with h1 | h1
      · exact both (s_lmAny G h1 a b.pa (okEs_nil h6) h2 h3 h4) rfl
      · exact both (s_dmAny G h1 a h6 b h2 h3 h4) rfl
    · cases h
  | .comp m elt tg src ifc own, S, X, G, e, h => by
    unfold okE at h
    split at h
    · split at h
      · simp only [Bool.and_eq_true] at h
        obtain ⟨⟨⟨⟨⟨⟨h1, h2⟩, h3⟩, h4⟩, h5⟩, h6⟩, h7⟩ := h
        refine both (PE.weak (pe_lc (g := tG X.K tg) (te := tE X.K (callK T n) elt) (tt := tI1 X.K (callK T n) ifc) G.calm (by rw [G.N]; exact G.nd) (snd_i src G h5) (blkOk_by (by rw [G.N, G.sc]; exact h1))
          (fun s H A cl fp => g_ok (Good.blk G) h2) (fun s H A cl fp => ?_) (fun s H A cl fp => (snd_e elt (Good.blk G) h6).1) (fs_of h4)) fun σ H Q hq => ?_) rfl
        · split at h7
          · cases ifc with
            | none => exact pts_nil
            | some c => simp [okN] at h7
          · exact pts_one (snd_f ifc (Good.blk G) h7)
          · cases h7
        · rw [ownB_ok (by assumption)]
          exact lc_read (own_in h3) hq
      · cases h
    · cases h
  | .kcomp m elt tg src ifc own, S, X, G, e, h => by
    unfold okE at h
    split at h
    · split at h
      · simp only [Bool.and_eq_true] at h
        obtain ⟨⟨⟨⟨⟨⟨h1, h2⟩, h3⟩, h4⟩, h5⟩, h6⟩, h7⟩ := h
        refine both (PE.weak (pe_unl (pe_lc (g := tG X.K tg) (te := tE X.K (callK T n) elt) (tt := tI1 X.K (callK T n) ifc) G.calm (by rw [G.N]; exact G.nd) (pi_keysL (snd_e src G h5).1) (blkOk_by (by rw [G.N, G.sc]; exact h1))
          (fun s H A cl fp => g_ok (Good.blk G) h2) (fun s H A cl fp => ?_) (fun s H A cl fp => (snd_e elt (Good.blk G) h6).1) (fs_of h4))) fun σ H Q hq => ?_) rfl
        · split at h7
          · cases ifc with
            | none => exact pts_nil
            | some c => simp [okN] at h7
          · exact pts_one (snd_f ifc (Good.blk G) h7)
          · cases h7
        · rw [ownB_ok (by assumption)]
          exact kc_read (own_in h3) hq
      · cases h
    · cases h
  | .frz c, S, X, G, e, h => by
    unfold okE at h
    exact both (s_frz (snd_e c G h).1) rfl
theorem snd_1 : ∀ (c : CEs) {S : Sx} {X : Cx} (G : Good I T n S X) {e : Expr}, okI1 I S c e = true → ∃ k, c = .cons k .nil ∧ PE X e (tE X.K (callK T n) k)
  | .nil, S, X, G, e, h => by simp [okI1] at h
  | .cons c .nil, S, X, G, e, h => by
    unfold okI1 at h
    exact ⟨c, rfl, (snd_e c G h).1⟩
  | .cons _ (.cons _ _), S, X, G, e, h => by simp [okI1] at h
theorem snd_es : ∀ (c : CEs) {S : Sx} {X : Cx} (G : Good I T n S X) {e : List Expr}, okEs I S c e = true → ESnd X (callK T n) c e
  | .nil, S, X, G, e, h => by
    unfold okEs at h
    split at h
    · exact es_nil
    · cases h
  | .cons c cs, S, X, G, e, h => by
    unfold okEs at h
    split at h
    · simp only [Bool.and_eq_true] at h
      exact es_cons (snd_e c G h.1.2) (snd_es cs G h.2) h.1.1 (okEs_nil h.2)
    · cases h
theorem snd_d : ∀ (c : CEs) {S : Sx} {X : Cx} (G : Good I T n S X) {ks : List (Option Expr)} {vs : List Expr} (pos : Pos), okD I S c ks vs = true → PPs X pos ks vs (trsOf X.K (callK T n) c) ∧ ks.all (·.isSome) = true ∧ ks.length = vs.length
  | .nil, S, X, G, ks, vs, pos, h => by
    unfold okD at h
    split at h
    · exact ⟨pps_nil, rfl, rfl⟩
    · cases h
  | .cons ck (.cons cv cs), S, X, G, ks, vs, pos, h => by
    unfold okD at h
    split at h
    · simp only [Bool.and_eq_true] at h
      obtain ⟨h1, h2, h3⟩ := snd_d cs G pos h.2
      exact ⟨pps_cons (snd_e ck G h.1.1).1 (snd_e cv G h.1.2).1 h1, by simpa using h2, by simp [h3]⟩
    · cases h
  | .cons _ .nil, S, X, G, ks, vs, pos, h => by simp [okD] at h
theorem snd_o : ∀ (c : CO) {S : Sx} {X : Cx} (G : Good I T n S X) {e : Option Expr}, okO I S c e = true → PO X e (tO X.K (callK T n) c)
  | .none, S, X, G, e, h => by
    unfold okO at h
    cases e with
    | none => exact s_oNone
    | some _ => cases h
  | .some c, S, X, G, e, h => by
    unfold okO at h
    split at h
    · exact s_oSome (snd_e c G h).1
    · cases h
theorem snd_f : ∀ (c : CO) {S : Sx} {X : Cx} (G : Good I T n S X) {e : Expr}, okF I S c e = true → PT X e (tI1 X.K (callK T n) c)
  | .none, S, X, G, e, h => by simp [okF] at h
  | .some c, S, X, G, e, h => by
    unfold okF at h
    simp only [Bool.and_eq_true] at h
    exact (snd_e c G h.1).2 h.2
theorem snd_i : ∀ (c : CI) {S : Sx} {X : Cx} (G : Good I T n S X) {t e : Expr}, okI I S c t e = true → PI X t e (tI X.K (callK T n) c)
  | .val c, S, X, G, t, e, h => by
    unfold okI at h
    exact i_val (snd_e c G h).1
  | .keys _, S, X, G, t, e, h => by simp [okI] at h
  | .items _, S, X, G, t, e, h => by simp [okI] at h
  | .rng1 c, S, X, G, t, e, h => by
    unfold okI at h
    split at h
    · simp only [Bool.and_eq_true, beq_iff_eq] at h
      obtain ⟨⟨⟨rfl, h2⟩, h3⟩, h4⟩ := h
      simp only [blB, Bool.and_eq_true] at h2
      exact i_rng1 G h2.1.2 h2.1.1 h3 (snd_e c G h4).1
    · cases h
  | .rng2 c d, S, X, G, t, e, h => by
    unfold okI at h
    split at h
    · simp only [Bool.and_eq_true, beq_iff_eq] at h
      obtain ⟨⟨⟨⟨⟨rfl, h2⟩, h3⟩, h4⟩, h5⟩, h6⟩ := h
      simp only [blB, Bool.and_eq_true] at h2
      exact i_rng2 G h2.1.2 h2.1.1 h3 h4 (snd_e c G h5).1 (snd_e d G h6).1
    · cases h
  | .enum c, S, X, G, t, e, h => by
    unfold okI at h
    split at h
    · simp only [Bool.and_eq_true, beq_iff_eq] at h
      obtain ⟨⟨⟨rfl, h2⟩, h3⟩, h4⟩ := h
      simp only [blB, Bool.and_eq_true] at h2
      exact i_enum G h2.1.2 h2.1.1 h3 (snd_e c G h4).1
    · cases h
  | .zip c d, S, X, G, t, e, h => by
    unfold okI at h
    split at h
    · simp only [Bool.and_eq_true, beq_iff_eq] at h
      obtain ⟨⟨⟨⟨⟨rfl, h2⟩, h3⟩, h4⟩, h5⟩, h6⟩ := h
      simp only [blB, Bool.and_eq_true] at h2
      exact i_zip G h2.1.2 h2.1.1 h3 h4 (snd_e c G h5).1 (snd_e d G h6).1
    · cases h
end
end
end NH
namespace NH
variable [W : TheW]
open PySem L2
def lineNm (sc : Scope) (l : Nat) : Expr → Option Str
  | .Name id pos => if sc.names.lookup id == some .local && pos.line == l then some id else none
  | _ => none
def isStar : Expr → Bool
  | .Starred .. => true
  | _ => false
def farB (sc : Scope) (ts vs : List Expr) : Bool := !(ts.length == 2 || ts.length == 3) || vs.length != ts.length || (if sc.kind.isAnnotationScope then ScopeKind.function else sc.kind) != .function
def swp (sc : Scope) (ts : List Expr) (value : Expr) : Option (Option (List Str)) :=
  match value with
  | .Tuple vs _ _ =>
    if farB sc ts vs then some none
    else if vs.any isStar then some none
    else
      let names := ts.filterMap (lineNm sc ((ts.head?.map (·.pos.line)).getD 0))
      if names.length != ts.length || names.eraseDups.length != names.length then some none
      else if vs.all (foldedForSure 8) then some none
      else if vs.all (constantsAlone 8) then none
      else some (some names)
  | _ => some none
theorem swp_of {ts : List Expr} {k : Nat} {p : Pos} {value : Expr} {env : PySem.Env} {r : Option (List Str)} (h : swp env.scope ts value = some r) : swappedStores [.Tuple ts k p] value env = pure r := by
  have hst : (fun e : Expr => match e with | .Starred .. => true | _ => false) = isStar := rfl
  have hnm : (fun e : Expr => match e with
    | .Name id pos => if env.kindOf id == some .local && pos.line == ((ts.head?.map (·.pos.line)).getD 0) then some id else none
    | _ => none) = lineNm env.scope ((ts.head?.map (·.pos.line)).getD 0) := by
    funext e
    cases e <;> rfl
  unfold swp at h
  split at h
  · rename_i vs k2 p2
    have hb : (!(ts.length == 2 || ts.length == 3) || vs.length != ts.length || env.blockKind != .function) = farB env.scope ts vs := rfl
    unfold swappedStores
    dsimp only
    rw [hb]
    erw [hst]
    split at h
    · rename_i h1
      cases h
      rw [if_pos h1]
    · rename_i h1
      rw [if_neg h1]
      split at h
      · rename_i h2
        cases h
        rw [if_pos h2]
      · rename_i h2
        rw [if_neg h2]
        dsimp only at h
        erw [hnm]
        split at h
        · rename_i h3
          cases h
          rw [if_pos h3]
        · rename_i h3
          rw [if_neg h3]
          split at h
          · rename_i h4
            cases h
            rw [if_pos h4]
          · rename_i h4
            rw [if_neg h4]
            split at h
            · cases h
            · rename_i h5
              cases h
              rw [if_neg h5]
  · rename_i hne
    cases h
    unfold swappedStores
    cases value <;> first | rfl | exact absurd rfl (hne _ _ _)
def okPar (sc : Scope) (N : List Str) (i j : Nat) (ts : List Expr) (v : Expr) : Bool := match ts with
  | [.Name x _, .Name y _] => (N[i]? == some x) && (N[j]? == some y) && (i != j) && (sc.names.lookup x == some .local) && (sc.names.lookup y == some .local) && (swp sc ts v == some (some [x, y]))
  | _ => false
def isFunB (sc : Scope) : Bool := match sc.kind with
  | .function => true
  | _ => false
def okLc (sc : Scope) (y : Str) (py : Pos) (e : Expr) : Bool := match e with
  | .ListComp _ _ scope pos => isFunB sc && (sc.names.lookup y == some .local) && (py.line == pos.line) && !(scope.names.any fun (n, k) => n == y && (k == .local || k == .cell))
  | _ => false
def swF (sc : Scope) (x : Str) (py : Pos) (e : Expr) : Bool := match e with
  | .ListComp _ _ scope pos => !(((if sc.kind.isAnnotationScope then ScopeKind.function else sc.kind) == .function) && (sc.names.lookup x == some .local) && (py.line == pos.line) && !(scope.names.any fun (n, k) => n == x && (k == .local || k == .cell)))
  | _ => false
theorem swF_of {x : Str} {py : Pos} {e : Expr} {l : Nat} {env : PySem.Env} (h : swF env.scope x py e = true) : swapsWith e (some (.Name x py)) l env = pure false := by
  unfold swF at h
  split at h
  · rename_i scope pos
    have hb : (env.blockKind == .function && env.kindOf x == some .local && py.line == pos.line && !(scope.names.any fun (n, k) => n == x && (k == .local || k == .cell))) = false := by
      rw [Bool.not_eq_true'] at h
      exact h
    unfold swapsWith
    dsimp only [Expr.pos]
    rw [hb]
  · cases h
def isComp : CE → Bool
  | .comp .. => true
  | _ => false
mutual
def okS (I : Inf) (S : Sx) : CS → Stmt → Bool
  | .expr c, s => match s with
    | .Expr e _ => okE I S c e && nsw e
    | _ => false
  | .ret c, s => match s with
    | .Return (some e) _ => okE I S c e
    | _ => false
  | .retN, s => match s with
    | .Return none _ => true
    | _ => false
  | .asg t c, s => match t, s with
    | .nm i, .Assign [.Name x py] e _ => okE I S c e && tgtB S i x && (nsw e || swF S.sc x py e || (isComp c && okLc S.sc x py e))
    | .tup ts, .Assign [.Tuple l _ _] e _ => okE I S c e && okTs S ts l && (swp S.sc l e == some none)
    | _, _ => false
  | .par i j c d, s => match s with
    | .Assign [.Tuple l _ _] (.Tuple [a, b] k2 p2) _ => okPar S.sc S.N i j l (.Tuple [a, b] k2 p2) && starB a && starB b && okE I S c a && okE I S d b
    | _ => false
  | .sub c d f, s => match s with
    | .Assign [.Subscript o i _] e _ => notSl i && okE I S c o && okE I S d i && okE I S f e
    | _ => false
  | .stuck, _ => true
  | .nset c d f, s => match s with
    | .Assign [.Subscript o i _] e _ => okE I S c o && okE I S d i && okE I S f e
    | _ => false
  | .aug i op c, s => match s with
    | .AugAssign (.Name x _) o e _ => augB op o && tgtB S i x && okE I S c e
    | _ => false
  | .ife c xs ys, s => match s with
    | .If e p q _ => okE I S c e && tsE c e && okSs I S xs p && okSs I S ys q
    | _ => false
  | .forr t src b, s => match s with
    | .For tg it body [] _ => okI I S src tg it && okT S t tg && fsB it && okSs I S b body
    | _ => false
  | .kfor t c b, s => match s with
    | .For tg it body [] _ => okE I S c it && okT S t tg && fsB it && okSs I S b body
    | _ => false
  | .whil c b, s => match s with
    | .While e body [] _ => okE I S c e && tsE c e && okSs I S b body
    | _ => false
  | .brk, s => match s with
    | .Break _ => true
    | _ => false
  | .cont, s => match s with
    | .Continue _ => true
    | _ => false
  | .pass, s => match s with
    | .Pass _ => true
    | _ => false
def okSs (I : Inf) (S : Sx) : CSs → List Stmt → Bool
  | .nil, l => l.isEmpty
  | .cons c cs, l => match l with
    | s :: l => okS I S c s && okSs I S cs l
    | [] => false
end
section
variable {I : Inf} {T : Nat → Option Fn} {n : Nat}
theorem s_setLc {S : Sx} {X : Cx} (G : Good I T n S X) {i : Nat} {x : Str} {py pos : Pos} {e : Expr} {c : CE} (h : okE I S c e = true) (ht : tgtB S i x = true) (hk : isComp c = true) (hl : okLc S.sc x py e = true) : PS X (.Assign [.Name x py] e pos) (tS X.K (callK T n) (.asg (.nm i) c)) := by
  obtain ⟨g1, g2, g3⟩ := tgt_of G ht
  have hc := h
  unfold okLc at hl
  split at hl
  · rename_i scope _
    simp only [Bool.and_eq_true, beq_iff_eq, Bool.not_eq_true'] at hl
    obtain ⟨⟨⟨l1, l2⟩, l3⟩, l4⟩ := hl
    have lk : S.sc.kind = .function := by
      unfold isFunB at l1
      split at l1
      · assumption
      · cases l1
    cases c with
    | comp m elt tg src ifc own =>
      unfold okE at h
      split at h
      · rename_i heq
        cases heq
        split at h
        · simp only [Bool.and_eq_true] at h
          obtain ⟨⟨⟨⟨⟨⟨h1, h2⟩, h3⟩, h4⟩, h5⟩, h6⟩, h7⟩ := h
          refine PS.weak (ps_setLc (g := tG X.K tg) (te := tE X.K (callK T n) elt) (tt := tI1 X.K (callK T n) ifc) G.calm (by rw [G.N]; exact G.nd) g1 (by rw [G.sc]; exact l2) (sw_true (by rw [G.sc]; exact lk) (by rw [G.sc]; exact l2) (by simp [l3]) l4) (snd_i src G h5) (blkOk_by (by rw [G.N, G.sc]; exact h1))
            (fun s H A cl fp => g_ok (Good.blk G) h2) (fun s H A cl fp => ?_) (fun s H A cl fp => (snd_e elt (Good.blk G) h6).1) (fs_of h4)) fun D σ H hq => ?_
          · split at h7
            · cases ifc with
              | none => exact pts_nil
              | some c => simp [okN] at h7
            · exact pts_one (snd_f ifc (Good.blk G) h7)
            · cases h7
          · rw [ownB_ok (by assumption)]
            exact lc_read (own_in h3) (set_read hq)
        · cases h
      · cases h
    | _ => cases hk
  · cases hl
mutual
theorem snd_s : ∀ (c : CS) {S : Sx} {X : Cx} (G : Good I T n S X) {s : Stmt}, okS I S c s = true → PS X s (tS X.K (callK T n) c)
  | .expr c, S, X, G, s, h => by
    unfold okS at h
    split at h
    · simp only [Bool.and_eq_true] at h
      exact s_expr (snd_e c G h.1).1 h.2
    · cases h
  | .ret c, S, X, G, s, h => by
    unfold okS at h
    split at h
    · exact s_ret (snd_e c G h).1
    · cases h
  | .retN, S, X, G, s, h => by
    unfold okS at h
    split at h
    · exact s_retN
    · cases h
  | .asg t c, S, X, G, s, h => by
    unfold okS at h
    split at h
    · simp only [Bool.and_eq_true, Bool.or_eq_true] at h
      obtain ⟨⟨h1, h2⟩, h3⟩ := h
      rcases h3 with (h3 | h3) | h3
      · exact s_set G (snd_e c G h1).1 h3 h2
      · obtain ⟨g1, g2, g3⟩ := tgt_of G h2
        exact PS.weak (ps_set (by rw [G.N]; exact G.nd) g1 g2 (snd_e c G h1).1 (swF_of (by rw [G.sc]; exact h3)) g3) fun D σ H h => set_read h
      · exact s_setLc G h1 h2 h3.1 h3.2
    · simp only [Bool.and_eq_true, beq_iff_eq] at h
      obtain ⟨⟨h1, h2⟩, h3⟩ := h
      exact s_asgT G (snd_e c G h1).1 h2 (swp_of (by rw [G.sc]; exact h3))
    · cases h
  | .par i j c d, S, X, G, s, h => by
    unfold okS at h
    split at h
    · rename_i l _ _ _ _ _ _ _
      simp only [Bool.and_eq_true] at h
      obtain ⟨⟨⟨⟨h1, h2⟩, h3⟩, h4⟩, h5⟩ := h
      unfold okPar at h1
      split at h1
      · simp only [Bool.and_eq_true, beq_iff_eq, bne_iff_ne, ne_eq] at h1
        obtain ⟨⟨⟨⟨⟨a1, a2⟩, a3⟩, a4⟩, a5⟩, a6⟩ := h1
        exact s_par G (snd_e c G h4).1 (snd_e d G h5).1 h2 h3 a1 a2 a3 a4 a5 (swp_of (by rw [G.sc]; exact a6))
      · cases h1
    · cases h
  | .sub c d f, S, X, G, s, h => by
    unfold okS at h
    split at h
    · simp only [Bool.and_eq_true] at h
      obtain ⟨⟨⟨h1, h2⟩, h3⟩, h4⟩ := h
      exact s_sub G (snd_e c G h2).1 (snd_e d G h3).1 (snd_e f G h4).1 h1
    · cases h
  | .stuck, S, X, G, s, h => ⟨fun pins s σ H D I hq => by
      obtain ⟨Z, M, st, δ, f, δ', st', sr, er, ev, k⟩ := hq
      cases ev⟩
  | .nset c d f, S, X, G, s, h => by
    unfold okS at h
    split at h
    · simp only [Bool.and_eq_true] at h
      obtain ⟨⟨h2, h3⟩, h4⟩ := h
      exact s_nset G (snd_e c G h2).1 (snd_e d G h3).1 (snd_e f G h4).1
    · cases h
  | .aug i op c, S, X, G, s, h => by
    unfold okS at h
    split at h
    · simp only [Bool.and_eq_true] at h
      exact s_aug G h.1.1 h.1.2 (snd_e c G h.2).1
    · cases h
  | .ife c xs ys, S, X, G, s, h => by
    unfold okS at h
    split at h
    · simp only [Bool.and_eq_true] at h
      obtain ⟨⟨⟨h1, h2⟩, h3⟩, h4⟩ := h
      exact s_if ((snd_e c G h1).2 h2) (snd_ss xs G h3) (snd_ss ys G h4)
    · cases h
  | .forr t src b, S, X, G, s, h => by
    unfold okS at h
    split at h
    · simp only [Bool.and_eq_true] at h
      obtain ⟨⟨⟨h1, h2⟩, h3⟩, h4⟩ := h
      exact s_for G (snd_i src G h1) h2 (snd_ss b G h4) h3
    · cases h
  | .kfor t c b, S, X, G, s, h => by
    unfold okS at h
    split at h
    · simp only [Bool.and_eq_true] at h
      obtain ⟨⟨⟨h1, h2⟩, h3⟩, h4⟩ := h
      exact s_kfor G (snd_e c G h1).1 h2 (snd_ss b G h4) h3
    · cases h
  | .whil c b, S, X, G, s, h => by
    unfold okS at h
    split at h
    · simp only [Bool.and_eq_true] at h
      exact s_while G ((snd_e c G h.1.1).2 h.1.2) (snd_ss b G h.2)
    · cases h
  | .brk, S, X, G, s, h => by
    unfold okS at h
    split at h
    · exact s_brk
    · cases h
  | .cont, S, X, G, s, h => by
    unfold okS at h
    split at h
    · exact s_cont
    · cases h
  | .pass, S, X, G, s, h => by
    unfold okS at h
    split at h
    · exact s_pass
    · cases h
theorem snd_ss : ∀ (c : CSs) {S : Sx} {X : Cx} (G : Good I T n S X) {s : List Stmt}, okSs I S c s = true → PSs X s (tSs X.K (callK T n) c)
  | .nil, S, X, G, s, h => by
    unfold okSs at h
    cases s with
    | nil => exact ss_nil
    | cons _ _ => cases h
  | .cons c cs, S, X, G, s, h => by
    unfold okSs at h
    split at h
    · simp only [Bool.and_eq_true] at h
      exact ss_cons (snd_s c G h.1) (snd_ss cs G h.2)
    · cases h
end
end
end NH
namespace NH
open PySem L2
section
variable [W : TheW]
variable {K : PySem.W.Frag} {Z : Addr → Prop} {M M2 : List Addr} {st st2 : Store} {H H2 : Hp} {a : Addr}
theorem take_some {α : Type} {l : List α} {n k : Nat} {x : α} (h : (l.take n)[k]? = some x) : l[k]? = some x ∧ k < n := by
  rw [List.getElem?_take] at h
  split at h
  · exact ⟨h, by assumption⟩
  · cases h
theorem Mu.tk {n : Nat} (m : Mu Z (M2.take n) (st2.take n) a) : Mu Z M2 st2 a := by
  rcases m with m | ⟨k, o, h1, h2, h3⟩
  · exact .inl m
  · exact .inr ⟨k, o, (take_some h1).1, (take_some h2).1, h3⟩
theorem Frm.tk (sr : SRel Z M st H) (f : Frm Z M st H M2 st2 H2) : Frm Z M st H (M2.take st.length) (st2.take st.length) H2 where
  pre := fun k a h => by
    have hk : k < st.length := by rw [← sr.len]; exact (List.getElem?_eq_some_iff.mp h).1
    rw [List.getElem?_take, if_pos hk]; exact f.pre k a h
  keep := fun a o h n => ⟨(f.keep a o h n).1, fun m => (f.keep a o h n).2 m.tk⟩
  stay := f.stay
  frz := f.frz
  hid := f.hid
  lk := fun k l h => by
    have hk : k < st.length := (List.getElem?_eq_some_iff.mp h).1
    rw [List.getElem?_take, if_pos hk]; exact f.lk k l h
theorem SRel.tk (n : Nat) (s2 : SRel Z M2 st2 H2) : SRel Z (M2.take n) (st2.take n) H2 where
  len := by rw [List.length_take, List.length_take, s2.len]
  nd := s2.nd.sublist (List.take_sublist _ _)
  trk := fun a h => s2.trk a (List.mem_of_mem_take h)
  hid := fun a h => ⟨(s2.hid a h).1, fun m => (s2.hid a h).2 (List.mem_of_mem_take m)⟩
  obj := fun k a o h1 h2 => (s2.obj k a o (take_some h1).1 (take_some h2).1).mono (fun a o h n => ⟨h, fun m => n m.tk⟩) fun o h => h
theorem RelP.tk {n : Nat} {p : P} {v : V} (r : RelP (Mu Z M2 st2) H2 p v) : RelP (Mu Z (M2.take n) (st2.take n)) H2 p v := RelP.mono (fun a o h n => ⟨h, fun m => n m.tk⟩) p v r
theorem Mu.ex {n k : Nat} {ob : MO} {b : Addr} (s2 : SRel Z M2 st2 H2) (h1 : M2[k]? = some a) (h2 : st2[k]? = some ob) (m : Mu Z (M2.take n ++ [a]) (st2.take n ++ [ob]) b) : Mu Z M2 st2 b := by
  rcases m with m | ⟨j, o, g1, g2, g3⟩
  · exact .inl m
  · have hl : (M2.take n).length = (st2.take n).length := by rw [List.length_take, List.length_take, s2.len]
    by_cases hj : j < (M2.take n).length
    · rw [List.getElem?_append_left hj] at g1
      rw [List.getElem?_append_left (by rw [← hl]; exact hj)] at g2
      exact .inr ⟨j, o, (take_some g1).1, (take_some g2).1, g3⟩
    · rw [List.getElem?_append_right (by omega)] at g1
      rw [List.getElem?_append_right (by omega), ← hl] at g2
      have hz : j - (M2.take n).length = 0 := by
        have := (List.getElem?_eq_some_iff.mp g1).1
        rw [List.length_singleton] at this; omega
      rw [hz] at g1 g2
      simp at g1 g2
      subst g1 g2
      exact .inr ⟨k, _, h1, h2, g3⟩
theorem Frm.ex {k : Nat} {ob : MO} (sr : SRel Z M st H) (s2 : SRel Z M2 st2 H2) (f : Frm Z M st H M2 st2 H2) (h1 : M2[k]? = some a) (h2 : st2[k]? = some ob) : Frm Z M st H (M2.take st.length ++ [a]) (st2.take st.length ++ [ob]) H2 where
  pre := fun k a h => by
    have g := (Frm.tk sr f).pre k a h
    rw [List.getElem?_append_left (List.getElem?_eq_some_iff.mp g).1]; exact g
  keep := fun a o h n => ⟨(f.keep a o h n).1, fun m => (f.keep a o h n).2 (m.ex s2 h1 h2)⟩
  stay := f.stay
  frz := f.frz
  hid := f.hid
  lk := fun k l h => by
    have g := (Frm.tk sr f).lk k l h
    rw [List.getElem?_append_left (List.getElem?_eq_some_iff.mp g).1]; exact g
theorem SRel.ex {k n : Nat} {ob : MO} (s2 : SRel Z M2 st2 H2) (hk : n ≤ k) (h1 : M2[k]? = some a) (h2 : st2[k]? = some ob) : SRel Z (M2.take n ++ [a]) (st2.take n ++ [ob]) H2 where
  len := by simp [s2.len]
  nd := by
    rw [List.nodup_append]
    refine ⟨s2.nd.sublist (List.take_sublist _ _), by simp, fun x hx y hy => ?_⟩
    have : y = a := by simpa using hy
    subst this
    intro e
    subst e
    obtain ⟨j, hj⟩ := List.mem_iff_getElem?.mp hx
    obtain ⟨j1, j2⟩ := take_some hj
    have := ix_inj s2.nd j1 h1
    omega
  trk := fun b h => by
    rcases List.mem_append.mp h with h | h
    · exact s2.trk b (List.mem_of_mem_take h)
    · have : b = a := by simpa using h
      subst this
      exact s2.trk b (List.mem_of_getElem? h1)
  hid := fun b h => ⟨(s2.hid b h).1, fun m => by
    rcases List.mem_append.mp m with m | m
    · exact (s2.hid b h).2 (List.mem_of_mem_take m)
    · have : b = a := by simpa using m
      subst this
      exact (s2.hid b h).2 (List.mem_of_getElem? h1)⟩
  obj := fun j b o g1 g2 => by
    have hl : (M2.take n).length = (st2.take n).length := by rw [List.length_take, List.length_take, s2.len]
    have : M2[j]? = some b ∧ st2[j]? = some o ∨ b = a ∧ o = ob := by
      by_cases hj : j < (M2.take n).length
      · rw [List.getElem?_append_left hj] at g1
        rw [List.getElem?_append_left (by rw [← hl]; exact hj)] at g2
        exact .inl ⟨(take_some g1).1, (take_some g2).1⟩
      · rw [List.getElem?_append_right (by omega)] at g1
        rw [List.getElem?_append_right (by omega), ← hl] at g2
        have hz : j - (M2.take n).length = 0 := by
          have := (List.getElem?_eq_some_iff.mp g1).1
          rw [List.length_singleton] at this; omega
        rw [hz] at g1 g2
        simp at g1 g2
        exact .inr ⟨g1.symm, g2.symm⟩
    rcases this with ⟨e1, e2⟩ | ⟨rfl, rfl⟩
    · exact (s2.obj j b o e1 e2).mono (fun c u h n => ⟨h, fun m => n (m.ex s2 h1 h2)⟩) fun u h => h
    · exact (s2.obj k _ _ h1 h2).mono (fun c u h n => ⟨h, fun m => n (m.ex s2 h1 h2)⟩) fun u h => h
theorem export_ok {d d' : D} {st' : Store} {v : V} (sr : SRel Z M st H) (f : Frm Z M st H M2 st2 H2) (s2 : SRel Z M2 st2 H2) (r : RelD K Z M2 st2 H2 d v) (h : exportD st.length st2 d = .ok d' st') :
    ∃ M', Frm Z M st H M' st' H2 ∧ SRel Z M' st' H2 ∧ RelD K Z M' st' H2 d' v := by
  cases d with
  | p p => cases h; exact ⟨_, f.tk sr, s2.tk _, RelP.tk r⟩
  | c p => cases h
  | r k =>
    obtain ⟨a, hk, rfl⟩ := r
    simp only [exportD] at h
    split at h
    · rename_i hlt
      cases h
      refine ⟨_, f.tk sr, s2.tk _, a, ?_, rfl⟩
      rw [List.getElem?_take, if_pos hlt]; exact hk
    · rename_i hlt
      split at h
      · rename_i ob hob
        cases h
        refine ⟨_, f.ex sr s2 hk hob, s2.ex (by omega) hk hob, a, ?_, rfl⟩
        have : (M2.take st.length).length = st.length := by
          rw [List.length_take]
          have h1 := (List.getElem?_eq_some_iff.mp hk).1
          omega
        rw [List.getElem?_append_right (by omega), this]; simp
      · cases h
theorem getV_eq : ∀ (δ : Env) (i : Nat), getV δ i = (δ[i]?).join
  | [], i => by simp [getV]
  | x :: r, 0 => by simp [getV]
  | x :: r, i + 1 => by simp [getV, getV_eq r i]
theorem RelDs.at : ∀ {ds : List D} {vs : List V} {i : Nat} {d : D}, RelDs K Z M st H ds vs → ds[i]? = some d → ∃ v, vs[i]? = some v ∧ RelD K Z M st H d v
  | [], _, _, _, _, h => by simp at h
  | e :: ds, vs, 0, d, ⟨v, r, e1, h1, h2⟩, h => by
    subst e1
    simp at h
    subst h
    exact ⟨v, by simp, h1⟩
  | e :: ds, vs, i + 1, d, ⟨v, r, e1, h1, h2⟩, h => by
    subst e1
    obtain ⟨w, a, b⟩ := RelDs.at (i := i) h2 (by simpa using h)
    exact ⟨w, by simpa using a, b⟩
theorem env_new {ds : List D} {vs : List V} {n : Nat} {N : List Str} (r : RelDs K Z M st H ds vs) (hn : n = N.length) : EnvRel K Z M st H (newEnv n ds) (L2.start N vs) := by
  have hl := r.length
  refine ⟨by simp [newEnv, L2.start, hl, hn], fun i d h => ?_⟩
  rw [getV_eq] at h
  unfold newEnv at h
  by_cases hi : i < ds.length
  · rw [List.getElem?_append_left (by simpa using hi), List.getElem?_map] at h
    cases e : ds[i]? with
    | none => rw [e] at h; simp at h
    | some d' =>
      rw [e] at h
      simp at h
      subst h
      obtain ⟨v, h1, h2⟩ := r.at e
      refine ⟨v, ?_, h2⟩
      unfold L2.start
      rw [List.getElem?_append_left (by simpa [hl] using hi), List.getElem?_map, h1]
      rfl
  · rw [List.getElem?_append_right (by simpa using hi), List.getElem?_replicate] at h
    split at h <;> simp at h
end
structure DefD where
  nm : Str
  st : Stmt
  N : List Str
  ps : List Str
  fn : Fn
def tabT (defs : List (Nat × DefD)) (f : Nat) : Option Fn := (defs.lookup f).map (·.fn)
def infOf (defs : List (Nat × DefD)) (B : List Str) (GG : List (Str × P) := []) : Inf := ⟨fun f => (defs.lookup f).map (·.nm), B, GG⟩
theorem mem_lkG {GG : List (Str × NH.P)} {x : Str} {p : NH.P} (h : GG.lookup x = some p) : (x, p) ∈ GG := by
  induction GG with
  | nil => cases h
  | cons q r ih =>
    obtain ⟨y, e⟩ := q
    simp only [List.lookup] at h
    split at h
    · rename_i hb
      have := eq_of_beq hb
      cases h
      subst this
      exact List.mem_cons_self
    · exact List.mem_cons_of_mem _ (ih h)
theorem mem_lk {defs : List (Nat × DefD)} {f : Nat} {d : DefD} (h : defs.lookup f = some d) : (f, d) ∈ defs := by
  induction defs with
  | nil => cases h
  | cons p r ih =>
    obtain ⟨g, e⟩ := p
    rw [List.lookup_cons] at h
    split at h
    · rename_i hb
      cases h
      rw [eq_of_beq hb]
      exact List.mem_cons_self
    · exact List.mem_cons_of_mem _ (ih h)
def okDef (I : Inf) (d : DefD) : Bool := C8.scC d.N d.ps (defScope d.st) && (d.fn.np == d.ps.length) && (d.fn.nl == d.N.length) && okSs I ⟨d.N, defScope d.st, none⟩ d.fn.body (defBody d.st)
structure Known (K : PySem.W.Frag) (mg : Str → Option Value) (d : DefD) (a : Addr) (fd : FuncData) : Prop where
  fn : Fun K d.nm d.nm d.st a fd
  mg : mg d.nm = some (.ref a)
  be : ∀ us : List Value, us.length = d.ps.length → bindArgs fd ⟨us, []⟩ = pure (d.ps.zip us)
theorem Known.bn {K : PySem.W.Frag} {mg : Str → Option Value} {d : DefD} {a : Addr} {fd : FuncData} (F : Known K mg d a fd) : Binds K fd d.ps [] := .all F.be
section
variable {P : Program} {w : World} {K : PySem.W.Frag} {mg : Str → Option Value} {base : Heap}
theorem run_read [W : TheW] {T : Nat → Option Fn} {k f : Nat} {d : Fn} {N : List Str} {vs : List V} {H : Hp} {Q : VK} {E : XK} (hT : T f = some d) (hn : d.nl = N.length) (h : spEv K T (k + 1) f vs H Q E) :
    tSs K (callK T k) d.body { nx := fun _ H' => Q .non H', rt := Q } (L2.start N vs) H := by
  obtain ⟨Z, M, st, ds, d', st', sr, rds, ev, kk⟩ := h
  unfold callK at ev
  rw [hT] at ev
  dsimp only at ev
  unfold runFn at ev
  split at ev
  · obtain ⟨⟨f', δ'⟩, stB, eb, ev2⟩ := R.bind_eq_ok ev
    refine ⟨Z, M, st, newEnv d.nl ds, f', δ', stB, sr, env_new rds hn, eb, fun M2 H2 f2 s2 => ?_⟩
    cases f' with
    | nx =>
      intro σ _
      obtain ⟨M', f3, s3, r3⟩ := export_ok (K := K) (v := .non) sr f2 s2 (by simp [RelD, RelP]) ev2
      exact kk .non M' H2 f3 s3 r3
    | rt d =>
      intro v r
      obtain ⟨M', f3, s3, r3⟩ := export_ok sr f2 s2 r ev2
      exact kk v M' H2 f3 s3 r3
    | bk => cases ev2
    | ct => cases ev2
  · cases ev
theorem fns_ok (defs : List (Nat × DefD)) (B : List Str) (GG : List (Str × NH.P)) (hG : ∀ x p, GG.lookup x = some p → ∃ u, mg x = some u ∧ RelV (gV p) u) (hok : ∀ (f : Nat) (d : DefD), defs.lookup f = some d → okDef (infOf defs B GG) d = true) (hK : ∀ (f : Nat) (d : DefD), defs.lookup f = some d → ∃ a fd, Known K mg d a fd) (hB : ∀ x ∈ B, mg x = none) :
    ∀ (k f : Nat) (d : DefD) (a : Addr) (fd : FuncData), defs.lookup f = some d → Known K mg d a fd → FnG P w K mg base k a fd d.ps (spEv (W := ⟨P, w⟩) K (tabT defs) k f)
  | 0, f, d, a, fd, hd, F => by
    letI : TheW := ⟨P, w⟩
    refine ⟨fun vs H Q E h => ?_, fun A outer s H args us vs Q E hr hgd he hb hv h => ?_⟩
    · obtain ⟨Z, M, st, ds, d', st', sr, rds, ev, kk⟩ := h
      cases ev
    · obtain ⟨Z, M, st, ds, d', st', sr, rds, ev, kk⟩ := h
      cases ev
  | k + 1, f, d, a, fd, hd, F => by
    have hk := hok f d hd
    simp only [okDef, Bool.and_eq_true, beq_iff_eq] at hk
    obtain ⟨⟨⟨h1, h2⟩, h3⟩, h4⟩ := hk
    have hT : tabT defs f = some d.fn := by simp [tabT, hd]
    have S := C8.fnScope_by h1
    letI : TheW := ⟨P, w⟩
    refine fnG_of F.fn S (fun vs H Q E h => ?_) (fun cdv A outer s H vs Q E hr hgd h => ?_)
    · obtain ⟨Z, M, st, ds, d', st', sr, rds, ev, kk⟩ := h
      unfold callK at ev
      rw [hT] at ev
      dsimp only at ev
      unfold runFn at ev
      split at ev
      · rename_i e
        rw [rds.length, e, h2]
      · cases ev
    · refine ⟨_, snd_ss (W := ⟨P, w⟩) (I := infOf defs B GG) (T := tabT defs) (n := k) d.fn.body (S := ⟨d.N, defScope d.st, none⟩) ?_ h4, run_read (W := ⟨P, w⟩) hT h3 h⟩
      exact {
        wd := ⟨rfl, rfl⟩
        N := rfl
        nd := S.nd
        sc := rfl
        fn := rfl
        calm := rfl
        xe := rfl
        room := hr
        gd := hgd
        fns := fun f' d' hf => by
          simp only [tabT, Option.map_eq_some_iff] at hf
          obtain ⟨e, he, rfl⟩ := hf
          obtain ⟨a', fd', F'⟩ := hK f' e he
          exact ⟨e.nm, a', fd', e.ps, by simp [infOf, he], F'.mg, F'.fn.kp, F'.bn, fns_ok defs B GG hG hok hK hB k f' e a' fd' he F'⟩
        bl := hB
        gv := hG }
end
def scriptD (ns : List Int) : D := .c (.lst (ns.map .int))
theorem relPs_ints {U : Addr → Prop} {H : Hp} : ∀ ns : List Int, RelPs U H (ns.map P.int) (ns.map V.int)
  | [] => by simp [RelPs]
  | n :: ns => by
    simp only [List.map_cons, RelPs]
    exact ⟨_, _, rfl, by simp [RelP], relPs_ints ns⟩
theorem law_sp [W : TheW] {K : PySem.W.Frag} {T : Nat → Option Fn} {k f : Nat} (hlaw : ∀ ns : List Int, ns.length ≤ 63 → ∃ st', callK T k f [scriptD ns] [] = .ok (.p (.bl true)) st') (H : Hp) (a : Addr) (ns : List Int) (hl : ns.length ≤ 63) (hS : SqL K H a (ns.map V.int)) :
    spEv K T k f [.ref a] H (fun v _ => v = .bl true) fun _ _ _ => False := by
  obtain ⟨st', e⟩ := hlaw ns hl
  have hm : ∀ b, ¬ Mu (fun _ => False) [] [] b := fun b m => by
    rcases m with m | ⟨k, o, h1, _⟩
    · exact m
    · simp at h1
  refine ⟨fun _ => False, [], [], [scriptD ns], .p (.bl true), st', ⟨rfl, List.nodup_nil, by simp, fun _ h => h.elim, fun k a o h1 _ => by simp at h1⟩, ⟨_, [], rfl, ?_, rfl⟩, e, fun v M' H' _ _ r => r.bl⟩
  refine ⟨a, ns.map V.int, rfl, ?_, relPs_ints ns⟩
  rcases hS with h | h
  · exact .inl ⟨h, hm a⟩
  · exact .inr h
theorem known_of {K : PySem.W.Frag} {h : Heap} {mg : Str → Option Value} {d : DefD} {f : Addr} {od an : Option Addr} {sl : Array (Option Value)} {oc kV dc pm cd ct : Value} (X : K.In h) (G : h.Ns mainGlobals mg)
    (a : PySem.W.nsIn K mainGlobals d.nm = some (some (.ref f))) (l : K.lookup f = some ⟨oc, od, .func (PySem.W.fnOf d.nm d.nm (defArgs d.st) (defBody d.st) (defScope d.st) .none kV dc pm an cd ct), sl⟩) (c : PySem.W.codeIn K cd d.nm = true) (k : PySem.W.keepIn K (.ref f) = true)
    (b : ∀ (kV doc pm : Value) (an : Option Addr) (cdv ct : Value) (us : List Value), us.length = d.ps.length → bindArgs (PySem.W.fnOf d.nm d.nm (defArgs d.st) (defBody d.st) (defScope d.st) .none kV doc pm an cdv ct) ⟨us, []⟩ = pure (d.ps.zip us)) :
    ∃ a fd, Known K mg d a fd := by
  have F : Fun K d.nm d.nm d.st f _ := fun_mk l c k
  exact ⟨f, _, F, PySem.W.mg_of X G a, b kV dc pm an cd ct⟩
theorem law_end {P : Program} {w : World} {K : PySem.W.Frag} {mg : Str → Option Value} {h : Heap} (X : K.In h) (G : h.Ns mainGlobals mg) (defs : List (Nat × DefD)) (B : List Str) (GG : List (Str × NH.P)) (hok : (defs.all fun p => okDef (infOf defs B GG) p.2) = true) (hG : ∀ p ∈ GG, ∃ u, PySem.W.nsIn K mainGlobals p.1 = some (some u) ∧ RelV (gV p.2) u)
    (hK : ∀ p ∈ defs, ∃ a fd, Known K mg p.2 a fd) (hB : ∀ x ∈ B, PySem.W.nsIn K mainGlobals x = some none) {k f : Nat} {d : DefD} (hd : defs.lookup f = some d) {fa : Addr} (hfa : mg d.nm = some (.ref fa)) {x : Str} (hp : d.ps = [x]) :
    ∃ fd : FuncData, (∀ (s : Shared) (u : Value), BindsTo s fd ⟨[u], []⟩ [(x, u)]) ∧ ∀ base : Heap, FnG P w K mg base k fa fd [x] (spEv (W := ⟨P, w⟩) K (tabT defs) k f) := by
  have hK' : ∀ (f : Nat) (d : DefD), defs.lookup f = some d → ∃ a fd, Known K mg d a fd := fun f d e => hK (f, d) (mem_lk e)
  obtain ⟨a, fd, F⟩ := hK' f d hd
  have e := hfa.symm.trans F.mg
  cases e
  refine ⟨fd, fun s u => ?_, fun base => ?_⟩
  · have := F.be [u] (by rw [hp]; rfl)
    rw [hp] at this
    exact .of_eq this
  · have := fns_ok (P := P) (w := w) (base := base) defs B GG (fun x p hp => by
      obtain ⟨u, h1, h2⟩ := hG (x, p) (mem_lkG hp)
      exact ⟨u, PySem.W.mg_of X G h1, h2⟩) (fun f d e => by
      simp only [List.all_eq_true] at hok
      exact hok (f, d) (mem_lk e)) hK' (fun x m => PySem.W.mg_none_of X G (hB x m)) k f d fa fd hd F
    rw [hp] at this
    exact this
theorem walk {l : PySem.W.OpenLaw} {q : Program} {loose : List Str} {XP : (Str → Option Value) → Heap → Prop} {YP : World → Heap → Prop} {d : DefRec} {K : Params → PySem.W.Frag} {T : Nat → Option Fn} {k f : Nat} {x : Str} (hn : l.most = some 63) (hdf : d.params.defaults = [])
    (hr : Room k callerA) (hY : ∀ (w : World) (h : Heap), YP w h → (K w.params).In h) (hlaw : ∀ ns : List Int, ns.length ≤ 63 → ∃ st', callK T k f [scriptD ns] [] = .ok (.p (.bl true)) st')
    (F : ∀ (w : World) (mg : Str → Option Value) (fa : Addr) (h : Heap), (K w.params).In h → h.Ns mainGlobals mg → mg d.name = some (.ref fa) →
      ∃ fd : FuncData, (∀ (s : Shared) (u : Value), BindsTo s fd ⟨[u], []⟩ [(x, u)]) ∧ ∀ base : Heap, FnG l.prog w (K w.params) mg base k fa fd [x] (spEv (W := ⟨l.prog, w⟩) (K w.params) T k f)) :
    PySem.W.WalkO q loose XP YP l.row.toRowW d [] (fun f vs => PySem.call f vs) :=
  walk_G (n := 63) (k := k) (x := x) (sp := fun w => spEv (W := ⟨l.prog, w⟩) (K w.params) T k f) hn (by decide) hdf hr hY
    (fun w mg fa h a b c => F w mg fa h a b c) (fun w H a ns hl _ hS => law_sp (W := ⟨l.prog, w⟩) hlaw H a ns hl hS)
end NH
namespace NH
class Cn (α : Type) where
  q : α → Store → Prop
def Tw {α : Type} (m : R α) [Q : Cn α] : Prop := match m with
  | .ok a st => Q.q a st
  | .no => False
abbrev To {α : Type} (m : R α) (Q : α → Store → Prop) : Prop := @Tw α m ⟨Q⟩
section
variable {α β : Type} {Q Q' : α → Store → Prop} {st : Store}
theorem To_ok {a : α} : To (.ok a st) Q = Q a st := rfl
theorem To_no : To (.no : R α) Q = False := rfl
theorem To_bind {m : R β} {f : β → Store → R α} : To (m.bind f) Q = To m fun b st => To (f b st) Q := by
  cases m <;> rfl
theorem To_some {a : α} : To (lift (some a) st) Q = Q a st := rfl
theorem To_none : To (lift (none : Option α) st) Q = False := rfl
theorem To_ite {c : Prop} [Decidable c] {m n : R α} : To (if c then m else n) Q = if c then To m Q else To n Q := by split <;> rfl
theorem To.mono {m : R α} (h : To m Q) (hq : ∀ a st, Q a st → Q' a st) : To m Q' := by
  cases m with
  | ok a st => exact hq a st h
  | no => exact h
theorem To.eq {m : R α} (h : To m Q) : ∃ a st, m = .ok a st ∧ Q a st := by
  cases m with
  | ok a st => exact ⟨a, st, rfl, h⟩
  | no => exact h.elim
theorem To_eq {m : R α} {a : α} {st' : Store} (h : m = .ok a st') : To m Q = Q a st' := by rw [h]; rfl
end
theorem call_to {T : Nat → Option Fn} {k f : Nat} {d : Fn} {ds : List D} {st : Store} {Q : D → Store → Prop} (hT : T f = some d) (hl : ds.length = d.np)
    (h : To (evSs (callK T k) d.body (newEnv d.nl ds) st) fun r st' => match r.1 with
      | .rt d => To (exportD st.length st' d) Q
      | .nx => Q (.p .non) (st'.take st.length)
      | _ => False) : To (callK T (k + 1) f ds st) Q := by
  show To (match T f with
    | some d => runFn (callK T k) d ds st
    | none => .no) Q
  rw [hT]
  show To (runFn (callK T k) d ds st) Q
  unfold runFn
  rw [if_pos hl, To_bind]
  refine h.mono fun r st' h => ?_
  cases e : r.1 <;> rw [e] at h <;> first | exact h | exact h.elim
theorem take_set {st : Store} {k : Nat} {o : MO} : (st.set k o).take st.length = st.set k o := List.take_of_length_le (by simp)
theorem forL_to {tg : CT} {body : Env → Store → R (Fl × Env)} {Q : Fl × Env → Store → Prop} (Pv : List P → Env → Store → Prop) :
    ∀ {l : List P} {δ : Env} {st : Store}, Pv l δ st →
      (∀ x r δ st, Pv (x :: r) δ st → ∃ δ1, asgP tg x δ = some δ1 ∧ To (body δ1 st) fun f st' => match f with
        | (.nx, δ2) => Pv r δ2 st'
        | (.ct, δ2) => Pv r δ2 st'
        | (.bk, δ2) => Q (.nx, δ2) st'
        | (.rt d, δ2) => Q (.rt d, δ2) st') → (∀ δ st, Pv [] δ st → Q (.nx, δ) st) → To (forL tg body l δ st) Q
  | [], δ, st, h, _, hd => hd δ st h
  | x :: r, δ, st, h, hs, hd => by
    obtain ⟨δ1, e, hb⟩ := hs x r δ st h
    unfold forL
    rw [e]
    dsimp only
    rw [To_bind]
    refine hb.mono fun f st' h => ?_
    obtain ⟨g, δ2⟩ := f
    cases g with
    | nx => exact forL_to Pv h hs hd
    | ct => exact forL_to Pv h hs hd
    | bk => exact h
    | rt d => exact h
theorem compL_to {tg : CT} {own : List Nat} {tst : Env → Store → R Bool} {elt : Env → Store → R D} {δ : Env} {Q : List P → Store → Prop} (Pv : List P → List P → Store → Prop) :
    ∀ {acc l : List P} {st : Store}, Pv acc l st →
      (∀ acc x r st, Pv acc (x :: r) st → ∃ δ1, asgP tg x (delVs δ own) = some δ1 ∧ To (tst δ1 st) fun b st1 => if b = true then To (elt δ1 st1) fun d st2 => ∃ p, d = .p p ∧ acc.length < LINE ∧ Pv (acc ++ [p]) r st2 else Pv acc r st1) →
      (∀ acc st, Pv acc [] st → Q acc st) → To (compL tg own tst elt δ acc l st) Q
  | acc, [], st, h, _, hd => hd acc st h
  | acc, x :: r, st, h, hs, hd => by
    obtain ⟨δ1, e, hb⟩ := hs acc x r st h
    unfold compL
    rw [e]
    dsimp only
    rw [To_bind]
    refine hb.mono fun b st1 h => ?_
    cases b with
    | false =>
      rw [if_neg (by decide)] at h ⊢
      exact compL_to Pv h hs hd
    | true =>
      rw [if_pos rfl] at h ⊢
      rw [To_bind]
      refine h.mono fun d st2 ⟨p, e, hl, h⟩ => ?_
      subst e
      show To (if acc.length < LINE then _ else _) Q
      rw [if_pos hl]
      exact compL_to Pv h hs hd
theorem compL_map {tg : CT} {own : List Nat} {elt : Env → Store → R D} {δ : Env} {st : Store} (f : P → P) : ∀ {acc l : List P}, (∀ x ∈ l, ∃ δ1, asgP tg x (delVs δ own) = some δ1 ∧ elt δ1 st = .ok (.p (f x)) st) → acc.length + l.length ≤ LINE →
    compL tg own (fun _ st => .ok true st) elt δ acc l st = .ok (acc ++ l.map f) st
  | acc, [], _, _ => by simp [compL]
  | acc, x :: r, h, hl => by
    obtain ⟨δ1, e, hb⟩ := h x List.mem_cons_self
    unfold compL
    rw [e]
    dsimp only
    rw [R.bind_ok]
    simp only [List.length_cons] at hl
    rw [if_pos rfl, hb, R.bind_ok]
    dsimp only [pure1]
    rw [if_pos (by omega), compL_map f (fun y m => h y (List.mem_cons_of_mem _ m)) (by simp; omega)]
    simp
end NH
namespace NH
def rdO : MO → Option P
  | .lst l => some (.lst l)
  | .lstL l => some (.lst l)
  | .dic l => some (.dic l)
  | .dicL l => some (.dic l)
  | .dn _ => none
  | .dead => none
@[simp] theorem rdO_l {l : List P} : rdO (.lst l) = some (.lst l) := rfl
@[simp] theorem rdO_L {l : List P} : rdO (.lstL l) = some (.lst l) := rfl
@[simp] theorem rdO_d {l : List (Ky × P)} : rdO (.dic l) = some (.dic l) := rfl
@[simp] theorem rdO_D {l : List (Ky × P)} : rdO (.dicL l) = some (.dic l) := rfl
class Kt (α : Type) where
  f : α → Prop
def Sw {α : Type} (o : Option α) [Q : Kt α] : Prop := match o with
  | some a => Q.f a
  | none => False
abbrev Som {α : Type} (o : Option α) (Q : α → Prop) : Prop := @Sw α o ⟨Q⟩
@[simp] theorem Som_s {α : Type} {a : α} {Q : α → Prop} : Som (some a) Q = Q a := rfl
@[simp] theorem Som_n {α : Type} {Q : α → Prop} : Som (none : Option α) Q = False := rfl
@[simp] theorem Som_i {α : Type} {c : Prop} [Decidable c] {a : α} {Q : α → Prop} : Som (if c then some a else none) Q = (c ∧ Q a) := by
  by_cases h : c <;> simp [h]
@[simp] theorem Som_b {α β : Type} {o : Option α} {f : α → Option β} {Q : β → Prop} : Som (o.bind f) Q = Som o fun a => Som (f a) Q := by cases o <;> rfl
@[simp] theorem Som_m {α β : Type} {o : Option α} {f : α → β} {Q : β → Prop} : Som (o.map f) Q = Som o fun a => Q (f a) := by cases o <;> rfl
theorem Som_of {α : Type} {o : Option α} {a : α} {Q : α → Prop} (h : o = some a) (q : Q a) : Som o Q := by rw [h]; exact q
class Bx where
  p : Prop
def Bw (d : D) [p : Bx] [q : Bx] : Prop := match asBl d with
  | some true => p.p
  | some false => q.p
  | none => False
abbrev IfB (d : D) (p q : Prop) : Prop := @Bw d ⟨p⟩ ⟨q⟩
@[simp] theorem IfB_p {b : Bool} {p q : Prop} : IfB (.p (.bl b)) p q = if b = true then p else q := by cases b <;> rfl
class Ke where
  k : Env → Store → Prop
def Nw (f : Fl × Env) (st : Store) [K : Ke] [Q : Cn (Fl × Env)] : Prop := match f with
  | (.nx, δ) => K.k δ st
  | f => Q.q f st
abbrev Nx (f : Fl × Env) (st : Store) (K : Env → Store → Prop) (Q : Fl × Env → Store → Prop) : Prop := @Nw f st ⟨K⟩ ⟨Q⟩
section
variable {C : Calls} {δ : Env} {st st' : Store} {QD : D → Store → Prop} {QF : Fl × Env → Store → Prop} {QB : Bool → Store → Prop} {QO : Option Int → Store → Prop} {QDs : List D → Store → Prop} {QI : List P × List Nat → Store → Prop} {K : Env → Store → Prop}
@[simp] theorem Nx_n : Nx (.nx, δ) st K QF = K δ st := rfl
@[simp] theorem Nx_r {d : D} : Nx (.rt d, δ) st K QF = QF (.rt d, δ) st := rfl
@[simp] theorem Nx_b : Nx (.bk, δ) st K QF = QF (.bk, δ) st := rfl
@[simp] theorem Nx_c : Nx (.ct, δ) st K QF = QF (.ct, δ) st := rfl
@[simp] theorem w_ok {α : Type} {Q : α → Store → Prop} {a : α} : To (.ok a st) Q = Q a st := rfl
@[simp] theorem w_no {α : Type} {Q : α → Store → Prop} : To (.no : R α) Q = False := rfl
@[simp] theorem w_lift {α : Type} {Q : α → Store → Prop} {o : Option α} : To (lift o st) Q = Som o fun a => Q a st := by cases o <;> rfl
@[simp] theorem w_bind {α β : Type} {Q : α → Store → Prop} {m : R β} {f : β → Store → R α} : To (m.bind f) Q = To m fun b st => To (f b st) Q := To_bind
@[simp] theorem w_ite {α : Type} {Q : α → Store → Prop} {c : Prop} [Decidable c] {m n : R α} : To (if c then m else n) Q = if c then To m Q else To n Q := To_ite
@[simp] theorem g_z {x : Option D} {r : Env} : getV (x :: r) 0 = x := rfl
@[simp] theorem g_s {x : Option D} {r : Env} {n : Nat} : getV (x :: r) (n + 1) = getV r n := rfl
@[simp] theorem sv_z {x : Option D} {r : Env} {d : D} : setV (x :: r) 0 d = some d :: r := rfl
@[simp] theorem sv_s {x : Option D} {r : Env} {n : Nat} {d : D} : setV (x :: r) (n + 1) d = x :: setV r n d := rfl
@[simp] theorem dv_z {x : Option D} {r : Env} : delV (x :: r) 0 = none :: r := rfl
@[simp] theorem dv_s {x : Option D} {r : Env} {n : Nat} : delV (x :: r) (n + 1) = x :: delV r n := rfl
@[simp] theorem dvs_n : delVs δ [] = δ := rfl
@[simp] theorem dvs_c {i : Nat} {l : List Nat} : delVs δ (i :: l) = delV (delVs δ l) i := rfl
@[simp] theorem rd_p {x : P} : rd st (.p x) = some x := rfl
@[simp] theorem rd_c {x : P} : rd st (.c x) = some x := rfl
@[simp] theorem rd_r {k : Nat} : rd st (.r k) = (st[k]?).bind rdO := by
  simp only [rd]
  cases st[k]? with
  | none => rfl
  | some o => cases o <;> rfl
@[simp] theorem rdN_p {x : P} : rdN st (.p x) = some x := rfl
@[simp] theorem rdN_r {k : Nat} : rdN st (.r k) = rd st (.r k) := rfl
@[simp] theorem rdS_p {x : P} : rdS st (.p x) = some x := rfl
@[simp] theorem rdS_r {k : Nat} : rdS st (.r k) = rd st (.r k) := rfl
@[simp] theorem rdS_cl {l : List P} : rdS st (.c (.lst l)) = some (.lst l) := rfl
@[simp] theorem rds_n : rds st [] = some [] := rfl
@[simp] theorem rds_c {d : D} {l : List D} : rds st (d :: l) = (rd st d).bind fun p => (rds st l).map (p :: ·) := by
  simp only [rds]; cases rd st d <;> cases rds st l <;> rfl
@[simp] theorem rdsS_n : rdsS st [] = some [] := rfl
@[simp] theorem rdsS_c {d : D} {l : List D} : rdsS st (d :: l) = (rdS st d).bind fun p => (rdsS st l).map (p :: ·) := by
  simp only [rdsS]; cases rdS st d <;> cases rdsS st l <;> rfl
@[simp] theorem pure1_p {x : P} : pure1 (.p x) = some x := rfl
@[simp] theorem pureC_p {x : P} : pureC (.p x) = some x := rfl
@[simp] theorem pures_n : pures [] = some [] := rfl
@[simp] theorem pures_p {x : P} {l : List D} : pures (.p x :: l) = (pures l).map (x :: ·) := by
  simp only [pures]; cases pures l <;> rfl
@[simp] theorem asBl_p {b : Bool} : asBl (.p (.bl b)) = some b := rfl
@[simp] theorem w_var {i : Nat} : To (evE C (.var i) δ st) QD = Som (getV δ i) fun d => QD d st := by
  show To (lift (getV δ i) st) QD = _; simp
@[simp] theorem w_cst {p : P} : To (evE C (.cst p) δ st) QD = QD (.p p) st := rfl
@[simp] theorem w_glob {x : Tx} {d : D} : To (evE C (.glob x d) δ st) QD = QD d st := rfl
@[simp] theorem w_tup {es : CEs} : To (evE C (.tup es) δ st) QD = To (evEs C es δ st) fun ds st => Som (pures ds) fun l => l.length ≤ LINE ∧ QD (.p (.tup l)) st := by
  show To ((evEs C es δ st).bind _) QD = _
  simp
@[simp] theorem mkL_f {l : List P} : To (mkL false l st) QD = QD (.p (.lst l)) st := rfl
@[simp] theorem mkL_t {l : List P} : To (mkL true l st) QD = QD (.r st.length) (st ++ [.lst l]) := rfl
@[simp] theorem mkD_f {l : List (Ky × P)} : To (mkD false l st) QD = QD (.p (.dic l)) st := rfl
@[simp] theorem mkD_t {l : List (Ky × P)} : To (mkD true l st) QD = QD (.r st.length) (st ++ [.dic l]) := rfl
@[simp] theorem w_lst {m : Bool} {es : CEs} : To (evE C (.lst m es) δ st) QD = To (evEs C es δ st) fun ds st => Som (pures ds) fun l => l.length ≤ LINE ∧ To (mkL m l st) QD := by
  show To ((evEs C es δ st).bind _) QD = _
  rw [To_bind]; congr 1; funext ds st
  cases pures ds with
  | none => rfl
  | some l => by_cases h : l.length ≤ LINE <;> simp [h]
@[simp] theorem w_dct {m : Bool} {es : CEs} : To (evE C (.dct m es) δ st) QD = To (evEs C es δ st) fun ds st => Som ((pures ds).bind pairUp) fun l => l.length ≤ 15 ∧ To (mkD m (kmerge [] l) st) QD := by
  show To ((evEs C es δ st).bind _) QD = _
  rw [To_bind]; congr 1; funext ds st
  cases (pures ds).bind pairUp with
  | none => rfl
  | some l => by_cases h : l.length ≤ 15 <;> simp [h]
@[simp] theorem w_lcopy {m : Bool} {e : CE} : To (evE C (.lcopy m e) δ st) QD = To (evE C e δ st) fun x st => Som ((rd st x).bind lcopyP) fun l => To (mkL m l st) QD := by
  show To ((evE C e δ st).bind _) QD = _
  rw [To_bind]; congr 1; funext x st
  cases (rd st x).bind lcopyP <;> rfl
@[simp] theorem w_dcopy {m : Bool} {e : CE} : To (evE C (.dcopy m e) δ st) QD = To (evE C e δ st) fun x st => Som ((rd st x).bind dcopyP) fun l => To (mkD m l st) QD := by
  show To ((evE C e δ st).bind _) QD = _
  rw [To_bind]; congr 1; funext x st
  cases (rd st x).bind dcopyP <;> rfl
@[simp] theorem w_lset {e : CE} : To (evE C (.lset e) δ st) QD = To (evE C e δ st) fun x st => Som (rd st x) fun p => Som (lsetP p) fun n : Nat => QD (.p (.int (n : Int))) st := by
  show To ((evE C e δ st).bind _) QD = _
  simp only [To_bind, w_lift, Som_b, Som_m]
@[simp] theorem w_srt {m : Bool} {e : CE} : To (evE C (.srt m e) δ st) QD = To (evE C e δ st) fun x st => Som ((rd st x).bind srtP) fun l => To (mkL m l st) QD := by
  show To ((evE C e δ st).bind _) QD = _
  rw [To_bind]; congr 1; funext x st
  cases (rd st x).bind srtP <;> rfl
@[simp] theorem w_cat {a b : CE} : To (evE C (.cat a b) δ st) QD = To (evE C a δ st) fun x st => To (evE C b δ st) fun y st => Som (rdN st x) fun p => Som (rdN st y) fun q => Som (catP p q) fun l => To (mkL true l st) QD := by
  show To ((evE C a δ st).bind _) QD = _
  rw [To_bind]
  congr 1
  funext x st
  rw [To_bind]
  congr 1
  funext y st
  cases rdN st x with
  | none => rfl
  | some p => cases rdN st y with
    | none => rfl
    | some q =>
      simp only [Option.bind_some, Som_s]
      cases catP p q <;> rfl
@[simp] theorem catP_l {l m : List P} : catP (.lst l) (.lst m) = if l.length + m.length ≤ LINE then some (l ++ m) else none := rfl
@[simp] theorem w_bin {op : BOp} {a b : CE} : To (evE C (.bin op a b) δ st) QD = To (evE C a δ st) fun x st => To (evE C b δ st) fun y st => Som (rdN st x) fun p => Som (rdN st y) fun q => Som (binP op p q) fun r => QD (.p r) st := by
  show To ((evE C a δ st).bind _) QD = _
  simp only [To_bind, w_lift, Som_b, Som_m]
@[simp] theorem w_neg {a : CE} : To (evE C (.neg a) δ st) QD = To (evE C a δ st) fun x st => Som ((pure1 x).bind P.asInt) fun i => QD (.p (.int (-i))) st := by
  show To ((evE C a δ st).bind _) QD = _
  rw [To_bind]; congr 1; funext x st
  cases x with
  | p x => cases x <;> rfl
  | _ => rfl
@[simp] theorem w_cmp {op : COp} {a b : CE} : To (evE C (.cmp op a b) δ st) QD = To (evE C a δ st) fun x st => To (evE C b δ st) fun y st => Som (cmpD op st x y) fun b => QD (.p (.bl b)) st := by
  show To ((evE C a δ st).bind _) QD = _
  simp only [To_bind, w_lift, Som_m]
@[simp] theorem w_chain {op op' : COp} {a b c : CE} : To (evE C (.chain op op' a b c) δ st) QD = To (evE C a δ st) fun x st => To (evE C b δ st) fun y st => Som (cmpD op st x y) fun t => if t = true then To (evE C c δ st) fun z st => Som (cmpD op' st y z) fun b => QD (.p (.bl b)) st else QD (.p (.bl false)) st := by
  show To ((evE C a δ st).bind _) QD = _
  simp only [To_bind]
  congr 1; funext x st; congr 1; funext y st
  cases cmpD op st x y with
  | none => rfl
  | some t => cases t <;> simp
@[simp] theorem w_and {es : CEs} : To (evE C (.and es) δ st) QD = To (evAnd C es δ st) QD := rfl
@[simp] theorem w_or {es : CEs} : To (evE C (.or es) δ st) QD = To (evOr C es δ st) QD := rfl
@[simp] theorem w_andn : To (evAnd C .nil δ st) QD = QD (.p (.bl true)) st := rfl
@[simp] theorem w_orn : To (evOr C .nil δ st) QD = QD (.p (.bl false)) st := rfl
@[simp] theorem w_andc {e : CE} {es : CEs} : To (evAnd C (.cons e es) δ st) QD = To (evE C e δ st) fun x st => IfB x (To (evAnd C es δ st) QD) (QD (.p (.bl false)) st) := by
  show To ((evE C e δ st).bind _) QD = _
  rw [To_bind]; congr 1; funext x st; unfold IfB Bw
  cases asBl x with
  | none => rfl
  | some b => cases b <;> rfl
@[simp] theorem w_orc {e : CE} {es : CEs} : To (evOr C (.cons e es) δ st) QD = To (evE C e δ st) fun x st => IfB x (QD (.p (.bl true)) st) (To (evOr C es δ st) QD) := by
  show To ((evE C e δ st).bind _) QD = _
  rw [To_bind]; congr 1; funext x st; unfold IfB Bw
  cases asBl x with
  | none => rfl
  | some b => cases b <;> rfl
@[simp] theorem w_not {a : CE} : To (evE C (.not a) δ st) QD = To (evE C a δ st) fun x st => Som (asBl x) fun b => QD (.p (.bl (!b))) st := by
  show To ((evE C a δ st).bind _) QD = _
  simp only [To_bind, w_lift, Som_m]
@[simp] theorem w_ife {c a b : CE} : To (evE C (.ife c a b) δ st) QD = To (evE C c δ st) fun x st => IfB x (To (evE C a δ st) QD) (To (evE C b δ st) QD) := by
  show To ((evE C c δ st).bind _) QD = _
  rw [To_bind]; congr 1; funext x st; unfold IfB Bw
  cases asBl x with
  | none => rfl
  | some b => cases b <;> rfl
@[simp] theorem w_idx {a i : CE} : To (evE C (.idx a i) δ st) QD = To (evE C a δ st) fun x st => To (evE C i δ st) fun y st => Som (rd st x) fun p => Som (pure1 y) fun q => Som (idxP p q) fun r => QD (.p r) st := by
  show To ((evE C a δ st).bind _) QD = _
  simp only [To_bind, w_lift, Som_b, Som_m]
@[simp] theorem w_sl {a : CE} {lo hi : CO} : To (evE C (.sl a lo hi) δ st) QD = To (evE C a δ st) fun x st => To (evO C lo δ st) fun l st => To (evO C hi δ st) fun h st => Som (rdS st x) fun p => Som (cutP l h p) fun r => QD (.p r) st := by
  show To ((evE C a δ st).bind _) QD = _
  simp only [To_bind, w_lift, Som_b, Som_m]
@[simp] theorem w_rev {a : CE} : To (evE C (.rev a) δ st) QD = To (evE C a δ st) fun x st => Som (rd st x) fun p => Som (revP p) fun q => QD (.p q) st := by
  show To ((evE C a δ st).bind _) QD = _
  simp only [To_bind, w_lift, Som_b, Som_m]
@[simp] theorem rv_l {l : List P} : revP (.lst l) = some (.lst l.reverse) := rfl
@[simp] theorem rv_t {l : List P} : revP (.tup l) = some (.tup l.reverse) := rfl
@[simp] theorem lx_l {l : List P} {z : Tx} : lidxP (.lst l) (.str z) = (allStr l).bind fun ts => (idxT ts z).map fun j : Nat => .int (j : Int) := rfl
@[simp] theorem w_lidx {o e : CE} : To (evE C (.lidx o e) δ st) QD = To (evE C o δ st) fun x st => Som ((rd st x).bind P.asLst) fun _ => To (evE C e δ st) fun y st => Som (rd st x) fun p => Som (pure1 y) fun q => Som (lidxP p q) fun r => QD (.p r) st := by
  show To ((evE C o δ st).bind _) QD = _
  rw [To_bind]; congr 1; funext x st
  cases h : (rd st x).bind P.asLst with
  | none => simp [h]
  | some l0 =>
    simp only [Option.isSome_some, ↓reduceIte, Som_s, To_bind, w_lift, Som_b, Som_m]
@[simp] theorem w_lcnt {o e : CE} : To (evE C (.lcnt o e) δ st) QD = To (evE C o δ st) fun x st => Som ((rd st x).bind P.asLst) fun _ => To (evE C e δ st) fun y st => Som (rd st x) fun p => Som (pure1 y) fun q => Som (lcntP p q) fun r => QD (.p r) st := by
  show To ((evE C o δ st).bind _) QD = _
  rw [To_bind]; congr 1; funext x st
  cases h : (rd st x).bind P.asLst with
  | none => simp [h]
  | some l0 =>
    simp only [Option.isSome_some, ↓reduceIte, Som_s, To_bind, w_lift, Som_b, Som_m]
@[simp] theorem w_rep {e : CE} : To (evE C (.rep e) δ st) QD = To (evE C e δ st) fun x st => Som (rd st x) fun p => Som (repP p) fun q => QD (.p q) st := by
  show To ((evE C e δ st).bind _) QD = _
  simp only [To_bind, w_lift, Som_b, Som_m]
theorem lcn_l {l : List P} {x : P} : lcntP (.lst l) x = if (l.all fun a => a.sh) && x.sh && decide (x.deep ≤ 60) then some (.int ((l.countP fun y => y.eqv x : Nat) : Int)) else none := rfl
@[simp] theorem w_call {f : Nat} {es : CEs} : To (evE C (.call f es) δ st) QD = To (evEs C es δ st) fun ds st => To (C f ds st) QD := To_bind
@[simp] theorem w_bi {b : Bi} {es : CEs} : To (evE C (.bi b es) δ st) QD = To (evEs C es δ st) fun ds st => Som (if b = .tuple then rdsS st ds else rds st ds) fun ps => Som (biP b ps) fun r => QD (.p r) st := by
  show To ((evEs C es δ st).bind _) QD = _
  simp only [To_bind, w_lift, Som_b, Som_m]
def Fw (d : D) (st : Store) [Q : Cn D] : Prop := match d with
  | .p p => Q.q (.p p) st
  | .c _ => False
  | .r k => match st[k]? with
    | some (.lst l) => Q.q (.p (.lst l)) (st.set k .dead)
    | some (.dic l) => Q.q (.p (.dic l)) (st.set k .dead)
    | _ => False
abbrev FrzD (d : D) (st : Store) (Q : D → Store → Prop) : Prop := @Fw d st ⟨Q⟩
@[simp] theorem w_frz {e : CE} : To (evE C (.frz e) δ st) QD = To (evE C e δ st) fun x st => FrzD x st QD := by
  show To ((evE C e δ st).bind _) QD = _
  rw [To_bind]; congr 1; funext x st
  cases x with
  | r k =>
    show _ = FrzD (.r k) st QD
    unfold FrzD Fw
    dsimp only
    cases st[k]? with
    | none => rfl
    | some o => cases o <;> rfl
  | _ => rfl
@[simp] theorem Frz_p {x : P} : FrzD (.p x) st QD = QD (.p x) st := rfl
theorem Frz_l {k : Nat} {l : List P} (h : st[k]? = some (.lst l)) : FrzD (.r k) st QD = QD (.p (.lst l)) (st.set k .dead) := by unfold FrzD Fw; dsimp only; rw [h]
theorem Frz_d {k : Nat} {l : List (Ky × P)} (h : st[k]? = some (.dic l)) : FrzD (.r k) st QD = QD (.p (.dic l)) (st.set k .dead) := by unfold FrzD Fw; dsimp only; rw [h]
@[simp] theorem w_comp {m : Bool} {elt : CE} {tg : CT} {src : CI} {ifc : CO} {own : List Nat} : To (evE C (.comp m elt tg src ifc own) δ st) QD = To (evI C src δ st) fun l st => To (compL tg own (fun δ st => evF C ifc δ st) (fun δ st => evE C elt δ st) δ [] l.1 st) fun ps st => To (unlock l.2 st) fun _ st => To (mkL m ps st) QD := by
  show To ((evI C src δ st).bind _) QD = _
  simp only [To_bind]
@[simp] theorem w_fn : To (evF C .none δ st) QB = QB true st := rfl
@[simp] theorem w_fs {c : CE} : To (evF C (.some c) δ st) QB = To (evE C c δ st) fun x st => Som (asBl x) fun b => QB b st := by
  show To ((evE C c δ st).bind _) QB = _
  simp only [To_bind, w_lift]
@[simp] theorem w_esn : To (evEs C .nil δ st) QDs = QDs [] st := rfl
@[simp] theorem w_esc {e : CE} {es : CEs} : To (evEs C (.cons e es) δ st) QDs = To (evE C e δ st) fun d st => To (evEs C es δ st) fun ds st => QDs (d :: ds) st := by
  show To ((evE C e δ st).bind _) QDs = _
  simp only [To_bind, To_ok]
@[simp] theorem w_on : To (evO C .none δ st) QO = QO none st := rfl
@[simp] theorem w_os {e : CE} : To (evO C (.some e) δ st) QO = To (evE C e δ st) fun d st => Som ((pure1 d).bind P.asInt) fun i => QO (some i) st := by
  show To ((evE C e δ st).bind _) QO = _
  rw [To_bind]; congr 1; funext d st
  cases d with
  | p x => cases x <;> rfl
  | _ => rfl
@[simp] theorem w_ival {e : CE} : To (evI C (.val e) δ st) QI = To (evE C e δ st) fun d st => To (lockD d st) fun q st => Som (itemsOf q.1) fun l => QI (l, q.2) st := by
  show To ((evE C e δ st).bind _) QI = _
  simp only [To_bind, w_lift, Som_m]
@[simp] theorem w_irng1 {e : CE} : To (evI C (.rng1 e) δ st) QI = To (evE C e δ st) fun d st => Som ((pure1 d).bind P.asInt) fun i => (i < 2 ^ 40 ∧ -(2 ^ 40) < i) ∧ QI (rngL 0 i.toNat, []) st := by
  show To ((evE C e δ st).bind _) QI = _
  rw [To_bind]; congr 1; funext d st
  cases d with
  | p x =>
    cases x with
    | int i => show To (if i < 2 ^ 40 ∧ -(2 ^ 40) < i then _ else _) QI = ((i < 2 ^ 40 ∧ -(2 ^ 40) < i) ∧ _); by_cases h : i < 2 ^ 40 ∧ -(2 ^ 40) < i <;> simp only [h, if_true, if_false, true_and, false_and] <;> rfl
    | _ => rfl
  | _ => rfl
@[simp] theorem w_irng2 {a b : CE} : To (evI C (.rng2 a b) δ st) QI = To (evE C a δ st) fun d st => To (evE C b δ st) fun e st => Som ((pure1 d).bind P.asInt) fun i => Som ((pure1 e).bind P.asInt) fun j => (i < 2 ^ 40 ∧ -(2 ^ 40) < i ∧ j < 2 ^ 40 ∧ -(2 ^ 40) < j) ∧ QI (rngL i (j - i).toNat, []) st := by
  show To ((evE C a δ st).bind _) QI = _
  simp only [To_bind]; congr 1; funext d st; congr 1; funext e st
  cases d with
  | p x =>
    cases x with
    | int i =>
      cases e with
      | p y =>
        cases y with
        | int j => show To (if i < 2 ^ 40 ∧ -(2 ^ 40) < i ∧ j < 2 ^ 40 ∧ -(2 ^ 40) < j then _ else _) QI = ((i < 2 ^ 40 ∧ -(2 ^ 40) < i ∧ j < 2 ^ 40 ∧ -(2 ^ 40) < j) ∧ _); by_cases h : i < 2 ^ 40 ∧ -(2 ^ 40) < i ∧ j < 2 ^ 40 ∧ -(2 ^ 40) < j <;> simp only [h, if_true, if_false, true_and, false_and] <;> rfl
        | _ => rfl
      | _ => rfl
    | _ => rfl
  | _ => rfl
@[simp] theorem w_ienum {e : CE} : To (evI C (.enum e) δ st) QI = To (evE C e δ st) fun d st => To (lockD d st) fun q st => Som (enumP q.1) fun l => QI (l, q.2) st := by
  show To ((evE C e δ st).bind _) QI = _
  simp only [To_bind, w_lift, Som_m]
@[simp] theorem w_izip {a b : CE} : To (evI C (.zip a b) δ st) QI = To (evE C a δ st) fun d st => To (evE C b δ st) fun e st => To (lockD d st) fun q st => To (lockD e st) fun r st => Som (zipP q.1 r.1) fun l => QI (l, q.2 ++ r.2) st := by
  show To ((evE C a δ st).bind _) QI = _
  simp only [To_bind, w_lift, Som_m]
@[simp] theorem w_ikeys {e : CE} : To (evI C (.keys e) δ st) QI = To (evE C e δ st) fun d st => To (walkD false d st) QI := by
  show To ((evE C e δ st).bind _) QI = _
  simp only [To_bind]
@[simp] theorem w_iitems {e : CE} : To (evI C (.items e) δ st) QI = To (evE C e δ st) fun d st => To (walkD true d st) QI := by
  show To ((evE C e δ st).bind _) QI = _
  simp only [To_bind]
@[simp] theorem walkF_p {l : List (Ky × P)} : To (walkD false (.p (.dic l)) st) QI = QI (l.map fun e => e.1.toP, []) st := rfl
@[simp] theorem walkT_p {l : List (Ky × P)} : To (walkD true (.p (.dic l)) st) QI = QI (l.map fun e => .tup [e.1.toP, e.2], []) st := rfl
@[simp] theorem lock_p {p : P} {Q : P × List Nat → Store → Prop} : To (lockD (.p p) st) Q = Q (p, []) st := rfl
@[simp] theorem lock_c {p : P} {Q : P × List Nat → Store → Prop} : To (lockD (.c p) st) Q = Q (p, []) st := rfl
theorem lock_r {k : Nat} {l : List P} {Q : P × List Nat → Store → Prop} (h : st[k]? = some (.lst l)) : To (lockD (.r k) st) Q = Q (.lst l, [k]) (st.set k (.lstL l)) := by unfold lockD; simp only [h]; rfl
@[simp] theorem unlock_n {Q : Unit → Store → Prop} : To (unlock [] st) Q = Q () st := rfl
theorem unlock_c {k : Nat} {l : List P} {Q : Unit → Store → Prop} (h : st[k]? = some (.lstL l)) : To (unlock [k] st) Q = Q () (st.set k (.lst l)) := by unfold unlock; rw [h]; rfl
@[simp] theorem it_l {l : List P} : itemsOf (.lst l) = some l := rfl
@[simp] theorem it_t {l : List P} : itemsOf (.tup l) = some l := rfl
@[simp] theorem it_s {x : Tx} : itemsOf (.str x) = some (x.map fun c => .str [c]) := rfl
@[simp] theorem en_l {l : List P} : enumP (.lst l) = some (enumL 0 l) := rfl
@[simp] theorem en_t {l : List P} : enumP (.tup l) = some (enumL 0 l) := rfl
@[simp] theorem zi_l {l m : List P} : zipP (.lst l) (.lst m) = some (zipL l m) := rfl
@[simp] theorem zi_t {l m : List P} : zipP (.tup l) (.tup m) = some (zipL l m) := rfl
def Mw (m : Mt) (x : D) (ds : List D) (st : Store) [Q : Cn D] : Prop := match x with
  | .r k => Som (st[k]?) fun ob => Som (pures ds) fun ps => match mtM m ob ps with
      | some (v, ob') => Q.q (.p v) (st.set k ob')
      | none => Som (rdO ob) fun p => Som (mtP m p ps) fun v => Q.q (.p v) st
  | .p p => Som (pures ds) fun ps => Som (mtP m p ps) fun v => Q.q (.p v) st
  | .c p => Som (pures ds) fun ps => Som (mtP m p ps) fun v => Q.q (.p v) st
abbrev MethD (m : Mt) (x : D) (ds : List D) (st : Store) (Q : D → Store → Prop) : Prop := @Mw m x ds st ⟨Q⟩
@[simp] theorem w_meth {m : Mt} {o : CE} {es : CEs} : To (evE C (.meth m o es) δ st) QD = To (evE C o δ st) fun x st => recvOk m st x = true ∧ To (evEs C es δ st) fun ds st => MethD m x ds st QD := by
  show To ((evE C o δ st).bind _) QD = _
  rw [To_bind]; congr 1; funext x st
  by_cases h : recvOk m st x = true
  · simp only [h, if_true, true_and, To_bind]
    congr 1; funext ds st
    cases x with
    | p p => cases hq : pures ds <;> simp [MethD, Mw, hq]
    | c p => cases hq : pures ds <;> simp [MethD, Mw, hq]
    | r k =>
      simp only [MethD, Mw]
      cases ho : st[k]? with
      | none => rfl
      | some ob =>
        cases hq : pures ds with
        | none => rfl
        | some ps =>
          simp only [Som_s]
          cases hm : mtM m ob ps with
          | some r => simp
          | none => simp [ho]
  · simp [h]
@[simp] theorem Meth_p {m : Mt} {p : P} {ds : List D} : MethD m (.p p) ds st QD = Som (pures ds) fun ps => Som (mtP m p ps) fun v => QD (.p v) st := rfl
@[simp] theorem Meth_c {m : Mt} {p : P} {ds : List D} : MethD m (.c p) ds st QD = Som (pures ds) fun ps => Som (mtP m p ps) fun v => QD (.p v) st := rfl
theorem Meth_m {m : Mt} {k : Nat} {ds : List D} {ps : List P} {ob ob' : MO} {v : P} (h : st[k]? = some ob) (hp : pures ds = some ps) (hm : mtM m ob ps = some (v, ob')) : MethD m (.r k) ds st QD = QD (.p v) (st.set k ob') := by
  unfold MethD Mw; simp [h, hp, hm]
theorem Meth_r {m : Mt} {k : Nat} {ds : List D} {ps : List P} {ob : MO} {p : P} (h : st[k]? = some ob) (hp : pures ds = some ps) (hm : mtM m ob ps = none) (hr : rdO ob = some p) : MethD m (.r k) ds st QD = Som (mtP m p ps) fun v => QD (.p v) st := by
  unfold MethD Mw; simp [h, hp, hm, hr]
@[simp] theorem w_ssn : To (evSs C .nil δ st) QF = QF (.nx, δ) st := rfl
@[simp] theorem w_ssc {s : CS} {ss : CSs} : To (evSs C (.cons s ss) δ st) QF = To (evS C s δ st) fun f st => Nx f st (fun δ st => To (evSs C ss δ st) QF) QF := by
  show To ((evS C s δ st).bind _) QF = _
  rw [To_bind]; congr 1; funext f st
  obtain ⟨g, δ'⟩ := f
  cases g <;> rfl
@[simp] theorem w_expr {e : CE} : To (evS C (.expr e) δ st) QF = To (evE C e δ st) fun _ st => QF (.nx, δ) st := To_bind
@[simp] theorem w_ret {e : CE} : To (evS C (.ret e) δ st) QF = To (evE C e δ st) fun d st => QF (.rt d, δ) st := To_bind
@[simp] theorem w_retN : To (evS C .retN δ st) QF = QF (.rt (.p .non), δ) st := rfl
@[simp] theorem w_brk : To (evS C .brk δ st) QF = QF (.bk, δ) st := rfl
@[simp] theorem w_cont : To (evS C .cont δ st) QF = QF (.ct, δ) st := rfl
@[simp] theorem w_pass : To (evS C .pass δ st) QF = QF (.nx, δ) st := rfl
@[simp] theorem w_asg {i : Nat} {e : CE} : To (evS C (.asg (.nm i) e) δ st) QF = To (evE C e δ st) fun d st => QF (.nx, setV δ i d) st := To_bind
@[simp] theorem w_asgT {l : List CT} {e : CE} : To (evS C (.asg (.tup l) e) δ st) QF = To (evE C e δ st) fun d st => Som (pure1 d) fun p => Som (asgP (.tup l) p δ) fun δ' => QF (.nx, δ') st := by
  show To ((evE C e δ st).bind _) QF = _
  rw [To_bind]; congr 1; funext d st
  cases d with
  | p x => show To (lift ((asgP (.tup l) x δ).map _) st) QF = _; simp only [w_lift, Som_m, pure1_p, Som_s]
  | _ => rfl
@[simp] theorem w_par {i j : Nat} {a b : CE} : To (evS C (.par i j a b) δ st) QF = To (evE C a δ st) fun d st => To (evE C b δ st) fun e st => QF (.nx, setV (setV δ i d) j e) st := by
  show To ((evE C a δ st).bind _) QF = _
  simp only [To_bind, To_ok]
def asRef : D → Option Nat
  | .r k => some k
  | _ => none
@[simp] theorem asRef_r {k : Nat} : asRef (.r k) = some k := rfl
@[simp] theorem w_sub {a i e : CE} : To (evS C (.sub a i e) δ st) QF = To (evE C e δ st) fun v st => To (evE C a δ st) fun x st => To (evE C i δ st) fun y st => Som (asRef x) fun k => Som (pure1 y) fun q => Som (pure1 v) fun w => Som (st[k]?) fun ob => Som (subM ob q w) fun ob' => QF (.nx, δ) (st.set k ob') := by
  show To ((evE C e δ st).bind _) QF = _
  simp only [To_bind]
  congr 1; funext v st; congr 1; funext x st; congr 1; funext y st
  cases x with
  | r k =>
    cases hq : pure1 y with
    | none => rfl
    | some q =>
      cases hw : pure1 v with
      | none => rfl
      | some w =>
        cases ho : st[k]? with
        | none => simp [ho]
        | some ob =>
          cases hs : subM ob q w with
          | none => simp [ho, hs]
          | some ob' => simp [ho, hs]
  | _ => rfl
def augP (op : BOp) (p q : P) : Option P := match op, p, q with
  | .add, .int a, .int b => some (.int (a + b))
  | .sub, .int a, .int b => some (.int (a - b))
  | .add, .str a, .str b => if a.length + b.length ≤ LINE then some (.str (a ++ b)) else none
  | _, _, _ => none
def dnOb : MO → Option (List (Option Ky × P))
  | .dic l => some (someK l)
  | .dn l => some l
  | _ => none
@[simp] theorem dno_d {l : List (Ky × P)} : dnOb (.dic l) = some (someK l) := rfl
@[simp] theorem dno_n {l : List (Option Ky × P)} : dnOb (.dn l) = some l := rfl
@[simp] theorem dnf_p {l : List (Ky × P)} : dnOf st (.p (.dic l)) = some (someK l) := rfl
@[simp] theorem dnf_r {k : Nat} : dnOf st (.r k) = (st[k]?).bind dnOb := by
  simp only [dnOf]
  cases st[k]? with
  | none => rfl
  | some o => cases o <;> rfl
@[simp] theorem somek_n : someK [] = [] := rfl
@[simp] theorem nk_n : nkOf .non = some none := rfl
@[simp] theorem nk_s {x : Tx} : nkOf (.str x) = some (some (.str x)) := rfl
@[simp] theorem nk_i {i : Int} : nkOf (.int i) = some (some (.int i)) := rfl
def isDnO : MO → Bool
  | .dn _ => true
  | _ => false
@[simp] theorem isdno_n {l : List (Option Ky × P)} : isDnO (.dn l) = true := rfl
@[simp] theorem w_ninn {a d : CE} : To (evE C (.ninn a d) δ st) QD = To (evE C a δ st) fun x st => To (evE C d δ st) fun y st => Som (pure1 x) fun p => Som (nkOf p) fun k => Som (dnOf st y) fun l => QD (.p (.bl (nkget l k).isSome)) st := by
  show To ((evE C a δ st).bind _) QD = _
  simp only [To_bind, w_lift, Som_b, Som_m]
@[simp] theorem w_nidx {a d : CE} : To (evE C (.nidx d a) δ st) QD = To (evE C d δ st) fun x st => To (evE C a δ st) fun y st => Som (dnOf st x) fun l => Som (pure1 y) fun p => Som (nkOf p) fun k => Som (nkget l k) fun v => QD (.p v) st := by
  show To ((evE C d δ st).bind _) QD = _
  simp only [To_bind, w_lift, Som_b, Som_m]
@[simp] theorem w_nget {d a x : CE} : To (evE C (.nget d a x) δ st) QD = To (evE C d δ st) fun y st => Som (dnOf st y) fun _ => To (evE C a δ st) fun x1 st => To (evE C x δ st) fun z st => Som (dnOf st y) fun l => Som (pure1 x1) fun p => Som (nkOf p) fun k => Som (pure1 z) fun q => QD (.p ((nkget l k).getD q)) st := by
  show To ((evE C d δ st).bind _) QD = _
  rw [To_bind]; congr 1; funext y st
  cases h : dnOf st y with
  | none => simp [h]
  | some l0 =>
    simp only [Option.isSome_some, ↓reduceIte, Som_s, To_bind, w_lift, Som_b, Som_m]
@[simp] theorem w_ncopy {d : CE} : To (evE C (.ncopy d) δ st) QD = To (evE C d δ st) fun y st => Som (dnOf st y) fun l => QD (.r st.length) (st ++ [.dn l]) := by
  show To ((evE C d δ st).bind _) QD = _
  rw [To_bind]; congr 1; funext y st
  cases dnOf st y <;> rfl
theorem isDn_r {k : Nat} : isDn st (.r k) = (st[k]?).any isDnO := by
  simp only [isDn]
  cases st[k]? with
  | none => rfl
  | some o => cases o <;> rfl
@[simp] theorem w_nupd {d e : CE} : To (evE C (.nupd d e) δ st) QD = To (evE C d δ st) fun y st => Som (asRef y) fun k => Som (st[k]?) fun ob0 => isDnO ob0 = true ∧ To (evE C e δ st) fun x st => Som (st[k]?) fun ob => Som (pure1 x) fun p => Som (nupdM ob p) fun ob' => QD (.p .non) (st.set k ob') := by
  show To ((evE C d δ st).bind _) QD = _
  rw [To_bind]; congr 1; funext y st
  cases y with
  | p _ => rfl
  | c _ => rfl
  | r k =>
    simp only [asRef, Som_s, isDn_r]
    cases h : st[k]? with
    | none => simp
    | some ob0 =>
      simp only [Som_s, Option.any_some]
      cases ob0 with
      | dn l0 =>
        simp only [isDnO, ↓reduceIte, true_and, To_bind]
        congr 1; funext x st
        cases st[k]? with
        | none => rfl
        | some ob =>
          simp only [Option.bind_some, Som_s]
          cases pure1 x with
          | none => rfl
          | some p =>
            simp only [Option.bind_some, Som_s]
            cases nupdM ob p <;> rfl
      | _ => simp [isDnO]
@[simp] theorem nu_l {l : List (Option Ky × P)} {m : List P} : nupdM (.dn l) (.lst m) = (toNEnts m).bind fun es => if l.length + m.length ≤ LINE then some (.dn (nkmerge l es)) else none := rfl
@[simp] theorem ns_d {l : List (Option Ky × P)} {q w : P} : nsetM (.dn l) q w = if l.length < LINE then (nkOf q).map fun k => .dn (nkput l k w) else none := rfl
@[simp] theorem w_dzip {m : Bool} {a b : CE} : To (evE C (.dzip m a b) δ st) QD = To (evE C a δ st) fun x st => To (evE C b δ st) fun y st => Som (rd st x) fun p => Som (rd st y) fun q => Som (dzipP p q) fun l => To (mkD m l st) QD := by
  show To ((evE C a δ st).bind _) QD = _
  rw [To_bind]; congr 1; funext x st
  rw [To_bind]; congr 1; funext y st
  cases rd st x with
  | none => rfl
  | some p =>
    simp only [Option.bind_some, Som_s]
    cases rd st y with
    | none => rfl
    | some q =>
      simp only [Option.bind_some, Som_s]
      cases dzipP p q <;> rfl
@[simp] theorem dz_t {l m : List P} : dzipP (.tup l) (.tup m) = if l.length = m.length ∧ l.length ≤ LINE then (kysOf l).map fun ks => kmerge [] (ks.zip m) else none := rfl
@[simp] theorem w_sset {m : Bool} {e : CE} : To (evE C (.sset m e) δ st) QD = To (evE C e δ st) fun x st => Som ((rd st x).bind ssetP) fun l => To (mkL m l st) QD := by
  show To ((evE C e δ st).bind _) QD = _
  rw [To_bind]; congr 1; funext x st
  cases (rd st x).bind ssetP <;> rfl
@[simp] theorem w_ksrt {m : Bool} {e : CE} : To (evE C (.ksrt m e) δ st) QD = To (evE C e δ st) fun x st => Som ((rd st x).bind ksrtP) fun l => To (mkL m l st) QD := by
  show To ((evE C e δ st).bind _) QD = _
  rw [To_bind]; congr 1; funext x st
  cases (rd st x).bind ksrtP <;> rfl
def dicO : MO → Option (List (Ky × P))
  | .dic l => some l
  | _ => none
@[simp] theorem dico_d {l : List (Ky × P)} : dicO (.dic l) = some l := rfl
def dicLO : MO → Option (List (Ky × P))
  | .dicL l => some l
  | _ => none
@[simp] theorem diclo_d {l : List (Ky × P)} : dicLO (.dicL l) = some l := rfl
@[simp] theorem w_kcomp {m : Bool} {elt : CE} {tg : CT} {e : CE} {ifc : CO} {own : List Nat} : To (evE C (.kcomp m elt tg e ifc own) δ st) QD = To (evE C e δ st) fun x st => Som (asRef x) fun k => Som (st[k]?) fun ob => Som (dicO ob) fun l =>
    To (compL tg own (fun δ st => evF C ifc δ st) (fun δ st => evE C elt δ st) δ [] (l.map fun e => e.1.toP) (st.set k (.dicL l))) fun ps st => Som (st[k]?) fun ob => Som (dicLO ob) fun l' => To (mkL m ps (st.set k (.dic l'))) QD := by
  show To ((evE C e δ st).bind _) QD = _
  rw [To_bind]; congr 1; funext x st
  cases x with
  | p _ => rfl
  | c _ => rfl
  | r k =>
    simp only [asRef, Som_s]
    cases st[k]? with
    | none => rfl
    | some ob =>
      cases ob with
      | dic l =>
        simp only [Som_s, dicO, To_bind]
        congr 1; funext ps st
        cases st[k]? with
        | none => rfl
        | some ob2 => cases ob2 <;> rfl
      | _ => rfl
@[simp] theorem w_nset {a i e : CE} : To (evS C (.nset a i e) δ st) QF = To (evE C e δ st) fun v st => To (evE C a δ st) fun x st => To (evE C i δ st) fun y st => Som (asRef x) fun k => Som (st[k]?) fun ob => Som (pure1 y) fun q => Som (pure1 v) fun w => Som (nsetM ob q w) fun ob' => QF (.nx, δ) (st.set k ob') := by
  show To ((evE C e δ st).bind _) QF = _
  rw [To_bind]; congr 1; funext v st
  rw [To_bind]; congr 1; funext x st
  rw [To_bind]; congr 1; funext y st
  cases x with
  | p _ => rfl
  | c _ => rfl
  | r k =>
    simp only [asRef, Som_s]
    cases st[k]? with
    | none => rfl
    | some ob =>
      simp only [Option.bind_some, Som_s]
      cases pure1 y with
      | none => rfl
      | some q =>
        simp only [Option.bind_some, Som_s]
        cases pure1 v with
        | none => rfl
        | some w =>
          simp only [Option.bind_some, Som_s]
          cases nsetM ob q w <;> rfl
@[simp] theorem w_aug {i : Nat} {op : BOp} {e : CE} : To (evS C (.aug i op e) δ st) QF = Som (getV δ i) fun d => Som (pure1 d) fun p => To (evE C e δ st) fun y st => Som (pure1 y) fun q => Som (augP op p q) fun r => QF (.nx, setV δ i (.p r)) st := by
  show To (match getV δ i with
    | some (.p p) => _
    | _ => _) QF = _
  cases getV δ i with
  | none => rfl
  | some d =>
    cases d with
    | p p =>
      simp only [Som_s, pure1_p, To_bind, w_lift, Som_b]
      congr 1; funext y st
      cases pure1 y with
      | none => rfl
      | some q =>
        simp only [Som_s]
        cases op <;> cases p <;> cases q <;> first | rfl | (simp only [augP]; split <;> rfl)
    | _ => rfl
@[simp] theorem au_add {a b : Int} : augP .add (.int a) (.int b) = some (.int (a + b)) := rfl
@[simp] theorem au_sub {a b : Int} : augP .sub (.int a) (.int b) = some (.int (a - b)) := rfl
@[simp] theorem au_str {a b : Tx} : augP .add (.str a) (.str b) = if a.length + b.length ≤ LINE then some (.str (a ++ b)) else none := rfl
@[simp] theorem w_if {c : CE} {a b : CSs} : To (evS C (.ife c a b) δ st) QF = To (evE C c δ st) fun x st => IfB x (To (evSs C a δ st) QF) (To (evSs C b δ st) QF) := by
  show To ((evT C c δ st).bind _) QF = _
  unfold evT
  simp only [To_bind, w_lift]
  congr 1; funext x st; unfold IfB Bw
  cases asBl x with
  | none => rfl
  | some b => cases b <;> rfl
@[simp] theorem w_for {t : CT} {src : CI} {b : CSs} : To (evS C (.forr t src b) δ st) QF = To (evI C src δ st) fun l st => To (forL t (fun δ st => evSs C b δ st) l.1 δ st) fun f st => To (unlock l.2 st) fun _ st => QF f st := by
  show To ((evI C src δ st).bind _) QF = _
  simp only [To_bind, To_ok]
@[simp] theorem w_kfor {t : CT} {e : CE} {b : CSs} : To (evS C (.kfor t e b) δ st) QF = To (evE C e δ st) fun x st => Som (asRef x) fun k => Som (st[k]?) fun ob => Som (dicO ob) fun l =>
    To (forL t (fun δ st => evSs C b δ st) (l.map fun e => e.1.toP) δ (st.set k (.dicL l))) fun f st => Som (st[k]?) fun ob => Som (dicLO ob) fun l' => QF f (st.set k (.dic l')) := by
  show To ((evE C e δ st).bind _) QF = _
  rw [To_bind]; congr 1; funext x st
  cases x with
  | p _ => rfl
  | c _ => rfl
  | r k =>
    simp only [asRef, Som_s]
    cases st[k]? with
    | none => rfl
    | some ob =>
      cases ob with
      | dic l =>
        simp only [Som_s, dicO, To_bind]
        congr 1; funext ps st
        cases st[k]? with
        | none => rfl
        | some ob2 => cases ob2 <;> rfl
      | _ => rfl
@[simp] theorem w_whil {c : CE} {b : CSs} : To (evS C (.whil c b) δ st) QF = To (whileL (fun δ st => evT C c δ st) (fun δ st => evSs C b δ st) WH δ st) QF := rfl
@[simp] theorem as_n {i : Nat} {p : P} : asgP (.nm i) p δ = some (setV δ i (.p p)) := rfl
@[simp] theorem as_t {ts : List CT} {l : List P} : asgP (.tup ts) (.tup l) δ = asgPs ts l δ := rfl
@[simp] theorem as_l {ts : List CT} {l : List P} : asgP (.tup ts) (.lst l) δ = asgPs ts l δ := rfl
@[simp] theorem as_tn : asgPs [] [] δ = some δ := rfl
@[simp] theorem as_tc {t : CT} {ts : List CT} {p : P} {l : List P} : asgPs (t :: ts) (p :: l) δ = (asgP t p δ).bind fun δ' => asgPs ts l δ' := by
  simp only [asgPs]; cases asgP t p δ <;> rfl
def Lw (f : Fl × Env) (st : Store) [K : Ke] [Q : Cn (Fl × Env)] : Prop := match f with
  | (.nx, δ) => K.k δ st
  | (.ct, δ) => K.k δ st
  | (.bk, δ) => Q.q (.nx, δ) st
  | (.rt d, δ) => Q.q (.rt d, δ) st
abbrev LpNx (f : Fl × Env) (st : Store) (K : Env → Store → Prop) (Q : Fl × Env → Store → Prop) : Prop := @Lw f st ⟨K⟩ ⟨Q⟩
@[simp] theorem LpNx_n : LpNx (.nx, δ) st K QF = K δ st := rfl
@[simp] theorem LpNx_r {d : D} : LpNx (.rt d, δ) st K QF = QF (.rt d, δ) st := rfl
@[simp] theorem LpNx_b : LpNx (.bk, δ) st K QF = QF (.nx, δ) st := rfl
@[simp] theorem LpNx_c : LpNx (.ct, δ) st K QF = K δ st := rfl
@[simp] theorem for_n {tg : CT} {body : Env → Store → R (Fl × Env)} : To (forL tg body [] δ st) QF = QF (.nx, δ) st := rfl
theorem for_c {tg : CT} {body : Env → Store → R (Fl × Env)} {x : P} {r : List P} : To (forL tg body (x :: r) δ st) QF = Som (asgP tg x δ) fun δ1 => To (body δ1 st) fun f st1 => LpNx f st1 (fun δ st => To (forL tg body r δ st) QF) QF := by
  rw [forL]
  cases asgP tg x δ with
  | none => rfl
  | some δ1 =>
    simp only [Som_s, To_bind]
    congr 1; funext f st1
    obtain ⟨g, δ'⟩ := f
    cases g <;> rfl
@[simp] theorem comp_n {tg : CT} {own : List Nat} {tst : Env → Store → R Bool} {elt : Env → Store → R D} {acc : List P} {Q : List P → Store → Prop} : To (compL tg own tst elt δ acc [] st) Q = Q acc st := rfl
theorem comp_c {tg : CT} {own : List Nat} {tst : Env → Store → R Bool} {elt : Env → Store → R D} {acc r : List P} {x : P} {Q : List P → Store → Prop} : To (compL tg own tst elt δ acc (x :: r) st) Q = Som (asgP tg x (delVs δ own)) fun δ' => To (tst δ' st) fun b st1 => if b = true then To (elt δ' st1) fun d st2 => Som (pure1 d) fun p => acc.length < LINE ∧ To (compL tg own tst elt δ (acc ++ [p]) r st2) Q else To (compL tg own tst elt δ acc r st1) Q := by
  rw [compL]
  cases asgP tg x (delVs δ own) with
  | none => rfl
  | some δ1 =>
    simp only [Som_s, To_bind]
    congr 1; funext b st1
    cases b with
    | false => simp
    | true =>
      simp only [if_true, To_bind]
      congr 1; funext d st2
      cases pure1 d with
      | none => rfl
      | some p => simp only [Som_s]; by_cases h : acc.length < LINE <;> simp only [h, if_true, if_false, true_and, false_and] <;> rfl
theorem while_s {tst : Env → Store → R Bool} {body : Env → Store → R (Fl × Env)} {n : Nat} : To (whileL tst body (n + 1) δ st) QF = To (tst δ st) fun b st1 => if b = true then To (body δ st1) fun f st2 => LpNx f st2 (fun δ st => To (whileL tst body n δ st) QF) QF else QF (.nx, δ) st1 := by
  rw [whileL, To_bind]
  congr 1; funext b st1
  cases b with
  | false => rfl
  | true =>
    simp only [if_true, To_bind]
    congr 1; funext f st2
    obtain ⟨g, δ'⟩ := f
    cases g <;> rfl
def Ew (n : Nat) (r : Fl × Env) (st' : Store) [Q : Cn D] : Prop := match r.1 with
  | .rt d => To (exportD n st' d) Q.q
  | .nx => Q.q (.p .non) (st'.take n)
  | _ => False
abbrev End (n : Nat) (r : Fl × Env) (st' : Store) (Q : D → Store → Prop) : Prop := @Ew n r st' ⟨Q⟩
@[simp] theorem End_n {n : Nat} : End n (.nx, δ) st' QD = QD (.p .non) (st'.take n) := rfl
@[simp] theorem End_r {n : Nat} {d : D} : End n (.rt d, δ) st' QD = To (exportD n st' d) QD := rfl
@[simp] theorem ex_p {n : Nat} {p : P} : To (exportD n st' (.p p)) QD = QD (.p p) (st'.take n) := rfl
@[simp] theorem ix_l {l : List P} {i : Int} : idxP (.lst l) (.int i) = (ixOf l.length i).bind fun k => l[k]? := rfl
@[simp] theorem ix_t {l : List P} {i : Int} : idxP (.tup l) (.int i) = (ixOf l.length i).bind fun k => l[k]? := rfl
@[simp] theorem ix_d {l : List (Ky × P)} {x : Tx} : idxP (.dic l) (.str x) = kget l (.str x) := rfl
theorem ix0 {n : Nat} : ixOf (n + 1) 0 = some 0 := by unfold ixOf; simp
theorem ix1 {n : Nat} : ixOf (n + 2) 1 = some 1 := by unfold ixOf; simp; omega
theorem ix2 {n : Nat} : ixOf (n + 3) 2 = some 2 := by unfold ixOf; simp; omega
theorem ix3 {n : Nat} : ixOf (n + 4) 3 = some 3 := by unfold ixOf; simp; omega
@[simp] theorem it0 {a : P} {l : List P} : idxP (.tup (a :: l)) (.int 0) = some a := by simp [ix0]
@[simp] theorem it1 {a b : P} {l : List P} : idxP (.tup (a :: b :: l)) (.int 1) = some b := by simp [ix1]
@[simp] theorem it2 {a b c : P} {l : List P} : idxP (.tup (a :: b :: c :: l)) (.int 2) = some c := by simp [ix2]
@[simp] theorem it3 {a b c d : P} {l : List P} : idxP (.tup (a :: b :: c :: d :: l)) (.int 3) = some d := by simp [ix3]
@[simp] theorem il0 {a : P} {l : List P} : idxP (.lst (a :: l)) (.int 0) = some a := by simp [ix0]
@[simp] theorem il1 {a b : P} {l : List P} : idxP (.lst (a :: b :: l)) (.int 1) = some b := by simp [ix1]
@[simp] theorem il2 {a b c : P} {l : List P} : idxP (.lst (a :: b :: c :: l)) (.int 2) = some c := by simp [ix2]
theorem ixOf_nat {n : Nat} {v : Int} (h0 : 0 ≤ v) (h : v < n) : ixOf n v = some v.toNat := by
  unfold ixOf; simp [h0, h]
@[simp] theorem sm_l {l : List P} {i : Int} {v : P} : subM (.lst l) (.int i) v = (ixOf l.length i).map fun k => .lst (l.set k v) := rfl
@[simp] theorem sm0 {a : P} {l : List P} {v : P} : subM (.lst (a :: l)) (.int 0) v = some (.lst (v :: l)) := by simp [ix0]
@[simp] theorem sm1 {a b : P} {l : List P} {v : P} : subM (.lst (a :: b :: l)) (.int 1) v = some (.lst (a :: v :: l)) := by simp [ix1]
@[simp] theorem sm2 {a b c : P} {l : List P} {v : P} : subM (.lst (a :: b :: c :: l)) (.int 2) v = some (.lst (a :: b :: v :: l)) := by simp [ix2]
@[simp] theorem bp_add {a b : Int} : binP .add (.int a) (.int b) = some (.int (a + b)) := rfl
@[simp] theorem bp_adds {a b : Tx} : binP .add (.str a) (.str b) = if a.length + b.length ≤ LINE then some (.str (a ++ b)) else none := rfl
@[simp] theorem bp_addl {a b : List P} : binP .add (.lst a) (.lst b) = if a.length + b.length ≤ LINE then some (.lst (a ++ b)) else none := rfl
@[simp] theorem bp_addt {a b : List P} : binP .add (.tup a) (.tup b) = if a.length + b.length ≤ LINE then some (.tup (a ++ b)) else none := rfl
@[simp] theorem bp_sub {a b : Int} : binP .sub (.int a) (.int b) = some (.int (a - b)) := rfl
@[simp] theorem bp_mul {a b : Int} : binP .mul (.int a) (.int b) = if (within64 a || within64 b) = true then some (.int (a * b)) else none := rfl
@[simp] theorem bp_div {a b : Int} : binP .fdiv (.int a) (.int b) = if 0 < b ∧ b < 1073741824 then some (.int (a / b)) else none := rfl
@[simp] theorem bp_mod {a b : Int} : binP .mod (.int a) (.int b) = if 0 < b then some (.int (a % b)) else none := rfl
@[simp] theorem cp_lt {a b : Int} : cmpD .lt st (.p (.int a)) (.p (.int b)) = some (decide (a < b)) := rfl
@[simp] theorem cp_le {a b : Int} : cmpD .le st (.p (.int a)) (.p (.int b)) = some (decide (a ≤ b)) := rfl
@[simp] theorem cp_gt {a b : Int} : cmpD .gt st (.p (.int a)) (.p (.int b)) = some (decide (b < a)) := rfl
@[simp] theorem cp_ge {a b : Int} : cmpD .ge st (.p (.int a)) (.p (.int b)) = some (decide (b ≤ a)) := rfl
@[simp] theorem cp_eqi {a b : Int} : cmpD .eq st (.p (.int a)) (.p (.int b)) = some (a == b) := rfl
@[simp] theorem cp_eqs {a b : Tx} : cmpD .eq st (.p (.str a)) (.p (.str b)) = some (a == b) := rfl
@[simp] theorem cp_eqb {a b : Bool} : cmpD .eq st (.p (.bl a)) (.p (.bl b)) = some (a == b) := rfl
@[simp] theorem cp_nei {a b : Int} : cmpD .ne st (.p (.int a)) (.p (.int b)) = some (!(a == b)) := rfl
@[simp] theorem cp_nes {a b : Tx} : cmpD .ne st (.p (.str a)) (.p (.str b)) = some (!(a == b)) := rfl
@[simp] theorem cp_neb {a b : Bool} : cmpD .ne st (.p (.bl a)) (.p (.bl b)) = some (!(a == b)) := rfl
@[simp] theorem cp_isN {a : P} : cmpD .isN st (.p a) (.p .non) = some (isNon (.p a)) := rfl
@[simp] theorem cp_isnN {a : P} : cmpD .isnN st (.p a) (.p .non) = some (!isNon (.p a)) := rfl
@[simp] theorem isNon_n : isNon (.p .non) = true := rfl
@[simp] theorem isNon_t {l : List P} : isNon (.p (.tup l)) = false := rfl
@[simp] theorem isNon_l {l : List P} : isNon (.p (.lst l)) = false := rfl
@[simp] theorem isNon_s {l : Tx} : isNon (.p (.str l)) = false := rfl
@[simp] theorem isNon_i {l : Int} : isNon (.p (.int l)) = false := rfl
@[simp] theorem bi_len {x : P} : biP .len [x] = (lenP x).bind fun n => if n ≤ LINE then some (.int n) else none := rfl
@[simp] theorem bi_abs {i : Int} : biP .abs [.int i] = some (.int (if i < 0 then -i else i)) := rfl
@[simp] theorem bi_int {i : Int} : biP .int [.int i] = some (.int i) := rfl
@[simp] theorem bi_intb {b : Bool} : biP .int [.bl b] = some (.int (if b = true then 1 else 0)) := rfl
@[simp] theorem bi_str {i : Int} : biP .str [.int i] = if 0 ≤ i ∧ i < 10 ^ 18 then some (.str (natTx i.toNat)) else none := rfl
@[simp] theorem bi_all {l : List P} : biP .all [.lst l] = (allBl l).map fun bs => .bl (bs.all id) := rfl
@[simp] theorem bi_any {l : List P} : biP .any [.lst l] = (allBl l).map fun bs => .bl (bs.any id) := rfl
@[simp] theorem bi_min {i j : Int} : biP .min2 [.int i, .int j] = some (.int (if j < i then j else i)) := rfl
@[simp] theorem bi_max {i j : Int} : biP .max2 [.int i, .int j] = some (.int (if j > i then j else i)) := rfl
@[simp] theorem bi_tupl {l : List P} : biP .tuple [.lst l] = some (.tup l) := rfl
@[simp] theorem bi_tupt {l : List P} : biP .tuple [.tup l] = some (.tup l) := rfl
@[simp] theorem bi_isi {ts : List Ty} {x : P} : biP (.isi ts) [x] = some (.bl (ts.any (isTy x))) := rfl
@[simp] theorem lenP_s {x : Tx} : lenP (.str x) = some x.length := rfl
@[simp] theorem lenP_t {x : List P} : lenP (.tup x) = some x.length := rfl
@[simp] theorem lenP_l {x : List P} : lenP (.lst x) = some x.length := rfl
@[simp] theorem lenP_d {x : List (Ky × P)} : lenP (.dic x) = some x.length := rfl
@[simp] theorem lc_l {x : List P} : lcopyP (.lst x) = some x := rfl
@[simp] theorem lc_t {x : List P} : lcopyP (.tup x) = some x := rfl
@[simp] theorem dc_d {x : List (Ky × P)} : dcopyP (.dic x) = some x := rfl
@[simp] theorem dc_l {x : List P} : dcopyP (.lst x) = (toEnts x).map fun es => kmerge [] es := rfl
@[simp] theorem asI_i {i : Int} : P.asInt (.int i) = some i := rfl
@[simp] theorem asL_l {l : List P} : P.asLst (.lst l) = some l := rfl
end
@[simp] theorem bt_len : (Bi.len = Bi.tuple) = False := by simp
@[simp] theorem bt_abs : (Bi.abs = Bi.tuple) = False := by simp
@[simp] theorem bt_int : (Bi.int = Bi.tuple) = False := by simp
@[simp] theorem bt_str : (Bi.str = Bi.tuple) = False := by simp
@[simp] theorem bt_all : (Bi.all = Bi.tuple) = False := by simp
@[simp] theorem bt_any : (Bi.any = Bi.tuple) = False := by simp
@[simp] theorem bt_sum : (Bi.sum = Bi.tuple) = False := by simp
@[simp] theorem bt_min : (Bi.min2 = Bi.tuple) = False := by simp
@[simp] theorem bt_max : (Bi.max2 = Bi.tuple) = False := by simp
@[simp] theorem bt_isi {ts : List Ty} : (Bi.isi ts = Bi.tuple) = False := by simp
@[simp] theorem bt_tup : (Bi.tuple = Bi.tuple) = True := by simp
@[simp] theorem ty_l {l : List P} : tyOf (.lst l) = some .list := rfl
@[simp] theorem ty_d {l : List (Ky × P)} : tyOf (.dic l) = some .dict := rfl
@[simp] theorem ty_s {l : Tx} : tyOf (.str l) = some .str := rfl
section
variable {st : Store} {k : Nat} {ds : List D} {QD : D → Store → Prop}
@[simp] theorem rc_join {x : Tx} : recvOk .join st (.p (.str x)) = true := rfl
@[simp] theorem rc_get1 {l : List (Ky × P)} : recvOk .get1 st (.p (.dic l)) = true := rfl
@[simp] theorem rc_get2 {l : List (Ky × P)} : recvOk .get2 st (.p (.dic l)) = true := rfl
@[simp] theorem rr_append : recvOk .append st (.r k) = decide (((st[k]?).bind rdO).bind tyOf = some .list) := by
  show decide ((rd st (.r k)).bind tyOf = some (.list)) = _
  rw [rd_r]
@[simp] theorem rr_extend : recvOk .extend st (.r k) = decide (((st[k]?).bind rdO).bind tyOf = some .list) := by
  show decide ((rd st (.r k)).bind tyOf = some (.list)) = _
  rw [rd_r]
@[simp] theorem rr_pop0 : recvOk .pop0 st (.r k) = decide (((st[k]?).bind rdO).bind tyOf = some .list) := by
  show decide ((rd st (.r k)).bind tyOf = some (.list)) = _
  rw [rd_r]
@[simp] theorem rr_pop1 : recvOk .pop1 st (.r k) = decide (((st[k]?).bind rdO).bind tyOf = some .list) := by
  show decide ((rd st (.r k)).bind tyOf = some (.list)) = _
  rw [rd_r]
@[simp] theorem rr_insert : recvOk .insert st (.r k) = decide (((st[k]?).bind rdO).bind tyOf = some .list) := by
  show decide ((rd st (.r k)).bind tyOf = some (.list)) = _
  rw [rd_r]
@[simp] theorem rr_reverse : recvOk .reverse st (.r k) = decide (((st[k]?).bind rdO).bind tyOf = some .list) := by
  show decide ((rd st (.r k)).bind tyOf = some (.list)) = _
  rw [rd_r]
@[simp] theorem rr_clear : recvOk .clear st (.r k) = decide (((st[k]?).bind rdO).bind tyOf = some .list) := by
  show decide ((rd st (.r k)).bind tyOf = some (.list)) = _
  rw [rd_r]
@[simp] theorem rr_index : recvOk .index st (.r k) = decide (((st[k]?).bind rdO).bind tyOf = some .list) := by
  show decide ((rd st (.r k)).bind tyOf = some (.list)) = _
  rw [rd_r]
@[simp] theorem rr_count : recvOk .count st (.r k) = decide (((st[k]?).bind rdO).bind tyOf = some .list) := by
  show decide ((rd st (.r k)).bind tyOf = some (.list)) = _
  rw [rd_r]
@[simp] theorem rr_get1 : recvOk .get1 st (.r k) = decide (((st[k]?).bind rdO).bind tyOf = some .dict) := by
  show decide ((rd st (.r k)).bind tyOf = some (.dict)) = _
  rw [rd_r]
@[simp] theorem rr_get2 : recvOk .get2 st (.r k) = decide (((st[k]?).bind rdO).bind tyOf = some .dict) := by
  show decide ((rd st (.r k)).bind tyOf = some (.dict)) = _
  rw [rd_r]
@[simp] theorem rr_setdefault : recvOk .setdefault st (.r k) = decide (((st[k]?).bind rdO).bind tyOf = some .dict) := by
  show decide ((rd st (.r k)).bind tyOf = some (.dict)) = _
  rw [rd_r]
@[simp] theorem rr_dpop1 : recvOk .dpop1 st (.r k) = decide (((st[k]?).bind rdO).bind tyOf = some .dict) := by
  show decide ((rd st (.r k)).bind tyOf = some (.dict)) = _
  rw [rd_r]
def isDic : MO → Bool
  | .dic _ => true
  | _ => false
@[simp] theorem isDic_d {l : List (Ky × P)} : isDic (.dic l) = true := rfl
@[simp] theorem rr_update : recvOk .update st (.r k) = ((st[k]?).map isDic).getD false := by
  show (match st[k]? with
    | some (.dic _) => true
    | _ => false) = _
  cases st[k]? with
  | none => rfl
  | some o => cases o <;> rfl
@[simp] theorem some_getD {α : Type} {a b : α} : (some a).getD b = a := rfl
@[simp] theorem me_append : MethD .append (.r k) ds st QD = Som (st[k]?) fun ob => Som (pures ds) fun ps => Som (mtM .append ob ps) fun v => QD (.p v.1) (st.set k v.2) := by
  unfold MethD Mw
  dsimp only
  congr 2; funext ob; congr 2; funext ps
  cases mtM .append ob ps with
  | none => cases rdO ob <;> rfl
  | some v => rfl
@[simp] theorem me_extend : MethD .extend (.r k) ds st QD = Som (st[k]?) fun ob => Som (pures ds) fun ps => Som (mtM .extend ob ps) fun v => QD (.p v.1) (st.set k v.2) := by
  unfold MethD Mw
  dsimp only
  congr 2; funext ob; congr 2; funext ps
  cases mtM .extend ob ps with
  | none => cases rdO ob <;> rfl
  | some v => rfl
@[simp] theorem me_pop0 : MethD .pop0 (.r k) ds st QD = Som (st[k]?) fun ob => Som (pures ds) fun ps => Som (mtM .pop0 ob ps) fun v => QD (.p v.1) (st.set k v.2) := by
  unfold MethD Mw
  dsimp only
  congr 2; funext ob; congr 2; funext ps
  cases mtM .pop0 ob ps with
  | none => cases rdO ob <;> rfl
  | some v => rfl
@[simp] theorem me_pop1 : MethD .pop1 (.r k) ds st QD = Som (st[k]?) fun ob => Som (pures ds) fun ps => Som (mtM .pop1 ob ps) fun v => QD (.p v.1) (st.set k v.2) := by
  unfold MethD Mw
  dsimp only
  congr 2; funext ob; congr 2; funext ps
  cases mtM .pop1 ob ps with
  | none => cases rdO ob <;> rfl
  | some v => rfl
@[simp] theorem me_insert : MethD .insert (.r k) ds st QD = Som (st[k]?) fun ob => Som (pures ds) fun ps => Som (mtM .insert ob ps) fun v => QD (.p v.1) (st.set k v.2) := by
  unfold MethD Mw
  dsimp only
  congr 2; funext ob; congr 2; funext ps
  cases mtM .insert ob ps with
  | none => cases rdO ob <;> rfl
  | some v => rfl
@[simp] theorem me_reverse : MethD .reverse (.r k) ds st QD = Som (st[k]?) fun ob => Som (pures ds) fun ps => Som (mtM .reverse ob ps) fun v => QD (.p v.1) (st.set k v.2) := by
  unfold MethD Mw
  dsimp only
  congr 2; funext ob; congr 2; funext ps
  cases mtM .reverse ob ps with
  | none => cases rdO ob <;> rfl
  | some v => rfl
@[simp] theorem me_clear : MethD .clear (.r k) ds st QD = Som (st[k]?) fun ob => Som (pures ds) fun ps => Som (mtM .clear ob ps) fun v => QD (.p v.1) (st.set k v.2) := by
  unfold MethD Mw
  dsimp only
  congr 2; funext ob; congr 2; funext ps
  cases mtM .clear ob ps with
  | none => cases rdO ob <;> rfl
  | some v => rfl
@[simp] theorem me_setdefault : MethD .setdefault (.r k) ds st QD = Som (st[k]?) fun ob => Som (pures ds) fun ps => Som (mtM .setdefault ob ps) fun v => QD (.p v.1) (st.set k v.2) := by
  unfold MethD Mw
  dsimp only
  congr 2; funext ob; congr 2; funext ps
  cases mtM .setdefault ob ps with
  | none => cases rdO ob <;> rfl
  | some v => rfl
@[simp] theorem me_dpop1 : MethD .dpop1 (.r k) ds st QD = Som (st[k]?) fun ob => Som (pures ds) fun ps => Som (mtM .dpop1 ob ps) fun v => QD (.p v.1) (st.set k v.2) := by
  unfold MethD Mw
  dsimp only
  congr 2; funext ob; congr 2; funext ps
  cases mtM .dpop1 ob ps with
  | none => cases rdO ob <;> rfl
  | some v => rfl
@[simp] theorem me_update : MethD .update (.r k) ds st QD = Som (st[k]?) fun ob => Som (pures ds) fun ps => Som (mtM .update ob ps) fun v => QD (.p v.1) (st.set k v.2) := by
  unfold MethD Mw
  dsimp only
  congr 2; funext ob; congr 2; funext ps
  cases mtM .update ob ps with
  | none => cases rdO ob <;> rfl
  | some v => rfl
@[simp] theorem me_get1 : MethD .get1 (.r k) ds st QD = Som (st[k]?) fun ob => Som (pures ds) fun ps => Som (rdO ob) fun p => Som (mtP .get1 p ps) fun v => QD (.p v) st := by
  unfold MethD Mw
  dsimp only
  congr 2
@[simp] theorem me_get2 : MethD .get2 (.r k) ds st QD = Som (st[k]?) fun ob => Som (pures ds) fun ps => Som (rdO ob) fun p => Som (mtP .get2 p ps) fun v => QD (.p v) st := by
  unfold MethD Mw
  dsimp only
  congr 2
@[simp] theorem mm_append {l : List P} {x : P} : mtM .append (.lst l) [x] = if l.length < LINE then some (.non, .lst (l ++ [x])) else none := rfl
@[simp] theorem mm_extend {l m : List P} : mtM .extend (.lst l) [.lst m] = if l.length + m.length ≤ LINE then some (.non, .lst (l ++ m)) else none := rfl
@[simp] theorem mm_reverse {l : List P} : mtM .reverse (.lst l) [] = some (.non, .lst l.reverse) := rfl
@[simp] theorem mm_clear {l : List P} : mtM .clear (.lst l) [] = some (.non, .lst []) := rfl
@[simp] theorem mm_pop1 {l : List P} {i : Int} : mtM .pop1 (.lst l) [.int i] = if -(2 ^ 62) < i ∧ i < 2 ^ 62 then (ixOf l.length i).bind fun k => (l[k]?).map fun x => (x, .lst (l.eraseIdx k)) else none := rfl
@[simp] theorem mm_update_l {l : List (Ky × P)} {m : List P} : mtM .update (.dic l) [.lst m] = (toEnts m).bind fun es => if l.length + m.length ≤ LINE then some (.non, .dic (kmerge l es)) else none := rfl
@[simp] theorem mm_update_d {l m : List (Ky × P)} : mtM .update (.dic l) [.dic m] = if l.length + m.length ≤ LINE then some (.non, .dic (kmerge l m)) else none := rfl
@[simp] theorem mm_setd {l : List (Ky × P)} {k d : P} : mtM .setdefault (.dic l) [k, d] = if l.length < LINE then k.toKy.map fun k => match kget l k with
    | some v => (v, .dic l)
    | none => (d, .dic (kput l k d)) else none := rfl
@[simp] theorem mp_join {s : Tx} {l : List P} : mtP .join (.str s) [.lst l] = (allStr l).bind fun xs => if (xs.map List.length).sum + xs.length * s.length ≤ LINE then some (.str (joinTx s xs)) else none := rfl
@[simp] theorem mp_get1 {l : List (Ky × P)} {k : P} : mtP .get1 (.dic l) [k] = k.toKy.map fun k => (kget l k).getD .non := rfl
@[simp] theorem mp_get2 {l : List (Ky × P)} {k d : P} : mtP .get2 (.dic l) [k, d] = k.toKy.map fun k => (kget l k).getD d := rfl
@[simp] theorem ky_s {x : Tx} : P.toKy (.str x) = some (.str x) := rfl
@[simp] theorem ky_i {x : Int} : P.toKy (.int x) = some (.int x) := rfl
@[simp] theorem Som_if {α : Type} {c : Prop} [Decidable c] {o : Option α} {Q : α → Prop} : Som (if c then o else none) Q = (c ∧ Som o Q) := by
  by_cases h : c <;> simp [h]
theorem Som_ie {α : Type} {c : Prop} [Decidable c] {o o' : Option α} {Q : α → Prop} : Som (if c then o else o') Q = if c then Som o Q else Som o' Q := by
  by_cases h : c <;> simp [h]
@[simp] theorem allStr_m {l : List Tx} : allStr (l.map .str) = some l := by
  induction l with
  | nil => rfl
  | cons a l ih => simp [allStr, ih]
@[simp] theorem allBl_m {l : List Bool} : allBl (l.map .bl) = some l := by
  induction l with
  | nil => rfl
  | cons a l ih => simp [allBl, ih]
end
@[simp] theorem cq_s {l : Tx} {a b : Option Int} : cutP a b (.str l) = if l.length ≤ LINE then some (.str (cut l a b)) else none := rfl
@[simp] theorem cq_l {l : List P} {a b : Option Int} : cutP a b (.lst l) = some (.lst (cut l a b)) := rfl
@[simp] theorem cq_t {l : List P} {a b : Option Int} : cutP a b (.tup l) = some (.tup (cut l a b)) := rfl
theorem LINE_eq : LINE = 16777216 := rfl
@[simp] theorem pu_n : pairUp [] = some [] := rfl
@[simp] theorem pu_c {k v : P} {r : List P} : pairUp (k :: v :: r) = k.toKy.bind fun k => (pairUp r).map ((k, v) :: ·) := by
  simp only [pairUp]
  cases k.toKy <;> cases pairUp r <;> rfl
@[simp] theorem te_n : toEnts [] = some [] := rfl
@[simp] theorem te_c {k v : P} {r : List P} : toEnts (.tup [k, v] :: r) = k.toKy.bind fun k => (toEnts r).map ((k, v) :: ·) := by
  simp only [toEnts]
  cases k.toKy <;> cases toEnts r <;> rfl
theorem kg_s {l : List (Ky × P)} {k : Ky} {p : P} : kget ((k, p) :: l) k = some p := by simp [kget]
theorem kg_n {l : List (Ky × P)} {k j : Ky} {p : P} (h : j ≠ k) : kget ((j, p) :: l) k = kget l k := by simp [kget, h]
def frzO : MO → Option P
  | .lst l => some (.lst l)
  | .dic l => some (.dic l)
  | _ => none
@[simp] theorem fo_l {l : List P} : frzO (.lst l) = some (.lst l) := rfl
@[simp] theorem fo_d {l : List (Ky × P)} : frzO (.dic l) = some (.dic l) := rfl
@[simp] theorem fz_r {st : Store} {k : Nat} {QD : D → Store → Prop} : FrzD (.r k) st QD = Som ((st[k]?).bind frzO) fun p => QD (.p p) (st.set k .dead) := by
  unfold FrzD Fw
  dsimp only
  cases st[k]? with
  | none => rfl
  | some o => cases o <;> rfl
@[simp] theorem isT_n_str  : isTy .non .str = false := rfl
@[simp] theorem isT_n_int  : isTy .non .int = false := rfl
@[simp] theorem isT_n_bool  : isTy .non .bool = false := rfl
@[simp] theorem isT_n_tuple  : isTy .non .tuple = false := rfl
@[simp] theorem isT_n_list  : isTy .non .list = false := rfl
@[simp] theorem isT_n_dict  : isTy .non .dict = false := rfl
@[simp] theorem isT_b_str {b : Bool} : isTy (.bl b) .str = false := rfl
@[simp] theorem isT_b_int {b : Bool} : isTy (.bl b) .int = true := rfl
@[simp] theorem isT_b_bool {b : Bool} : isTy (.bl b) .bool = true := rfl
@[simp] theorem isT_b_tuple {b : Bool} : isTy (.bl b) .tuple = false := rfl
@[simp] theorem isT_b_list {b : Bool} : isTy (.bl b) .list = false := rfl
@[simp] theorem isT_b_dict {b : Bool} : isTy (.bl b) .dict = false := rfl
@[simp] theorem isT_i_str {i : Int} : isTy (.int i) .str = false := rfl
@[simp] theorem isT_i_int {i : Int} : isTy (.int i) .int = true := rfl
@[simp] theorem isT_i_bool {i : Int} : isTy (.int i) .bool = false := rfl
@[simp] theorem isT_i_tuple {i : Int} : isTy (.int i) .tuple = false := rfl
@[simp] theorem isT_i_list {i : Int} : isTy (.int i) .list = false := rfl
@[simp] theorem isT_i_dict {i : Int} : isTy (.int i) .dict = false := rfl
@[simp] theorem isT_s_str {x : Tx} : isTy (.str x) .str = true := rfl
@[simp] theorem isT_s_int {x : Tx} : isTy (.str x) .int = false := rfl
@[simp] theorem isT_s_bool {x : Tx} : isTy (.str x) .bool = false := rfl
@[simp] theorem isT_s_tuple {x : Tx} : isTy (.str x) .tuple = false := rfl
@[simp] theorem isT_s_list {x : Tx} : isTy (.str x) .list = false := rfl
@[simp] theorem isT_s_dict {x : Tx} : isTy (.str x) .dict = false := rfl
@[simp] theorem isT_t_str {l : List P} : isTy (.tup l) .str = false := rfl
@[simp] theorem isT_t_int {l : List P} : isTy (.tup l) .int = false := rfl
@[simp] theorem isT_t_bool {l : List P} : isTy (.tup l) .bool = false := rfl
@[simp] theorem isT_t_tuple {l : List P} : isTy (.tup l) .tuple = true := rfl
@[simp] theorem isT_t_list {l : List P} : isTy (.tup l) .list = false := rfl
@[simp] theorem isT_t_dict {l : List P} : isTy (.tup l) .dict = false := rfl
@[simp] theorem isT_l_str {l : List P} : isTy (.lst l) .str = false := rfl
@[simp] theorem isT_l_int {l : List P} : isTy (.lst l) .int = false := rfl
@[simp] theorem isT_l_bool {l : List P} : isTy (.lst l) .bool = false := rfl
@[simp] theorem isT_l_tuple {l : List P} : isTy (.lst l) .tuple = false := rfl
@[simp] theorem isT_l_list {l : List P} : isTy (.lst l) .list = true := rfl
@[simp] theorem isT_l_dict {l : List P} : isTy (.lst l) .dict = false := rfl
@[simp] theorem isT_d_str {l : List (Ky × P)} : isTy (.dic l) .str = false := rfl
@[simp] theorem isT_d_int {l : List (Ky × P)} : isTy (.dic l) .int = false := rfl
@[simp] theorem isT_d_bool {l : List (Ky × P)} : isTy (.dic l) .bool = false := rfl
@[simp] theorem isT_d_tuple {l : List (Ky × P)} : isTy (.dic l) .tuple = false := rfl
@[simp] theorem isT_d_list {l : List (Ky × P)} : isTy (.dic l) .list = false := rfl
@[simp] theorem isT_d_dict {l : List (Ky × P)} : isTy (.dic l) .dict = true := rfl
@[simp] theorem cp_eqn {st : Store} : cmpD .eq st (.p .non) (.p .non) = some true := rfl
@[simp] theorem bq_t {b : Bool} : (b == true) = b := by cases b <;> rfl
@[simp] theorem bq_f {b : Bool} : (b == false) = !b := by cases b <;> rfl
@[simp] theorem tg_name_form : (([110, 97, 109, 101] : Tx) == [102, 111, 114, 109]) = false := rfl
@[simp] theorem tg_name_hole : (([110, 97, 109, 101] : Tx) == [104, 111, 108, 101]) = false := rfl
@[simp] theorem tg_name_let : (([110, 97, 109, 101] : Tx) == [108, 101, 116]) = false := rfl
@[simp] theorem tg_name_free : (([110, 97, 109, 101] : Tx) == [102, 114, 101, 101]) = false := rfl
@[simp] theorem tg_name_bound : (([110, 97, 109, 101] : Tx) == [98, 111, 117, 110, 100]) = false := rfl
@[simp] theorem tg_form_name : (([102, 111, 114, 109] : Tx) == [110, 97, 109, 101]) = false := rfl
@[simp] theorem tg_form_hole : (([102, 111, 114, 109] : Tx) == [104, 111, 108, 101]) = false := rfl
@[simp] theorem tg_form_let : (([102, 111, 114, 109] : Tx) == [108, 101, 116]) = false := rfl
@[simp] theorem tg_form_free : (([102, 111, 114, 109] : Tx) == [102, 114, 101, 101]) = false := rfl
@[simp] theorem tg_form_bound : (([102, 111, 114, 109] : Tx) == [98, 111, 117, 110, 100]) = false := rfl
@[simp] theorem tg_hole_name : (([104, 111, 108, 101] : Tx) == [110, 97, 109, 101]) = false := rfl
@[simp] theorem tg_hole_form : (([104, 111, 108, 101] : Tx) == [102, 111, 114, 109]) = false := rfl
@[simp] theorem tg_hole_let : (([104, 111, 108, 101] : Tx) == [108, 101, 116]) = false := rfl
@[simp] theorem tg_hole_free : (([104, 111, 108, 101] : Tx) == [102, 114, 101, 101]) = false := rfl
@[simp] theorem tg_hole_bound : (([104, 111, 108, 101] : Tx) == [98, 111, 117, 110, 100]) = false := rfl
@[simp] theorem tg_let_name : (([108, 101, 116] : Tx) == [110, 97, 109, 101]) = false := rfl
@[simp] theorem tg_let_form : (([108, 101, 116] : Tx) == [102, 111, 114, 109]) = false := rfl
@[simp] theorem tg_let_hole : (([108, 101, 116] : Tx) == [104, 111, 108, 101]) = false := rfl
@[simp] theorem tg_let_free : (([108, 101, 116] : Tx) == [102, 114, 101, 101]) = false := rfl
@[simp] theorem tg_let_bound : (([108, 101, 116] : Tx) == [98, 111, 117, 110, 100]) = false := rfl
@[simp] theorem tg_free_name : (([102, 114, 101, 101] : Tx) == [110, 97, 109, 101]) = false := rfl
@[simp] theorem tg_free_form : (([102, 114, 101, 101] : Tx) == [102, 111, 114, 109]) = false := rfl
@[simp] theorem tg_free_hole : (([102, 114, 101, 101] : Tx) == [104, 111, 108, 101]) = false := rfl
@[simp] theorem tg_free_let : (([102, 114, 101, 101] : Tx) == [108, 101, 116]) = false := rfl
@[simp] theorem tg_free_bound : (([102, 114, 101, 101] : Tx) == [98, 111, 117, 110, 100]) = false := rfl
@[simp] theorem tg_bound_name : (([98, 111, 117, 110, 100] : Tx) == [110, 97, 109, 101]) = false := rfl
@[simp] theorem tg_bound_form : (([98, 111, 117, 110, 100] : Tx) == [102, 111, 114, 109]) = false := rfl
@[simp] theorem tg_bound_hole : (([98, 111, 117, 110, 100] : Tx) == [104, 111, 108, 101]) = false := rfl
@[simp] theorem tg_bound_let : (([98, 111, 117, 110, 100] : Tx) == [108, 101, 116]) = false := rfl
@[simp] theorem tg_bound_free : (([98, 111, 117, 110, 100] : Tx) == [102, 114, 101, 101]) = false := rfl
@[simp] theorem sp_l {l : List P} : srtP (.lst l) = if (srtOk l && decide (l.length ≤ LINE)) = true then some (l.mergeSort srtLe) else none := rfl
def Hw [p : Bx] : Prop := p.p
abbrev Hide (p : Prop) : Prop := @Hw ⟨p⟩
theorem Hide.of {p : Prop} (h : p) : Hide p := h
theorem call_end {T : Nat → Option Fn} {k f : Nat} {d : Fn} {ds : List D} {st : Store} {Q : D → Store → Prop} (hT : T f = some d) (hl : ds.length = d.np)
    (h : To (evSs (callK T k) d.body (newEnv d.nl ds) st) fun r st' => End st.length r st' fun d st' => Hide (Q d st')) : To (callK T (k + 1) f ds st) Q := by
  refine call_to hT hl (h.mono fun r st' h => ?_)
  unfold End Ew at h
  cases e : r.1 <;> rw [e] at h <;> exact h
theorem To.run {α : Type} {m : R α} {a : α} {st : Store} (h : To m fun b st' => b = a ∧ st' = st) : m = .ok a st := by
  obtain ⟨b, st', e, h1, h2⟩ := h.eq
  rw [e, h1, h2]
end NH
namespace NH
def fn53 : Fn := ⟨1, 2, (.cons (.ife (.or (.cons (.not (.bi (.isi [.str]) (.cons (.var 0) .nil))) (.cons (.not (.chain .le .le (.cst (.int 1)) (.bi .len (.cons (.var 0) .nil)) (.glob [77, 79, 83, 84, 95, 76, 69, 84, 84, 69, 82, 83] (.p (.int 8))))) .nil)))
    (.cons (.ret (.cst (.bl false)))
    .nil)
    .nil)
    (.cons (.ret (.bi .all (.cons (.comp false (.cmp .inn (.var 1) (.glob [76, 69, 84, 84, 69, 82, 83] (.p (.str [97, 98, 99, 100, 101, 102, 103, 104, 105, 106, 107, 108, 109, 110, 111, 112, 113, 114, 115, 116, 117, 118, 119, 120, 121, 122])))) (.nm 1) (.val (.var 0)) .none [1]) .nil)))
    .nil))⟩
def fn54 : Fn := ⟨1, 2, (.cons (.ife (.call 53 (.cons (.var 0) .nil))
    (.cons (.ret (.cst (.bl true)))
    .nil)
    .nil)
    (.cons (.ife (.or (.cons (.not (.bi (.isi [.str]) (.cons (.var 0) .nil))) (.cons (.not (.chain .le .le (.cst (.int 1)) (.bi .len (.cons (.var 0) .nil)) (.glob [77, 79, 83, 84, 95, 70, 73, 71, 85, 82, 69, 83] (.p (.int 3))))) .nil)))
    (.cons (.ret (.cst (.bl false)))
    .nil)
    .nil)
    (.cons (.ret (.and (.cons (.bi .all (.cons (.comp false (.cmp .inn (.var 1) (.glob [70, 73, 71, 85, 82, 69, 83] (.p (.str [48, 49, 50, 51, 52, 53, 54, 55, 56, 57])))) (.nm 1) (.val (.var 0)) .none [1]) .nil)) (.cons (.or (.cons (.cmp .eq (.var 0) (.cst (.str [48]))) (.cons (.cmp .ne (.idx (.var 0) (.cst (.int 0))) (.cst (.str [48]))) .nil))) .nil))))
    .nil)))⟩
def fn83 : Fn := ⟨1, 2, (.cons (.ife (.or (.cons (.not (.bi (.isi [.tuple]) (.cons (.var 0) .nil))) (.cons (.not (.bi .all (.cons (.comp false (.call 54 (.cons (.var 1) .nil)) (.nm 1) (.val (.var 0)) .none [1]) .nil))) .nil)))
    (.cons (.ret (.cst (.bl false)))
    .nil)
    .nil)
    (.cons (.ret (.cmp .eq (.lset (.var 0)) (.bi .len (.cons (.var 0) .nil))))
    .nil))⟩
def fn84 : Fn := ⟨1, 1, (.cons (.ret (.and (.cons (.bi (.isi [.tuple]) (.cons (.var 0) .nil)) (.cons (.cmp .eq (.bi .len (.cons (.var 0) .nil)) (.cst (.int 2))) (.cons (.call 83 (.cons (.idx (.var 0) (.cst (.int 0))) .nil)) (.cons (.call 85 (.cons (.idx (.var 0) (.cst (.int 1))) .nil)) .nil))))))
    .nil)⟩
def fn85 : Fn := ⟨1, 5, (.cons (.ife (.or (.cons (.not (.bi (.isi [.tuple]) (.cons (.var 0) .nil))) (.cons (.cmp .lt (.bi .len (.cons (.var 0) .nil)) (.cst (.int 2))) (.cons (.not (.bi (.isi [.str]) (.cons (.idx (.var 0) (.cst (.int 0))) .nil))) .nil))))
    (.cons (.ret (.cst (.bl false)))
    .nil)
    .nil)
    (.cons (.par 1 2 (.idx (.var 0) (.cst (.int 0))) (.bi .len (.cons (.var 0) .nil)))
    (.cons (.ife (.cmp .eq (.var 1) (.cst (.str [110, 97, 109, 101])))
    (.cons (.ret (.and (.cons (.cmp .eq (.var 2) (.cst (.int 2))) (.cons (.call 54 (.cons (.idx (.var 0) (.cst (.int 1))) .nil)) .nil))))
    .nil)
    .nil)
    (.cons (.ife (.cmp .eq (.var 1) (.cst (.str [102, 111, 114, 109])))
    (.cons (.asg (.nm 3) (.and (.cons (.cmp .eq (.var 2) (.cst (.int 3))) (.cons (.call 53 (.cons (.idx (.var 0) (.cst (.int 1))) .nil)) (.cons (.bi (.isi [.tuple]) (.cons (.idx (.var 0) (.cst (.int 2))) .nil)) .nil)))))
    (.cons (.ret (.and (.cons (.var 3) (.cons (.bi .all (.cons (.comp false (.call 84 (.cons (.var 4) .nil)) (.nm 4) (.val (.idx (.var 0) (.cst (.int 2)))) .none [4]) .nil)) .nil))))
    .nil))
    .nil)
    (.cons (.ife (.cmp .eq (.var 1) (.cst (.str [104, 111, 108, 101])))
    (.cons (.asg (.nm 3) (.and (.cons (.cmp .eq (.var 2) (.cst (.int 3))) (.cons (.call 54 (.cons (.idx (.var 0) (.cst (.int 1))) .nil)) (.cons (.bi (.isi [.tuple]) (.cons (.idx (.var 0) (.cst (.int 2))) .nil)) .nil)))))
    (.cons (.ret (.and (.cons (.var 3) (.cons (.bi .all (.cons (.comp false (.call 85 (.cons (.var 4) .nil)) (.nm 4) (.val (.idx (.var 0) (.cst (.int 2)))) .none [4]) .nil)) .nil))))
    .nil))
    .nil)
    (.cons (.ret (.and (.cons (.cmp .eq (.var 1) (.cst (.str [108, 101, 116]))) (.cons (.cmp .eq (.var 2) (.cst (.int 4))) (.cons (.call 54 (.cons (.idx (.var 0) (.cst (.int 1))) .nil)) (.cons (.call 85 (.cons (.idx (.var 0) (.cst (.int 2))) .nil)) (.cons (.call 85 (.cons (.idx (.var 0) (.cst (.int 3))) .nil)) .nil)))))))
    .nil))))))⟩
def fn16 : Fn := ⟨1, 2, (.cons (.ife (.cmp .eq (.idx (.var 0) (.cst (.int 0))) (.cst (.str [102, 111, 114, 109])))
    (.cons (.ret (.lcopy false (.idx (.var 0) (.cst (.int 2)))))
    .nil)
    .nil)
    (.cons (.ife (.cmp .eq (.idx (.var 0) (.cst (.int 0))) (.cst (.str [104, 111, 108, 101])))
    (.cons (.ret (.comp false (.tup (.cons (.tup .nil) (.cons (.var 1) .nil))) (.nm 1) (.val (.idx (.var 0) (.cst (.int 2)))) .none [1]))
    .nil)
    .nil)
    (.cons (.ife (.cmp .eq (.idx (.var 0) (.cst (.int 0))) (.cst (.str [108, 101, 116])))
    (.cons (.ret (.lst false (.cons (.tup (.cons (.tup (.cons (.idx (.var 0) (.cst (.int 1))) .nil)) (.cons (.idx (.var 0) (.cst (.int 2))) .nil))) (.cons (.tup (.cons (.tup .nil) (.cons (.idx (.var 0) (.cst (.int 3))) .nil))) .nil))))
    .nil)
    .nil)
    (.cons (.ret (.lst false .nil))
    .nil))))⟩
def fn270 : Fn := ⟨1, 5, (.cons (.ife (.cmp .eq (.idx (.var 0) (.cst (.int 0))) (.cst (.str [110, 97, 109, 101])))
    (.cons (.ret (.dct true (.cons (.idx (.var 0) (.cst (.int 1))) (.cons (.cst (.bl true)) .nil))))
    .nil)
    .nil)
    (.cons (.asg (.nm 1) (.dct true .nil))
    (.cons (.forr (.tup [(.nm 2), (.nm 3)]) (.val (.call 16 (.cons (.var 0) .nil)))
    (.cons (.expr (.meth .update (.var 1) (.cons (.kcomp false (.tup (.cons (.var 4) (.cons (.cst (.bl true)) .nil))) (.nm 4) (.call 270 (.cons (.var 3) .nil)) (.some (.cmp .nin (.var 4) (.var 2))) [4]) .nil)))
    .nil))
    (.cons (.ret (.var 1))
    .nil))))⟩
def fn106 : Fn := ⟨2, 5, (.cons (.asg (.nm 2) (.lst true .nil))
    (.cons (.asg (.nm 3) (.cst (.int 0)))
    (.cons (.forr (.nm 4) (.val (.var 0))
    (.cons (.whil (.or (.cons (.cmp .inn (.var 4) (.var 1)) (.cons (.cmp .inn (.var 4) (.var 2)) .nil)))
    (.cons (.asg (.nm 4) (.bi .str (.cons (.var 3) .nil)))
    (.cons (.aug 3 .add (.cst (.int 1)))
    .nil)))
    (.cons (.expr (.meth .append (.var 2) (.cons (.var 4) .nil)))
    .nil)))
    (.cons (.ret (.bi .tuple (.cons (.var 2) .nil)))
    .nil))))⟩
def fn274 : Fn := ⟨3, 9, (.cons (.asg (.nm 3) (.call 270 (.cons (.var 1) .nil)))
    (.cons (.asg (.nm 4) (.dcopy true (.kcomp false (.tup (.cons (.var 5) (.cons (.idx (.var 2) (.var 5)) .nil))) (.nm 5) (.var 2) (.some (.and (.cons (.cmp .inn (.var 5) (.var 3)) (.cons (.cmp .nin (.var 5) (.var 0)) .nil)))) [5])))
    (.cons (.asg (.nm 6) (.dcopy true (.kcomp false (.tup (.cons (.var 5) (.cons (.cst (.bl true)) .nil))) (.nm 5) (.var 3) (.some (.and (.cons (.cmp .nin (.var 5) (.var 0)) (.cons (.cmp .nin (.var 5) (.var 4)) .nil)))) [5])))
    (.cons (.kfor (.nm 5) (.var 4)
    (.cons (.expr (.meth .update (.var 6) (.cons (.frz (.call 270 (.cons (.idx (.var 4) (.var 5)) .nil))) .nil)))
    .nil))
    (.cons (.asg (.nm 7) (.call 106 (.cons (.var 0) (.cons (.var 6) .nil))))
    (.cons (.expr (.meth .update (.var 4) (.cons (.comp false (.tup (.cons (.var 5) (.cons (.tup (.cons (.cst (.str [110, 97, 109, 101])) (.cons (.var 8) .nil))) .nil))) (.tup [(.nm 5), (.nm 8)]) (.zip (.var 0) (.var 7)) .none [5, 8]) .nil)))
    (.cons (.ret (.tup (.cons (.var 7) (.cons (.call 275 (.cons (.var 1) (.cons (.var 4) .nil))) .nil))))
    .nil)))))))⟩
def fn275 : Fn := ⟨2, 6, (.cons (.asg (.nm 2) (.idx (.var 0) (.cst (.int 0))))
    (.cons (.ife (.cmp .eq (.var 2) (.cst (.str [110, 97, 109, 101])))
    (.cons (.ret (.meth .get2 (.var 1) (.cons (.idx (.var 0) (.cst (.int 1))) (.cons (.var 0) .nil))))
    .nil)
    .nil)
    (.cons (.ife (.cmp .eq (.var 2) (.cst (.str [102, 111, 114, 109])))
    (.cons (.ret (.tup (.cons (.var 2) (.cons (.idx (.var 0) (.cst (.int 1))) (.cons (.bi .tuple (.cons (.comp false (.call 274 (.cons (.var 3) (.cons (.var 4) (.cons (.var 1) .nil)))) (.tup [(.nm 3), (.nm 4)]) (.val (.idx (.var 0) (.cst (.int 2)))) .none [3, 4]) .nil)) .nil)))))
    .nil)
    .nil)
    (.cons (.ife (.cmp .eq (.var 2) (.cst (.str [104, 111, 108, 101])))
    (.cons (.ret (.tup (.cons (.var 2) (.cons (.idx (.var 0) (.cst (.int 1))) (.cons (.bi .tuple (.cons (.comp false (.call 275 (.cons (.var 4) (.cons (.var 1) .nil))) (.nm 4) (.val (.idx (.var 0) (.cst (.int 2)))) .none [4]) .nil)) .nil)))))
    .nil)
    .nil)
    (.cons (.asg (.tup [(.nm 3), (.nm 5)]) (.call 274 (.cons (.tup (.cons (.idx (.var 0) (.cst (.int 1))) .nil)) (.cons (.idx (.var 0) (.cst (.int 2))) (.cons (.var 1) .nil)))))
    (.cons (.ret (.tup (.cons (.var 2) (.cons (.idx (.var 3) (.cst (.int 0))) (.cons (.var 5) (.cons (.call 275 (.cons (.idx (.var 0) (.cst (.int 3))) (.cons (.var 1) .nil))) .nil))))))
    .nil))))))⟩
def fn276 : Fn := ⟨2, 2, (.cons (.ret (.call 275 (.cons (.var 0) (.cons (.dcopy true (.var 1)) .nil))))
    .nil)⟩
def fn181 : Fn := ⟨3, 4, (.cons (.ife (.cmp .eq (.idx (.var 0) (.cst (.int 0))) (.cst (.str [108, 101, 116])))
    (.cons (.ret (.bin .add (.sl (.var 0) .none (.some (.cst (.int 2)))) (.ife (.cmp .eq (.var 1) (.cst (.int 0))) (.tup (.cons (.var 2) (.cons (.idx (.var 0) (.cst (.int 3))) .nil))) (.tup (.cons (.idx (.var 0) (.cst (.int 2))) (.cons (.var 2) .nil))))))
    .nil)
    .nil)
    (.cons (.asg (.nm 3) (.lcopy true (.idx (.var 0) (.cst (.int 2)))))
    (.cons (.sub (.var 3) (.var 1) (.ife (.cmp .eq (.idx (.var 0) (.cst (.int 0))) (.cst (.str [102, 111, 114, 109]))) (.tup (.cons (.idx (.idx (.var 3) (.var 1)) (.cst (.int 0))) (.cons (.var 2) .nil))) (.var 2)))
    (.cons (.ret (.bin .add (.sl (.var 0) .none (.some (.cst (.int 2)))) (.tup (.cons (.bi .tuple (.cons (.var 3) .nil)) .nil))))
    .nil))))⟩
def fn280 : Fn := ⟨2, 4, (.cons (.ife (.cmp .eq (.var 1) (.tup .nil))
    (.cons (.ret (.call 276 (.cons (.idx (.var 0) (.cst (.int 2))) (.cons (.lst false (.cons (.tup (.cons (.idx (.var 0) (.cst (.int 1))) (.cons (.idx (.var 0) (.cst (.int 3))) .nil))) .nil)) .nil))))
    .nil)
    .nil)
    (.cons (.asg (.tup [(.nm 2), (.nm 3)]) (.idx (.call 16 (.cons (.var 0) .nil)) (.idx (.var 1) (.cst (.int 0)))))
    (.cons (.ret (.call 181 (.cons (.var 0) (.cons (.idx (.var 1) (.cst (.int 0))) (.cons (.call 280 (.cons (.var 3) (.cons (.sl (.var 1) (.some (.cst (.int 1))) .none) .nil))) .nil)))))
    .nil)))⟩
def fn2 : Fn := ⟨2, 2, (.cons (.ret (.ife (.cmp .lt (.var 1) (.bi .len (.cons (.var 0) .nil))) (.idx (.var 0) (.var 1)) (.cst (.int 0))))
    .nil)⟩
def fn3 : Fn := ⟨2, 3, (.cons (.asg (.nm 2) (.call 2 (.cons (.var 0) (.cons (.var 1) .nil))))
    (.cons (.ret (.lst true (.cons (.bin .mul (.bi .abs (.cons (.var 2) .nil)) (.bi .int (.cons (.cmp .ge (.bi .abs (.cons (.var 2) .nil)) (.bin .pow (.cst (.int 10)) (.cst (.int 18)))) .nil))) (.cons (.bin .mod (.bin .mul (.bin .add (.bin .add (.bin .mod (.var 2) (.cst (.int 2147483647))) (.bin .mul (.cst (.int 7121)) (.var 1))) (.cst (.int 43))) (.cst (.int 48271))) (.cst (.int 2147483629))) (.cons (.cst (.int 0)) .nil)))))
    .nil))⟩
def fn4 : Fn := ⟨2, 4, (.cons (.ife (.cmp .gt (.idx (.var 0) (.cst (.int 0))) (.cst (.int 0)))
    (.cons (.asg (.nm 2) (.bin .mod (.idx (.var 0) (.cst (.int 0))) (.var 1)))
    (.cons (.sub (.var 0) (.cst (.int 0)) (.bin .fdiv (.idx (.var 0) (.cst (.int 0))) (.var 1)))
    (.cons (.ret (.var 2))
    .nil)))
    .nil)
    (.cons (.sub (.var 0) (.cst (.int 2)) (.bin .add (.idx (.var 0) (.cst (.int 2))) (.cst (.int 1))))
    (.cons (.asg (.nm 3) (.bin .mod (.bin .mul (.bin .add (.idx (.var 0) (.cst (.int 1))) (.bin .mul (.cst (.int 39373)) (.idx (.var 0) (.cst (.int 2))))) (.bin .add (.cst (.int 48271)) (.idx (.var 0) (.cst (.int 2))))) (.cst (.int 2147483647))))
    (.cons (.sub (.var 0) (.cst (.int 1)) (.bin .mod (.bin .add (.bin .mul (.var 3) (.bin .add (.bin .mod (.var 3) (.cst (.int 40009))) (.cst (.int 7)))) (.idx (.var 0) (.cst (.int 2)))) (.cst (.int 2147483629))))
    (.cons (.ret (.bin .mod (.bin .fdiv (.bin .mod (.bin .mul (.idx (.var 0) (.cst (.int 1))) (.bin .add (.bin .mod (.idx (.var 0) (.cst (.int 1))) (.cst (.int 1009))) (.cst (.int 3)))) (.cst (.int 998244353))) (.cst (.int 7))) (.var 1)))
    .nil)))))⟩
def fn5 : Fn := ⟨2, 9, (.cons (.asg (.nm 2) (.cst (.str [97, 98, 99, 100, 101, 102, 103, 104, 105, 106, 107, 108, 109, 110, 111, 112, 113, 114, 115, 116, 117, 118, 119, 120, 121, 122])))
    (.cons (.asg (.nm 3) (.meth .join (.cst (.str [])) (.cons (.comp false (.idx (.var 2) (.call 4 (.cons (.var 0) (.cons (.cst (.int 26)) .nil)))) (.nm 4) (.rng1 (.call 4 (.cons (.var 0) (.cons (.cst (.int 7)) .nil)))) .none [4]) .nil)))
    (.cons (.asg (.tup [(.nm 5), (.nm 6)]) (.tup (.cons (.call 4 (.cons (.var 0) (.cons (.bin .add (.bi .len (.cons (.var 3) .nil)) (.cst (.int 1))) .nil))) (.cons (.call 4 (.cons (.var 0) (.cons (.cst (.int 26)) .nil))) .nil))))
    (.cons (.asg (.nm 7) (.comp false (.idx (.var 2) (.bin .mod (.bin .add (.var 6) (.bin .mul (.cst (.int 7)) (.var 4))) (.cst (.int 26)))) (.nm 4) (.rng1 (.var 1)) .none [4]))
    (.cons (.ret (.comp false (.bin .add (.bin .add (.sl (.var 3) .none (.some (.var 5))) (.var 8)) (.sl (.var 3) (.some (.var 5)) .none)) (.nm 8) (.val (.var 7)) .none [8]))
    .nil)))))⟩
def fn6 : Fn := ⟨2, 4, (.cons (.ife (.bi (.isi [.list, .tuple]) (.cons (.var 1) .nil))
    (.cons (.ife (.or (.cons (.cmp .ne (.bi (.isi [.list]) (.cons (.var 0) .nil)) (.bi (.isi [.list]) (.cons (.var 1) .nil))) (.cons (.cmp .ne (.bi (.isi [.tuple]) (.cons (.var 0) .nil)) (.bi (.isi [.tuple]) (.cons (.var 1) .nil))) .nil)))
    (.cons (.ret (.cst (.bl false)))
    .nil)
    .nil)
    (.cons (.ret (.and (.cons (.cmp .eq (.bi .len (.cons (.var 0) .nil)) (.bi .len (.cons (.var 1) .nil))) (.cons (.bi .all (.cons (.comp false (.call 6 (.cons (.var 2) (.cons (.var 3) .nil))) (.tup [(.nm 2), (.nm 3)]) (.zip (.var 0) (.var 1)) .none [2, 3]) .nil)) .nil))))
    .nil))
    .nil)
    (.cons (.ife (.or (.cons (.cmp .isN (.var 1) (.cst .non)) (.cons (.bi (.isi [.str]) (.cons (.var 1) .nil)) .nil)))
    (.cons (.ret (.and (.cons (.cmp .eq (.var 0) (.var 1)) (.cons (.cmp .eq (.bi (.isi [.str]) (.cons (.var 0) .nil)) (.bi (.isi [.str]) (.cons (.var 1) .nil))) .nil))))
    .nil)
    .nil)
    (.cons (.ife (.bi (.isi [.bool]) (.cons (.var 1) .nil))
    (.cons (.ret (.and (.cons (.bi (.isi [.bool]) (.cons (.var 0) .nil)) (.cons (.cmp .eq (.var 0) (.var 1)) .nil))))
    .nil)
    .nil)
    (.cons (.ret (.and (.cons (.bi (.isi [.int]) (.cons (.var 0) .nil)) (.cons (.not (.bi (.isi [.bool]) (.cons (.var 0) .nil))) (.cons (.cmp .eq (.var 0) (.var 1)) .nil)))))
    .nil))))⟩
def fn80 : Fn := ⟨4, 15, (.cons (.ife (.cmp .eq (.idx (.var 0) (.cst (.int 0))) (.cst (.str [110, 97, 109, 101])))
    (.cons (.ret (.meth .get2 (.var 1) (.cons (.idx (.var 0) (.cst (.int 1))) (.cons (.var 0) .nil))))
    .nil)
    .nil)
    (.cons (.ife (.cmp .eq (.idx (.var 0) (.cst (.int 0))) (.cst (.str [104, 111, 108, 101])))
    (.cons (.asg (.nm 4) (.bi .tuple (.cons (.comp false (.call 80 (.cons (.var 5) (.cons (.var 1) (.cons (.var 2) (.cons (.var 3) .nil))))) (.nm 5) (.val (.idx (.var 0) (.cst (.int 2)))) .none [5]) .nil)))
    (.cons (.ife (.cmp .nin (.idx (.var 0) (.cst (.int 1))) (.var 2))
    (.cons (.ret (.tup (.cons (.cst (.str [104, 111, 108, 101])) (.cons (.idx (.var 0) (.cst (.int 1))) (.cons (.var 4) .nil)))))
    .nil)
    .nil)
    (.cons (.asg (.tup [(.nm 6), (.nm 7)]) (.idx (.var 2) (.idx (.var 0) (.cst (.int 1)))))
    (.cons (.ret (.call 80 (.cons (.var 7) (.cons (.dzip false (.var 6) (.var 4)) (.cons (.dct false .nil) (.cons (.var 3) .nil))))))
    .nil))))
    .nil)
    (.cons (.ife (.cmp .eq (.idx (.var 0) (.cst (.int 0))) (.cst (.str [108, 101, 116])))
    (.cons (.asg (.nm 8) (.dcopy true (.var 1)))
    (.cons (.sub (.var 8) (.idx (.var 0) (.cst (.int 1))) (.tup (.cons (.cst (.str [110, 97, 109, 101])) (.cons (.bi .str (.cons (.var 3) .nil)) .nil))))
    (.cons (.asg (.nm 9) (.call 80 (.cons (.idx (.var 0) (.cst (.int 3))) (.cons (.var 1) (.cons (.var 2) (.cons (.var 3) .nil))))))
    (.cons (.ret (.tup (.cons (.cst (.str [108, 101, 116])) (.cons (.bi .str (.cons (.var 3) .nil)) (.cons (.call 80 (.cons (.idx (.var 0) (.cst (.int 2))) (.cons (.var 8) (.cons (.var 2) (.cons (.bin .add (.var 3) (.cst (.int 1))) .nil))))) (.cons (.var 9) .nil))))))
    .nil))))
    .nil)
    (.cons (.asg (.nm 10) (.lst true .nil))
    (.cons (.forr (.tup [(.nm 11), (.nm 7)]) (.val (.idx (.var 0) (.cst (.int 2))))
    (.cons (.par 8 12 (.dcopy true (.var 1)) (.bi .tuple (.cons (.comp false (.bi .str (.cons (.bin .add (.var 3) (.var 13)) .nil)) (.nm 13) (.rng1 (.bi .len (.cons (.var 11) .nil))) .none [13]) .nil)))
    (.cons (.expr (.meth .update (.var 8) (.cons (.dcopy false (.comp false (.tup (.cons (.var 14) (.cons (.tup (.cons (.cst (.str [110, 97, 109, 101])) (.cons (.var 5) .nil))) .nil))) (.tup [(.nm 14), (.nm 5)]) (.zip (.var 11) (.var 12)) .none [14, 5])) .nil)))
    (.cons (.expr (.meth .append (.var 10) (.cons (.tup (.cons (.var 12) (.cons (.call 80 (.cons (.var 7) (.cons (.var 8) (.cons (.var 2) (.cons (.bin .add (.var 3) (.bi .len (.cons (.var 11) .nil))) .nil))))) .nil))) .nil)))
    .nil))))
    (.cons (.ret (.tup (.cons (.cst (.str [102, 111, 114, 109])) (.cons (.idx (.var 0) (.cst (.int 1))) (.cons (.bi .tuple (.cons (.var 10) .nil)) .nil)))))
    .nil))))))⟩
def fn81 : Fn := ⟨2, 4, (.cons (.ret (.call 80 (.cons (.var 1) (.cons (.dcopy false (.comp false (.tup (.cons (.var 3) (.cons (.tup (.cons (.cst (.str [110, 97, 109, 101])) (.cons (.bi .str (.cons (.var 2) .nil)) .nil))) .nil))) (.tup [(.nm 2), (.nm 3)]) (.enum (.var 0)) .none [2, 3])) (.cons (.dct false .nil) (.cons (.bi .len (.cons (.var 0) .nil)) .nil))))))
    .nil)⟩
def fn7 : Fn := ⟨1, 6, (.cons (.asg (.nm 1) (.comp false (.bin .add (.var 2) (.bin .mul (.cst (.str [120])) (.bi .int (.cons (.cmp .inn (.var 2) (.tup (.cons (.cst (.str [108, 101, 116])) (.cons (.cst (.str [105, 110])) (.cons (.cst (.str [101, 110, 100])) .nil))))) .nil)))) (.nm 2) (.val (.call 5 (.cons (.var 0) (.cons (.cst (.int 6)) .nil)))) .none [2]))
    (.cons (.asg (.nm 3) (.bin .add (.sl (.var 1) .none (.some (.cst (.int 3)))) (.lst false (.cons (.cst (.str [48])) (.cons (.cst (.str [49])) (.cons (.bi .str (.cons (.bin .add (.cst (.int 2)) (.call 4 (.cons (.var 0) (.cons (.cst (.int 998)) .nil)))) .nil)) .nil))))))
    (.cons (.asg (.nm 4) (.comp false (.tup (.cons (.var 5) (.cons (.call 4 (.cons (.var 0) (.cons (.cst (.int 4)) .nil))) .nil))) (.nm 5) (.val (.tup (.cons (.cst (.str [104])) (.cons (.cst (.str [103])) (.cons (.cst (.str [48])) .nil))))) .none [5]))
    (.cons (.ret (.dct false (.cons (.cst (.str [112, 111, 111, 108])) (.cons (.var 3) (.cons (.cst (.str [119, 111, 114, 100, 115])) (.cons (.sl (.var 1) (.some (.cst (.int 2))) .none) (.cons (.cst (.str [104, 111, 108, 101, 115])) (.cons (.var 4) .nil))))))))
    .nil))))⟩
def fn8 : Fn := ⟨5, 14, (.cons (.sub (.var 3) (.cst (.int 0)) (.bin .sub (.idx (.var 3) (.cst (.int 0))) (.cst (.int 1))))
    (.cons (.asg (.nm 5) (.call 4 (.cons (.var 0) (.cons (.cst (.int 10)) .nil))))
    (.cons (.ife (.or (.cons (.cmp .eq (.var 4) (.cst (.int 0))) (.cons (.cmp .lt (.idx (.var 3) (.cst (.int 0))) (.cst (.int 1))) (.cons (.cmp .lt (.var 5) (.cst (.int 3))) .nil))))
    (.cons (.ife (.cmp .eq (.var 2) (.lst false .nil))
    (.cons (.ret (.tup (.cons (.cst (.str [102, 111, 114, 109])) (.cons (.idx (.idx (.var 1) (.cst (.str [119, 111, 114, 100, 115]))) (.cst (.int 0))) (.cons (.tup .nil) .nil)))))
    .nil)
    .nil)
    (.cons (.ret (.tup (.cons (.cst (.str [110, 97, 109, 101])) (.cons (.idx (.var 2) (.call 4 (.cons (.var 0) (.cons (.bi .len (.cons (.var 2) .nil)) .nil)))) .nil))))
    .nil))
    .nil)
    (.cons (.ife (.and (.cons (.cmp .eq (.var 5) (.cst (.int 9))) (.cons (.cmp .gt (.idx (.var 3) (.cst (.int 1))) (.cst (.int 0))) .nil)))
    (.cons (.sub (.var 3) (.cst (.int 1)) (.bin .sub (.idx (.var 3) (.cst (.int 1))) (.cst (.int 1))))
    (.cons (.asg (.nm 6) (.idx (.idx (.var 1) (.cst (.str [112, 111, 111, 108]))) (.call 4 (.cons (.var 0) (.cons (.bi .len (.cons (.idx (.var 1) (.cst (.str [112, 111, 111, 108]))) .nil)) .nil)))))
    (.cons (.asg (.nm 7) (.call 8 (.cons (.var 0) (.cons (.var 1) (.cons (.bin .add (.var 2) (.lst false (.cons (.var 6) .nil))) (.cons (.var 3) (.cons (.bin .sub (.var 4) (.cst (.int 1))) .nil)))))))
    (.cons (.ret (.tup (.cons (.cst (.str [108, 101, 116])) (.cons (.var 6) (.cons (.var 7) (.cons (.call 8 (.cons (.var 0) (.cons (.var 1) (.cons (.var 2) (.cons (.var 3) (.cons (.bin .sub (.var 4) (.cst (.int 1))) .nil)))))) .nil))))))
    .nil))))
    .nil)
    (.cons (.ife (.and (.cons (.cmp .eq (.var 5) (.cst (.int 8))) (.cons (.cmp .ne (.idx (.var 1) (.cst (.str [104, 111, 108, 101, 115]))) (.lst false .nil)) .nil)))
    (.cons (.asg (.tup [(.nm 8), (.nm 9)]) (.idx (.idx (.var 1) (.cst (.str [104, 111, 108, 101, 115]))) (.call 4 (.cons (.var 0) (.cons (.bi .len (.cons (.idx (.var 1) (.cst (.str [104, 111, 108, 101, 115]))) .nil)) .nil)))))
    (.cons (.ret (.tup (.cons (.cst (.str [104, 111, 108, 101])) (.cons (.var 8) (.cons (.bi .tuple (.cons (.comp false (.call 8 (.cons (.var 0) (.cons (.var 1) (.cons (.var 2) (.cons (.var 3) (.cons (.bin .sub (.var 4) (.cst (.int 1))) .nil)))))) (.nm 10) (.rng1 (.var 9)) .none [10]) .nil)) .nil)))))
    .nil))
    .nil)
    (.cons (.par 11 12 (.idx (.idx (.var 1) (.cst (.str [119, 111, 114, 100, 115]))) (.call 4 (.cons (.var 0) (.cons (.bi .len (.cons (.idx (.var 1) (.cst (.str [119, 111, 114, 100, 115]))) .nil)) .nil)))) (.lst true .nil))
    (.cons (.forr (.nm 10) (.rng1 (.call 4 (.cons (.var 0) (.cons (.cst (.int 4)) .nil))))
    (.cons (.asg (.nm 13) (.call 9 (.cons (.var 0) (.cons (.idx (.var 1) (.cst (.str [112, 111, 111, 108]))) (.cons (.idx (.lst false (.cons (.cst (.int 0)) (.cons (.cst (.int 0)) (.cons (.cst (.int 1)) (.cons (.cst (.int 2)) (.cons (.cst (.int 3)) .nil)))))) (.call 4 (.cons (.var 0) (.cons (.cst (.int 5)) .nil)))) .nil)))))
    (.cons (.expr (.meth .append (.var 12) (.cons (.tup (.cons (.bi .tuple (.cons (.var 13) .nil)) (.cons (.call 8 (.cons (.var 0) (.cons (.var 1) (.cons (.bin .add (.var 2) (.var 13)) (.cons (.var 3) (.cons (.bin .sub (.var 4) (.cst (.int 1))) .nil)))))) .nil))) .nil)))
    .nil)))
    (.cons (.ret (.tup (.cons (.cst (.str [102, 111, 114, 109])) (.cons (.var 11) (.cons (.bi .tuple (.cons (.var 12) .nil)) .nil)))))
    .nil))))))))⟩
def fn9 : Fn := ⟨3, 5, (.cons (.asg (.nm 3) (.lcopy true (.var 1)))
    (.cons (.ret (.comp false (.meth .pop1 (.var 3) (.cons (.call 4 (.cons (.var 0) (.cons (.bi .len (.cons (.var 3) .nil)) .nil))) .nil)) (.nm 4) (.rng1 (.var 2)) .none [4]))
    .nil))⟩
def fn10 : Fn := ⟨3, 4, (.cons (.asg (.nm 3) (.lst true (.cons (.idx (.lst false (.cons (.cst (.int 18)) (.cons (.cst (.int 36)) .nil))) (.bi .int (.cons (.cmp .eq (.call 4 (.cons (.var 0) (.cons (.cst (.int 8)) .nil))) (.cst (.int 0))) .nil))) (.cons (.var 2) .nil))))
    (.cons (.ret (.call 8 (.cons (.var 0) (.cons (.var 1) (.cons (.idx (.var 1) (.cst (.str [112, 111, 111, 108]))) (.cons (.var 3) (.cons (.bin .add (.cst (.int 3)) (.call 4 (.cons (.var 0) (.cons (.cst (.int 4)) .nil)))) .nil)))))))
    .nil))⟩
def fn11 : Fn := ⟨1, 2, (.cons (.ife (.cmp .eq (.idx (.var 0) (.cst (.int 0))) (.cst (.str [110, 97, 109, 101])))
    (.cons (.ret (.lst false .nil))
    .nil)
    .nil)
    (.cons (.ife (.cmp .eq (.idx (.var 0) (.cst (.int 0))) (.cst (.str [102, 111, 114, 109])))
    (.cons (.ret (.lcopy false (.idx (.var 0) (.cst (.int 2)))))
    .nil)
    .nil)
    (.cons (.ife (.cmp .eq (.idx (.var 0) (.cst (.int 0))) (.cst (.str [104, 111, 108, 101])))
    (.cons (.ret (.comp false (.tup (.cons (.tup .nil) (.cons (.var 1) .nil))) (.nm 1) (.val (.idx (.var 0) (.cst (.int 2)))) .none [1]))
    .nil)
    .nil)
    (.cons (.ret (.lst false (.cons (.tup (.cons (.tup (.cons (.idx (.var 0) (.cst (.int 1))) .nil)) (.cons (.idx (.var 0) (.cst (.int 2))) .nil))) (.cons (.tup (.cons (.tup .nil) (.cons (.idx (.var 0) (.cst (.int 3))) .nil))) .nil))))
    .nil))))⟩
def fn13 : Fn := ⟨2, 5, (.cons (.ife (.cmp .eq (.idx (.var 0) (.cst (.int 0))) (.cst (.str [110, 97, 109, 101])))
    (.cons (.ret (.ife (.cmp .nin (.idx (.var 0) (.cst (.int 1))) (.var 1)) (.lst false (.cons (.idx (.var 0) (.cst (.int 1))) .nil)) (.lst false .nil)))
    .nil)
    .nil)
    (.cons (.asg (.nm 2) (.lst false .nil))
    (.cons (.forr (.tup [(.nm 3), (.nm 4)]) (.val (.call 11 (.cons (.var 0) .nil)))
    (.cons (.asg (.nm 2) (.bin .add (.var 2) (.call 13 (.cons (.var 4) (.cons (.bin .add (.lcopy false (.var 1)) (.lcopy false (.var 3))) .nil)))))
    .nil))
    (.cons (.ret (.var 2))
    .nil))))⟩
def fn135 : Fn := ⟨3, 5, (.cons (.ife (.cmp .eq (.idx (.var 0) (.cst (.int 0))) (.cst (.str [110, 97, 109, 101])))
    (.cons (.ret (.ife (.cmp .eq (.idx (.var 0) (.cst (.int 1))) (.var 1)) (.var 2) (.var 0)))
    .nil)
    .nil)
    (.cons (.ife (.cmp .eq (.idx (.var 0) (.cst (.int 0))) (.cst (.str [108, 101, 116])))
    (.cons (.ret (.tup (.cons (.cst (.str [108, 101, 116])) (.cons (.idx (.var 0) (.cst (.int 1))) (.cons (.call 135 (.cons (.idx (.var 0) (.cst (.int 2))) (.cons (.var 1) (.cons (.var 2) .nil)))) (.cons (.call 135 (.cons (.idx (.var 0) (.cst (.int 3))) (.cons (.var 1) (.cons (.var 2) .nil)))) .nil))))))
    .nil)
    .nil)
    (.cons (.ife (.cmp .eq (.idx (.var 0) (.cst (.int 0))) (.cst (.str [104, 111, 108, 101])))
    (.cons (.ret (.tup (.cons (.cst (.str [104, 111, 108, 101])) (.cons (.idx (.var 0) (.cst (.int 1))) (.cons (.bi .tuple (.cons (.comp false (.call 135 (.cons (.var 3) (.cons (.var 1) (.cons (.var 2) .nil)))) (.nm 3) (.val (.idx (.var 0) (.cst (.int 2)))) .none [3]) .nil)) .nil)))))
    .nil)
    .nil)
    (.cons (.ret (.tup (.cons (.cst (.str [102, 111, 114, 109])) (.cons (.idx (.var 0) (.cst (.int 1))) (.cons (.bi .tuple (.cons (.comp false (.tup (.cons (.var 4) (.cons (.call 135 (.cons (.var 3) (.cons (.var 1) (.cons (.var 2) .nil)))) .nil))) (.tup [(.nm 4), (.nm 3)]) (.val (.idx (.var 0) (.cst (.int 2)))) .none [4, 3]) .nil)) .nil)))))
    .nil))))⟩
def fn136 : Fn := ⟨1, 6, (.cons (.asg (.nm 1) (.ife (.cmp .eq (.idx (.var 0) (.cst (.int 0))) (.cst (.str [108, 101, 116]))) (.lst false (.cons (.tup .nil) .nil)) (.lst false .nil)))
    (.cons (.forr (.tup [(.nm 2), (.tup [(.nm 3), (.nm 4)])]) (.enum (.call 11 (.cons (.var 0) .nil)))
    (.cons (.asg (.nm 1) (.bin .add (.var 1) (.comp false (.bin .add (.tup (.cons (.var 2) .nil)) (.var 5)) (.nm 5) (.val (.call 136 (.cons (.var 4) .nil))) .none [5])))
    .nil))
    (.cons (.ret (.var 1))
    .nil)))⟩
def fn137 : Fn := ⟨2, 9, (.cons (.ife (.cmp .eq (.var 1) (.tup .nil))
    (.cons (.ret (.call 135 (.cons (.idx (.var 0) (.cst (.int 2))) (.cons (.idx (.var 0) (.cst (.int 1))) (.cons (.idx (.var 0) (.cst (.int 3))) .nil)))))
    .nil)
    .nil)
    (.cons (.asg (.nm 2) (.idx (.var 1) (.cst (.int 0))))
    (.cons (.ife (.cmp .eq (.idx (.var 0) (.cst (.int 0))) (.cst (.str [108, 101, 116])))
    (.cons (.asg (.tup [(.nm 3), (.nm 4)]) (.comp false (.ife (.cmp .eq (.var 2) (.var 5)) (.call 137 (.cons (.var 6) (.cons (.sl (.var 1) (.some (.cst (.int 1))) .none) .nil))) (.var 6)) (.tup [(.nm 5), (.nm 6)]) (.enum (.sl (.var 0) (.some (.cst (.int 2))) .none)) .none [5, 6]))
    (.cons (.ret (.tup (.cons (.cst (.str [108, 101, 116])) (.cons (.idx (.var 0) (.cst (.int 1))) (.cons (.var 3) (.cons (.var 4) .nil))))))
    .nil))
    .nil)
    (.cons (.asg (.nm 7) (.lcopy true (.idx (.var 0) (.cst (.int 2)))))
    (.cons (.asg (.nm 6) (.ife (.cmp .eq (.idx (.var 0) (.cst (.int 0))) (.cst (.str [102, 111, 114, 109]))) (.idx (.idx (.var 7) (.var 2)) (.cst (.int 1))) (.idx (.var 7) (.var 2))))
    (.cons (.asg (.nm 8) (.call 137 (.cons (.var 6) (.cons (.sl (.var 1) (.some (.cst (.int 1))) .none) .nil))))
    (.cons (.sub (.var 7) (.var 2) (.ife (.cmp .eq (.idx (.var 0) (.cst (.int 0))) (.cst (.str [102, 111, 114, 109]))) (.tup (.cons (.idx (.idx (.var 7) (.var 2)) (.cst (.int 0))) (.cons (.var 8) .nil))) (.var 8)))
    (.cons (.ret (.tup (.cons (.idx (.var 0) (.cst (.int 0))) (.cons (.idx (.var 0) (.cst (.int 1))) (.cons (.bi .tuple (.cons (.var 7) .nil)) .nil)))))
    .nil))))))))⟩
def fn138 : Fn := ⟨3, 4, (.cons (.ret (.call 81 (.cons (.comp false (.bi .str (.cons (.var 3) .nil)) (.nm 3) (.rng1 (.var 2)) .none [3]) (.cons (.call 137 (.cons (.var 0) (.cons (.var 1) .nil))) .nil))))
    .nil)⟩
def fn183 : Fn := ⟨1, 15, (.cons (.forr (.nm 1) (.rng1 (.bin .add (.cst (.int 1)) (.bi .min2 (.cons (.cst (.int 8)) (.cons (.bi .len (.cons (.var 0) .nil)) .nil)))))
    (.cons (.asg (.nm 2) (.call 3 (.cons (.var 0) (.cons (.var 1) .nil))))
    (.cons (.asg (.nm 3) (.call 7 (.cons (.var 2) .nil)))
    (.cons (.par 4 5 (.call 10 (.cons (.var 2) (.cons (.var 3) (.cons (.cst (.int 5)) .nil)))) (.idx (.var 3) (.cst (.str [112, 111, 111, 108]))))
    (.cons (.par 6 7 (.rep (.var 4)) (.call 81 (.cons (.var 5) (.cons (.var 4) .nil))))
    (.cons (.forr (.nm 8) (.val (.call 136 (.cons (.var 4) .nil)))
    (.cons (.asg (.nm 9) (.call 138 (.cons (.var 7) (.cons (.var 8) (.cons (.bi .len (.cons (.var 5) .nil)) .nil)))))
    (.cons (.forr (.nm 10) (.rng1 (.cst (.int 2)))
    (.cons (.asg (.nm 11) (.call 280 (.cons (.var 4) (.cons (.var 8) .nil))))
    (.cons (.ife (.or (.cons (.cmp .isnB (.call 85 (.cons (.var 11) .nil)) (.cst (.bl true))) (.cons (.not (.call 6 (.cons (.call 81 (.cons (.var 5) (.cons (.var 11) .nil))) (.cons (.var 9) .nil)))) (.cons (.cmp .ne (.rep (.var 4)) (.var 6)) .nil))))
    (.cons (.ret (.cst (.bl false)))
    .nil)
    .nil)
    .nil)))
    (.cons (.asg (.nm 12) (.var 4))
    (.cons (.forr (.nm 13) (.val (.var 8))
    (.cons (.asg (.nm 12) (.idx (.idx (.call 11 (.cons (.var 12) .nil)) (.var 13)) (.cst (.int 1))))
    .nil))
    (.cons (.asg (.nm 14) (.lcnt (.call 13 (.cons (.idx (.var 12) (.cst (.int 2))) (.cons (.lst false .nil) .nil))) (.idx (.var 12) (.cst (.int 1)))))
    (.cons (.ife (.and (.cons (.cmp .eq (.var 14) (.cst (.int 1))) (.cons (.cmp .ne (.bi .len (.cons (.call 136 (.cons (.var 11) .nil)) .nil)) (.bin .sub (.bi .len (.cons (.call 136 (.cons (.var 4) .nil)) .nil)) (.cst (.int 1)))) .nil)))
    (.cons (.ret (.cst (.bl false)))
    .nil)
    .nil)
    .nil)))))))
    .nil))))))
    (.cons (.ret (.cst (.bl true)))
    .nil))⟩
def fn47 : Fn := ⟨2, 6, (.cons (.asg (.nm 2) (.ncopy (.var 0)))
    (.cons (.asg (.nm 3) (.nget (.var 0) (.cst .non) (.cst (.int 0))))
    (.cons (.expr (.nupd (.var 2) (.comp false (.tup (.cons (.var 5) (.cons (.bin .add (.var 3) (.var 4)) .nil))) (.tup [(.nm 4), (.nm 5)]) (.enum (.var 1)) .none [4, 5])))
    (.cons (.nset (.var 2) (.cst .non) (.bin .add (.var 3) (.bi .len (.cons (.var 1) .nil))))
    (.cons (.ret (.var 2))
    .nil)))))⟩
def fn126 : Fn := ⟨3, 8, (.cons (.asg (.nm 3) (.dcopy false (.comp false (.tup (.cons (.var 5) (.cons (.tup (.cons (.cst (.str [110, 97, 109, 101])) (.cons (.bi .str (.cons (.var 4) .nil)) .nil))) .nil))) (.tup [(.nm 4), (.nm 5)]) (.enum (.var 0)) .none [4, 5])))
    (.cons (.asg (.nm 6) (.dcopy true (.var 3)))
    (.cons (.forr (.tup [(.nm 5), (.nm 7)]) (.val (.var 2))
    (.cons (.sub (.var 6) (.var 5) (.call 80 (.cons (.var 7) (.cons (.var 3) (.cons (.dct false .nil) (.cons (.bi .len (.cons (.var 0) .nil)) .nil))))))
    .nil))
    (.cons (.ret (.call 81 (.cons (.comp false (.bi .str (.cons (.var 4) .nil)) (.nm 4) (.rng1 (.bi .len (.cons (.var 0) .nil))) .none [4]) (.cons (.call 80 (.cons (.var 1) (.cons (.var 6) (.cons (.dct false .nil) (.cons (.bi .len (.cons (.var 0) .nil)) .nil))))) .nil))))
    .nil))))⟩
end NH
namespace NH
local macro_rules
  | `(tactic| simp_arith [$ts,*]) => `(tactic| simp -implicitDefEqProofs only [rdO_l, rdO_L, rdO_d, rdO_D, Som_s, Som_n, Som_i, Som_b, Som_m, IfB_p, Nx_n, Nx_r, Nx_b, Nx_c, w_ok, w_no, w_lift, w_bind, w_ite, g_z, g_s, sv_z, sv_s, dv_z, dv_s, dvs_n, dvs_c, rd_p, rd_c, rd_r, rdN_p, rdN_r, rdS_p, rdS_r, rdS_cl, rds_n, rds_c, rdsS_n, rdsS_c, pure1_p, pureC_p, pures_n, pures_p, asBl_p, w_var, w_cst, w_glob, w_tup, mkL_f, mkL_t, mkD_f, mkD_t, w_lst, w_dct, w_lcopy, w_dcopy, w_lset, w_srt, w_cat, catP_l, w_bin, w_neg, w_cmp, w_chain, w_and, w_or, w_andn, w_orn, w_andc, w_orc, w_not, w_ife, w_idx, w_sl, w_rev, rv_l, rv_t, lx_l, w_lidx, w_lcnt, w_rep, w_call, w_bi, w_frz, Frz_p, w_comp, w_fn, w_fs, w_esn, w_esc, w_on, w_os, w_ival, w_irng1, w_irng2, w_ienum, w_izip, w_ikeys, w_iitems, walkF_p, walkT_p, lock_p, lock_c, unlock_n, it_l, it_t, it_s, en_l, en_t, zi_l, zi_t, w_meth, Meth_p, Meth_c, w_ssn, w_ssc, w_expr, w_ret, w_retN, w_brk, w_cont, w_pass, w_asg, w_asgT, w_par, asRef_r, w_sub, dno_d, dno_n, dnf_p, dnf_r, somek_n, nk_n, nk_s, nk_i, isdno_n, w_ninn, w_nidx, w_nget, w_ncopy, w_nupd, nu_l, ns_d, w_dzip, dz_t, w_sset, w_ksrt, dico_d, diclo_d, w_kcomp, w_nset, w_aug, au_add, au_sub, au_str, w_if, w_for, w_kfor, w_whil, as_n, as_t, as_l, as_tn, as_tc, LpNx_n, LpNx_r, LpNx_b, LpNx_c, for_n, comp_n, End_n, End_r, ex_p, ix_l, ix_t, ix_d, it0, it1, it2, it3, il0, il1, il2, sm_l, sm0, sm1, sm2, bp_add, bp_adds, bp_addl, bp_addt, bp_sub, bp_mul, bp_div, bp_mod, cp_lt, cp_le, cp_gt, cp_ge, cp_eqi, cp_eqs, cp_eqb, cp_nei, cp_nes, cp_neb, cp_isN, cp_isnN, isNon_n, isNon_t, isNon_l, isNon_s, isNon_i, bi_len, bi_abs, bi_int, bi_intb, bi_str, bi_all, bi_any, bi_min, bi_max, bi_tupl, bi_tupt, bi_isi, lenP_s, lenP_t, lenP_l, lenP_d, lc_l, lc_t, dc_d, dc_l, asI_i, asL_l, bt_len, bt_abs, bt_int, bt_str, bt_all, bt_any, bt_sum, bt_min, bt_max, bt_isi, bt_tup, ty_l, ty_d, ty_s, rc_join, rc_get1, rc_get2, rr_append, rr_extend, rr_pop0, rr_pop1, rr_insert, rr_reverse, rr_clear, rr_index, rr_count, rr_get1, rr_get2, rr_setdefault, rr_dpop1, isDic_d, rr_update, some_getD, me_append, me_extend, me_pop0, me_pop1, me_insert, me_reverse, me_clear, me_setdefault, me_dpop1, me_update, me_get1, me_get2, mm_append, mm_extend, mm_reverse, mm_clear, mm_pop1, mm_update_l, mm_update_d, mm_setd, mp_join, mp_get1, mp_get2, ky_s, ky_i, Som_if, allStr_m, allBl_m, cq_s, cq_l, cq_t, pu_n, pu_c, te_n, te_c, fo_l, fo_d, fz_r, isT_n_str, isT_n_int, isT_n_bool, isT_n_tuple, isT_n_list, isT_n_dict, isT_b_str, isT_b_int, isT_b_bool, isT_b_tuple, isT_b_list, isT_b_dict, isT_i_str, isT_i_int, isT_i_bool, isT_i_tuple, isT_i_list, isT_i_dict, isT_s_str, isT_s_int, isT_s_bool, isT_s_tuple, isT_s_list, isT_s_dict, isT_t_str, isT_t_int, isT_t_bool, isT_t_tuple, isT_t_list, isT_t_dict, isT_l_str, isT_l_int, isT_l_bool, isT_l_tuple, isT_l_list, isT_l_dict, isT_d_str, isT_d_int, isT_d_bool, isT_d_tuple, isT_d_list, isT_d_dict, cp_eqn, bq_t, bq_f, tg_name_form, tg_name_hole, tg_name_let, tg_name_free, tg_name_bound, tg_form_name, tg_form_hole, tg_form_let, tg_form_free, tg_form_bound, tg_hole_name, tg_hole_form, tg_hole_let, tg_hole_free, tg_hole_bound, tg_let_name, tg_let_form, tg_let_hole, tg_let_free, tg_let_bound, tg_free_name, tg_free_form, tg_free_hole, tg_free_let, tg_free_bound, tg_bound_name, tg_bound_form, tg_bound_hole, tg_bound_let, tg_bound_free, sp_l, Hide, List.any_cons, List.any_nil, beq_self_eq_true, Bool.or_false, Bool.false_or, Bool.and_true, Bool.true_and, Bool.and_false, Bool.false_and, List.length_map, Int.toNat_natCast, List.set_set, List.length_set, List.getElem?_cons_zero, List.getElem?_cons_succ, ix0, ix1, ix2, ix3, To, Som, IfB, Nx, FrzD, MethD, LpNx, End, newEnv, List.length_cons, List.length_nil, List.map_cons, List.map_nil, List.replicate_succ, List.replicate_zero, List.cons_append, List.nil_append, Option.bind_some, Option.map_some, Option.bind_none, Option.map_none, Nat.reduceAdd, Nat.reduceSub, Nat.reduceLT, Nat.reduceLeDiff, ↓reduceIte, Bool.true_or, Bool.or_true, List.set_cons_zero, List.set_cons_succ, Bool.false_eq_true, Bool.true_eq_false, decide_true, decide_false, Bool.not_true, Bool.not_false, decide_eq_true_eq, exists_eq_left, exists_eq_left', exists_eq', and_true, true_and, Nat.zero_add, Option.some.injEq, R.ok.injEq, $ts,*])
local macro_rules
  | `(tactic| simp_arith [$ts,*] at $h:ident) => `(tactic| simp -implicitDefEqProofs only [rdO_l, rdO_L, rdO_d, rdO_D, Som_s, Som_n, Som_i, Som_b, Som_m, IfB_p, Nx_n, Nx_r, Nx_b, Nx_c, w_ok, w_no, w_lift, w_bind, w_ite, g_z, g_s, sv_z, sv_s, dv_z, dv_s, dvs_n, dvs_c, rd_p, rd_c, rd_r, rdN_p, rdN_r, rdS_p, rdS_r, rdS_cl, rds_n, rds_c, rdsS_n, rdsS_c, pure1_p, pureC_p, pures_n, pures_p, asBl_p, w_var, w_cst, w_glob, w_tup, mkL_f, mkL_t, mkD_f, mkD_t, w_lst, w_dct, w_lcopy, w_dcopy, w_lset, w_srt, w_cat, catP_l, w_bin, w_neg, w_cmp, w_chain, w_and, w_or, w_andn, w_orn, w_andc, w_orc, w_not, w_ife, w_idx, w_sl, w_rev, rv_l, rv_t, lx_l, w_lidx, w_lcnt, w_rep, w_call, w_bi, w_frz, Frz_p, w_comp, w_fn, w_fs, w_esn, w_esc, w_on, w_os, w_ival, w_irng1, w_irng2, w_ienum, w_izip, w_ikeys, w_iitems, walkF_p, walkT_p, lock_p, lock_c, unlock_n, it_l, it_t, it_s, en_l, en_t, zi_l, zi_t, w_meth, Meth_p, Meth_c, w_ssn, w_ssc, w_expr, w_ret, w_retN, w_brk, w_cont, w_pass, w_asg, w_asgT, w_par, asRef_r, w_sub, dno_d, dno_n, dnf_p, dnf_r, somek_n, nk_n, nk_s, nk_i, isdno_n, w_ninn, w_nidx, w_nget, w_ncopy, w_nupd, nu_l, ns_d, w_dzip, dz_t, w_sset, w_ksrt, dico_d, diclo_d, w_kcomp, w_nset, w_aug, au_add, au_sub, au_str, w_if, w_for, w_kfor, w_whil, as_n, as_t, as_l, as_tn, as_tc, LpNx_n, LpNx_r, LpNx_b, LpNx_c, for_n, comp_n, End_n, End_r, ex_p, ix_l, ix_t, ix_d, it0, it1, it2, it3, il0, il1, il2, sm_l, sm0, sm1, sm2, bp_add, bp_adds, bp_addl, bp_addt, bp_sub, bp_mul, bp_div, bp_mod, cp_lt, cp_le, cp_gt, cp_ge, cp_eqi, cp_eqs, cp_eqb, cp_nei, cp_nes, cp_neb, cp_isN, cp_isnN, isNon_n, isNon_t, isNon_l, isNon_s, isNon_i, bi_len, bi_abs, bi_int, bi_intb, bi_str, bi_all, bi_any, bi_min, bi_max, bi_tupl, bi_tupt, bi_isi, lenP_s, lenP_t, lenP_l, lenP_d, lc_l, lc_t, dc_d, dc_l, asI_i, asL_l, bt_len, bt_abs, bt_int, bt_str, bt_all, bt_any, bt_sum, bt_min, bt_max, bt_isi, bt_tup, ty_l, ty_d, ty_s, rc_join, rc_get1, rc_get2, rr_append, rr_extend, rr_pop0, rr_pop1, rr_insert, rr_reverse, rr_clear, rr_index, rr_count, rr_get1, rr_get2, rr_setdefault, rr_dpop1, isDic_d, rr_update, some_getD, me_append, me_extend, me_pop0, me_pop1, me_insert, me_reverse, me_clear, me_setdefault, me_dpop1, me_update, me_get1, me_get2, mm_append, mm_extend, mm_reverse, mm_clear, mm_pop1, mm_update_l, mm_update_d, mm_setd, mp_join, mp_get1, mp_get2, ky_s, ky_i, Som_if, allStr_m, allBl_m, cq_s, cq_l, cq_t, pu_n, pu_c, te_n, te_c, fo_l, fo_d, fz_r, isT_n_str, isT_n_int, isT_n_bool, isT_n_tuple, isT_n_list, isT_n_dict, isT_b_str, isT_b_int, isT_b_bool, isT_b_tuple, isT_b_list, isT_b_dict, isT_i_str, isT_i_int, isT_i_bool, isT_i_tuple, isT_i_list, isT_i_dict, isT_s_str, isT_s_int, isT_s_bool, isT_s_tuple, isT_s_list, isT_s_dict, isT_t_str, isT_t_int, isT_t_bool, isT_t_tuple, isT_t_list, isT_t_dict, isT_l_str, isT_l_int, isT_l_bool, isT_l_tuple, isT_l_list, isT_l_dict, isT_d_str, isT_d_int, isT_d_bool, isT_d_tuple, isT_d_list, isT_d_dict, cp_eqn, bq_t, bq_f, tg_name_form, tg_name_hole, tg_name_let, tg_name_free, tg_name_bound, tg_form_name, tg_form_hole, tg_form_let, tg_form_free, tg_form_bound, tg_hole_name, tg_hole_form, tg_hole_let, tg_hole_free, tg_hole_bound, tg_let_name, tg_let_form, tg_let_hole, tg_let_free, tg_let_bound, tg_free_name, tg_free_form, tg_free_hole, tg_free_let, tg_free_bound, tg_bound_name, tg_bound_form, tg_bound_hole, tg_bound_let, tg_bound_free, sp_l, Hide, List.any_cons, List.any_nil, beq_self_eq_true, Bool.or_false, Bool.false_or, Bool.and_true, Bool.true_and, Bool.and_false, Bool.false_and, List.length_map, Int.toNat_natCast, List.set_set, List.length_set, List.getElem?_cons_zero, List.getElem?_cons_succ, ix0, ix1, ix2, ix3, To, Som, IfB, Nx, FrzD, MethD, LpNx, End, newEnv, List.length_cons, List.length_nil, List.map_cons, List.map_nil, List.replicate_succ, List.replicate_zero, List.cons_append, List.nil_append, Option.bind_some, Option.map_some, Option.bind_none, Option.map_none, Nat.reduceAdd, Nat.reduceSub, Nat.reduceLT, Nat.reduceLeDiff, ↓reduceIte, Bool.true_or, Bool.or_true, List.set_cons_zero, List.set_cons_succ, Bool.false_eq_true, Bool.true_eq_false, decide_true, decide_false, Bool.not_true, Bool.not_false, decide_eq_true_eq, exists_eq_left, exists_eq_left', exists_eq', and_true, true_and, Nat.zero_add, Option.some.injEq, R.ok.injEq, $ts,*] at $h:ident)
def Tape (j : Nat) (m : Nat) (st : Store) : Prop := ∃ a b c : Int, st[j]? = some (.lst [.int a, .int b, .int c]) ∧ 0 ≤ a ∧ 0 ≤ c ∧ c ≤ m
def But (js : List Nat) (st st' : Store) : Prop := st'.length = st.length ∧ ∀ i, i ∉ js → st'[i]? = st[i]?
theorem w64 {i : Int} (h1 : -(2 ^ 63) < i) (h2 : i < 2 ^ 63) : within64 i = true := by
  unfold within64; simp; omega
theorem w64mod {x p : Int} (h : 0 < p) (h2 : p < 2 ^ 63) : within64 (x % p) = true := by
  have h3 := Int.emod_nonneg x (show p ≠ 0 by omega)
  have h4 := Int.emod_lt_of_pos x h
  exact w64 (by omega) (by omega)
theorem w64or {a b : Int} (h : within64 b = true) : (within64 a || within64 b) = true := by simp [h]
theorem bmulR {a b : Int} (h : within64 b = true) : binP .mul (.int a) (.int b) = some (.int (a * b)) := by simp [h]
theorem bmulL {a b : Int} (h : within64 a = true) : binP .mul (.int a) (.int b) = some (.int (a * b)) := by simp [h]
theorem bmodP {a p : Int} (h : 0 < p) : binP .mod (.int a) (.int p) = some (.int (a % p)) := by simp [h]
theorem bdivP {a p : Int} (h : 0 < p) (h2 : p < 1073741824) : binP .fdiv (.int a) (.int p) = some (.int (a / p)) := by simp [h, h2]
theorem set_some {st : Store} {j : Nat} {o o' : MO} (h : st[j]? = some o) : (st.set j o')[j]? = some o' := List.getElem?_set_self (List.getElem?_eq_some_iff.mp h).1
def idx3 (a b c : Int) : P := .lst [.int a, .int b, .int c]
def tkFn (A B M G H N U V W X : Int) : Fn := ⟨2, 4, (.cons (.ife (.cmp .gt (.idx (.var 0) (.cst (.int 0))) (.cst (.int 0)))
    (.cons (.asg (.nm 2) (.bin .mod (.idx (.var 0) (.cst (.int 0))) (.var 1)))
    (.cons (.sub (.var 0) (.cst (.int 0)) (.bin .fdiv (.idx (.var 0) (.cst (.int 0))) (.var 1)))
    (.cons (.ret (.var 2))
    .nil)))
    .nil)
    (.cons (.sub (.var 0) (.cst (.int 2)) (.bin .add (.idx (.var 0) (.cst (.int 2))) (.cst (.int 1))))
    (.cons (.asg (.nm 3) (.bin .mod (.bin .mul (.bin .add (.idx (.var 0) (.cst (.int 1))) (.bin .mul (.cst (.int A)) (.idx (.var 0) (.cst (.int 2))))) (.bin .add (.cst (.int B)) (.idx (.var 0) (.cst (.int 2))))) (.cst (.int M))))
    (.cons (.sub (.var 0) (.cst (.int 1)) (.bin .mod (.bin .add (.bin .mul (.var 3) (.bin .add (.bin .mod (.var 3) (.cst (.int G))) (.cst (.int H)))) (.idx (.var 0) (.cst (.int 2)))) (.cst (.int N))))
    (.cons (.ret (.bin .mod (.bin .fdiv (.bin .mod (.bin .mul (.idx (.var 0) (.cst (.int 1))) (.bin .add (.bin .mod (.idx (.var 0) (.cst (.int 1))) (.cst (.int U))) (.cst (.int V)))) (.cst (.int W))) (.cst (.int X))) (.var 1)))
    .nil)))))⟩
theorem fn4_tk : fn4 = tkFn 39373 48271 2147483647 40009 7 2147483629 1009 3 998244353 7 := rfl
theorem tk_neg {A B M G H N U V W X : Int} {T : Nat → Option Fn} {i : Nat} (hT : T i = some (tkFn A B M G H N U V W X)) {k : Nat} {st : Store} {j : Nat} {a b c n : Int} (e : st[j]? = some (.lst [.int a, .int b, .int c])) (h0 : ¬ 0 < a)
    (wA : within64 A = true) (wB : within64 (B + (c + 1)) = true) (wM : ∀ x, within64 (x % M) = true) (wN : ∀ x, within64 (x % N) = true) (pM : 0 < M) (pG : 0 < G) (pN : 0 < N) (pU : 0 < U) (pW : 0 < W) (pX : 0 < X) (pX2 : X < 1073741824) (hn : 0 < n) :
    ∃ x v : Int, callK T (k + 1) i [.r j, .p (.int n)] st = .ok (.p (.int (v % n))) (st.set j (.lst [.int a, .int x, .int (c + 1)])) := by
  have hs : ∀ x, (st.set j x)[j]? = some x := fun x => set_some e
  suffices h : To (callK T (k + 1) i [.r j, .p (.int n)] st) fun d st' => ∃ x v : Int, d = .p (.int (v % n)) ∧ st' = st.set j (.lst [.int a, .int x, .int (c + 1)]) by
    obtain ⟨d, st', h1, x, v, h2, h3⟩ := h.eq
    exact ⟨x, v, by rw [h1, h2, h3]⟩
  refine call_end hT rfl ?_
  unfold tkFn
  simp_arith [e, hs, h0, ix0, ix1, ix2, bmodP pM, bmodP pG, bmodP pN, bmodP pU, bmodP pW, bmodP hn, bdivP pX pX2, wA, wB, wM, wN, Bool.true_or, Bool.or_true, List.set_cons_zero, List.set_cons_succ]
  exact Hide.of ⟨_, _, rfl, take_set⟩
theorem take_to {T : Nat → Option Fn} (hT : T 4 = some fn4) {k : Nat} {st : Store} {j m : Nat} {n : Int} (h : Tape j m st) (hn : 0 < n) (hn2 : n < 1073741824) (hm : m < 2 ^ 60) :
    To (callK T (k + 1) 4 [.r j, .p (.int n)] st) fun d st' => ∃ v : Nat, d = .p (.int v) ∧ (v : Int) < n ∧ Tape j (m + 1) st' ∧ But [j] st st' := by
  obtain ⟨a, b, c, e, ha, hc, hcm⟩ := h
  have hs : ∀ x, (st.set j x)[j]? = some x := fun x => set_some e
  have hb : ∀ x, But [j] st (st.set j x) := fun x => ⟨by simp, fun i hi => List.getElem?_set_ne (fun z => hi (by simp [z]))⟩
  have hc1 : c ≤ ((m + 1 : Nat) : Int) := by omega
  have hc2 : c + 1 ≤ ((m + 1 : Nat) : Int) := by omega
  have hN : ∀ x : Int, ((x % n).toNat : Int) = x % n := fun x => Int.toNat_of_nonneg (Int.emod_nonneg x (by omega))
  by_cases h0 : 0 < a
  · refine call_end hT rfl ?_
    unfold fn4
    simp_arith [e, hs, h0, hn, hn2]
    exact Hide.of ⟨(a % n).toNat, by rw [hN], by rw [hN]; exact Int.emod_lt_of_pos _ hn, ⟨a / n, b, c, by rw [take_set]; exact hs _, Int.ediv_nonneg ha (by omega), hc, hc1⟩, by rw [take_set]; exact hb _⟩
  · rw [fn4_tk] at hT
    obtain ⟨x, v, h⟩ := tk_neg (k := k) hT e h0 (by decide +kernel) (w64 (by omega) (by omega)) (fun x => w64mod (by decide +kernel) (by decide +kernel)) (fun x => w64mod (by decide +kernel) (by decide +kernel)) (by decide +kernel) (by decide +kernel) (by decide +kernel) (by decide +kernel) (by decide +kernel) (by decide +kernel) (by decide +kernel) hn
    rw [To_eq h]
    exact ⟨(v % n).toNat, by rw [hN], by rw [hN]; exact Int.emod_lt_of_pos _ hn, ⟨a, x, c + 1, hs _, ha, by omega, hc2⟩, hb _⟩
abbrev sName : Tx := [110, 97, 109, 101]
abbrev sForm : Tx := [102, 111, 114, 109]
abbrev sHole : Tx := [104, 111, 108, 101]
abbrev sLet : Tx := [108, 101, 116]
inductive Tm where
  | nm (x : Tx)
  | fm (f : Tx) (ps : List (List Tx × Tm))
  | hl (h : Tx) (ts : List Tm)
  | lt (x : Tx) (b w : Tm)
def eT (x : Tx) : P := .str x
def eTs (l : List Tx) : P := .tup (l.map .str)
theorem Tm.szp {p : List Tx × Tm} {ps : List (List Tx × Tm)} (m : p ∈ ps) : sizeOf p.2 < sizeOf ps := by
  have h1 := List.sizeOf_lt_of_mem m
  have h2 : sizeOf p = 1 + sizeOf p.1 + sizeOf p.2 := by cases p; rfl
  omega
def Tm.enc : Tm → P
  | .nm x => .tup [.str sName, .str x]
  | .fm f ps => .tup [.str sForm, .str f, .tup (ps.map fun p => .tup [.tup (p.1.map .str), p.2.enc])]
  | .hl h ts => .tup [.str sHole, .str h, .tup (ts.map fun t => t.enc)]
  | .lt x b w => .tup [.str sLet, .str x, b.enc, w.enc]
termination_by t => t
decreasing_by
  all_goals simp only [Tm.fm.sizeOf_spec, Tm.hl.sizeOf_spec, Tm.lt.sizeOf_spec]
  all_goals first | (have := Tm.szp ‹_ ∈ _›; omega) | (have := List.sizeOf_lt_of_mem ‹_ ∈ _›; omega) | omega
def Tm.inn : Tm → List (List Tx × Tm)
  | .nm _ => []
  | .fm _ ps => ps
  | .hl _ ts => ts.map fun t => ([], t)
  | .lt x b w => [([x], b), ([], w)]
theorem Tm.ind {Q : Tm → Prop} (h : ∀ t, (∀ p ∈ t.inn, Q p.2) → Q t) : ∀ t, Q t
  | .nm x => h _ (by simp [Tm.inn])
  | .fm f ps => h _ (fun p m => by
      have := Tm.szp (ps := ps) m
      exact Tm.ind h p.2)
  | .hl g ts => h _ (fun p m => by
      obtain ⟨t, m', rfl⟩ := List.mem_map.mp m
      have := List.sizeOf_lt_of_mem m'
      exact Tm.ind h t)
  | .lt x b w => h _ (fun p m => by
      simp only [Tm.inn, List.mem_cons, List.not_mem_nil, or_false] at m
      rcases m with rfl | rfl
      · exact Tm.ind h b
      · exact Tm.ind h w)
termination_by t => t
decreasing_by
  all_goals simp only [Tm.fm.sizeOf_spec, Tm.hl.sizeOf_spec, Tm.lt.sizeOf_spec]
  all_goals first | (have := Tm.szp ‹_ ∈ _›; omega) | (have := List.sizeOf_lt_of_mem ‹_ ∈ _›; omega) | omega
def Tm.dep : Tm → Nat
  | .nm _ => 0
  | .fm _ ps => 1 + (ps.map fun p => p.2.dep).foldr max 0
  | .hl _ ts => 1 + (ts.map fun t => t.dep).foldr max 0
  | .lt _ b w => 1 + max b.dep w.dep
termination_by t => t
decreasing_by
  all_goals simp only [Tm.fm.sizeOf_spec, Tm.hl.sizeOf_spec, Tm.lt.sizeOf_spec]
  all_goals first | (have := Tm.szp ‹_ ∈ _›; omega) | (have := List.sizeOf_lt_of_mem ‹_ ∈ _›; omega) | omega
theorem le_foldr {l : List Nat} {n : Nat} (h : n ∈ l) : n ≤ l.foldr max 0 := by
  induction l with
  | nil => cases h
  | cons a l ih =>
    rcases List.mem_cons.mp h with rfl | h
    · exact Nat.le_max_left _ _
    · exact Nat.le_trans (ih h) (Nat.le_max_right _ _)
theorem foldr_le {l : List Nat} {n : Nat} (h : ∀ a ∈ l, a ≤ n) : l.foldr max 0 ≤ n := by
  induction l with
  | nil => exact Nat.zero_le _
  | cons a l ih => exact Nat.max_le.mpr ⟨h a List.mem_cons_self, ih fun b m => h b (List.mem_cons_of_mem _ m)⟩
theorem Tm.dep_inn {t : Tm} {p : List Tx × Tm} (h : p ∈ t.inn) : p.2.dep < t.dep := by
  cases t with
  | nm x => cases h
  | fm f ps =>
    have : p.2.dep ≤ (ps.map fun p => p.2.dep).foldr max 0 := le_foldr (List.mem_map_of_mem (f := fun p : List Tx × Tm => p.2.dep) h)
    simp only [Tm.dep]
    omega
  | hl g ts =>
    obtain ⟨t, m, rfl⟩ := List.mem_map.mp h
    have : t.dep ≤ (ts.map fun t => t.dep).foldr max 0 := le_foldr (List.mem_map_of_mem (f := fun t : Tm => t.dep) m)
    simp only [Tm.dep]
    omega
  | lt x b w =>
    simp only [Tm.inn, List.mem_cons, List.not_mem_nil, or_false] at h
    simp only [Tm.dep]
    have h1 := Nat.le_max_left b.dep w.dep
    have h2 := Nat.le_max_right b.dep w.dep
    rcases h with rfl | rfl
    · show b.dep < _; omega
    · show w.dep < _; omega
theorem Tm.enc_nm {x : Tx} : (Tm.nm x).enc = .tup [.str sName, .str x] := by simp [Tm.enc]
theorem Tm.enc_fm {f : Tx} {ps : List (List Tx × Tm)} : (Tm.fm f ps).enc = .tup [.str sForm, .str f, .tup (ps.map fun p => .tup [.tup (p.1.map .str), p.2.enc])] := by simp [Tm.enc]
theorem Tm.enc_hl {f : Tx} {ts : List Tm} : (Tm.hl f ts).enc = .tup [.str sHole, .str f, .tup (ts.map Tm.enc)] := by simp [Tm.enc]
theorem Tm.enc_lt {x : Tx} {b w : Tm} : (Tm.lt x b w).enc = .tup [.str sLet, .str x, b.enc, w.enc] := by simp [Tm.enc]
def Tm.fv : Tm → List Tx
  | .nm x => [x]
  | .fm _ ps => (ps.map fun p => p.2.fv.filter fun x => decide (x ∉ p.1)).flatten
  | .hl _ ts => (ts.map fun t => t.fv).flatten
  | .lt x b w => (b.fv.filter fun y => decide (y ∉ [x])) ++ w.fv
termination_by t => t
decreasing_by
  all_goals simp only [Tm.fm.sizeOf_spec, Tm.hl.sizeOf_spec, Tm.lt.sizeOf_spec]
  all_goals first | (have := Tm.szp ‹_ ∈ _›; omega) | (have := List.sizeOf_lt_of_mem ‹_ ∈ _›; omega) | omega
theorem ft (l : List Tx) : l.filter (fun _ => true) = l := List.filter_eq_self.mpr (by simp)
theorem Tm.fv_inn {t : Tm} (h : ∀ x, t ≠ .nm x) : t.fv = (t.inn.map fun p => p.2.fv.filter fun x => decide (x ∉ p.1)).flatten := by
  cases t with
  | nm x => exact absurd rfl (h x)
  | fm f ps => simp [Tm.fv, Tm.inn]
  | hl h ts => simp [Tm.fv, Tm.inn, Function.comp_def, ft]
  | lt x b w => simp [Tm.fv, Tm.inn, ft]
def Tm.lets : Tm → Nat
  | .nm _ => 0
  | .fm _ ps => (ps.map fun p => p.2.lets).sum
  | .hl _ ts => (ts.map fun t => t.lets).sum
  | .lt _ b w => 1 + b.lets + w.lets
termination_by t => t
decreasing_by
  all_goals simp only [Tm.fm.sizeOf_spec, Tm.hl.sizeOf_spec, Tm.lt.sizeOf_spec]
  all_goals first | (have := Tm.szp ‹_ ∈ _›; omega) | (have := List.sizeOf_lt_of_mem ‹_ ∈ _›; omega) | omega
structure Voc where
  nm : Tx → Prop
  wd : Tx → Prop
  hd : Tx → Nat → Prop
inductive Wf (V : Voc) : Tm → Prop
  | nm {x} : V.nm x → Wf V (.nm x)
  | fm {f ps} : V.wd f → ps.length ≤ 4 → (∀ p ∈ ps, p.1.Nodup ∧ p.1.length ≤ 4 ∧ ∀ n ∈ p.1, V.nm n) → (∀ p ∈ ps, Wf V p.2) → Wf V (.fm f ps)
  | hl {h ts} : V.hd h ts.length → ts.length ≤ 4 → (∀ t ∈ ts, Wf V t) → Wf V (.hl h ts)
  | lt {x b w} : V.nm x → Wf V b → Wf V w → Wf V (.lt x b w)
def ePart (p : List Tx × Tm) : P := .tup [.tup (p.1.map .str), p.2.enc]
theorem But.trans {js : List Nat} {a b c : Store} (h : But js a b) (g : But js b c) : But js a c := ⟨g.1.trans h.1, fun i m => (g.2 i m).trans (h.2 i m)⟩
theorem But.refl {js : List Nat} {a : Store} : But js a a := ⟨rfl, fun _ _ => rfl⟩
theorem But.mono {js ks : List Nat} {a b : Store} (h : But js a b) (s : ∀ i ∈ js, i ∈ ks) : But ks a b := ⟨h.1, fun i m => h.2 i fun z => m (s i z)⟩
theorem But.take {js : List Nat} {a b : Store} (h : But js a b) : b.take a.length = b := List.take_of_length_le (by rw [h.1]; exact Nat.le_refl _)
theorem But.take' {js : List Nat} {a b : Store} {n : Nat} (h : But js a b) (e : a.length = n) : b.take n = b := by rw [← e]; exact h.take
theorem But.set {j : Nat} {a : Store} {o : MO} : But [j] a (a.set j o) := ⟨by simp, fun i hi => List.getElem?_set_ne (fun z => hi (by simp [z]))⟩
theorem Tape.mono {j m m' : Nat} {st : Store} (h : Tape j m st) (hm : m ≤ m') : Tape j m' st := by
  obtain ⟨a, b, c, e, h1, h2, h3⟩ := h
  exact ⟨a, b, c, e, h1, h2, by omega⟩
theorem Tape.lt {j m : Nat} {st : Store} (h : Tape j m st) : j < st.length := by
  obtain ⟨a, b, c, e, _⟩ := h
  exact (List.getElem?_eq_some_iff.mp e).1
theorem Tape.but {js : List Nat} {j m : Nat} {a b : Store} (h : Tape j m a) (g : But js a b) (hj : j ∉ js) : Tape j m b := by
  obtain ⟨x, y, c, e, hh⟩ := h
  exact ⟨x, y, c, by rw [g.2 j hj]; exact e, hh⟩
theorem Tape.app {j m : Nat} {a b : Store} (h : Tape j m a) : Tape j m (a ++ b) := by
  have := h.lt
  obtain ⟨x, y, c, e, hh⟩ := h
  exact ⟨x, y, c, by rw [List.getElem?_append_left this]; exact e, hh⟩
theorem rngLen : ∀ (n : Nat) (lo : Int), (rngL lo n).length = n
  | 0, _ => rfl
  | n + 1, lo => by simp [rngL, rngLen n]
theorem rngL_eq : ∀ (n : Nat) (lo : Nat), rngL lo n = (List.range' lo n).map fun i : Nat => P.int (i : Int)
  | 0, _ => rfl
  | n + 1, lo => by
    have := rngL_eq n (lo + 1)
    simp only [rngL, List.range'_succ, List.map_cons]
    rw [← this]; simp
theorem rngL0 (n : Nat) : rngL 0 n = (List.range n).map fun i : Nat => P.int (i : Int) := by
  rw [List.range_eq_range']; exact rngL_eq n 0
inductive F2 {α β : Type} (E : α → β → Prop) : List α → List β → Prop
  | nil : F2 E [] []
  | cons {x y l m} : E x y → F2 E l m → F2 E (x :: l) (y :: m)
theorem F2.append {α β : Type} {E : α → β → Prop} {l k : List α} {m n : List β} (h : F2 E l m) (g : F2 E k n) : F2 E (l ++ k) (m ++ n) := by
  induction h with
  | nil => exact g
  | cons h _ ih => exact .cons h ih
theorem F2.length_eq {α β : Type} {E : α → β → Prop} {l : List α} {m : List β} (h : F2 E l m) : l.length = m.length := by
  induction h with
  | nil => rfl
  | cons h _ ih => simp [ih]
theorem F2.right {α β : Type} {E : α → β → Prop} {l : List α} {m : List β} (h : F2 E l m) : ∀ y ∈ m, ∃ x ∈ l, E x y := by
  induction h with
  | nil => intro y h; cases h
  | cons h _ ih =>
    intro y m
    rcases List.mem_cons.mp m with rfl | m
    · exact ⟨_, List.mem_cons_self, h⟩
    · obtain ⟨x, hx, e⟩ := ih y m
      exact ⟨x, List.mem_cons_of_mem _ hx, e⟩
theorem F2.lift {α β γ : Type} {E : α → β → Prop} {G : γ → Prop} {e : γ → β} {l : List α} {m : List β} (h : F2 E l m) (he : ∀ x y, E x y → ∃ c, y = e c ∧ G c) : ∃ cs : List γ, m = cs.map e ∧ (∀ c ∈ cs, G c) ∧ cs.length = l.length := by
  induction h with
  | nil => exact ⟨[], rfl, (fun _ h => by cases h), rfl⟩
  | cons h _ ih =>
    obtain ⟨c, rfl, g⟩ := he _ _ h
    obtain ⟨cs, rfl, h2, h3⟩ := ih
    exact ⟨c :: cs, rfl, fun x m => by rcases List.mem_cons.mp m with rfl | m; exact g; exact h2 x m, by simp [h3]⟩
theorem comp_draw {tg : CT} {own : List Nat} {elt : Env → Store → R D} {δ : Env} {l : List P} {st : Store} {Q : List P → Store → Prop} {j m c : Nat} {js : List Nat} {E : P → P → Prop}
    (ht : Tape j m st) (hl : l.length ≤ LINE)
    (he : ∀ x ∈ l, ∀ st1 i, i < l.length → Tape j (m + i * c) st1 → But js st st1 → ∃ δ1, asgP tg x (delVs δ own) = some δ1 ∧ To (elt δ1 st1) fun d st2 => ∃ p, d = .p p ∧ E x p ∧ Tape j (m + i * c + c) st2 ∧ But js st1 st2)
    (hq : ∀ ps st1, F2 E l ps → Tape j (m + l.length * c) st1 → But js st st1 → Q ps st1) :
    To (compL tg own (fun δ st => evF (fun _ _ _ => .no) .none δ st) elt δ [] l st) Q := by
  refine compL_to (fun acc r st1 => ∃ l1, l = l1 ++ r ∧ F2 E l1 acc ∧ Tape j (m + l1.length * c) st1 ∧ But js st st1) ⟨[], rfl, .nil, by simpa using ht, But.refl⟩ ?_ ?_
  · rintro acc x r st1 ⟨l1, e, f, t, b⟩
    have hx : x ∈ l := by rw [e]; simp
    have hln : l1.length < l.length := by rw [e]; simp
    obtain ⟨δ1, e1, h1⟩ := he x hx st1 l1.length hln t b
    refine ⟨δ1, e1, ?_⟩
    show To (evF (fun _ _ _ => .no) .none δ1 st1) _
    rw [w_fn]
    refine h1.mono ?_
    rintro d st2 ⟨p, rfl, hp, t2, b2⟩
    have := f.length_eq
    refine ⟨p, rfl, by omega, l1 ++ [x], by simp [e], ?_, ?_, b.trans b2⟩
    · exact f.append (.cons hp .nil)
    · rw [List.length_append, List.length_singleton, Nat.add_mul, Nat.one_mul, ← Nat.add_assoc]; exact t2
  · rintro acc st1 ⟨l1, e, f, t, b⟩
    rw [List.append_nil] at e
    subst e
    exact hq acc st1 f t b
theorem comp_pure {C : Calls} {tg : CT} {own : List Nat} {elt : Env → Store → R D} {δ : Env} {α : Type} {src : List α} {e : α → P} {st : Store} {Q : List P → Store → Prop} (f : α → P) (hl : src.length ≤ LINE)
    (he : ∀ a ∈ src, ∃ δ1, asgP tg (e a) (delVs δ own) = some δ1 ∧ To (elt δ1 st) fun d st' => d = .p (f a) ∧ st' = st)
    (hq : Q (src.map f) st) : To (compL tg own (fun δ st => evF C .none δ st) elt δ [] (src.map e) st) Q := by
  rw [show (fun δ st => evF C .none δ st) = fun (_ : Env) st => R.ok true st from rfl]
  refine compL_to (fun acc r st1 => ∃ l1 l2, src = l1 ++ l2 ∧ acc = l1.map f ∧ r = l2.map e ∧ st1 = st) ⟨[], src, rfl, rfl, rfl, rfl⟩ ?_ ?_
  · rintro acc x r st1 ⟨l1, l2, e1, rfl, e2, rfl⟩
    cases l2 with
    | nil => cases e2
    | cons a l2 =>
      cases e2
      obtain ⟨δ1, h1, h2⟩ := he a (by rw [e1]; simp)
      refine ⟨δ1, h1, ?_⟩
      rw [w_ok, if_pos rfl]
      refine h2.mono ?_
      rintro d st' ⟨rfl, rfl⟩
      refine ⟨_, rfl, ?_, l1 ++ [a], l2, by simp [e1], by simp, rfl, rfl⟩
      rw [e1] at hl
      simp at hl ⊢
      omega
  · rintro acc st1 ⟨l1, l2, e1, rfl, e2, rfl⟩
    have : l2 = [] := by cases l2 with | nil => rfl | cons a l => cases e2
    subst this
    rw [List.append_nil] at e1
    subst e1
    exact hq
theorem comp_filter {C : Calls} {c : CE} {tg : CT} {own : List Nat} {elt : Env → Store → R D} {δ : Env} {α : Type} {src : List α} {e : α → P} {st : Store} {Q : List P → Store → Prop} (p : α → Bool) (f : α → P) (hl : src.length ≤ LINE)
    (he : ∀ a ∈ src, ∃ δ1, asgP tg (e a) (delVs δ own) = some δ1 ∧ (To (evE C c δ1 st) fun d st' => d = .p (.bl (p a)) ∧ st' = st) ∧ (p a = true → To (elt δ1 st) fun d st' => d = .p (f a) ∧ st' = st))
    (hq : Q ((src.filter p).map f) st) : To (compL tg own (fun δ st => evF C (.some c) δ st) elt δ [] (src.map e) st) Q := by
  refine compL_to (fun acc r st1 => ∃ l1 l2, src = l1 ++ l2 ∧ acc = (l1.filter p).map f ∧ r = l2.map e ∧ st1 = st) ⟨[], src, rfl, rfl, rfl, rfl⟩ ?_ ?_
  · rintro acc x r st1 ⟨l1, l2, e1, rfl, e2, rfl⟩
    cases l2 with
    | nil => cases e2
    | cons a l2 =>
      cases e2
      obtain ⟨δ1, h1, h2, h3⟩ := he a (by rw [e1]; simp)
      refine ⟨δ1, h1, ?_⟩
      rw [w_fs]
      refine h2.mono ?_
      rintro d st' ⟨rfl, rfl⟩
      rw [asBl_p, Som_s]
      split
      · rename_i hp
        refine (h3 hp).mono ?_
        rintro d st' ⟨rfl, rfl⟩
        refine ⟨_, rfl, ?_, l1 ++ [a], l2, by simp [e1], by simp [hp], rfl, rfl⟩
        have := List.length_filter_le p l1
        rw [e1] at hl
        simp at hl ⊢
        omega
      · rename_i hp
        exact ⟨l1 ++ [a], l2, by simp [e1], by simp [hp], rfl, rfl⟩
  · rintro acc st1 ⟨l1, l2, e1, rfl, e2, rfl⟩
    have : l2 = [] := by cases l2 with | nil => rfl | cons a l => cases e2
    subst this
    rw [List.append_nil] at e1
    subst e1
    exact hq
theorem for_inv {tg : CT} {body : Env → Store → R (Fl × Env)} {Q : Fl × Env → Store → Prop} (Pv : List P → Env → Store → Prop) {l : List P} {δ : Env} {st : Store} (h0 : Pv l δ st)
    (hs : ∀ x r δ st, Pv (x :: r) δ st → ∃ δ1, asgP tg x δ = some δ1 ∧ To (body δ1 st) fun f st' => LpNx f st' (fun δ2 st2 => Hide (Pv r δ2 st2)) Q) (hd : ∀ δ st, Pv [] δ st → Q (.nx, δ) st) : To (forL tg body l δ st) Q := by
  refine forL_to Pv h0 (fun x r δ st h => ?_) hd
  obtain ⟨δ1, e, h1⟩ := hs x r δ st h
  refine ⟨δ1, e, h1.mono fun f st' h2 => ?_⟩
  obtain ⟨g, δ2⟩ := f
  cases g <;> exact h2
abbrev abc : Tx := [97, 98, 99, 100, 101, 102, 103, 104, 105, 106, 107, 108, 109, 110, 111, 112, 113, 114, 115, 116, 117, 118, 119, 120, 121, 122]
def Low (c : Nat) : Prop := 97 ≤ c ∧ c ≤ 122
theorem abc_at {v : Nat} (h : v < 26) : abc[v]? = some (97 + v) := by
  have : ∀ v, v < 26 → abc[v]? = some (97 + v) := by decide
  exact this v h
theorem ix_abc {v : Nat} (h : (v : Int) < 26) : idxP (.str abc) (.int v) = some (.str [97 + v]) := by
  unfold idxP
  dsimp only
  rw [if_pos (by decide), ixOf_nat (by omega) (by exact h)]
  show (abc[(v : Int).toNat]?).map _ = _
  rw [Int.toNat_natCast, abc_at (by omega)]; rfl
theorem join_nil : ∀ cs : Tx, joinTx [] (cs.map fun c => [c]) = cs
  | [] => rfl
  | [_] => rfl
  | a :: b :: cs => by
    have := join_nil (b :: cs)
    simp only [List.map_cons, joinTx] at this ⊢
    rw [this]; rfl
theorem sum_one : ∀ cs : Tx, ((cs.map fun c => [c]).map List.length).sum = cs.length
  | [] => rfl
  | a :: cs => by simp [Function.comp_def] at *; induction cs <;> simp_all [Nat.add_comm]
theorem cut_to {α : Type} {l : List α} {a : Nat} (h : a ≤ l.length) : cut l none (some (a : Int)) = l.take a := by
  unfold cut cutIx
  simp only [Nat.sub_zero, List.drop_zero, Int.toNat_natCast, show ¬ ((a : Int) < 0) by omega, if_false, Nat.min_eq_left h]
theorem cut_from {α : Type} {l : List α} {a : Nat} (h : a ≤ l.length) : cut l (some (a : Int)) none = l.drop a := by
  unfold cut cutIx
  simp only [Int.toNat_natCast, show ¬ ((a : Int) < 0) by omega, if_false, Nat.min_eq_left h]
  exact List.take_of_length_le (by simp)
def signN (f i : Nat) : Nat := 97 + (f + 7 * i) % 26
def wordN (stem : Tx) (a f i : Nat) : Tx := stem.take a ++ signN f i :: stem.drop a
theorem nodup_map {α β : Type} {f : α → β} : ∀ {l : List α}, (∀ x ∈ l, ∀ y ∈ l, f x = f y → x = y) → l.Nodup → (l.map f).Nodup
  | [], _, _ => List.nodup_nil
  | a :: l, h, hn => by
    rw [List.map_cons, List.nodup_cons]
    rw [List.nodup_cons] at hn
    refine ⟨fun hm => ?_, nodup_map (fun x hx y hy => h x (List.mem_cons_of_mem _ hx) y (List.mem_cons_of_mem _ hy)) hn.2⟩
    obtain ⟨b, hb, e⟩ := List.mem_map.mp hm
    exact hn.1 (h b (List.mem_cons_of_mem _ hb) a List.mem_cons_self e ▸ hb)
theorem sign_inj {g i j : Nat} (hi : i < 26) (hj : j < 26) (e : signN g i = signN g j) : i = j := by
  unfold signN at e; omega
theorem word_sign {cs : Tx} {a g i j : Nat} (ha : a ≤ cs.length) (e : wordN cs a g i = wordN cs a g j) : signN g i = signN g j := by
  unfold wordN at e
  have := List.append_cancel_left e
  exact (List.cons.inj this).1
theorem words_to {T : Nat → Option Fn} {i5 : Nat} (hT4 : T 4 = some fn4) (hT : T i5 = some fn5) {k : Nat} {st : Store} {j m : Nat} {n : Nat} (h : Tape j m st) (hn : n ≤ 26) (hm : m < 2 ^ 59) :
    To (callK T (k + 2) i5 [.r j, .p (.int n)] st) fun d st' => ∃ l : List Tx, d = .p (.lst (l.map .str)) ∧ l.length = n ∧ l.Nodup ∧ (∀ w ∈ l, ∀ c ∈ w, Low c) ∧ (∃ z, 1 ≤ z ∧ z ≤ 7 ∧ ∀ w ∈ l, w.length = z) ∧ Tape j (m + 9) st' ∧ But [j] st st' := by
  refine call_end hT rfl ?_
  unfold fn5
  simp_arith []
  refine To.mono (take_to hT4 h (by omega) (by omega) (by omega)) ?_
  rintro d st1 ⟨v, rfl, hv, t1, b1⟩
  simp_arith []
  refine ⟨by omega, comp_draw (js := [j]) (c := 1) (E := fun _ p => ∃ c, p = .str [c] ∧ Low c) t1 (by rw [rngLen]; unfold LINE; omega) ?_ ?_⟩
  · intro x hx st2 i hi t2 b2
    rw [rngLen] at hi
    simp_arith []
    refine To.mono (take_to hT4 t2 (by omega) (by omega) (by omega)) ?_
    rintro d st3 ⟨u, rfl, hu, t3, b3⟩
    simp_arith [ix_abc hu]
    exact ⟨_, rfl, ⟨_, rfl, by omega, by omega⟩, t3, b3⟩
  · intro ps st2 f t2 b2
    obtain ⟨cs, rfl, hc, hl⟩ := f.lift (e := fun c : Nat => P.str [c]) (G := Low) (fun _ _ h => h)
    rw [rngLen] at hl t2
    have hj := join_nil cs
    have e1 : (cs.map fun c : Nat => P.str [c]) = (cs.map fun c => [c]).map P.str := by simp
    have hz : (0 : Nat) ≤ LINE := Nat.zero_le _
    have hL : cs.length ≤ LINE := by unfold LINE; omega
    simp_arith [e1, hj, sum_one, Nat.mul_zero, Nat.add_zero, List.length_nil, hL]
    refine To.mono (take_to hT4 t2 (by omega) (by omega) (by omega)) ?_
    rintro d st3 ⟨a, rfl, ha, t3, b3⟩
    simp_arith []
    refine To.mono (take_to hT4 t3 (by omega) (by omega) (by omega)) ?_
    rintro d st4 ⟨g, rfl, hg, t4, b4⟩
    have h2 : (2 : Nat) ≤ LINE := by unfold LINE; omega
    simp_arith [h2]
    have w7 : within64 7 = true := by decide +kernel
    have hcl : ∀ i, i ≤ LINE → cs.length ≤ LINE := fun _ _ => hL
    refine ⟨by omega, ?_⟩
    rw [rngL0]
    refine comp_pure (fun i => .str [signN g i]) (by rw [List.length_range]; unfold LINE; omega) ?_ ?_
    · intro i hi
      refine ⟨_, rfl, ?_⟩
      have hp : (0 : Int) < 26 := by omega
      have e2 : ((g : Int) + 7 * (i : Int)) % 26 = (((g + 7 * i) % 26 : Nat) : Int) := by omega
      simp_arith [w7, hp, e2, ix_abc (show (((g + 7 * i) % 26 : Nat) : Int) < 26 by omega)]
      exact rfl
    · simp_arith []
      rw [show (List.range n).map (fun i => P.str [signN g i]) = (List.range n).map (fun i => P.str [signN g i]) from rfl]
      refine comp_pure (src := List.range n) (e := fun i => P.str [signN g i]) (fun i => .str (wordN cs a g i)) (by rw [List.length_range]; unfold LINE; omega) ?_ ?_
      · intro i hi
        refine ⟨_, rfl, ?_⟩
        simp_arith [hL, cut_to (show a ≤ cs.length by omega), cut_from (show a ≤ cs.length by omega)]
        refine ⟨?_, ?_, ?_⟩
        · rw [List.length_take]; have := LINE_eq; omega
        · simp only [List.length_append, List.length_take, List.length_drop, List.length_singleton]; have := LINE_eq; omega
        · simp [wordN]
      · simp_arith []
        refine Hide.of ⟨(List.range n).map (wordN cs a g), by simp, by simp, ?_, ?_, ⟨cs.length + 1, by omega, by omega, ?_⟩, ?_, ?_⟩
        · refine nodup_map ?_ List.nodup_range
          intro x hx y hy e
          exact sign_inj (by have := List.mem_range.mp hx; omega) (by have := List.mem_range.mp hy; omega) (word_sign (by omega) e)
        · intro w hw c hcw
          obtain ⟨i, _, rfl⟩ := List.mem_map.mp hw
          unfold wordN at hcw
          rcases List.mem_append.mp hcw with h | h
          · exact hc c (List.mem_of_mem_take h)
          · rcases List.mem_cons.mp h with rfl | h
            · unfold signN Low; omega
            · exact hc c (List.mem_of_mem_drop h)
        · intro w hw
          obtain ⟨i, _, rfl⟩ := List.mem_map.mp hw
          unfold wordN
          simp; omega
        · rw [((b1.trans b2).trans (b3.trans b4)).take]
          exact t4.mono (by omega)
        · rw [((b1.trans b2).trans (b3.trans b4)).take]
          exact (b1.trans b2).trans (b3.trans b4)
abbrev sIn : Tx := [105, 110]
abbrev sEnd : Tx := [101, 110, 100]
abbrev sPool : Tx := [112, 111, 111, 108]
abbrev sWords : Tx := [119, 111, 114, 100, 115]
abbrev sHoles : Tx := [104, 111, 108, 101, 115]
def kept (w : Tx) : Bool := sLet == w || (sIn == w || (sEnd == w || false))
def IsWd (x : Tx) : Prop := 1 ≤ x.length ∧ x.length ≤ 8 ∧ (∀ c ∈ x, Low c) ∧ kept x = false
def IsFig (x : Tx) : Prop := 1 ≤ x.length ∧ x.length ≤ 3 ∧ (∀ c ∈ x, 48 ≤ c ∧ c ≤ 57) ∧ (x = [48] ∨ x.head? ≠ some 48)
def IsNm (x : Tx) : Prop := IsWd x ∨ IsFig x
structure World (w : P) (pool words : List Tx) (hs : List (Tx × Nat)) : Prop where
  eq : w = .dic [(.str sPool, .lst (pool.map .str)), (.str sWords, .lst (words.map .str)), (.str sHoles, .lst (hs.map fun p => .tup [.str p.1, .int (p.2 : Nat)]))]
  pl : pool.length = 6
  pd : pool.Nodup
  pn : ∀ x ∈ pool, IsNm x
  wl : words.length = 4
  wd : words.Nodup
  wn : ∀ x ∈ words, IsWd x
  hl : ∃ a b c : Nat, hs = [([104], a), ([103], b), ([48], c)] ∧ a ≤ 3 ∧ b ≤ 3 ∧ c ≤ 3
  p7 : ∀ x ∈ pool, x.length ≤ 7
theorem fig_ok : ∀ v, v < 998 → natTx (2 + v) ≠ [48] ∧ natTx (2 + v) ≠ [49] ∧ 1 ≤ (natTx (2 + v)).length ∧ (natTx (2 + v)).length ≤ 3 ∧ (∀ c ∈ natTx (2 + v), 48 ≤ c ∧ c ≤ 57) ∧ (natTx (2 + v)).head? ≠ some 48 := by decide +kernel
def fixW (w : Tx) : Tx := w ++ if kept w then [120] else []
theorem kept_cases {w : Tx} (h : kept w = true) : w = sLet ∨ w = sIn ∨ w = sEnd := by
  unfold kept at h
  simp at h
  rcases h with h | h | h
  · exact .inl h.symm
  · exact .inr (.inl h.symm)
  · exact .inr (.inr h.symm)
theorem fixW_ok {w : Tx} {z : Nat} (h1 : 1 ≤ z) (h7 : z ≤ 7) (hl : w.length = z) (hc : ∀ c ∈ w, Low c) : IsWd (fixW w) := by
  unfold fixW
  cases hk : kept w with
  | false => simp only [Bool.false_eq_true, if_false, List.append_nil]; exact ⟨by omega, by omega, hc, hk⟩
  | true =>
    rcases kept_cases hk with rfl | rfl | rfl <;> exact ⟨by decide, by decide, by unfold Low; decide, by decide⟩
theorem fixW7 {w : Tx} {z : Nat} (h7 : z ≤ 7) (hl : w.length = z) : (fixW w).length ≤ 7 := by
  unfold fixW
  cases hk : kept w with
  | false => simp only [Bool.false_eq_true, if_false, List.append_nil]; omega
  | true => rcases kept_cases hk with rfl | rfl | rfl <;> decide
theorem fixW_inj {u w : Tx} (hl : u.length = w.length) (e : fixW u = fixW w) : u = w := by
  unfold fixW at e
  exact (List.append_inj e hl).1
theorem take3 {α : Type} {l : List α} (h : l.length = 6) : ∃ a b c d e f, l = [a, b, c, d, e, f] := by
  match l, h with
  | [a, b, c, d, e, f], _ => exact ⟨a, b, c, d, e, f, rfl⟩
def wFn (i5 : Nat) : Fn := ⟨1, 6, (.cons (.asg (.nm 1) (.comp false (.bin .add (.var 2) (.bin .mul (.cst (.str [120])) (.bi .int (.cons (.cmp .inn (.var 2) (.tup (.cons (.cst (.str [108, 101, 116])) (.cons (.cst (.str [105, 110])) (.cons (.cst (.str [101, 110, 100])) .nil))))) .nil)))) (.nm 2) (.val (.call i5 (.cons (.var 0) (.cons (.cst (.int 6)) .nil)))) .none [2]))
    (.cons (.asg (.nm 3) (.bin .add (.sl (.var 1) .none (.some (.cst (.int 3)))) (.lst false (.cons (.cst (.str [48])) (.cons (.cst (.str [49])) (.cons (.bi .str (.cons (.bin .add (.cst (.int 2)) (.call 4 (.cons (.var 0) (.cons (.cst (.int 998)) .nil)))) .nil)) .nil))))))
    (.cons (.asg (.nm 4) (.comp false (.tup (.cons (.var 5) (.cons (.call 4 (.cons (.var 0) (.cons (.cst (.int 4)) .nil))) .nil))) (.nm 5) (.val (.tup (.cons (.cst (.str [104])) (.cons (.cst (.str [103])) (.cons (.cst (.str [48])) .nil))))) .none [5]))
    (.cons (.ret (.dct false (.cons (.cst (.str [112, 111, 111, 108])) (.cons (.var 3) (.cons (.cst (.str [119, 111, 114, 100, 115])) (.cons (.sl (.var 1) (.some (.cst (.int 2))) .none) (.cons (.cst (.str [104, 111, 108, 101, 115])) (.cons (.var 4) .nil))))))))
    .nil))))⟩
theorem world_to {T : Nat → Option Fn} {i5 i7 : Nat} (hT4 : T 4 = some fn4) (hT5 : T i5 = some fn5) (hT : T i7 = some (wFn i5)) {k : Nat} {st : Store} {j m : Nat} (h : Tape j m st) (hm : m < 2 ^ 58) :
    To (callK T (k + 3) i7 [.r j] st) fun d st' => ∃ w pool words hs, d = .p w ∧ World w pool words hs ∧ Tape j (m + 13) st' ∧ But [j] st st' := by
  refine call_end hT rfl ?_
  unfold wFn
  simp_arith []
  refine To.mono (words_to (n := 6) hT4 hT5 h (by omega) (by omega)) ?_
  rintro d st1 ⟨l, rfl, hl, hd, hc, ⟨z, hz1, hz7, hz⟩, t1, b1⟩
  simp_arith []
  refine comp_pure (fun w => .str (fixW w)) (by have := LINE_eq; omega) ?_ ?_
  · intro w hw
    refine ⟨_, rfl, ?_⟩
    have e1 : ∀ st, cmpD .inn st (.p (.str w)) (.p (.tup [.str sLet, .str sIn, .str sEnd])) = some (kept w) := fun _ => by cases w with | nil => rfl | cons a w => cases w <;> rfl
    have e2 : binP .mul (.str [120]) (.int (if kept w = true then 1 else 0)) = some (.str (if kept w then [120] else [])) := by cases kept w <;> simp [binP, LINE]
    have h3 : (3 : Nat) ≤ LINE := by rw [LINE_eq]; omega
    simp_arith [e1, e2, h3]
    refine ⟨?_, rfl⟩
    have := hz w hw
    have := LINE_eq
    split <;> simp <;> omega
  · obtain ⟨a, b, c, d, e, f, rfl⟩ := take3 hl
    simp_arith []
    refine To.mono (take_to hT4 t1 (by omega) (by omega) (by omega)) ?_
    intro d' st2 hh
    obtain ⟨v, hh, hv, t2, b2⟩ := hh
    subst hh
    have h3 : (3 : Nat) ≤ LINE := by rw [LINE_eq]; omega
    have h2 : (2 : Nat) ≤ LINE := by rw [LINE_eq]; omega
    have h6 : (6 : Nat) ≤ LINE := by rw [LINE_eq]; omega
    have h03 : (0 : Nat) < LINE := by rw [LINE_eq]; omega
    have h13 : (1 : Nat) < LINE := by rw [LINE_eq]; omega
    have h23 : (2 : Nat) < LINE := by rw [LINE_eq]; omega
    have hv2 : (0 : Int) ≤ 2 + (v : Int) ∧ 2 + (v : Int) < 10 ^ 18 := by omega
    have ev : ((2 : Int) + (v : Int)).toNat = 2 + v := by omega
    have cA : ∀ a b c d e f : P, cut [a, b, c, d, e, f] none (some 3) = [a, b, c] := fun _ _ _ _ _ _ => rfl
    have cB : ∀ a b c d e f : P, cut [a, b, c, d, e, f] (some 2) none = [c, d, e, f] := fun _ _ _ _ _ _ => rfl
    simp_arith [h3, hv2, ev, comp_c, h6, h2, cA, cB]
    refine To.mono (take_to hT4 t2 (by omega) (by omega) (by omega)) ?_
    rintro d3 st3 ⟨n1, rfl, hn1, t3, b3⟩
    simp_arith [h2, h03, comp_c]
    refine To.mono (take_to hT4 t3 (by omega) (by omega) (by omega)) ?_
    rintro d4 st4 ⟨n2, rfl, hn2, t4, b4⟩
    simp_arith [h2, h13, comp_c]
    refine To.mono (take_to hT4 t4 (by omega) (by omega) (by omega)) ?_
    rintro d5 st5 ⟨n3, rfl, hn3, t5, b5⟩
    have h15 : (3 : Nat) ≤ 15 := by omega
    have ek : ∀ x y z : P, kmerge [] [(Ky.str sPool, x), (Ky.str sWords, y), (Ky.str sHoles, z)] = [(Ky.str sPool, x), (Ky.str sWords, y), (Ky.str sHoles, z)] := fun _ _ _ => rfl
    simp_arith [h2, h23, h3, cA, cB, ek, h15]
    have hw : ∀ w ∈ [a, b, c, d, e, f], IsWd (fixW w) := fun w m => fixW_ok hz1 hz7 (hz w m) (hc w m)
    have hi : ∀ u ∈ [a, b, c, d, e, f], ∀ w ∈ [a, b, c, d, e, f], fixW u = fixW w → u = w := fun u mu w mw => fixW_inj ((hz u mu).trans (hz w mw).symm)
    have hn : ([a, b, c, d, e, f].map fixW).Nodup := nodup_map hi hd
    have hfig := fig_ok v (by omega)
    have hfg : IsFig (natTx (2 + v)) := ⟨hfig.2.2.1, hfig.2.2.2.1, hfig.2.2.2.2.1, .inr hfig.2.2.2.2.2⟩
    have bb := ((b1.trans b2).trans (b3.trans b4)).trans b5
    have nf : ∀ w, IsWd w → w ≠ [48] ∧ w ≠ [49] ∧ w ≠ natTx (2 + v) := by
      intro w hw
      have h1 := hw.2.2.1
      refine ⟨?_, ?_, ?_⟩ <;> rintro rfl
      · have := h1 48 (by simp); unfold Low at this; omega
      · have := h1 49 (by simp); unfold Low at this; omega
      · obtain ⟨c, hc⟩ := List.exists_mem_of_length_pos (l := natTx (2 + v)) (by have := hfig.2.2.1; omega)
        have h2 := h1 c hc
        have h3 := hfig.2.2.2.2.1 c hc
        unfold Low at h2; omega
    refine Hide.of ⟨_, [fixW a, fixW b, fixW c, [48], [49], natTx (2 + v)], [fixW c, fixW d, fixW e, fixW f], [([104], n1), ([103], n2), ([48], n3)], rfl, ⟨rfl, rfl, ?_, ?_, rfl, ?_, ?_, ⟨n1, n2, n3, rfl, by omega, by omega, by omega⟩, ?_⟩, ?_, ?_⟩
    · have ha := nf _ (hw a (by simp))
      have hb := nf _ (hw b (by simp))
      have hc := nf _ (hw c (by simp))
      simp at hn
      simp [hfig.1.symm, hfig.2.1.symm, ha, hb, hc]
      exact ⟨⟨fun h => hn.1.1 h, fun h => hn.1.2.1 h⟩, fun h => hn.2.1.1 h⟩
    · intro x hx
      simp only [List.mem_cons, List.not_mem_nil, or_false] at hx
      rcases hx with rfl | rfl | rfl | rfl | rfl | rfl
      · exact .inl (hw a (by simp))
      · exact .inl (hw b (by simp))
      · exact .inl (hw c (by simp))
      · exact .inr ⟨by decide, by decide, by decide, .inl rfl⟩
      · exact .inr ⟨by decide, by decide, by decide, .inr (by decide)⟩
      · exact .inr hfg
    · exact hn.of_cons.of_cons
    · intro x hx
      simp only [List.mem_cons, List.not_mem_nil, or_false] at hx
      rcases hx with rfl | rfl | rfl | rfl
      · exact hw c (by simp)
      · exact hw d (by simp)
      · exact hw e (by simp)
      · exact hw f (by simp)
    · intro x hx
      simp only [List.mem_cons, List.not_mem_nil, or_false] at hx
      rcases hx with rfl | rfl | rfl | rfl | rfl | rfl
      · exact fixW7 hz7 (hz a (by simp))
      · exact fixW7 hz7 (hz b (by simp))
      · exact fixW7 hz7 (hz c (by simp))
      · decide
      · decide
      · have := hfig.2.2.2.1; omega
    · rw [bb.take]
      exact t5.mono (by omega)
    · rw [bb.take]
      exact bb
def Shy (x : Tx) : Prop := ∀ c ∈ x, c < 1114112
theorem IsWd.shy {x : Tx} (h : IsWd x) : Shy x := fun c m => by have := h.2.2.1 c m; unfold Low at this; omega
theorem IsNm.shy {x : Tx} (h : IsNm x) : Shy x := fun c m => by
  rcases h with h | h
  · exact h.shy c m
  · have := h.2.2.1 c m; omega
theorem shy_sh {x : Tx} (h : Shy x) : (P.str x).sh = true := by
  simp only [P.sh, List.all_eq_true, decide_eq_true_eq]; exact h
theorem shs_of {α : Type} {f : α → P} : ∀ {l : List α}, (∀ a ∈ l, (f a).sh = true) → P.shs (l.map f) = true
  | [], _ => rfl
  | a :: l, h => by
    simp only [List.map_cons, P.shs, h a List.mem_cons_self, shs_of (l := l) fun b m => h b (List.mem_cons_of_mem _ m), Bool.and_self]
theorem deeps_of {α : Type} {f : α → P} {n : Nat} : ∀ {l : List α}, (∀ a ∈ l, (f a).deep ≤ n) → P.deeps (l.map f) ≤ n
  | [], _ => Nat.zero_le _
  | a :: l, h => by
    simp only [List.map_cons, P.deeps]
    exact Nat.max_le.mpr ⟨h a List.mem_cons_self, deeps_of fun b m => h b (List.mem_cons_of_mem _ m)⟩
theorem eqP_ok {a b : P} (h1 : a.sh = true) (h2 : b.sh = true) (h3 : a.deep ≤ 64) (h4 : b.deep ≤ 64) : eqP a b = some (a.eqv b) := by
  unfold eqP
  split
  · rfl
  · rw [h1, h2, if_pos (by simp [h3, h4])]
theorem cmp_eq {a b : P} {st : Store} (h1 : a.sh = true) (h2 : b.sh = true) (h3 : a.deep ≤ 64) (h4 : b.deep ≤ 64) : cmpD .eq st (.p a) (.p b) = some (a.eqv b) := eqP_ok h1 h2 h3 h4
theorem cmp_ne {a b : P} {st : Store} (h1 : a.sh = true) (h2 : b.sh = true) (h3 : a.deep ≤ 64) (h4 : b.deep ≤ 64) : cmpD .ne st (.p a) (.p b) = some (!a.eqv b) := by
  show (eqP a b).map not = _
  rw [eqP_ok h1 h2 h3 h4]; rfl
theorem eqv_nil {l : List P} : (P.lst l).eqv (.lst []) = l.isEmpty := by cases l <;> rfl
theorem txs_nil {l : List Tx} {st : Store} (h : ∀ x ∈ l, Shy x) : cmpD .eq st (.p (.lst (l.map .str))) (.p (.lst [])) = some l.isEmpty := by
  rw [cmp_eq, eqv_nil]
  · cases l <;> rfl
  · exact shs_of fun a m => shy_sh (h a m)
  · rfl
  · have : P.deeps (l.map P.str) ≤ 0 := deeps_of (f := P.str) (n := 0) fun a m => Nat.le_refl 0
    show P.deeps _ + 1 ≤ 64
    omega
  · decide
theorem ix_map {α : Type} {l : List α} {f : α → P} {u : Nat} (h : (u : Int) < l.length) : idxP (.lst (l.map f)) (.int (u : Nat)) = some (f (l[u]'(by omega))) := by
  rw [ix_l, List.length_map, ixOf_nat (by omega) h, Option.bind_some, Int.toNat_natCast, List.getElem?_map, List.getElem?_eq_getElem (by omega)]; rfl
theorem perm_erase {α : Type} : ∀ {l : List α} {i : Nat} {x : α}, l[i]? = some x → (x :: l.eraseIdx i).Perm l
  | [], _, _, h => by simp at h
  | y :: l, 0, x, h => by simp at h; subst h; exact .refl _
  | y :: l, i + 1, x, h => by
    have h' : l[i]? = some x := by simpa using h
    exact (List.Perm.swap y x _).trans ((perm_erase h').cons y)
theorem erase_map {α β : Type} {f : α → β} : ∀ {l : List α} {i : Nat}, (l.map f).eraseIdx i = (l.eraseIdx i).map f
  | [], _ => by simp
  | a :: l, 0 => by simp
  | a :: l, i + 1 => by simp [erase_map (l := l)]
theorem unlike_to {α : Type} {f : α → P} {T : Nat → Option Fn} (hT4 : T 4 = some fn4) (hT : T 9 = some fn9) {k : Nat} {st : Store} {j m n : Nat} {l : List α} (h : Tape j m st) (hm : m < 2 ^ 59) (h1 : n ≤ l.length) (hl : l.length ≤ 1000) :
    To (callK T (k + 2) 9 [.r j, .p (.lst (l.map f)), .p (.int n)] st) fun d st' => ∃ r rest : List α, d = .p (.lst (r.map f)) ∧ r.length = n ∧ (r ++ rest).Perm l ∧ Tape j (m + n) st' ∧ But [j] st st' := by
  have hj := h.lt
  refine call_end hT rfl ?_
  unfold fn9
  simp_arith []
  refine ⟨by omega, ?_⟩
  refine compL_to (fun acc rest st1 => ∃ r left, acc = r.map f ∧ r.length + rest.length = n ∧ st1[st.length]? = some (.lst (left.map f)) ∧ (r ++ left).Perm l ∧ Tape j (m + r.length) st1 ∧ st1.length = st.length + 1 ∧ ∀ i, i ≠ j → i < st.length → st1[i]? = st[i]?)
    ⟨[], l, rfl, by simp [rngLen], by simp, by simp, by exact h.app, by simp, fun i _ hi => by rw [List.getElem?_append_left hi]⟩ ?_ ?_
  · rintro acc x rr st1 ⟨r, left, rfl, i1, i2, i3, i4, i5, i6⟩
    have hlen : r.length + left.length = l.length := by rw [← List.length_append]; exact i3.length_eq
    simp only [List.length_cons] at i1
    refine ⟨_, rfl, ?_⟩
    have hLL : left.length ≤ LINE := by have := LINE_eq; omega
    show To (evF (callK T (k + 1)) .none _ _) _
    rw [w_fn, if_pos rfl]
    simp_arith [i2, hLL]
    refine To.mono (take_to hT4 i4 (by omega) (by omega) (by omega)) ?_
    rintro d st2 ⟨v, rfl, hv, t2, b2⟩
    have e2 : st2[st.length]? = some (.lst (left.map f)) := by rw [b2.2 _ (by simp; omega)]; exact i2
    obtain ⟨x, hx⟩ : ∃ x, left[v]? = some x := ⟨_, List.getElem?_eq_getElem (by omega)⟩
    have hp := perm_erase hx
    have hvv : -(2 ^ 62) < (v : Int) ∧ (v : Int) < 2 ^ 62 := by omega
    have ei : ixOf left.length (v : Int) = some v := by rw [ixOf_nat (by omega) hv, Int.toNat_natCast]
    simp_arith [e2, hvv, ei, List.getElem?_map, hx]
    refine ⟨f x, rfl, by have := LINE_eq; omega, r ++ [x], left.eraseIdx v, by simp, by simp; omega, ?_, ?_, ?_, b2.1.trans i5, fun i h1 h2 => ?_⟩
    · rw [set_some e2, erase_map]
    · have := List.Perm.append_left r hp
      simp only [List.append_assoc, List.singleton_append]
      exact this.trans i3
    · have : Tape j (m + r.length + 1) st2 := t2
      refine Tape.but (js := [st.length]) (m := m + (r ++ [x]).length) (t2.mono (by simp; omega)) But.set (by simp; omega)
    · rw [List.getElem?_set_ne (by omega), b2.2 i (by simp; exact h1)]
      exact i6 i h1 h2
  · rintro acc st1 ⟨r, left, rfl, i1, i2, i3, i4, i5, i6⟩
    simp only [List.length_nil] at i1
    simp_arith []
    have hb : But [j] st (st1.take st.length) := ⟨by simp; omega, fun i hi => by
      rw [List.getElem?_take]
      split
      · rename_i h
        exact i6 i (by simpa using hi) h
      · rw [List.getElem?_eq_none (by omega)]⟩
    refine Hide.of ⟨r, left, rfl, by omega, i3, ?_, hb⟩
    obtain ⟨a, b, c, e, hh⟩ := i4
    refine ⟨a, b, c, by rw [List.getElem?_take, if_pos hj]; exact e, hh.1, hh.2.1, by omega⟩
def Rm (r b : Nat) (st : Store) : Prop := ∃ a : Int, st[r]? = some (.lst [.int a, .int b])
theorem Rm.but {js : List Nat} {r b : Nat} {x y : Store} (h : Rm r b x) (g : But js x y) (hj : r ∉ js) : Rm r b y := by
  obtain ⟨a, e⟩ := h
  exact ⟨a, by rw [g.2 r hj]; exact e⟩
def costT : Nat → Nat
  | 0 => 2
  | d + 1 => 4 * costT d + 30
structure Drawn (pool words : List Tx) (hs : List (Tx × Nat)) (ns : List Tx) (d : Nat) (t : Tm) : Prop where
  wf : Wf ⟨(· ∈ pool), (· ∈ words), fun h n => (h, n) ∈ hs⟩ t
  dep : t.dep ≤ d + 1
  fv : ∀ x ∈ t.fv, x ∈ ns
theorem any_to {T : Nat → Option Fn} (hT4 : T 4 = some fn4) (hT9 : T 9 = some fn9) (hT : T 8 = some fn8) {w : P} {pool words : List Tx} {hs : List (Tx × Nat)} (W : World w pool words hs) :
    ∀ (d : Nat) {k : Nat} {st : Store} {j r m b : Nat} {ns : List Tx}, d ≤ k → Tape j m st → Rm r b st → j ≠ r → m + costT d < 2 ^ 58 → (∀ n ∈ ns, n ∈ pool) → ns.length + 3 * d ≤ 1000 →
    To (callK T (k + 3) 8 [.r j, .p w, .p (.lst (ns.map .str)), .r r, .p (.int d)] st) fun dd st' => ∃ t b', dd = .p t.enc ∧ Drawn pool words hs ns d t ∧ t.lets + b' = b ∧ Tape j (m + costT d) st' ∧ Rm r b' st' ∧ But [j, r] st st' := by
  intro d
  induction d using Nat.strongRecOn with
  | ind d ih =>
  intro k st j r m b ns hk ht hr hjr hm hns hnl
  obtain ⟨a, er⟩ := hr
  have hrl : r < st.length := (List.getElem?_eq_some_iff.mp er).1
  have hs1 : ∀ x, (st.set r x)[r]? = some x := fun x => set_some er
  have hp : ∀ n ∈ ns, Shy n := fun n m => (W.pn n (hns n m)).shy
  refine call_end hT rfl ?_
  unfold fn8
  simp_arith [er]
  have t0 : Tape j m (st.set r (.lst [.int (a - 1), .int b])) := ht.but But.set (by simp; exact hjr)
  refine To.mono (take_to hT4 t0 (by omega) (by omega) (by omega)) ?_
  rintro dd st2 ⟨v, rfl, hv, t2, b2⟩
  have bb : But [j, r] st st2 := (But.set.mono (by simp)).trans (b2.mono (by simp))
  have e2 : st2[r]? = some (.lst [.int (a - 1), .int b]) := by rw [b2.2 r (by simp; exact fun h => hjr h.symm)]; exact hs1 _
  have he : ((d : Int) == 0) = decide (d = 0) := by by_cases h : d = 0 <;> simp [h]
  have hL3 : (3 : Nat) ≤ LINE := by rw [LINE_eq]; omega
  have hL2 : (2 : Nat) ≤ LINE := by rw [LINE_eq]; omega
  have hL0 : (0 : Nat) ≤ LINE := by rw [LINE_eq]; omega
  have hW := W.eq
  have hc2 : 2 ≤ costT d := by cases d <;> simp [costT]
  obtain ⟨w0, wr, ew⟩ : ∃ w0 wr, words = w0 :: wr := by
    have := W.wl
    cases words with
    | nil => simp at this
    | cons w0 wr => exact ⟨_, _, rfl⟩
  have iW : idxP w (.str sWords) = some (.lst (words.map .str)) := by rw [hW, ix_d, kg_n (by simp), kg_s]
  have iP : idxP w (.str sPool) = some (.lst (pool.map .str)) := by rw [hW, ix_d, kg_s]
  have iH : idxP w (.str sHoles) = some (.lst (hs.map fun p => .tup [.str p.1, .int (p.2 : Nat)])) := by rw [hW, ix_d, kg_n (by simp), kg_n (by simp), kg_s]
  have i0 : idxP (.lst (words.map .str)) (.int 0) = some (.str w0) := by rw [ew]; exact il0
  clear hW
  have hnL : ns.length ≤ LINE := by have := LINE_eq; omega
  rcases (show (d = 0 ∨ (d ≠ 0 ∧ a - 1 < 1) ∨ (d ≠ 0 ∧ ¬ a - 1 < 1 ∧ (v : Int) < 3)) ∨ (d ≠ 0 ∧ ¬ a - 1 < 1 ∧ ¬ (v : Int) < 3) by omega) with hl | hn
  · have hb : (d = 0 → ((d : Int) == 0) = true) ∧ (d ≠ 0 → ((d : Int) == 0) = false) := by constructor <;> intro h <;> simp [h]
    by_cases hE : ns.isEmpty = true
    · have hx : Hide (∃ t b', D.p (.tup [.str sForm, .str w0, .tup []]) = .p t.enc ∧ Drawn pool words hs ns d t ∧ t.lets + b' = b ∧ Tape j (m + costT d) (st2.take st.length) ∧ Rm r b' (st2.take st.length) ∧ But [j, r] st (st2.take st.length)) := by
        rw [bb.take]
        exact Hide.of ⟨.fm w0 [], b, by simp [Tm.enc], ⟨.fm (by rw [ew]; simp) (by simp) (by simp) (by simp), by simp [Tm.dep], by simp [Tm.fv]⟩, by simp [Tm.lets], t2.mono (by omega), ⟨_, e2⟩, bb⟩
      rcases hl with h | ⟨h1, h2⟩ | ⟨h1, h2, h3⟩
      · simp_arith [hb.1 h, e2, txs_nil hp, hE, iW, i0, hL3, hL0]; exact hx
      · simp_arith [hb.2 h1, h2, e2, txs_nil hp, hE, iW, i0, hL3, hL0]; exact hx
      · simp_arith [hb.2 h1, h2, h3, e2, txs_nil hp, hE, iW, i0, hL3, hL0]; exact hx
    · have hE' : ns.isEmpty = false := by simpa using hE
      have hnp : 0 < ns.length := by cases ns with | nil => exact absurd rfl hE | cons => simp
      rcases hl with h | ⟨h1, h2⟩ | ⟨h1, h2, h3⟩
      · simp_arith [hb.1 h, e2, txs_nil hp, hE', hL0, hnL]
        refine To.mono (take_to hT4 t2 (by omega) (by omega) (by omega)) ?_
        rintro dd st3 ⟨u, rfl, hu, t3, b3⟩
        simp_arith [ix_map hu, hL2]
        have b' := bb.trans (b3.mono (ks := [j, r]) (by simp))
        rw [b'.take]
        exact Hide.of ⟨.nm (ns[u]'(by omega)), b, by rw [Tm.enc_nm], ⟨.nm (hns _ (List.getElem_mem _)), by simp [Tm.dep], by simp [Tm.fv]⟩, by simp [Tm.lets], t3.mono (by omega), Rm.but ⟨_, e2⟩ b3 (by simp; exact fun h => hjr h.symm), b'⟩
      · simp_arith [hb.2 h1, h2, e2, txs_nil hp, hE', hL0, hnL]
        refine To.mono (take_to hT4 t2 (by omega) (by omega) (by omega)) ?_
        rintro dd st3 ⟨u, rfl, hu, t3, b3⟩
        simp_arith [ix_map hu, hL2]
        have b' := bb.trans (b3.mono (ks := [j, r]) (by simp))
        rw [b'.take]
        exact Hide.of ⟨.nm (ns[u]'(by omega)), b, by rw [Tm.enc_nm], ⟨.nm (hns _ (List.getElem_mem _)), by simp [Tm.dep], by simp [Tm.fv]⟩, by simp [Tm.lets], t3.mono (by omega), Rm.but ⟨_, e2⟩ b3 (by simp; exact fun h => hjr h.symm), b'⟩
      · simp_arith [hb.2 h1, h2, h3, e2, txs_nil hp, hE', hL0, hnL]
        refine To.mono (take_to hT4 t2 (by omega) (by omega) (by omega)) ?_
        rintro dd st3 ⟨u, rfl, hu, t3, b3⟩
        simp_arith [ix_map hu, hL2]
        have b' := bb.trans (b3.mono (ks := [j, r]) (by simp))
        rw [b'.take]
        exact Hide.of ⟨.nm (ns[u]'(by omega)), b, by rw [Tm.enc_nm], ⟨.nm (hns _ (List.getElem_mem _)), by simp [Tm.dep], by simp [Tm.fv]⟩, by simp [Tm.lets], t3.mono (by omega), Rm.but ⟨_, e2⟩ b3 (by simp; exact fun h => hjr h.symm), b'⟩
  · obtain ⟨hd0, ha1, hv3⟩ := hn
    obtain ⟨e, rfl⟩ : ∃ e, d = e + 1 := ⟨d - 1, by omega⟩
    obtain ⟨k, rfl⟩ : ∃ k', k = k' + 1 := ⟨k - 1, by omega⟩
    have q0 : (((e + 1 : Nat) : Int) == 0) = false := by simp; omega
    have q1 : ((e + 1 : Nat) : Int) - 1 = (e : Nat) := by omega
    have hcc : costT (e + 1) = 4 * costT e + 30 := rfl
    have hpL : pool.length ≤ LINE := by have := W.pl; have := LINE_eq; omega
    have hwL : words.length ≤ LINE := by have := W.wl; have := LINE_eq; omega
    have hpl := W.pl
    have hwl := W.wl
    have hL4 : (4 : Nat) ≤ LINE := by rw [LINE_eq]; omega
    have hL1 : (1 : Nat) ≤ LINE := by rw [LINE_eq]; omega
    have hns1 : ns.length + 1 ≤ LINE := by have := LINE_eq; omega
    by_cases c9 : (v : Int) = 9 ∧ 0 < (b : Int)
    · obtain ⟨c9, cb⟩ := c9
      have q9 : ((v : Int) == 9) = true := by simp [c9]
      obtain ⟨b, rfl⟩ : ∃ b', b = b' + 1 := ⟨b - 1, by omega⟩
      have qb : ((b + 1 : Nat) : Int) - 1 = (b : Nat) := by omega
      simp_arith [q0, ha1, hv3, e2, q9, cb, iP, hpL, qb]
      have t3 : Tape j (m + 1) (st2.set r (.lst [.int (a - 1), .int b])) := t2.but But.set (by simp; exact hjr)
      have e3 : (st2.set r (.lst [.int (a - 1), .int b]))[r]? = some (.lst [.int (a - 1), .int b]) := set_some e2
      refine To.mono (take_to hT4 t3 (by omega) (by omega) (by omega)) ?_
      rintro dd st4 ⟨u, rfl, hu, t4, b4⟩
      have hr4 : Rm r b st4 := Rm.but ⟨_, e3⟩ b4 (by simp; exact fun h => hjr h.symm)
      have bb4 : But [j, r] st st4 := (bb.trans (But.set.mono (by simp))).trans (b4.mono (by simp))
      have hx : pool[u]'(by omega) ∈ pool := List.getElem_mem _
      generalize hxe : pool[u]'(by omega) = x at hx
      have ec : ns.map P.str ++ [P.str x] = (ns ++ [x]).map P.str := by simp
      simp_arith [ix_map hu, hxe, hL1, hns1, ec, q1]
      refine To.mono (ih e (by omega) (k := k) (by omega) t4 hr4 hjr (by omega) (ns := ns ++ [x]) (fun n hn => by rcases List.mem_append.mp hn with h | h; exact hns n h; rw [List.mem_singleton.mp h]; exact hx) (by simp; omega)) ?_
      rintro dd st5 ⟨tb, b5, rfl, D5, l5, t5, r5, bb5⟩
      simp_arith [q1]
      refine To.mono (ih e (by omega) (k := k) (by omega) t5 r5 hjr (by omega) (ns := ns) hns (by omega)) ?_
      rintro dd st6 ⟨tw, b6, rfl, D6, l6, t6, r6, bb6⟩
      simp_arith [hL4]
      have bbb := (bb4.trans bb5).trans bb6
      rw [bbb.take]
      refine Hide.of ⟨.lt x tb tw, b6, by rw [Tm.enc_lt], ⟨.lt hx D5.wf D6.wf, ?_, ?_⟩, ?_, t6.mono (by omega), r6, bbb⟩
      · have h5 := D5.dep
        have h6 := D6.dep
        simp only [Tm.dep]
        omega
      · intro y hy
        simp only [Tm.fv, List.mem_append, List.mem_filter, decide_eq_true_eq, List.mem_singleton] at hy
        rcases hy with ⟨h1, h2⟩ | h
        · rcases List.mem_append.mp (D5.fv y h1) with h | h
          · exact h
          · exact absurd (List.mem_singleton.mp h) h2
        · exact D6.fv y h
      · simp only [Tm.lets]; omega
    · by_cases c8 : (v : Int) = 8
      · have q8 : ((v : Int) == 8) = true := by simp [c8]
        have q9 : ((v : Int) == 9) = false := by simp; omega
        obtain ⟨na, nb, nc, ehs, hna, hnb, hnc⟩ := W.hl
        have hne : ∀ st, cmpD .ne st (.p (.lst (hs.map fun p => .tup [.str p.1, .int (p.2 : Nat)]))) (.p (.lst [])) = some true := by intro st; rw [ehs]; rfl
        have hhl : hs.length = 3 := by rw [ehs]; rfl
        have hh3 : ∀ p ∈ hs, p.2 ≤ 3 := by rw [ehs]; intro p hp; simp only [List.mem_cons, List.not_mem_nil, or_false] at hp; rcases hp with rfl | rfl | rfl <;> assumption
        have hhL : hs.length ≤ LINE := by have := LINE_eq; omega
        simp_arith [q0, ha1, hv3, e2, q9, q8, iH, hne, hhL, hL0]
        refine To.mono (take_to hT4 t2 (by omega) (by omega) (by omega)) ?_
        rintro dd st4 ⟨u, rfl, hu, t4, b4⟩
        have hr4 : Rm r b st4 := Rm.but ⟨_, e2⟩ b4 (by simp; exact fun h => hjr h.symm)
        have bb4 : But [j, r] st st4 := bb.trans (b4.mono (by simp))
        have hx : hs[u]'(by omega) ∈ hs := List.getElem_mem _
        generalize hxe : hs[u]'(by omega) = x at hx
        have hx3 := hh3 x hx
        simp_arith [ix_map hu, hxe]
        refine ⟨by omega, ?_⟩
        refine compL_to (fun acc rest st5 => ∃ ts : List Tm, acc = ts.map Tm.enc ∧ (∀ t ∈ ts, Drawn pool words hs ns e t) ∧ ts.length + rest.length = x.2 ∧ (∃ b', (ts.map Tm.lets).sum + b' = b ∧ Rm r b' st5) ∧ Tape j (m + 2 + ts.length * costT e) st5 ∧ But [j, r] st st5)
          ⟨[], rfl, by simp, by simp [rngLen], ⟨b, by simp, hr4⟩, by exact t4.mono (by simp), bb4⟩ ?_ ?_
        · rintro acc y rr st5 ⟨ts, rfl, i1, i2, ⟨b', i3, i4⟩, i5, i6⟩
          simp only [List.length_cons] at i2
          refine ⟨_, rfl, ?_⟩
          show To (evF (callK T (k + 3)) .none _ _) _
          rw [w_fn, if_pos rfl]
          have hc1 : ts.length * costT e ≤ 2 * costT e := Nat.mul_le_mul_right _ (by omega)
          simp_arith [q1]
          refine To.mono (ih e (by omega) (k := k) (by omega) i5 i4 hjr (by omega) (ns := ns) hns (by omega)) ?_
          rintro dd st6 ⟨t, b6, rfl, D6, l6, t6, r6, bb6⟩
          refine ⟨_, rfl, by rw [List.length_map]; have := LINE_eq; omega, ts ++ [t], by simp, ?_, by simp; omega, ⟨b6, by simp; omega, r6⟩, ?_, i6.trans bb6⟩
          · intro z hz
            rcases List.mem_append.mp hz with h | h
            · exact i1 z h
            · rw [List.mem_singleton.mp h]; exact D6
          · refine t6.mono ?_
            rw [List.length_append, List.length_singleton, Nat.add_mul]; omega
        · rintro acc st5 ⟨ts, rfl, i1, i2, ⟨b', i3, i4⟩, i5, i6⟩
          simp only [List.length_nil, Nat.add_zero] at i2
          have hc1 : ts.length * costT e ≤ 3 * costT e := Nat.mul_le_mul_right _ (by omega)
          simp_arith [hL3]
          rw [i6.take]
          refine Hide.of ⟨.hl x.1 ts, b', by rw [Tm.enc_hl], ⟨.hl (by rw [i2]; exact hx) (by omega) (fun t ht => (i1 t ht).wf), ?_, ?_⟩, ?_, i5.mono (by omega), i4, i6⟩
          · simp only [Tm.dep]
            have := foldr_le (l := ts.map fun t => t.dep) (n := e + 1) (by intro z hz; obtain ⟨t, ht, rfl⟩ := List.mem_map.mp hz; exact (i1 t ht).dep)
            omega
          · intro y hy
            simp only [Tm.fv, List.mem_flatten, List.mem_map] at hy
            obtain ⟨l, ⟨t, ht, rfl⟩, hy⟩ := hy
            exact (i1 t ht).fv y hy
          · simp only [Tm.lets]; exact i3
      · have q8 : ((v : Int) == 8) = false := by simp; omega
        rcases (show ((v : Int) = 9 ∧ ¬ 0 < (b : Int)) ∨ ¬ (v : Int) = 9 by omega) with ⟨h9, hb0⟩ | h9
        · have q9 : ((v : Int) == 9) = true := by simp [h9]
          simp_arith [q0, ha1, hv3, e2, q9, q8, hb0, iW, hwL]
          refine To.mono (take_to hT4 t2 (by omega) (by omega) (by omega)) ?_
          rintro dd st4 ⟨u, rfl, hu, t4, b4⟩
          have hr4 : Rm r b st4 := Rm.but ⟨_, e2⟩ b4 (by simp; exact fun h => hjr h.symm)
          have bb4 : But [j, r] st st4 := bb.trans (b4.mono (by simp))
          have hx : words[u]'(by omega) ∈ words := List.getElem_mem _
          generalize hxe : words[u]'(by omega) = wd at hx
          simp_arith [ix_map hu, hxe, hL0]
          refine To.mono (take_to hT4 (t4.app (b := [.lst []])) (by omega) (by omega) (by omega)) ?_
          rintro dd st5 ⟨n, rfl, hn, t5, b5⟩
          simp_arith []
          refine ⟨by omega, ?_⟩
          have hq4 : st4.length = st.length := bb4.1
          have hrl4 : r < st4.length := by omega
          have hjl := ht.lt
          refine forL_to (fun rest δ st6 => ∃ (x10 x13 : Option D) (ps : List (List Tx × Tm)) (b' : Nat), δ = [some (.r j), some (.p w), some (.p (.lst (ns.map .str))), some (.r r), some (.p (.int ((e + 1 : Nat) : Int))), some (.p (.int v)), none, none, none, none, x10, some (.p (.str wd)), some (.r st4.length), x13] ∧ ps.length + rest.length = n ∧ st6[st4.length]? = some (.lst (ps.map ePart)) ∧ (∀ p ∈ ps, (p.1.Nodup ∧ p.1.length ≤ 3 ∧ ∀ y ∈ p.1, y ∈ pool) ∧ Drawn pool words hs (ns ++ p.1) e p.2) ∧ (ps.map fun p => p.2.lets).sum + b' = b ∧ Rm r b' st6 ∧ Tape j (m + 3 + ps.length * (costT e + 4)) st6 ∧ st6.length = st.length + 1 ∧ ∀ i, i ≠ j → i ≠ r → i < st.length → st6[i]? = st[i]?)
            ⟨none, none, [], b, rfl, by simp [rngLen], by rw [b5.2 _ (by simp; omega)]; simp, by simp, by simp, ?_, by exact t5.mono (by simp), by rw [b5.1]; simp; omega, ?_⟩ ?_ ?_
          · obtain ⟨z, ez⟩ := hr4
            exact ⟨z, by rw [b5.2 r (by simp; exact fun h => hjr h.symm), List.getElem?_append_left hrl4]; exact ez⟩
          · intro i h1 h2 h3
            rw [b5.2 i (by simp; exact h1), List.getElem?_append_left (by omega), bb4.2 i (by simp; exact ⟨h1, h2⟩)]
          · rintro y rr δ st6 ⟨x10, x13, ps, b', rfl, i1, i2, i3, i4, i5, i6, i7, i8⟩
            simp only [List.length_cons] at i1
            refine ⟨_, rfl, ?_⟩
            have hc1 : ps.length * (costT e + 4) ≤ 2 * (costT e + 4) := Nat.mul_le_mul_right _ (by omega)
            have hL5 : (5 : Nat) ≤ LINE := by rw [LINE_eq]; omega
            simp_arith [iP, hL5]
            refine To.mono (take_to hT4 i6 (by omega) (by omega) (by omega)) ?_
            rintro dd st7 ⟨u', rfl, hu', t7, b7⟩
            obtain ⟨mn, em, hmn⟩ : ∃ mn : Nat, idxP (.lst [.int 0, .int 0, .int 1, .int 2, .int 3]) (.int (u' : Nat)) = some (.int (mn : Nat)) ∧ mn ≤ 3 := by
              have : u' = 0 ∨ u' = 1 ∨ u' = 2 ∨ u' = 3 ∨ u' = 4 := by omega
              rcases this with rfl | rfl | rfl | rfl | rfl
              · exact ⟨0, rfl, by omega⟩
              · exact ⟨0, rfl, by omega⟩
              · exact ⟨1, rfl, by omega⟩
              · exact ⟨2, rfl, by omega⟩
              · exact ⟨3, rfl, by omega⟩
            simp_arith [em]
            refine To.mono (unlike_to (f := P.str) hT4 hT9 t7 (by omega) (n := mn) (by omega) (by omega)) ?_
            rintro dd st8 ⟨bd, left, rfl, hbl, hbp, t8, b8⟩
            have e8 : st8[st4.length]? = some (.lst (ps.map ePart)) := by rw [b8.2 _ (by simp; omega), b7.2 _ (by simp; omega)]; exact i2
            have bin : ∀ y ∈ bd, y ∈ pool := fun y hy => hbp.mem_iff.mp (List.mem_append_left _ hy)
            have bnd : bd.Nodup := (List.nodup_append.mp (hbp.nodup_iff.mpr W.pd)).1
            have hnb : ns.length + bd.length ≤ LINE := by have := LINE_eq; omega
            have r8 : Rm r b' st8 := (i5.but b7 (by simp; exact fun h => hjr h.symm)).but b8 (by simp; exact fun h => hjr h.symm)
            have ebd : ns.map P.str ++ bd.map P.str = (ns ++ bd).map P.str := by simp
            simp_arith [e8, hnb, ebd, q1]
            refine To.mono (ih e (by omega) (k := k) (by omega) t8 r8 hjr (by omega) (ns := ns ++ bd) (fun n hn => by rcases List.mem_append.mp hn with h | h; exact hns n h; exact bin n h) (by simp; omega)) ?_
            rintro dd st9 ⟨t, b9, rfl, D9, l9, t9, r9, bb9⟩
            have e9 : st9[st4.length]? = some (.lst (ps.map ePart)) := by rw [bb9.2 _ (by simp; omega)]; exact e8
            have hpsL : ps.length < LINE := by have := LINE_eq; omega
            simp_arith [hL2, e9, hpsL]
            refine ⟨_, _, ps ++ [(bd, t)], b9, rfl, by simp; omega, ?_, ?_, by simp; omega, ?_, ?_, ?_, ?_⟩
            · rw [set_some e9]; simp [ePart]
            · intro p hp
              rcases List.mem_append.mp hp with h | h
              · exact i3 p h
              · rw [List.mem_singleton.mp h]; exact ⟨⟨bnd, by show bd.length ≤ 3; omega, bin⟩, D9⟩
            · exact r9.but But.set (by simp; omega)
            · refine Tape.but (js := [st4.length]) (t9.mono ?_) But.set (by simp; omega)
              rw [List.length_append, List.length_singleton, Nat.add_mul]; omega
            · rw [bb9.1, b8.1, b7.1]; exact i7
            · intro i h1 h2 h3
              rw [List.getElem?_set_ne (by omega), bb9.2 i (by simp; exact ⟨h1, h2⟩), b8.2 i (by simp; exact h1), b7.2 i (by simp; exact h1)]
              exact i8 i h1 h2 h3
          · rintro δ st6 ⟨x10, x13, ps, b', rfl, i1, i2, i3, i4, i5, i6, i7, i8⟩
            simp only [List.length_nil, Nat.add_zero] at i1
            have hc1 : ps.length * (costT e + 4) ≤ 3 * (costT e + 4) := Nat.mul_le_mul_right _ (by omega)
            simp_arith [i2, hL3]
            have bbb : But [j, r] st (st6.take st.length) := ⟨by simp; omega, fun i hi => by
              simp only [List.mem_cons, List.not_mem_nil, or_false, not_or] at hi
              rw [List.getElem?_take]
              split
              · rename_i h
                exact i8 i hi.1 hi.2 h
              · rw [List.getElem?_eq_none (by omega)]⟩
            refine Hide.of ⟨.fm wd ps, b', by rw [Tm.enc_fm]; rfl, ⟨.fm hx (by omega) (fun p hp => ⟨(i3 p hp).1.1, by have := (i3 p hp).1.2.1; omega, (i3 p hp).1.2.2⟩) (fun p hp => (i3 p hp).2.wf), ?_, ?_⟩, ?_, ?_, ?_, bbb⟩
            · simp only [Tm.dep]
              have := foldr_le (l := ps.map fun p => p.2.dep) (n := e + 1) (by intro z hz; obtain ⟨p, hp, rfl⟩ := List.mem_map.mp hz; exact (i3 p hp).2.dep)
              omega
            · intro y hy
              simp only [Tm.fv, List.mem_flatten, List.mem_map] at hy
              obtain ⟨l, ⟨p, hp, rfl⟩, hy⟩ := hy
              simp only [List.mem_filter, decide_eq_true_eq] at hy
              rcases List.mem_append.mp ((i3 p hp).2.fv y hy.1) with h | h
              · exact h
              · exact absurd h hy.2
            · simp only [Tm.lets]; exact i4
            · obtain ⟨z1, z2, z3, ez, hz⟩ := i6
              exact ⟨z1, z2, z3, by rw [List.getElem?_take, if_pos hjl]; exact ez, hz.1, hz.2.1, by omega⟩
            · obtain ⟨z, ez⟩ := i5
              exact ⟨z, by rw [List.getElem?_take, if_pos hrl]; exact ez⟩
        · have q9 : ((v : Int) == 9) = false := by simp; omega
          simp_arith [q0, ha1, hv3, e2, q9, q8, iW, hwL]
          refine To.mono (take_to hT4 t2 (by omega) (by omega) (by omega)) ?_
          rintro dd st4 ⟨u, rfl, hu, t4, b4⟩
          have hr4 : Rm r b st4 := Rm.but ⟨_, e2⟩ b4 (by simp; exact fun h => hjr h.symm)
          have bb4 : But [j, r] st st4 := bb.trans (b4.mono (by simp))
          have hx : words[u]'(by omega) ∈ words := List.getElem_mem _
          generalize hxe : words[u]'(by omega) = wd at hx
          simp_arith [ix_map hu, hxe, hL0]
          refine To.mono (take_to hT4 (t4.app (b := [.lst []])) (by omega) (by omega) (by omega)) ?_
          rintro dd st5 ⟨n, rfl, hn, t5, b5⟩
          simp_arith []
          refine ⟨by omega, ?_⟩
          have hq4 : st4.length = st.length := bb4.1
          have hrl4 : r < st4.length := by omega
          have hjl := ht.lt
          refine forL_to (fun rest δ st6 => ∃ (x10 x13 : Option D) (ps : List (List Tx × Tm)) (b' : Nat), δ = [some (.r j), some (.p w), some (.p (.lst (ns.map .str))), some (.r r), some (.p (.int ((e + 1 : Nat) : Int))), some (.p (.int v)), none, none, none, none, x10, some (.p (.str wd)), some (.r st4.length), x13] ∧ ps.length + rest.length = n ∧ st6[st4.length]? = some (.lst (ps.map ePart)) ∧ (∀ p ∈ ps, (p.1.Nodup ∧ p.1.length ≤ 3 ∧ ∀ y ∈ p.1, y ∈ pool) ∧ Drawn pool words hs (ns ++ p.1) e p.2) ∧ (ps.map fun p => p.2.lets).sum + b' = b ∧ Rm r b' st6 ∧ Tape j (m + 3 + ps.length * (costT e + 4)) st6 ∧ st6.length = st.length + 1 ∧ ∀ i, i ≠ j → i ≠ r → i < st.length → st6[i]? = st[i]?)
            ⟨none, none, [], b, rfl, by simp [rngLen], by rw [b5.2 _ (by simp; omega)]; simp, by simp, by simp, ?_, by exact t5.mono (by simp), by rw [b5.1]; simp; omega, ?_⟩ ?_ ?_
          · obtain ⟨z, ez⟩ := hr4
            exact ⟨z, by rw [b5.2 r (by simp; exact fun h => hjr h.symm), List.getElem?_append_left hrl4]; exact ez⟩
          · intro i h1 h2 h3
            rw [b5.2 i (by simp; exact h1), List.getElem?_append_left (by omega), bb4.2 i (by simp; exact ⟨h1, h2⟩)]
          · rintro y rr δ st6 ⟨x10, x13, ps, b', rfl, i1, i2, i3, i4, i5, i6, i7, i8⟩
            simp only [List.length_cons] at i1
            refine ⟨_, rfl, ?_⟩
            have hc1 : ps.length * (costT e + 4) ≤ 2 * (costT e + 4) := Nat.mul_le_mul_right _ (by omega)
            have hL5 : (5 : Nat) ≤ LINE := by rw [LINE_eq]; omega
            simp_arith [iP, hL5]
            refine To.mono (take_to hT4 i6 (by omega) (by omega) (by omega)) ?_
            rintro dd st7 ⟨u', rfl, hu', t7, b7⟩
            obtain ⟨mn, em, hmn⟩ : ∃ mn : Nat, idxP (.lst [.int 0, .int 0, .int 1, .int 2, .int 3]) (.int (u' : Nat)) = some (.int (mn : Nat)) ∧ mn ≤ 3 := by
              have : u' = 0 ∨ u' = 1 ∨ u' = 2 ∨ u' = 3 ∨ u' = 4 := by omega
              rcases this with rfl | rfl | rfl | rfl | rfl
              · exact ⟨0, rfl, by omega⟩
              · exact ⟨0, rfl, by omega⟩
              · exact ⟨1, rfl, by omega⟩
              · exact ⟨2, rfl, by omega⟩
              · exact ⟨3, rfl, by omega⟩
            simp_arith [em]
            refine To.mono (unlike_to (f := P.str) hT4 hT9 t7 (by omega) (n := mn) (by omega) (by omega)) ?_
            rintro dd st8 ⟨bd, left, rfl, hbl, hbp, t8, b8⟩
            have e8 : st8[st4.length]? = some (.lst (ps.map ePart)) := by rw [b8.2 _ (by simp; omega), b7.2 _ (by simp; omega)]; exact i2
            have bin : ∀ y ∈ bd, y ∈ pool := fun y hy => hbp.mem_iff.mp (List.mem_append_left _ hy)
            have bnd : bd.Nodup := (List.nodup_append.mp (hbp.nodup_iff.mpr W.pd)).1
            have hnb : ns.length + bd.length ≤ LINE := by have := LINE_eq; omega
            have r8 : Rm r b' st8 := (i5.but b7 (by simp; exact fun h => hjr h.symm)).but b8 (by simp; exact fun h => hjr h.symm)
            have ebd : ns.map P.str ++ bd.map P.str = (ns ++ bd).map P.str := by simp
            simp_arith [e8, hnb, ebd, q1]
            refine To.mono (ih e (by omega) (k := k) (by omega) t8 r8 hjr (by omega) (ns := ns ++ bd) (fun n hn => by rcases List.mem_append.mp hn with h | h; exact hns n h; exact bin n h) (by simp; omega)) ?_
            rintro dd st9 ⟨t, b9, rfl, D9, l9, t9, r9, bb9⟩
            have e9 : st9[st4.length]? = some (.lst (ps.map ePart)) := by rw [bb9.2 _ (by simp; omega)]; exact e8
            have hpsL : ps.length < LINE := by have := LINE_eq; omega
            simp_arith [hL2, e9, hpsL]
            refine ⟨_, _, ps ++ [(bd, t)], b9, rfl, by simp; omega, ?_, ?_, by simp; omega, ?_, ?_, ?_, ?_⟩
            · rw [set_some e9]; simp [ePart]
            · intro p hp
              rcases List.mem_append.mp hp with h | h
              · exact i3 p h
              · rw [List.mem_singleton.mp h]; exact ⟨⟨bnd, by show bd.length ≤ 3; omega, bin⟩, D9⟩
            · exact r9.but But.set (by simp; omega)
            · refine Tape.but (js := [st4.length]) (t9.mono ?_) But.set (by simp; omega)
              rw [List.length_append, List.length_singleton, Nat.add_mul]; omega
            · rw [bb9.1, b8.1, b7.1]; exact i7
            · intro i h1 h2 h3
              rw [List.getElem?_set_ne (by omega), bb9.2 i (by simp; exact ⟨h1, h2⟩), b8.2 i (by simp; exact h1), b7.2 i (by simp; exact h1)]
              exact i8 i h1 h2 h3
          · rintro δ st6 ⟨x10, x13, ps, b', rfl, i1, i2, i3, i4, i5, i6, i7, i8⟩
            simp only [List.length_nil, Nat.add_zero] at i1
            have hc1 : ps.length * (costT e + 4) ≤ 3 * (costT e + 4) := Nat.mul_le_mul_right _ (by omega)
            simp_arith [i2, hL3]
            have bbb : But [j, r] st (st6.take st.length) := ⟨by simp; omega, fun i hi => by
              simp only [List.mem_cons, List.not_mem_nil, or_false, not_or] at hi
              rw [List.getElem?_take]
              split
              · rename_i h
                exact i8 i hi.1 hi.2 h
              · rw [List.getElem?_eq_none (by omega)]⟩
            refine Hide.of ⟨.fm wd ps, b', by rw [Tm.enc_fm]; rfl, ⟨.fm hx (by omega) (fun p hp => ⟨(i3 p hp).1.1, by have := (i3 p hp).1.2.1; omega, (i3 p hp).1.2.2⟩) (fun p hp => (i3 p hp).2.wf), ?_, ?_⟩, ?_, ?_, ?_, bbb⟩
            · simp only [Tm.dep]
              have := foldr_le (l := ps.map fun p => p.2.dep) (n := e + 1) (by intro z hz; obtain ⟨p, hp, rfl⟩ := List.mem_map.mp hz; exact (i3 p hp).2.dep)
              omega
            · intro y hy
              simp only [Tm.fv, List.mem_flatten, List.mem_map] at hy
              obtain ⟨l, ⟨p, hp, rfl⟩, hy⟩ := hy
              simp only [List.mem_filter, decide_eq_true_eq] at hy
              rcases List.mem_append.mp ((i3 p hp).2.fv y hy.1) with h | h
              · exact h
              · exact absurd h hy.2
            · simp only [Tm.lets]; exact i4
            · obtain ⟨z1, z2, z3, ez, hz⟩ := i6
              exact ⟨z1, z2, z3, by rw [List.getElem?_take, if_pos hjl]; exact ez, hz.1, hz.2.1, by omega⟩
            · obtain ⟨z, ez⟩ := i5
              exact ⟨z, by rw [List.getElem?_take, if_pos hrl]; exact ez⟩
theorem some_term_to {T : Nat → Option Fn} (hT4 : T 4 = some fn4) (hT9 : T 9 = some fn9) (hT8 : T 8 = some fn8) (hT : T 10 = some fn10) {w : P} {pool words : List Tx} {hs : List (Tx × Nat)} (W : World w pool words hs)
    {k : Nat} {st : Store} {j m b : Nat} (hk : 6 ≤ k) (ht : Tape j m st) (hm : m < 2 ^ 57) :
    To (callK T (k + 4) 10 [.r j, .p w, .p (.int b)] st) fun dd st' => ∃ t, dd = .p t.enc ∧ Drawn pool words hs pool 6 t ∧ t.lets ≤ b ∧ Tape j (m + 1000000) st' ∧ But [j] st st' := by
  have hjl := ht.lt
  refine call_end hT rfl ?_
  unfold fn10
  have hL2 : (2 : Nat) ≤ LINE := by rw [LINE_eq]; omega
  simp_arith [hL2]
  refine To.mono (take_to hT4 ht (by omega) (by omega) (by omega)) ?_
  rintro dd st2 ⟨v, rfl, hv, t2, b2⟩
  obtain ⟨rm, er⟩ : ∃ rm : Int, idxP (.lst [.int 18, .int 36]) (.int (if ((v : Int) == 0) = true then 1 else 0)) = some (.int rm) := by
    by_cases h : ((v : Int) == 0) = true
    · rw [if_pos h]; exact ⟨36, rfl⟩
    · rw [if_neg h]; exact ⟨18, rfl⟩
  have iP : idxP w (.str sPool) = some (.lst (pool.map .str)) := by rw [W.eq, ix_d, kg_s]
  simp_arith [er, iP, hL2]
  refine To.mono (take_to hT4 t2.app (by omega) (by omega) (by omega)) ?_
  rintro dd st3 ⟨u, rfl, hu, t3, b3⟩
  have e1 : (3 : Int) + (u : Nat) = ((3 + u : Nat) : Int) := by omega
  simp_arith [e1]
  have hl2 := b2.1
  have r3 : Rm st2.length b st3 := ⟨rm, by rw [b3.2 _ (by simp; omega)]; simp⟩
  have hc : costT (3 + u) ≤ 900000 := by
    have : ∀ u, u < 4 → costT (3 + u) ≤ 900000 := by decide +kernel
    exact this u (by omega)
  have hpl := W.pl
  refine To.mono (any_to hT4 hT9 hT8 W (3 + u) (k := k) (by omega) t3 r3 (by omega) (by omega) (ns := pool) (fun _ h => h) (by omega)) ?_
  rintro dd st4 ⟨t, b', rfl, D, hl, t4, r4, b4⟩
  simp_arith []
  have hb : But [j] st (st4.take st.length) := ⟨by rw [List.length_take, b4.1, b3.1, List.length_append, b2.1]; simp, fun i hi => by
    simp only [List.mem_cons, List.not_mem_nil, or_false] at hi
    rw [List.getElem?_take]
    split
    · rename_i h
      rw [b4.2 i (by simp; exact ⟨hi, by omega⟩), b3.2 i (by simp; exact hi), List.getElem?_append_left (by omega), b2.2 i (by simp; exact hi)]
    · rw [List.getElem?_eq_none (by omega)]⟩
  refine Hide.of ⟨t, rfl, ⟨D.wf, Nat.le_trans D.dep (by omega), D.fv⟩, by omega, ?_, hb⟩
  obtain ⟨x, y, z, e, hh⟩ := t4
  exact ⟨x, y, z, by rw [List.getElem?_take, if_pos hjl]; exact e, hh.1, hh.2.1, by omega⟩
mutual
def P.wd : P → Bool
  | .tup l => P.wds l && decide (l.length ≤ LINE)
  | .lst l => P.wds l && decide (l.length ≤ LINE)
  | _ => true
def P.wds : List P → Bool
  | [] => true
  | p :: l => P.wd p && P.wds l
end
theorem wds_mem {l : List P} {x : P} (h : P.wds l = true) (m : x ∈ l) : x.wd = true := by
  induction l with
  | nil => cases m
  | cons a l ih =>
    simp only [P.wds, Bool.and_eq_true] at h
    rcases List.mem_cons.mp m with rfl | m
    · exact h.1
    · exact ih h.2 m
theorem shs_mem {l : List P} {x : P} (h : P.shs l = true) (m : x ∈ l) : x.sh = true := by
  induction l with
  | nil => cases m
  | cons a l ih =>
    simp only [P.shs, Bool.and_eq_true] at h
    rcases List.mem_cons.mp m with rfl | m
    · exact h.1
    · exact ih h.2 m
theorem deeps_mem {l : List P} {x : P} (m : x ∈ l) : x.deep ≤ P.deeps l := by
  induction l with
  | nil => cases m
  | cons a l ih =>
    simp only [P.deeps]
    rcases List.mem_cons.mp m with rfl | m
    · exact Nat.le_max_left _ _
    · exact Nat.le_trans (ih m) (Nat.le_max_right _ _)
theorem zip_self : ∀ l : List P, zipL l l = l.map fun x => .tup [x, x]
  | [] => rfl
  | a :: l => by simp [zipL, zip_self l]
theorem map_const_all {α : Type} (l : List α) : ((l.map fun _ => true).all id) = true := by simp
theorem allBl_true {α : Type} (l : List α) : allBl (l.map fun _ => P.bl true) = some (l.map fun _ => true) := by
  have := allBl_m (l := l.map fun _ => true)
  rw [List.map_map] at this
  exact this
theorem same_refl {T : Nat → Option Fn} (hT : T 6 = some fn6) : ∀ (n : Nat) {p : P}, p.deep ≤ n → p.sh = true → p.wd = true → ∀ {k : Nat} {st : Store}, n ≤ k → callK T (k + 1) 6 [.p p, .p p] st = .ok (.p (.bl true)) st := by
  intro n
  induction n with
  | zero =>
    intro p hd hs hw k st hk
    refine To.run (call_end hT rfl ?_)
    unfold fn6
    cases p with
    | tup l => simp [P.deep] at hd
    | lst l => simp [P.deep] at hd
    | dic l => simp [P.sh] at hs
    | non => simp_arith []; exact Hide.of ⟨rfl, by simp⟩
    | bl b => simp_arith []; exact Hide.of ⟨rfl, by simp⟩
    | int i => simp_arith []; exact Hide.of ⟨rfl, by simp⟩
    | str x => simp_arith []; exact Hide.of ⟨rfl, by simp⟩
  | succ n ih =>
    intro p hd hs hw k st hk
    obtain ⟨k, rfl⟩ : ∃ k', k = k' + 1 := ⟨k - 1, by omega⟩
    cases p with
    | tup l =>
      simp only [P.deep] at hd
      simp only [P.sh] at hs
      simp only [P.wd, Bool.and_eq_true, decide_eq_true_eq] at hw
      refine To.run (call_end hT rfl ?_)
      unfold fn6
      simp_arith [hw.2, zip_self]
      refine comp_pure (fun _ => .bl true) hw.2 ?_ ?_
      · intro x hx
        refine ⟨_, rfl, ?_⟩
        simp_arith [ih (p := x) (by have := deeps_mem hx; omega) (shs_mem hs hx) (wds_mem hw.1 hx) (k := k) (show n ≤ k by omega)]
      · simp_arith [allBl_true, map_const_all]
        exact Hide.of ⟨rfl, by simp⟩
    | lst l =>
      simp only [P.deep] at hd
      simp only [P.sh] at hs
      simp only [P.wd, Bool.and_eq_true, decide_eq_true_eq] at hw
      refine To.run (call_end hT rfl ?_)
      unfold fn6
      simp_arith [hw.2, zip_self]
      refine comp_pure (fun _ => .bl true) hw.2 ?_ ?_
      · intro x hx
        refine ⟨_, rfl, ?_⟩
        simp_arith [ih (p := x) (by have := deeps_mem hx; omega) (shs_mem hs hx) (wds_mem hw.1 hx) (k := k) (show n ≤ k by omega)]
      · simp_arith [allBl_true, map_const_all]
        exact Hide.of ⟨rfl, by simp⟩
    | dic l => simp [P.sh] at hs
    | non => refine To.run (call_end hT rfl ?_); unfold fn6; simp_arith []; exact Hide.of ⟨rfl, by simp⟩
    | bl b => refine To.run (call_end hT rfl ?_); unfold fn6; simp_arith []; exact Hide.of ⟨rfl, by simp⟩
    | int i => refine To.run (call_end hT rfl ?_); unfold fn6; simp_arith []; exact Hide.of ⟨rfl, by simp⟩
    | str x => refine To.run (call_end hT rfl ?_); unfold fn6; simp_arith []; exact Hide.of ⟨rfl, by simp⟩
abbrev scr (ns : List Int) : D := .c (.lst (ns.map .int))
theorem cell_to {T : Nat → Option Fn} (hT : T 2 = some fn2) {k : Nat} {st : Store} {ns : List Int} {i : Nat} (hl : ns.length ≤ 63) :
    To (callK T (k + 1) 2 [scr ns, .p (.int i)] st) fun d st' => (∃ c : Int, d = .p (.int c)) ∧ st' = st := by
  refine call_end hT rfl ?_
  unfold fn2
  have hL : ns.length ≤ LINE := by have := LINE_eq; omega
  by_cases h : (i : Int) < ns.length
  · simp_arith [hL, h, ix_map h]
    exact Hide.of ⟨⟨_, rfl⟩, by simp⟩
  · simp_arith [hL, h]
    exact Hide.of ⟨⟨_, rfl⟩, by simp⟩
theorem tape_to {T : Nat → Option Fn} (hT2 : T 2 = some fn2) (hT : T 3 = some fn3) {k : Nat} {st : Store} {ns : List Int} {i : Nat} (hl : ns.length ≤ 63) :
    To (callK T (k + 2) 3 [scr ns, .p (.int i)] st) fun d st' => d = .r st.length ∧ ∃ o, st' = st ++ [o] ∧ Tape st.length 0 st' := by
  refine call_end hT rfl ?_
  unfold fn3
  simp_arith []
  refine To.mono (cell_to hT2 hl) ?_
  rintro d st1 ⟨⟨c, rfl⟩, rfl⟩
  have w1 : within64 48271 = true := by decide +kernel
  have w7 : within64 7121 = true := by decide +kernel
  have p1 : (0 : Int) < 2147483647 := by decide +kernel
  have p2 : (0 : Int) < 2147483629 := by decide +kernel
  have hL3 : (3 : Nat) ≤ LINE := by rw [LINE_eq]; omega
  have ep : binP .pow (.int 10) (.int 18) = some (.int 1000000000000000000) := by
    show (if 0 ≤ (18 : Int) ∧ (18 : Int) ≤ 1000000 ∧ (10 : Int).natAbs < 2 ^ 64 then some (P.int ((10 : Int) ^ (18 : Int).toNat)) else none) = _
    rw [if_pos (by decide +kernel)]; rfl
  have wb : ∀ (p : Prop) [Decidable p], within64 (if p then 1 else 0) = true := fun p _ => by split <;> decide +kernel
  simp_arith [w1, w7, p1, p2, hL3, ep, wb]
  have ex : ∀ (o : MO), exportD st1.length (st1 ++ [o]) (.r st1.length) = .ok (.r st1.length) (st1 ++ [o]) := by
    intro o
    unfold exportD
    simp
  simp_arith [ex]
  refine Hide.of ⟨rfl, _, rfl, _, _, _, (by rw [List.getElem?_append_right (Nat.le_refl _), Nat.sub_self]; rfl), ?_, by omega, by omega⟩
  apply Int.mul_nonneg
  · split <;> omega
  · split <;> omega
theorem Wf.len {V : Voc} {t : Tm} (h : Wf V t) : t.inn.length ≤ 4 := by
  cases h with
  | nm _ => simp [Tm.inn]
  | fm _ h _ _ => simpa [Tm.inn] using h
  | hl _ h _ => simpa [Tm.inn] using h
  | lt _ _ _ => simp [Tm.inn]
theorem Wf.inn {V : Voc} {t : Tm} (h : Wf V t) {p : List Tx × Tm} (m : p ∈ t.inn) : Wf V p.2 ∧ p.1.length ≤ 4 ∧ p.1.Nodup ∧ ∀ n ∈ p.1, V.nm n := by
  cases h with
  | nm _ => cases m
  | fm _ _ h1 h2 => exact ⟨h2 p m, (h1 p m).2.1, (h1 p m).1, (h1 p m).2.2⟩
  | hl _ _ h =>
    obtain ⟨t, ht, rfl⟩ := List.mem_map.mp m
    exact ⟨h t ht, by simp, by simp, by simp⟩
  | lt hx hb hw =>
    simp only [Tm.inn, List.mem_cons, List.not_mem_nil, or_false] at m
    rcases m with rfl | rfl
    · exact ⟨hb, by simp, by simp, by simpa using hx⟩
    · exact ⟨hw, by simp, by simp, by simp⟩
theorem inner_ev {T : Nat → Option Fn} (hT : T 11 = some fn11) {V : Voc} {t : Tm} (hw : Wf V t) {k : Nat} {st : Store} : callK T (k + 1) 11 [.p t.enc] st = .ok (.p (.lst (t.inn.map ePart))) st := by
  refine To.run (call_end hT rfl ?_)
  unfold fn11
  have hL0 : (0 : Nat) ≤ LINE := by rw [LINE_eq]; omega
  have hL1 : (1 : Nat) ≤ LINE := by rw [LINE_eq]; omega
  have hL2 : (2 : Nat) ≤ LINE := by rw [LINE_eq]; omega
  cases hw with
  | nm hx =>
    rw [Tm.enc_nm]
    simp_arith [hL0]
    exact Hide.of ⟨by simp [Tm.inn], by simp⟩
  | @fm f ps h1 h2 h3 h4 =>
    rw [Tm.enc_fm]
    simp_arith []
    exact Hide.of ⟨by simp [Tm.inn, ePart], by simp⟩
  | @hl g ts h1 h2 h3 =>
    rw [Tm.enc_hl]
    simp_arith []
    refine comp_pure (fun t => .tup [.tup [], t.enc]) (by have := LINE_eq; omega) ?_ ?_
    · intro t ht
      refine ⟨_, rfl, ?_⟩
      simp_arith [hL0, hL2]
    · simp_arith []
      exact Hide.of ⟨by simp [Tm.inn, ePart], by simp⟩
  | @lt x b w h1 h2 h3 =>
    rw [Tm.enc_lt]
    simp_arith [hL0, hL1, hL2]
    exact Hide.of ⟨by simp [Tm.inn, ePart], by simp⟩
mutual
def P.pl : P → Bool
  | .bl _ => false
  | .dic _ => false
  | .tup l => P.pls l
  | .lst l => P.pls l
  | _ => true
def P.pls : List P → Bool
  | [] => true
  | p :: l => P.pl p && P.pls l
end
mutual
theorem eqv_refl : ∀ {a : P}, a.pl = true → a.eqv a = true
  | .non, _ => rfl
  | .bl _, h => by simp [P.pl] at h
  | .int i, _ => by simp [P.eqv]
  | .str x, _ => by simp [P.eqv]
  | .tup l, h => by simp only [P.pl] at h; simp only [P.eqv]; exact eqvs_refl h
  | .lst l, h => by simp only [P.pl] at h; simp only [P.eqv]; exact eqvs_refl h
  | .dic _, h => by simp [P.pl] at h
theorem eqvs_refl : ∀ {a : List P}, P.pls a = true → P.eqvs a a = true
  | [], _ => rfl
  | a :: l, h => by
    simp only [P.pls, Bool.and_eq_true] at h
    simp only [P.eqvs, eqv_refl h.1, eqvs_refl h.2, Bool.and_self]
end
mutual
theorem eqv_eq : ∀ {a b : P}, a.pl = true → b.pl = true → a.eqv b = true → a = b
  | .non, b, _, _, h => by cases b <;> simp [P.eqv] at h; rfl
  | .bl _, _, h, _, _ => by simp [P.pl] at h
  | .int i, b, _, hb, h => by
    cases b with
    | int j => simp [P.eqv] at h; rw [h]
    | bl _ => simp [P.pl] at hb
    | _ => simp [P.eqv] at h
  | .str x, b, _, _, h => by
    cases b with
    | str y => simp [P.eqv] at h; rw [h]
    | _ => simp [P.eqv] at h
  | .tup l, b, ha, hb, h => by
    cases b with
    | tup m => simp only [P.pl] at ha hb; simp only [P.eqv] at h; rw [eqvs_eq ha hb h]
    | _ => simp [P.eqv] at h
  | .lst l, b, ha, hb, h => by
    cases b with
    | lst m => simp only [P.pl] at ha hb; simp only [P.eqv] at h; rw [eqvs_eq ha hb h]
    | _ => simp [P.eqv] at h
  | .dic _, _, h, _, _ => by simp [P.pl] at h
theorem eqvs_eq : ∀ {a b : List P}, P.pls a = true → P.pls b = true → P.eqvs a b = true → a = b
  | [], b, _, _, h => by cases b <;> simp [P.eqvs] at h; rfl
  | a :: l, b, ha, hb, h => by
    cases b with
    | nil => simp [P.eqvs] at h
    | cons b m =>
      simp only [P.pls, Bool.and_eq_true] at ha hb
      simp only [P.eqvs, Bool.and_eq_true] at h
      rw [eqv_eq ha.1 hb.1 h.1, eqvs_eq ha.2 hb.2 h.2]
end
theorem eqv_iff {a b : P} (ha : a.pl = true) (hb : b.pl = true) : a.eqv b = true ↔ a = b := ⟨eqv_eq ha hb, fun e => by rw [e]; exact eqv_refl hb⟩
theorem pls_of {α : Type} {f : α → P} : ∀ {l : List α}, (∀ a ∈ l, (f a).pl = true) → P.pls (l.map f) = true
  | [], _ => rfl
  | a :: l, h => by simp only [List.map_cons, P.pls, h a List.mem_cons_self, pls_of (l := l) fun b m => h b (List.mem_cons_of_mem _ m), Bool.and_self]
theorem enc_pl : ∀ t : Tm, t.enc.pl = true := by
  intro t
  induction t using Tm.ind with
  | h t ih =>
  cases t with
  | nm x => rw [Tm.enc_nm]; rfl
  | fm f ps =>
    rw [Tm.enc_fm]
    simp only [P.pl, P.pls, Bool.true_and, Bool.and_true]
    refine pls_of fun p hp => ?_
    simp only [P.pl, P.pls, Bool.and_true, Bool.and_eq_true]
    exact ⟨pls_of fun _ _ => rfl, ih p hp⟩
  | hl g ts =>
    rw [Tm.enc_hl]
    simp only [P.pl, P.pls, Bool.true_and, Bool.and_true]
    exact pls_of fun t ht => ih ([], t) (List.mem_map_of_mem ht)
  | lt x b w =>
    rw [Tm.enc_lt]
    simp only [P.pl, P.pls, Bool.true_and, Bool.and_true, Bool.and_eq_true]
    exact ⟨ih ([x], b) (by simp [Tm.inn]), ih ([], w) (by simp [Tm.inn])⟩
theorem map_inj_on {α β : Type} {f : α → β} : ∀ {l m : List α}, (∀ a ∈ l, ∀ b ∈ m, f a = f b → a = b) → l.map f = m.map f → l = m
  | [], [], _, _ => rfl
  | [], _ :: _, _, h => by simp at h
  | _ :: _, [], _, h => by simp at h
  | a :: l, b :: m, h, e => by
    simp only [List.map_cons, List.cons.injEq] at e
    rw [h a List.mem_cons_self b List.mem_cons_self e.1, map_inj_on (fun x hx y hy => h x (List.mem_cons_of_mem _ hx) y (List.mem_cons_of_mem _ hy)) e.2]
theorem strs_inj {l m : List Tx} (h : l.map P.str = m.map P.str) : l = m := map_inj_on (fun a _ b _ e => by cases e; rfl) h
theorem enc_inj : ∀ t u : Tm, t.enc = u.enc → t = u := by
  intro t
  induction t using Tm.ind with
  | h t ih =>
  intro u e
  cases t with
  | nm x => cases u <;> simp [Tm.enc] at e; rw [e]
  | fm f ps =>
    cases u with
    | fm g qs =>
      rw [Tm.enc_fm, Tm.enc_fm] at e
      simp only [P.tup.injEq, List.cons.injEq, P.str.injEq, and_true, true_and] at e
      obtain ⟨rfl, e⟩ := e
      have := map_inj_on (l := ps) (m := qs) (fun a ha b _ e => by
        simp only [P.tup.injEq, List.cons.injEq, and_true] at e
        exact Prod.ext (strs_inj e.1) (ih a ha b.2 e.2)) e
      rw [this]
    | _ => simp [Tm.enc] at e
  | hl g ts =>
    cases u with
    | hl g' us =>
      rw [Tm.enc_hl, Tm.enc_hl] at e
      simp only [P.tup.injEq, List.cons.injEq, P.str.injEq, and_true, true_and] at e
      obtain ⟨rfl, e⟩ := e
      have := map_inj_on (l := ts) (m := us) (fun a ha b _ e => ih ([], a) (List.mem_map_of_mem ha) b e) e
      rw [this]
    | _ => simp [Tm.enc] at e
  | lt x b w =>
    cases u with
    | lt y b' w' =>
      rw [Tm.enc_lt, Tm.enc_lt] at e
      simp only [P.tup.injEq, List.cons.injEq, P.str.injEq, and_true, true_and] at e
      have h1 : b = b' := ih ([x], b) (by simp [Tm.inn]) _ e.2.1
      have h2 : w = w' := ih ([], w) (by simp [Tm.inn]) _ e.2.2
      rw [e.1, h1, h2]
    | _ => simp [Tm.enc] at e
theorem Tm.deq (t u : Tm) : t.enc.eqv u.enc = true ↔ t = u := by
  rw [eqv_iff (enc_pl t) (enc_pl u)]
  exact ⟨enc_inj t u, fun e => by rw [e]⟩
theorem enc_sh {V : Voc} (hn : ∀ x, V.nm x → Shy x) (hw : ∀ x, V.wd x → Shy x) (hd : ∀ x n, V.hd x n → Shy x) : ∀ t : Tm, Wf V t → t.enc.sh = true := by
  intro t
  induction t using Tm.ind with
  | h t ih =>
  intro h
  cases h with
  | nm hx => rw [Tm.enc_nm]; simp only [P.sh, P.shs, Bool.and_true, Bool.and_eq_true]; exact ⟨by decide, shy_sh (hn _ hx)⟩
  | @fm f ps hf _ hps hws =>
    rw [Tm.enc_fm]
    simp only [P.sh, P.shs, Bool.and_true, Bool.and_eq_true]
    refine ⟨by decide, shy_sh (hw _ hf), shs_of fun p hp => ?_⟩
    simp only [P.sh, P.shs, Bool.and_true, Bool.and_eq_true]
    exact ⟨shs_of fun n hn' => shy_sh (hn n ((hps p hp).2.2 n hn')), ih p hp (hws p hp)⟩
  | @hl g ts hg _ hts =>
    rw [Tm.enc_hl]
    simp only [P.sh, P.shs, Bool.and_true, Bool.and_eq_true]
    exact ⟨by decide, shy_sh (hd _ _ hg), shs_of fun t ht => ih ([], t) (List.mem_map_of_mem ht) (hts t ht)⟩
  | @lt x b w hx hb hw' =>
    rw [Tm.enc_lt]
    simp only [P.sh, P.shs, Bool.and_true, Bool.and_eq_true]
    exact ⟨by decide, shy_sh (hn _ hx), ih ([x], b) (by simp [Tm.inn]) hb, ih ([], w) (by simp [Tm.inn]) hw'⟩
theorem enc_deep : ∀ t : Tm, t.enc.deep ≤ 3 * t.dep + 2 := by
  intro t
  induction t using Tm.ind with
  | h t ih =>
  cases t with
  | nm x => rw [Tm.enc_nm]; simp [P.deep, P.deeps]
  | fm f ps =>
    rw [Tm.enc_fm]
    have h1 : P.deeps (ps.map fun p => .tup [.tup (p.1.map .str), p.2.enc]) ≤ 3 * (Tm.fm f ps).dep + 0 := deeps_of fun p hp => by
      have h2 := ih p hp
      have h3 := Tm.dep_inn (t := .fm f ps) hp
      have h4 : P.deeps (p.1.map P.str) ≤ 0 := deeps_of fun _ _ => Nat.le_refl _
      simp only [P.deep, P.deeps]
      omega
    simp only [P.deep, P.deeps]
    omega
  | hl g ts =>
    rw [Tm.enc_hl]
    have h1 : P.deeps (ts.map Tm.enc) ≤ 3 * (Tm.hl g ts).dep := deeps_of fun t ht => by
      have h2 := ih ([], t) (List.mem_map_of_mem ht)
      have h3 := Tm.dep_inn (t := .hl g ts) (p := ([], t)) (List.mem_map_of_mem ht)
      simp only at h2 h3
      omega
    simp only [P.deep, P.deeps]
    omega
  | lt x b w =>
    rw [Tm.enc_lt]
    have h1 := ih ([x], b) (by simp [Tm.inn])
    have h2 := ih ([], w) (by simp [Tm.inn])
    have h3 := Tm.dep_inn (t := .lt x b w) (p := ([x], b)) (by simp [Tm.inn])
    have h4 := Tm.dep_inn (t := .lt x b w) (p := ([], w)) (by simp [Tm.inn])
    simp only at h1 h2 h3 h4
    simp only [P.deep, P.deeps]
    omega
theorem wds_of {α : Type} {f : α → P} : ∀ {l : List α}, (∀ a ∈ l, (f a).wd = true) → P.wds (l.map f) = true
  | [], _ => rfl
  | a :: l, h => by simp only [List.map_cons, P.wds, h a List.mem_cons_self, wds_of (l := l) fun b m => h b (List.mem_cons_of_mem _ m), Bool.and_self]
theorem enc_wd {V : Voc} : ∀ t : Tm, Wf V t → t.enc.wd = true := by
  have hL := LINE_eq
  intro t
  induction t using Tm.ind with
  | h t ih =>
  intro h
  cases h with
  | nm hx => rw [Tm.enc_nm]; simp [P.wd, P.wds]; omega
  | @fm f ps hf h4 hps hws =>
    rw [Tm.enc_fm]
    simp only [P.wd, P.wds, Bool.true_and, Bool.and_true, Bool.and_eq_true, decide_eq_true_eq, List.length_map, List.length_cons, List.length_nil]
    refine ⟨⟨wds_of fun p hp => ?_, by omega⟩, by omega⟩
    have := (hps p hp).2.1
    simp only [P.wd, P.wds, Bool.true_and, Bool.and_true, Bool.and_eq_true, decide_eq_true_eq, List.length_map, List.length_cons, List.length_nil]
    exact ⟨⟨⟨wds_of fun _ _ => rfl, by omega⟩, ih p hp (hws p hp)⟩, by omega⟩
  | @hl g ts hg h4 hts =>
    rw [Tm.enc_hl]
    simp only [P.wd, P.wds, Bool.true_and, Bool.and_true, Bool.and_eq_true, decide_eq_true_eq, List.length_map, List.length_cons, List.length_nil]
    exact ⟨⟨wds_of fun t ht => ih ([], t) (List.mem_map_of_mem ht) (hts t ht), by omega⟩, by omega⟩
  | @lt x b w hx hb hw' =>
    rw [Tm.enc_lt]
    simp only [P.wd, P.wds, Bool.true_and, Bool.and_true, Bool.and_eq_true, decide_eq_true_eq, List.length_map, List.length_cons, List.length_nil]
    exact ⟨⟨ih ([x], b) (by simp [Tm.inn]) hb, ih ([], w) (by simp [Tm.inn]) hw'⟩, by omega⟩
abbrev sBound : Tx := [98, 111, 117, 110, 100]
abbrev sFree : Tx := [102, 114, 101, 101]
inductive Sh where
  | bd (i : Nat)
  | fr (x : Tx)
  | fm (f : Tx) (ps : List (Nat × Sh))
  | hl (h : Tx) (ts : List Sh)
  | lt (b w : Sh)
theorem Sh.szp {p : Nat × Sh} {ps : List (Nat × Sh)} (m : p ∈ ps) : sizeOf p.2 < sizeOf ps := by
  have h1 := List.sizeOf_lt_of_mem m
  have h2 : sizeOf p = 1 + sizeOf p.1 + sizeOf p.2 := by cases p; rfl
  omega
def Sh.enc : Sh → P
  | .bd i => .tup [.str sBound, .int i]
  | .fr x => .tup [.str sFree, .str x]
  | .fm f ps => .tup [.str sForm, .str f, .tup (ps.map fun p => .tup [.int p.1, p.2.enc])]
  | .hl h ts => .tup [.str sHole, .str h, .tup (ts.map fun t => t.enc)]
  | .lt b w => .tup [.str sLet, b.enc, w.enc]
termination_by t => t
decreasing_by
  all_goals simp only [Sh.fm.sizeOf_spec, Sh.hl.sizeOf_spec, Sh.lt.sizeOf_spec]
  all_goals first | (have := Sh.szp ‹_ ∈ _›; omega) | (have := List.sizeOf_lt_of_mem ‹_ ∈ _›; omega) | omega
def Sh.inn : Sh → List Sh
  | .fm _ ps => ps.map (·.2)
  | .hl _ ts => ts
  | .lt b w => [b, w]
  | _ => []
theorem Sh.ind {Q : Sh → Prop} (h : ∀ t, (∀ p ∈ t.inn, Q p) → Q t) : ∀ t, Q t
  | .bd x => h _ (by simp [Sh.inn])
  | .fr x => h _ (by simp [Sh.inn])
  | .fm f ps => h _ (fun p m => by
      obtain ⟨q, m', rfl⟩ := List.mem_map.mp m
      have := Sh.szp (ps := ps) m'
      exact Sh.ind h q.2)
  | .hl g ts => h _ (fun p m => by
      have := List.sizeOf_lt_of_mem (show p ∈ ts from m)
      exact Sh.ind h p)
  | .lt b w => h _ (fun p m => by
      simp only [Sh.inn, List.mem_cons, List.not_mem_nil, or_false] at m
      rcases m with e | e
      · rw [e]; exact Sh.ind h b
      · rw [e]; exact Sh.ind h w)
termination_by t => t
decreasing_by
  all_goals simp only [Sh.fm.sizeOf_spec, Sh.hl.sizeOf_spec, Sh.lt.sizeOf_spec]
  all_goals first | (have := Sh.szp ‹_ ∈ _›; omega) | (have := List.sizeOf_lt_of_mem ‹_ ∈ _›; omega) | omega
theorem Sh.enc_bd {i : Nat} : (Sh.bd i).enc = .tup [.str sBound, .int i] := by simp [Sh.enc]
theorem Sh.enc_fr {x : Tx} : (Sh.fr x).enc = .tup [.str sFree, .str x] := by simp [Sh.enc]
theorem Sh.enc_fm {f : Tx} {ps : List (Nat × Sh)} : (Sh.fm f ps).enc = .tup [.str sForm, .str f, .tup (ps.map fun p => .tup [.int p.1, p.2.enc])] := by simp [Sh.enc]
theorem Sh.enc_hl {f : Tx} {ts : List Sh} : (Sh.hl f ts).enc = .tup [.str sHole, .str f, .tup (ts.map Sh.enc)] := by simp [Sh.enc]
theorem Sh.enc_lt {b w : Sh} : (Sh.lt b w).enc = .tup [.str sLet, b.enc, w.enc] := by simp [Sh.enc]
theorem shp_inj : ∀ t u : Sh, t.enc = u.enc → t = u := by
  intro t
  induction t using Sh.ind with
  | h t ih =>
  intro u e
  cases t with
  | bd i => cases u <;> simp [Sh.enc] at e; rw [Int.ofNat.inj e]
  | fr x => cases u <;> simp [Sh.enc] at e; rw [e]
  | fm f ps =>
    cases u with
    | fm g qs =>
      rw [Sh.enc_fm, Sh.enc_fm] at e
      simp only [P.tup.injEq, List.cons.injEq, P.str.injEq, and_true, true_and] at e
      obtain ⟨rfl, e⟩ := e
      have := map_inj_on (l := ps) (m := qs) (fun a ha b _ e => by
        simp only [P.tup.injEq, List.cons.injEq, and_true, P.int.injEq] at e
        exact Prod.ext (Int.ofNat.inj e.1) (ih a.2 (List.mem_map_of_mem ha) b.2 e.2)) e
      rw [this]
    | _ => simp [Sh.enc] at e
  | hl g ts =>
    cases u with
    | hl g' us =>
      rw [Sh.enc_hl, Sh.enc_hl] at e
      simp only [P.tup.injEq, List.cons.injEq, P.str.injEq, and_true, true_and] at e
      obtain ⟨rfl, e⟩ := e
      have := map_inj_on (l := ts) (m := us) (fun a ha b _ e => ih a ha b e) e
      rw [this]
    | _ => simp [Sh.enc] at e
  | lt b w =>
    cases u with
    | lt b' w' =>
      rw [Sh.enc_lt, Sh.enc_lt] at e
      simp only [P.tup.injEq, List.cons.injEq, P.str.injEq, and_true, true_and] at e
      rw [ih b (by simp [Sh.inn]) _ e.1, ih w (by simp [Sh.inn]) _ e.2]
    | _ => simp [Sh.enc] at e
theorem shp_pl : ∀ t : Sh, t.enc.pl = true := by
  intro t
  induction t using Sh.ind with
  | h t ih =>
  cases t with
  | bd x => rw [Sh.enc_bd]; rfl
  | fr x => rw [Sh.enc_fr]; rfl
  | fm f ps =>
    rw [Sh.enc_fm]
    simp only [P.pl, P.pls, Bool.true_and, Bool.and_true]
    refine pls_of fun p hp => ?_
    simp only [P.pl, P.pls, Bool.and_true, Bool.true_and]
    exact ih p.2 (List.mem_map_of_mem hp)
  | hl g ts =>
    rw [Sh.enc_hl]
    simp only [P.pl, P.pls, Bool.true_and, Bool.and_true]
    exact pls_of fun t ht => ih t ht
  | lt b w =>
    rw [Sh.enc_lt]
    simp only [P.pl, P.pls, Bool.true_and, Bool.and_true, Bool.and_eq_true]
    exact ⟨ih b (by simp [Sh.inn]), ih w (by simp [Sh.inn])⟩
def ext1 (e : Tx → Option Nat) (n : Tx) (d : Nat) : Tx → Option Nat := fun x => if n = x then some d else e x
def ext (e : Tx → Option Nat) (d : Nat) : List Tx → Tx → Option Nat
  | [] => e
  | n :: ns => ext (ext1 e n d) (d + 1) ns
def Tm.shp : Tm → (Tx → Option Nat) → Nat → Sh
  | .nm x, e, _ => match e x with
    | some i => .bd i
    | none => .fr x
  | .fm f ps, e, d => .fm f (ps.map fun p => (p.1.length, p.2.shp (ext e d p.1) (d + p.1.length)))
  | .hl h ts, e, d => .hl h (ts.map fun t => t.shp e d)
  | .lt x b w, e, d => .lt (b.shp (ext e d [x]) (d + 1)) (w.shp e d)
termination_by t => t
decreasing_by
  all_goals simp only [Tm.fm.sizeOf_spec, Tm.hl.sizeOf_spec, Tm.lt.sizeOf_spec]
  all_goals first | (have := Tm.szp ‹_ ∈ _›; omega) | (have := List.sizeOf_lt_of_mem ‹_ ∈ _›; omega) | omega
theorem shp_nm {x : Tx} {e : Tx → Option Nat} {d : Nat} : (Tm.nm x).shp e d = match e x with
    | some i => .bd i
    | none => .fr x := by rw [Tm.shp]
theorem shp_fm {f : Tx} {ps : List (List Tx × Tm)} {e : Tx → Option Nat} {d : Nat} : (Tm.fm f ps).shp e d = .fm f (ps.map fun p => (p.1.length, p.2.shp (ext e d p.1) (d + p.1.length))) := by rw [Tm.shp]
theorem shp_hl {h : Tx} {ts : List Tm} {e : Tx → Option Nat} {d : Nat} : (Tm.hl h ts).shp e d = .hl h (ts.map fun t => t.shp e d) := by rw [Tm.shp]
theorem shp_lt {x : Tx} {b w : Tm} {e : Tx → Option Nat} {d : Nat} : (Tm.lt x b w).shp e d = .lt (b.shp (ext e d [x]) (d + 1)) (w.shp e d) := by rw [Tm.shp]
theorem shp_sh {V : Voc} (hn : ∀ x, V.nm x → Shy x) (hw : ∀ x, V.wd x → Shy x) (hd : ∀ x n, V.hd x n → Shy x) : ∀ t : Tm, Wf V t → ∀ e d, (t.shp e d).enc.sh = true := by
  intro t
  induction t using Tm.ind with
  | h t ih =>
  intro h e d
  cases h with
  | @nm x hx =>
    rw [shp_nm]
    cases e x with
    | some i => rw [Sh.enc_bd]; simp only [P.sh, P.shs, Bool.and_true]; decide
    | none => rw [Sh.enc_fr]; simp only [P.sh, P.shs, Bool.and_true, Bool.and_eq_true]; exact ⟨by decide, shy_sh (hn _ hx)⟩
  | @fm f ps hf _ hps hws =>
    rw [shp_fm, Sh.enc_fm]
    simp only [P.sh, P.shs, Bool.and_true, Bool.and_eq_true, List.map_map]
    refine ⟨by decide, shy_sh (hw _ hf), shs_of fun p hp => ?_⟩
    simp only [Function.comp, P.sh, P.shs, Bool.and_true, Bool.true_and]
    exact ih p hp (hws p hp) _ _
  | @hl g ts hg _ hts =>
    rw [shp_hl, Sh.enc_hl]
    simp only [P.sh, P.shs, Bool.and_true, Bool.and_eq_true, List.map_map]
    exact ⟨by decide, shy_sh (hd _ _ hg), shs_of fun t ht => ih ([], t) (List.mem_map_of_mem ht) (hts t ht) _ _⟩
  | @lt x b w hx hb hw' =>
    rw [shp_lt, Sh.enc_lt]
    simp only [P.sh, P.shs, Bool.and_true, Bool.and_eq_true]
    exact ⟨by decide, ih ([x], b) (by simp [Tm.inn]) hb _ _, ih ([], w) (by simp [Tm.inn]) hw' _ _⟩
theorem shp_deep : ∀ (t : Tm) e d, (t.shp e d).enc.deep ≤ 3 * t.dep + 1 := by
  intro t
  induction t using Tm.ind with
  | h t ih =>
  intro e d
  cases t with
  | nm x =>
    rw [shp_nm]
    cases e x with
    | some i => rw [Sh.enc_bd]; simp [P.deep, P.deeps]
    | none => rw [Sh.enc_fr]; simp [P.deep, P.deeps]
  | fm f ps =>
    rw [shp_fm, Sh.enc_fm, List.map_map]
    have h1 : P.deeps (ps.map ((fun p : Nat × Sh => .tup [.int p.1, p.2.enc]) ∘ fun p : List Tx × Tm => (p.1.length, p.2.shp (ext e d p.1) (d + p.1.length)))) ≤ 3 * (Tm.fm f ps).dep - 1 := deeps_of fun p hp => by
      have h2 := ih p hp (ext e d p.1) (d + p.1.length)
      have h3 := Tm.dep_inn (t := .fm f ps) hp
      simp only [Function.comp, P.deep, P.deeps]
      omega
    have h0 : 1 ≤ (Tm.fm f ps).dep := by simp only [Tm.dep]; omega
    simp only [P.deep, P.deeps] at h1 ⊢
    omega
  | hl g ts =>
    rw [shp_hl, Sh.enc_hl, List.map_map]
    have h1 : P.deeps (ts.map (Sh.enc ∘ fun t : Tm => t.shp e d)) ≤ 3 * (Tm.hl g ts).dep - 2 := deeps_of fun t ht => by
      have h2 := ih ([], t) (List.mem_map_of_mem ht) e d
      have h3 := Tm.dep_inn (t := .hl g ts) (p := ([], t)) (List.mem_map_of_mem ht)
      simp only [Function.comp] at h2 h3 ⊢
      omega
    have h0 : 1 ≤ (Tm.hl g ts).dep := by simp only [Tm.dep]; omega
    simp only [P.deep, P.deeps] at h1 ⊢
    omega
  | lt x b w =>
    rw [shp_lt, Sh.enc_lt]
    have h1 := ih ([x], b) (by simp [Tm.inn]) (ext e d [x]) (d + 1)
    have h2 := ih ([], w) (by simp [Tm.inn]) e d
    have h3 := Tm.dep_inn (t := .lt x b w) (p := ([x], b)) (by simp [Tm.inn])
    have h4 := Tm.dep_inn (t := .lt x b w) (p := ([], w)) (by simp [Tm.inn])
    simp only at h1 h2 h3 h4
    simp only [P.deep, P.deeps]
    omega
structure Lv (l : List (Option Ky × P)) (e : Tx → Option Nat) (d : Nat) : Prop where
  nm : ∀ x, nkget l (some (.str x)) = (e x).map fun i : Nat => P.int (i : Int)
  dp : (nkget l none).getD (.int 0) = .int (d : Int)
theorem Lv.nil : Lv [] (fun _ => none) 0 := ⟨fun _ => rfl, rfl⟩
theorem nkget_app {l m : List (Option Ky × P)} {k : Option Ky} : nkget (l ++ m) k = (nkget l k).or (nkget m k) := by
  induction l with
  | nil => rfl
  | cons a l ih =>
    obtain ⟨j, p⟩ := a
    by_cases h : j = k
    · simp [nkget, h]
    · simp [nkget, h, ih]
theorem nkget_rep {l : List (Option Ky × P)} {k j : Option Ky} {p : P} : nkget (l.map fun e => if e.1 = k then (e.1, p) else e) j = if k = j then (nkget l k).map fun _ => p else nkget l j := by
  induction l with
  | nil => split <;> rfl
  | cons a l ih =>
    obtain ⟨i, q⟩ := a
    by_cases h : i = k
    · subst h
      by_cases hj : i = j
      · subst hj; simp [nkget]
      · simp [nkget, hj, ih]
    · by_cases hj : k = j
      · subst hj; simp [nkget, h, ih]
      · by_cases h2 : i = j
        · subst h2; simp [nkget, h, hj]
        · simp [nkget, h, hj, h2, ih]
theorem nkget_put {l : List (Option Ky × P)} {k j : Option Ky} {p : P} : nkget (nkput l k p) j = if k = j then some p else nkget l j := by
  unfold nkput
  split
  · rename_i h
    rw [nkget_rep]
    split
    · obtain ⟨q, hq⟩ := Option.isSome_iff_exists.mp h
      rw [hq]; rfl
    · rfl
  · rename_i h
    rw [nkget_app]
    by_cases hj : k = j
    · subst hj
      have : nkget l k = none := by simpa using h
      simp [this, nkget]
    · simp [nkget, hj]
theorem nkput_len {l : List (Option Ky × P)} {k : Option Ky} {p : P} : (nkput l k p).length ≤ l.length + 1 := by
  unfold nkput
  split
  · rw [List.length_map]; omega
  · simp
abbrev lvE (d : Nat) (p : Tx × Nat) : Option Ky × P := (some (.str p.1), .int ((d : Int) + (p.2 : Nat)))
theorem merge_lv {d : Nat} : ∀ (ns : List Tx) (i : Nat) {l : List (Option Ky × P)} {e : Tx → Option Nat}, (∀ x, nkget l (some (.str x)) = (e x).map fun i : Nat => P.int (i : Int)) →
    (∀ x, nkget (nkmerge l ((ns.zipIdx i).map (lvE d))) (some (.str x)) = (ext e (d + i) ns x).map fun i : Nat => P.int (i : Int)) ∧ nkget (nkmerge l ((ns.zipIdx i).map (lvE d))) none = nkget l none ∧ (nkmerge l ((ns.zipIdx i).map (lvE d))).length ≤ l.length + ns.length
  | [], i, l, e, h => ⟨h, rfl, Nat.le_refl _⟩
  | n :: ns, i, l, e, h => by
    have h2 : ∀ x, nkget (nkput l (some (.str n)) (.int ((d : Int) + (i : Nat)))) (some (.str x)) = (ext1 e n (d + i) x).map fun i : Nat => P.int (i : Int) := fun x => by
      rw [nkget_put]
      unfold ext1
      by_cases hx : n = x
      · subst hx; simp
      · rw [if_neg (by simpa using hx), if_neg hx, h]
    obtain ⟨a, b, c⟩ := merge_lv (d := d) ns (i + 1) h2
    have hl := nkput_len (l := l) (k := some (.str n)) (p := .int ((d : Int) + (i : Nat)))
    refine ⟨fun x => ?_, ?_, ?_⟩
    · rw [List.zipIdx_cons]; exact a x
    · rw [List.zipIdx_cons]
      refine Eq.trans b ?_
      rw [nkget_put, if_neg (by simp)]
    · rw [List.zipIdx_cons]
      refine Nat.le_trans c ?_
      rw [List.length_cons]; omega
theorem enum_zip : ∀ (ns : List Tx) (i : Nat), enumL i (ns.map P.str) = (ns.zipIdx i).map fun p => P.tup [.int (p.2 : Nat), .str p.1]
  | [], _ => rfl
  | n :: ns, i => by simp [enumL, List.zipIdx_cons, enum_zip ns (i + 1)]
theorem toN_lv (d : Nat) : ∀ (l : List (Tx × Nat)), toNEnts (l.map fun p => P.tup [.str p.1, .int ((d : Int) + (p.2 : Nat))]) = some (l.map (lvE d))
  | [] => rfl
  | p :: l => by
    simp only [List.map_cons, toNEnts, nkOf, toN_lv d l]
theorem dnOf_app {st st2 : Store} {dd : D} {l : List (Option Ky × P)} (h : dnOf st dd = some l) : dnOf (st ++ st2) dd = some l := by
  cases dd with
  | p x => cases x <;> first | exact h | cases h
  | c x => cases h
  | r k =>
    have hk : k < st.length := by
      by_cases z : k < st.length
      · exact z
      · simp only [dnOf, List.getElem?_eq_none (Nat.le_of_not_lt z)] at h; cases h
    simp only [dnOf] at h ⊢
    rw [List.getElem?_append_left hk]
    exact h
theorem get_new {st : Store} {o : MO} : (st ++ [o])[st.length]? = some o := by rw [List.getElem?_append_right (Nat.le_refl _), Nat.sub_self]; rfl
theorem set_new {st : Store} {o o' : MO} : (st ++ [o]).set st.length o' = st ++ [o'] := by rw [List.set_append_right _ _ (Nat.le_refl _), Nat.sub_self]; rfl
theorem exp_new {st : Store} {o : MO} : exportD st.length (st ++ [o]) (.r st.length) = .ok (.r st.length) (st ++ [o]) := by
  unfold exportD
  simp
theorem behind_ev {T : Nat → Option Fn} (hT : T 47 = some fn47) {dd : D} {st : Store} {l : List (Option Ky × P)} {e : Tx → Option Nat} {d : Nat} {ns : List Tx} (hd : dnOf st dd = some l) (L : Lv l e d) (hn : ns.length ≤ 4) (hl : l.length ≤ 10000) {k : Nat} :
    ∃ l', callK T (k + 1) 47 [dd, .p (.tup (ns.map P.str))] st = .ok (.r st.length) (st ++ [.dn l']) ∧ Lv l' (ext e d ns) (d + ns.length) ∧ l'.length ≤ l.length + ns.length + 1 := by
  obtain ⟨a, b, c⟩ := merge_lv (d := d) ns 0 L.nm
  refine ⟨nkput (nkmerge l ((ns.zipIdx 0).map (lvE d))) none (.int ((d : Int) + (ns.length : Nat))), ?_, ⟨fun x => ?_, ?_⟩, ?_⟩
  · refine To.run (call_end hT rfl ?_)
    unfold fn47
    have hL := LINE_eq
    have hz2 : (2 : Nat) ≤ LINE := by omega
    have hnL : ns.length ≤ LINE := by omega
    have hl1 : l.length + ns.length ≤ LINE := by omega
    have hl2 : (nkmerge l ((ns.zipIdx 0).map (lvE d))).length < LINE := by omega
    have hg := L.dp
    simp_arith [hd, dnOf_app hd, hg, get_new, set_new, enum_zip, Int.ofNat_zero]
    refine comp_pure (fun p : Tx × Nat => .tup [.str p.1, .int ((d : Int) + (p.2 : Nat))]) (by simpa using hnL) ?_ ?_
    · intro p hp
      refine ⟨_, rfl, ?_⟩
      simp_arith [hz2]
    · simp_arith [get_new, set_new, toN_lv, List.length_zipIdx, hl1, hl2, hnL, exp_new]
      exact Hide.of ⟨rfl, rfl⟩
  · rw [nkget_put, if_neg (by simp), a x]; rfl
  · rw [nkget_put, if_pos rfl]; rfl
  · have := nkput_len (l := nkmerge l ((ns.zipIdx 0).map (lvE d))) (k := none) (p := .int ((d : Int) + (ns.length : Nat)))
    omega
def decF (l : Tx) : Nat := l.foldl (fun a c => 10 * a + (c - 48)) 0
theorem digit_ok : ∀ n, n < 10 → (Nat.digitChar n).toNat = 48 + n := by decide
theorem nat_small {n : Nat} (h : n < 10) : natTx n = [48 + n] := by
  unfold natTx
  rw [Nat.toDigits_of_lt_base h, List.map_cons, List.map_nil, digit_ok n h]
theorem nat_big {n : Nat} (h : 10 ≤ n) : natTx n = natTx (n / 10) ++ [48 + n % 10] := by
  unfold natTx
  rw [Nat.toDigits_of_base_le (by omega) h, List.map_append, List.map_cons, List.map_nil, digit_ok _ (Nat.mod_lt _ (by omega))]
theorem dec_nat (n : Nat) : decF (natTx n) = n := by
  induction n using Nat.strongRecOn with
  | ind n ih =>
    by_cases h : n < 10
    · rw [nat_small h]; simp [decF]
    · rw [nat_big (by omega)]
      unfold decF at ih ⊢
      rw [List.foldl_append, ih (n / 10) (by omega)]
      simp
      omega
theorem natTx_inj {a b : Nat} (h : natTx a = natTx b) : a = b := by rw [← dec_nat a, h, dec_nat]
theorem natTx_fig (n : Nat) : ∀ c ∈ natTx n, 48 ≤ c ∧ c ≤ 57 := by
  induction n using Nat.strongRecOn with
  | ind n ih =>
    by_cases h : n < 10
    · rw [nat_small h]; intro c hc; simp at hc; omega
    · rw [nat_big (by omega)]
      intro c hc
      rcases List.mem_append.mp hc with hc | hc
      · exact ih (n / 10) (by omega) c hc
      · simp at hc; omega
theorem natTx_shy (n : Nat) : Shy (natTx n) := fun c hc => by have := natTx_fig n c hc; omega
def figs (d k : Nat) : List Tx := (List.range' d k).map natTx
theorem figs_len {d k : Nat} : (figs d k).length = k := by simp [figs]
theorem figs_nodup {d k : Nat} : (figs d k).Nodup := (List.nodup_range' (s := d) (n := k)).map (f := natTx) fun a b hab e => hab (natTx_inj e)
theorem figs_mem {d k i : Nat} : natTx i ∈ figs d k ↔ d ≤ i ∧ i < d + k := by
  unfold figs
  rw [List.mem_map]
  constructor
  · rintro ⟨j, hj, e⟩
    rw [natTx_inj e] at hj
    simpa using hj
  · intro h
    exact ⟨i, by simpa using h, rfl⟩
theorem figs_ex {d k : Nat} {y : Tx} (h : y ∈ figs d k) : ∃ i, y = natTx i ∧ d ≤ i ∧ i < d + k := by
  unfold figs at h
  obtain ⟨j, hj, rfl⟩ := List.mem_map.mp h
  exact ⟨j, rfl, by simpa using hj⟩
theorem ext_or : ∀ (ns : List Tx) (e : Tx → Option Nat) (d : Nat) (x : Tx), ext e d ns x = (ext (fun _ => none) d ns x).or (e x)
  | [], e, d, x => rfl
  | n :: ns, e, d, x => by
    show ext (ext1 e n d) (d + 1) ns x = (ext (ext1 (fun _ => none) n d) (d + 1) ns x).or (e x)
    rw [ext_or ns (ext1 e n d), ext_or ns (ext1 (fun _ => none) n d)]
    cases ext (fun _ => none) (d + 1) ns x with
    | some i => rfl
    | none =>
      unfold ext1
      by_cases h : n = x
      · simp [h]
      · simp [h]
theorem ext_none : ∀ (ns : List Tx) (d : Nat) (x : Tx), ext (fun _ => none) d ns x = none ↔ x ∉ ns
  | [], d, x => by simp [ext]
  | n :: ns, d, x => by
    show ext (ext1 (fun _ => none) n d) (d + 1) ns x = none ↔ _
    rw [ext_or]
    have ih := ext_none ns (d + 1) x
    cases h : ext (fun _ => none) (d + 1) ns x with
    | some i =>
      rw [h] at ih
      have : x ∈ ns := by
        by_cases z : x ∈ ns
        · exact z
        · exact absurd (ih.mpr z) (by simp)
      simp [this]
    | none =>
      have : x ∉ ns := ih.mp h
      unfold ext1
      by_cases hx : n = x
      · simp [hx]
      · simp [hx, this, Ne.symm hx]
theorem ext_some : ∀ (ns : List Tx) (d : Nat) (x : Tx) (i : Nat), ext (fun _ => none) d ns x = some i → d ≤ i ∧ i < d + ns.length
  | [], d, x, i, h => by cases h
  | n :: ns, d, x, i, h => by
    have h : ext (ext1 (fun _ => none) n d) (d + 1) ns x = some i := h
    rw [ext_or] at h
    cases h2 : ext (fun _ => none) (d + 1) ns x with
    | some j =>
      rw [h2] at h
      cases h
      have := ext_some ns (d + 1) x i h2
      simp only [List.length_cons]
      omega
    | none =>
      rw [h2] at h
      have h : ext1 (fun _ => none) n d x = some i := h
      unfold ext1 at h
      split at h
      · cases h
        simp only [List.length_cons]
        omega
      · cases h
theorem kget_app {l m : List (Ky × P)} {k : Ky} : kget (l ++ m) k = (kget l k).or (kget m k) := by
  induction l with
  | nil => rfl
  | cons a l ih =>
    obtain ⟨j, p⟩ := a
    by_cases h : j = k
    · simp [kget, h]
    · simp [kget, h, ih]
theorem kget_rep {l : List (Ky × P)} {k j : Ky} {p : P} : kget (l.map fun e => if e.1 = k then (e.1, p) else e) j = if k = j then (kget l k).map fun _ => p else kget l j := by
  induction l with
  | nil => split <;> rfl
  | cons a l ih =>
    obtain ⟨i, q⟩ := a
    by_cases h : i = k
    · subst h
      by_cases hj : i = j
      · subst hj; simp [kget]
      · simp [kget, hj, ih]
    · by_cases hj : k = j
      · subst hj; simp [kget, h, ih]
      · by_cases h2 : i = j
        · subst h2; simp [kget, h, hj]
        · simp [kget, h, hj, h2, ih]
theorem kget_put {l : List (Ky × P)} {k j : Ky} {p : P} : kget (kput l k p) j = if k = j then some p else kget l j := by
  unfold kput
  split
  · rename_i h
    rw [kget_rep]
    split
    · obtain ⟨q, hq⟩ := Option.isSome_iff_exists.mp h
      rw [hq]; rfl
    · rfl
  · rename_i h
    rw [kget_app]
    by_cases hj : k = j
    · subst hj
      have : kget l k = none := by simpa using h
      simp [this, kget]
    · simp [kget, hj]
theorem kput_len {l : List (Ky × P)} {k : Ky} {p : P} : (kput l k p).length ≤ l.length + 1 := by
  unfold kput
  split
  · rw [List.length_map]; omega
  · simp
theorem kmerge_len : ∀ {m l : List (Ky × P)}, (kmerge l m).length ≤ l.length + m.length
  | [], l => Nat.le_refl _
  | a :: m, l => by
    show (kmerge (kput l a.1 a.2) m).length ≤ _
    have h1 := kmerge_len (m := m) (l := kput l a.1 a.2)
    have h2 := kput_len (l := l) (k := a.1) (p := a.2)
    simp only [List.length_cons]
    omega
theorem kget_none {l : List (Ky × P)} {k : Ky} (h : ∀ e ∈ l, e.1 ≠ k) : kget l k = none := by
  induction l with
  | nil => rfl
  | cons a l ih =>
    obtain ⟨j, p⟩ := a
    have : j ≠ k := h (j, p) List.mem_cons_self
    simp only [kget, this, if_false]
    exact ih fun e he => h e (List.mem_cons_of_mem _ he)
theorem kget_merge : ∀ {m l : List (Ky × P)} {k : Ky}, (m.map (·.1)).Nodup → kget (kmerge l m) k = (kget m k).or (kget l k)
  | [], l, k, _ => rfl
  | (j, p) :: m, l, k, h => by
    show kget (kmerge (kput l j p) m) k = _
    rw [List.map_cons, List.nodup_cons] at h
    rw [kget_merge h.2, kget_put]
    by_cases hj : j = k
    · subst hj
      have : kget m j = none := kget_none fun e he z => h.1 (List.mem_map.mpr ⟨e, he, z⟩)
      rw [this]
      simp [kget]
    · simp [kget, hj]
theorem kmerge_nil {m : List (Ky × P)} (h : (m.map (·.1)).Nodup) : kmerge [] m = m := by
  have key : ∀ (m l : List (Ky × P)), ((l ++ m).map (·.1)).Nodup → kmerge l m = l ++ m := by
    intro m
    induction m with
    | nil => intro l _; simp [kmerge]
    | cons a m ih =>
      intro l h
      show kmerge (kput l a.1 a.2) m = _
      have e : kput l a.1 a.2 = l ++ [a] := by
        unfold kput
        rw [if_neg]
        rw [kget_none]
        · simp
        · intro e he z
          rw [List.map_append, List.nodup_append] at h
          exact h.2.2 e.1 (List.mem_map_of_mem he) a.1 (by simp) z
      rw [e, ih]
      · simp
      · simpa using h
  exact key m [] (by simpa using h)
def Sh.tm (g : Tx → Tx) : Sh → Nat → Tm
  | .bd i, _ => .nm (natTx i)
  | .fr x, _ => .nm (g x)
  | .fm f ps, d => .fm f (ps.map fun p => (figs d p.1, p.2.tm g (d + p.1)))
  | .hl h ts, d => .hl h (ts.map fun t => t.tm g d)
  | .lt b w, d => .lt (natTx d) (b.tm g (d + 1)) (w.tm g d)
termination_by t => t
decreasing_by
  all_goals simp only [Sh.fm.sizeOf_spec, Sh.hl.sizeOf_spec, Sh.lt.sizeOf_spec]
  all_goals first | (have := Sh.szp ‹_ ∈ _›; omega) | (have := List.sizeOf_lt_of_mem ‹_ ∈ _›; omega) | omega
def Tm.cl (t : Tm) (g : Tx → Tx) (e : Tx → Option Nat) (d : Nat) : Tm := (t.shp e d).tm g d
def vl (g : Tx → Tx) (e : Tx → Option Nat) (x : Tx) : Tx := match e x with
  | some i => natTx i
  | none => g x
theorem cl_nm {x : Tx} {g : Tx → Tx} {e : Tx → Option Nat} {d : Nat} : (Tm.nm x).cl g e d = .nm (vl g e x) := by
  unfold Tm.cl vl
  rw [shp_nm]
  cases e x <;> simp [Sh.tm]
theorem cl_fm {f : Tx} {ps : List (List Tx × Tm)} {g : Tx → Tx} {e : Tx → Option Nat} {d : Nat} : (Tm.fm f ps).cl g e d = .fm f (ps.map fun p => (figs d p.1.length, p.2.cl g (ext e d p.1) (d + p.1.length))) := by
  unfold Tm.cl
  rw [shp_fm]
  simp [Sh.tm, Function.comp_def]
theorem cl_hl {h : Tx} {ts : List Tm} {g : Tx → Tx} {e : Tx → Option Nat} {d : Nat} : (Tm.hl h ts).cl g e d = .hl h (ts.map fun t => t.cl g e d) := by
  unfold Tm.cl
  rw [shp_hl]
  simp [Sh.tm, Function.comp_def]
theorem cl_lt {x : Tx} {b w : Tm} {g : Tx → Tx} {e : Tx → Option Nat} {d : Nat} : (Tm.lt x b w).cl g e d = .lt (natTx d) (b.cl g (ext e d [x]) (d + 1)) (w.cl g e d) := by
  unfold Tm.cl
  rw [shp_lt]
  simp [Sh.tm]
theorem cl_dep : ∀ (t : Tm) g e d, (t.cl g e d).dep = t.dep := by
  intro t
  induction t using Tm.ind with
  | h t ih =>
  intro g e d
  cases t with
  | nm x => rw [cl_nm]; simp [Tm.dep]
  | fm k ps =>
    rw [cl_fm]
    simp only [Tm.dep, List.map_map]
    congr 2
    exact List.map_congr_left fun p hp => ih p hp _ _ _
  | hl k ts =>
    rw [cl_hl]
    simp only [Tm.dep, List.map_map]
    congr 2
    exact List.map_congr_left fun t ht => ih ([], t) (List.mem_map_of_mem ht) _ _ _
  | lt x b w => rw [cl_lt]; simp only [Tm.dep]; rw [ih ([x], b) (by simp [Tm.inn]), ih ([], w) (by simp [Tm.inn])]
abbrev vS : Voc := ⟨Shy, Shy, fun x _ => Shy x⟩
theorem vl_shy {g : Tx → Tx} {e : Tx → Option Nat} {x : Tx} (h : Shy (g x)) : Shy (vl g e x) := by
  unfold vl
  split
  · exact natTx_shy _
  · exact h
theorem cl_wf {g : Tx → Tx} (hg : ∀ x, Shy x → Shy (g x)) : ∀ {t : Tm}, Wf vS t → ∀ e d, Wf vS (t.cl g e d) := by
  intro t
  induction t using Tm.ind with
  | h t ih =>
  intro h e d
  cases h with
  | nm hx => rw [cl_nm]; exact .nm (vl_shy (hg _ hx))
  | @fm k ps h1 h2 h3 h4 =>
    rw [cl_fm]
    refine .fm h1 (by rw [List.length_map]; exact h2) ?_ ?_
    · intro p hp
      obtain ⟨q, hq, rfl⟩ := List.mem_map.mp hp
      obtain ⟨a, b, c⟩ := h3 q hq
      refine ⟨figs_nodup, by rw [figs_len]; exact b, ?_⟩
      intro n hn'
      obtain ⟨i, rfl, _⟩ := figs_ex hn'
      exact natTx_shy i
    · intro p hp
      obtain ⟨q, hq, rfl⟩ := List.mem_map.mp hp
      exact ih q hq (h4 q hq) _ _
  | @hl k ts h1 h2 h3 =>
    rw [cl_hl]
    refine .hl h1 (by rw [List.length_map]; exact h2) ?_
    intro p hp
    obtain ⟨q, hq, rfl⟩ := List.mem_map.mp hp
    exact ih ([], q) (List.mem_map_of_mem hq) (h3 q hq) _ _
  | @lt x b w hx hb hw' =>
    rw [cl_lt]
    exact .lt (natTx_shy d) (ih ([x], b) (by simp [Tm.inn]) hb _ _) (ih ([], w) (by simp [Tm.inn]) hw' _ _)
theorem mem_fv {t : Tm} (h : ∀ x, t ≠ .nm x) {y : Tx} : y ∈ t.fv ↔ ∃ p ∈ t.inn, y ∈ p.2.fv ∧ y ∉ p.1 := by
  rw [Tm.fv_inn h]
  simp only [List.mem_flatten, List.mem_map]
  constructor
  · rintro ⟨l, ⟨p, hp, rfl⟩, hy⟩
    simp only [List.mem_filter, decide_eq_true_eq] at hy
    exact ⟨p, hp, hy⟩
  · rintro ⟨p, hp, hy⟩
    exact ⟨_, ⟨p, hp, rfl⟩, by simpa using hy⟩
theorem cl_fv : ∀ (t : Tm) g e d, ∀ y ∈ (t.cl g e d).fv, ∃ x ∈ t.fv, y = vl g e x := by
  have key : ∀ (ns : List Tx) (g : Tx → Tx) (e : Tx → Option Nat) (d : Nat) (x y : Tx), y = vl g (ext e d ns) x → y ∉ figs d ns.length → x ∉ ns ∧ y = vl g e x := by
    intro ns g e d x y hy hn
    unfold vl at hy
    rw [ext_or] at hy
    cases h : ext (fun _ => none) d ns x with
    | some i =>
      rw [h] at hy
      have := ext_some ns d x i h
      exact absurd (hy ▸ figs_mem.mpr this) hn
    | none =>
      rw [h] at hy
      exact ⟨(ext_none ns d x).mp h, hy⟩
  intro t
  induction t using Tm.ind with
  | h t ih =>
  intro g e d y hy
  cases t with
  | nm x =>
    rw [cl_nm] at hy
    simp only [Tm.fv, List.mem_cons, List.not_mem_nil, or_false] at hy
    exact ⟨x, by simp [Tm.fv], hy⟩
  | fm k ps =>
    rw [cl_fm] at hy
    obtain ⟨p, hp, h1, h2⟩ := (mem_fv (by simp)).mp hy
    obtain ⟨q, hq, rfl⟩ := List.mem_map.mp (show p ∈ ps.map _ from hp)
    obtain ⟨x, hx, e1⟩ := ih q hq _ _ _ y h1
    obtain ⟨a, b⟩ := key q.1 g e d x y e1 h2
    exact ⟨x, (mem_fv (by simp)).mpr ⟨q, hq, hx, a⟩, b⟩
  | hl k ts =>
    rw [cl_hl] at hy
    obtain ⟨p, hp, h1, h2⟩ := (mem_fv (by simp)).mp hy
    obtain ⟨u, hu, rfl⟩ := List.mem_map.mp (show p ∈ (ts.map fun t => t.cl g e d).map _ from hp)
    obtain ⟨q, hq, rfl⟩ := List.mem_map.mp hu
    obtain ⟨x, hx, e1⟩ := ih ([], q) (List.mem_map_of_mem hq) _ _ _ y h1
    exact ⟨x, (mem_fv (by simp)).mpr ⟨([], q), List.mem_map_of_mem hq, hx, by simp⟩, e1⟩
  | lt z b w =>
    rw [cl_lt] at hy
    obtain ⟨p, hp, h1, h2⟩ := (mem_fv (by simp)).mp hy
    simp only [Tm.inn, List.mem_cons, List.not_mem_nil, or_false] at hp
    rcases hp with rfl | rfl
    · obtain ⟨x, hx, e1⟩ := ih ([z], b) (by simp [Tm.inn]) _ _ _ y h1
      obtain ⟨a, b'⟩ := key [z] g e d x y e1 (by simpa [figs] using h2)
      exact ⟨x, (mem_fv (by simp)).mpr ⟨([z], b), by simp [Tm.inn], hx, a⟩, b'⟩
    · obtain ⟨x, hx, e1⟩ := ih ([], w) (by simp [Tm.inn]) _ _ _ y h1
      exact ⟨x, (mem_fv (by simp)).mpr ⟨([], w), by simp [Tm.inn], hx, by simp⟩, e1⟩
def DD (st : Store) (dd : D) (l : List (Ky × P)) : Prop := dd = .p (.dic l) ∨ ∃ k, dd = .r k ∧ st[k]? = some (.dic l)
theorem DD.rd {st : Store} {dd : D} {l : List (Ky × P)} (h : DD st dd l) : rd st dd = some (.dic l) := by
  rcases h with rfl | ⟨k, rfl, h⟩
  · rfl
  · rw [rd_r, h]; rfl
theorem DD.app {st st2 : Store} {dd : D} {l : List (Ky × P)} (h : DD st dd l) : DD (st ++ st2) dd l := by
  rcases h with h | ⟨k, e, h⟩
  · exact .inl h
  · exact .inr ⟨k, e, by rw [List.getElem?_append_left (List.getElem?_eq_some_iff.mp h).1]; exact h⟩
theorem at_c {st ext : Store} {o : MO} : (st ++ o :: ext)[st.length]? = some o := by rw [List.getElem?_append_right (Nat.le_refl _), Nat.sub_self]; rfl
theorem set_c {st ext : Store} {o o' : MO} : (st ++ o :: ext).set st.length o' = st ++ o' :: ext := by rw [List.set_append_right _ _ (Nat.le_refl _), Nat.sub_self]; rfl
theorem any_str {l : List Tx} {x : Tx} : ((l.map P.str).any fun y => P.eqv y (.str x)) = decide (x ∈ l) := by
  rw [List.any_map, Bool.eq_iff_iff, List.any_eq_true, decide_eq_true_eq]
  constructor
  · rintro ⟨y, hy, e⟩
    have e : (y == x) = true := e
    rw [beq_iff_eq] at e
    exact e ▸ hy
  · intro h
    exact ⟨x, h, by show (x == x) = true; simp⟩
theorem flat_strs (l : List Tx) : (l.map P.str).all P.flat = true := by simp [P.flat]
theorem nin_l {l : List Tx} {x : Tx} {st : Store} : cmpD .nin st (.p (.str x)) (.p (.lst (l.map P.str))) = some (decide (x ∉ l)) := by
  have : cmpP .nin (.str x) (.lst (l.map P.str)) = some (!(l.map P.str).any fun y => P.eqv y (.str x)) := by
    simp only [cmpP, flat_strs, P.flat, Bool.and_self, if_true]
  show cmpP .nin (.str x) (.lst (l.map P.str)) = _
  rw [this, any_str]
  simp
theorem flat_len {α : Type} {f : α → List Tx} {b : Nat} : ∀ {l : List α}, (∀ a ∈ l, (f a).length ≤ b) → (l.map f).flatten.length ≤ l.length * b
  | [], _ => by simp
  | a :: l, h => by
    have h1 := flat_len (l := l) fun c m => h c (List.mem_cons_of_mem _ m)
    have h2 := h a List.mem_cons_self
    simp only [List.map_cons, List.flatten_cons, List.length_append, List.length_cons, Nat.succ_mul]
    omega
theorem fv_len {V : Voc} : ∀ (n : Nat) {t : Tm}, Wf V t → t.dep ≤ n → t.fv.length ≤ 4 ^ n := by
  intro n
  induction n with
  | zero =>
    intro t hw hd
    cases t with
    | nm x => simp [Tm.fv]
    | _ => simp [Tm.dep] at hd <;> omega
  | succ n ih =>
    intro t hw hd
    have h1 : 1 ≤ 4 ^ (n + 1) := Nat.one_le_pow _ _ (by omega)
    by_cases hx : ∃ x, t = .nm x
    · obtain ⟨x, rfl⟩ := hx
      simpa [Tm.fv] using h1
    · have hx : ∀ x, t ≠ .nm x := fun x e => hx ⟨x, e⟩
      rw [Tm.fv_inn hx]
      have h4 := hw.len
      have := flat_len (l := t.inn) (f := fun p : List Tx × Tm => p.2.fv.filter fun x => decide (x ∉ p.1)) (b := 4 ^ n) fun p hp =>
        Nat.le_trans (List.length_filter_le _ _) (ih (hw.inn hp).1 (by have := Tm.dep_inn hp; omega))
      refine Nat.le_trans this ?_
      rw [Nat.pow_succ, Nat.mul_comm]
      exact Nat.mul_le_mul_left _ h4
theorem names_ev {T : Nat → Option Fn} (hT1 : T 11 = some fn11) (hT : T 13 = some fn13) {V : Voc} : ∀ (n : Nat) {t : Tm}, Wf V t → t.dep ≤ n → n ≤ 11 → ∀ {B : List Tx}, B.length + 4 * n ≤ 1000 → ∀ {k : Nat} {st : Store}, n + 1 ≤ k →
    callK T (k + 1) 13 [.p t.enc, .p (.lst (B.map P.str))] st = .ok (.p (.lst ((t.fv.filter fun x => decide (x ∉ B)).map P.str))) st := by
  have hL := LINE_eq
  have hz0 : (0 : Nat) ≤ LINE := by omega
  have hz1 : (1 : Nat) ≤ LINE := by omega
  have nm : ∀ {x : Tx} {B : List Tx} {k : Nat} {st : Store}, callK T (k + 1) 13 [.p (Tm.nm x).enc, .p (.lst (B.map P.str))] st = .ok (.p (.lst (((Tm.nm x).fv.filter fun x => decide (x ∉ B)).map P.str))) st := by
    intro x B k st
    refine To.run (call_end hT rfl ?_)
    unfold fn13
    rw [Tm.enc_nm]
    by_cases h : x ∈ B
    · have e : decide (x ∉ B) = false := by simp [h]
      simp_arith [nin_l, e, hz0]
      exact Hide.of ⟨by simp [Tm.fv, h], by simp⟩
    · have e : decide (x ∉ B) = true := by simp [h]
      simp_arith [nin_l, e, hz1]
      exact Hide.of ⟨by simp [Tm.fv, h], by simp⟩
  intro n
  induction n with
  | zero =>
    intro t hw hd hn B hB k st hk
    cases t with
    | nm x => exact nm
    | _ => simp [Tm.dep] at hd <;> omega
  | succ n ih =>
    intro t hw hd hn B hB k st hk
    obtain ⟨k, rfl⟩ : ∃ k', k = k' + 1 := ⟨k - 1, by omega⟩
    by_cases hx : ∃ x, t = .nm x
    · obtain ⟨x, rfl⟩ := hx
      exact nm
    · have hx : ∀ x, t ≠ .nm x := fun x e => hx ⟨x, e⟩
      obtain ⟨w, r, he, hne⟩ : ∃ (w : Tx) (r : List P), t.enc = .tup (.str w :: r) ∧ (w == sName) = false := by
        cases t with
        | nm x => exact absurd rfl (hx x)
        | fm f ps => exact ⟨_, _, Tm.enc_fm, rfl⟩
        | hl f ps => exact ⟨_, _, Tm.enc_hl, rfl⟩
        | lt f ps => exact ⟨_, _, Tm.enc_lt, rfl⟩
      have hi := fun st => inner_ev (T := T) hT1 hw (k := k) (st := st)
      have hlen := hw.len
      have h48 : 4 ^ n ≤ 4 ^ 10 := Nat.pow_le_pow_right (by omega) (by omega)
      have h47 : (4 : Nat) ^ 10 = 1048576 := by decide
      have i0 : idxP t.enc (.int 0) = some (.str w) := by rw [he]; simp_arith []
      refine To.run (call_end hT rfl ?_)
      unfold fn13
      have e0 : (P.lst []) = .lst (([] : List Tx).map P.str) := rfl
      simp_arith [i0, hne, hi, hz0]
      let F : List Tx × Tm → List Tx := fun p => (p.2.fv.filter fun x => decide (x ∉ p.1)).filter fun x => decide (x ∉ B)
      refine for_inv (fun rest δ st' => ∃ done more x3 x4, t.inn = done ++ more ∧ rest = more.map ePart ∧ st' = st ∧ δ = [some (.p t.enc), some (.p (.lst (B.map P.str))), some (.p (.lst ((done.map F).flatten.map P.str))), x3, x4])
        ⟨[], t.inn, _, _, rfl, rfl, rfl, rfl⟩ ?_ ?_
      · rintro y rr δ st' ⟨done, more, x3, x4, hin, hmo, rfl, rfl⟩
        cases more with
        | nil => cases hmo
        | cons p more =>
        simp only [List.map_cons, List.cons.injEq] at hmo
        obtain ⟨rfl, rfl⟩ := hmo
        have hp : p ∈ t.inn := by rw [hin]; simp
        obtain ⟨hwp, hp4, _, _⟩ := hw.inn hp
        refine ⟨_, rfl, ?_⟩
        have hd' := Tm.dep_inn hp
        have gi := ih hwp (by omega) (by omega) (B := B ++ p.1) (by rw [List.length_append]; omega) (k := k) (st := st') (by omega)
        rw [List.map_append] at gi
        have hb1 : B.length + p.1.length ≤ LINE := by omega
        have e1 : (p.2.fv.filter fun x => decide (x ∉ B ++ p.1)) = F p := by
          show _ = (p.2.fv.filter fun x => decide (x ∉ p.1)).filter fun x => decide (x ∉ B)
          rw [List.filter_filter]
          congr 1
          funext x
          simp [Bool.decide_and]
        rw [e1] at gi
        have hF : ∀ q ∈ t.inn, (F q).length ≤ 4 ^ 10 := fun q hq => Nat.le_trans (List.length_filter_le _ _) (Nat.le_trans (List.length_filter_le _ _) (Nat.le_trans (fv_len n (hw.inn hq).1 (by have := Tm.dep_inn hq; omega)) h48))
        have hdl := flat_len (l := done) (f := F) (b := 4 ^ 10) fun q hq => hF q (by rw [hin]; simp [hq])
        have hdn : done.length ≤ 4 := by
          have : done.length ≤ t.inn.length := by rw [hin]; simp
          omega
        have hfp := hF p hp
        have hdm : done.length * 4 ^ 10 ≤ 4 * 4 ^ 10 := Nat.mul_le_mul_right _ hdn
        have hsz : (done.map F).flatten.length + (F p).length ≤ LINE := by omega
        simp_arith [hb1, gi, hsz]
        have eacc : ((done ++ [p]).map F).flatten.map P.str = (done.map F).flatten.map P.str ++ (F p).map P.str := by simp
        exact Hide.of ⟨done ++ [p], more, _, _, by rw [hin]; simp, rfl, rfl, by rw [eacc]⟩
      · rintro δ st' ⟨done, more, x3, x4, hin, hmo, rfl, rfl⟩
        have hm : more = [] := by cases more with
          | nil => rfl
          | cons _ _ => simp at hmo
        subst hm
        rw [List.append_nil] at hin
        subst hin
        simp_arith []
        refine Hide.of ⟨?_, by simp⟩
        rw [Tm.fv_inn hx]
        congr 4
        rw [List.filter_flatten, List.map_map]
        rfl
theorem uqT_iff (l : List Tx) : ∀ x, x ∈ uqT l ↔ x ∈ l := by
  have key : ∀ (l a : List Tx) x, x ∈ l.foldl one1T a ↔ x ∈ a ∨ x ∈ l := by
    intro l
    induction l with
    | nil => intro a x; simp
    | cons y l ih =>
      intro a x
      simp only [List.foldl_cons]
      rw [ih]
      unfold one1T
      split
      · rename_i h
        simp only [List.any_eq_true, beq_iff_eq] at h
        obtain ⟨z, hz, rfl⟩ := h
        constructor
        · rintro (h | h)
          · exact .inl h
          · exact .inr (List.mem_cons_of_mem _ h)
        · rintro (h | h)
          · exact .inl h
          · rcases List.mem_cons.mp h with rfl | h
            · exact .inl hz
            · exact .inr h
      · simp only [List.mem_append, List.mem_cons, List.not_mem_nil, or_false]
        constructor
        · rintro ((h | h) | h)
          · exact .inl h
          · exact .inr (.inl h)
          · exact .inr (.inr h)
        · rintro (h | h | h)
          · exact .inl (.inl h)
          · exact .inl (.inr h)
          · exact .inr h
  intro x
  unfold uqT
  rw [key]
  simp
theorem uqT_nodup' (l : List Tx) : (uqT l).Nodup := by
  have key : ∀ (l a : List Tx), a.Nodup → (l.foldl one1T a).Nodup := by
    intro l
    induction l with
    | nil => intro a h; exact h
    | cons x l ih =>
      intro a h
      simp only [List.foldl_cons]
      refine ih _ ?_
      unfold one1T
      split
      · exact h
      · rename_i hx
        rw [List.nodup_append]
        refine ⟨h, by simp, fun b hb c hc e => ?_⟩
        simp only [List.mem_cons, List.not_mem_nil, or_false] at hc
        subst hc
        subst e
        simp only [Bool.not_eq_true, List.any_eq_false, beq_iff_eq] at hx
        exact hx b hb rfl
  exact key l [] (by simp)
theorem sset_ok {l : List Tx} {S : List Tx} (hs : ∀ x ∈ l, x ∈ S) (h64 : S.length < 64) : ∃ r : List Tx, ssetP (.lst (l.map P.str)) = some (r.map P.str) ∧ r.Nodup ∧ (∀ x, x ∈ r ↔ x ∈ l) ∧ r.length ≤ S.length := by
  have hl : (uqT l).length ≤ S.length := (uqT_nodup' l).length_le_of_subset fun x hx => hs x ((uqT_iff l x).mp hx)
  have hp := List.mergeSort_perm ((uqT l).map P.str) srtLe
  obtain ⟨r, hr, hr2⟩ : ∃ r : List Tx, (((uqT l).map P.str).mergeSort srtLe) = r.map P.str ∧ r.Perm (uqT l) := by
    have hm : ∀ p ∈ ((uqT l).map P.str).mergeSort srtLe, ∃ x, P.str x = p := fun p hp' => by
      obtain ⟨x, _, e⟩ := List.mem_map.mp (hp.mem_iff.mp hp')
      exact ⟨x, e⟩
    obtain ⟨r, hr⟩ : ∃ r : List Tx, r.map P.str = ((uqT l).map P.str).mergeSort srtLe := by
      generalize ((uqT l).map P.str).mergeSort srtLe = m at hm
      clear hp
      induction m with
      | nil => exact ⟨[], rfl⟩
      | cons a m ih =>
        obtain ⟨x, rfl⟩ := hm a List.mem_cons_self
        obtain ⟨r, hr⟩ := ih fun p hp => hm p (List.mem_cons_of_mem _ hp)
        exact ⟨x :: r, by rw [List.map_cons, hr]⟩
    refine ⟨r, hr.symm, ?_⟩
    rw [← hr] at hp
    have h2 := hp.map (fun p => (P.asStr p).getD [])
    rw [List.map_map, List.map_map] at h2
    have e : ((fun p : P => (P.asStr p).getD []) ∘ P.str) = id := rfl
    rw [e, List.map_id, List.map_id] at h2
    exact h2
  refine ⟨r, ?_, hr2.nodup_iff.mpr (uqT_nodup' l), fun x => by rw [hr2.mem_iff, uqT_iff], by rw [hr2.length_eq]; exact hl⟩
  show (allStr (l.map P.str)).bind _ = _
  rw [allStr_m]
  show (if (uqT l).length < 64 then some (((uqT l).map P.str).mergeSort srtLe) else none) = _
  rw [if_pos (by omega), hr]
theorem World.shole {w : P} {pool words : List Tx} {hs : List (Tx × Nat)} (W : World w pool words hs) {h : Tx} {n : Nat} (m : (h, n) ∈ hs) : Shy h := by
  obtain ⟨a, b, c, e, _⟩ := W.hl
  rw [e] at m
  simp only [List.mem_cons, List.not_mem_nil, or_false, Prod.mk.injEq] at m
  rcases m with m | m | m <;> rw [m.1] <;> unfold Shy <;> decide
theorem Wf.voc {V V' : Voc} (hn : ∀ x, V.nm x → V'.nm x) (hw : ∀ x, V.wd x → V'.wd x) (hh : ∀ x n, V.hd x n → V'.hd x n) {t : Tm} (h : Wf V t) : Wf V' t := by
  induction h with
  | nm h => exact .nm (hn _ h)
  | fm h1 h2 h3 _ ih => exact .fm (hw _ h1) h2 (fun p hp => ⟨(h3 p hp).1, (h3 p hp).2.1, fun n m => hn n ((h3 p hp).2.2 n m)⟩) ih
  | hl h1 h2 _ ih => exact .hl (hh _ _ h1) h2 ih
  | lt h1 _ _ i1 i2 => exact .lt (hn _ h1) i1 i2
theorem Wf.shy {w : P} {pool words : List Tx} {hs : List (Tx × Nat)} (W : World w pool words hs) {t : Tm} (h : Wf ⟨(· ∈ pool), (· ∈ words), fun h n => (h, n) ∈ hs⟩ t) : Wf vS t :=
  h.voc (fun x h => (W.pn x h).shy) (fun x h => (W.wn x h).shy) (fun x n h => W.shole h)
theorem vS_sh {t : Tm} (h : Wf vS t) : t.enc.sh = true := enc_sh (fun _ h => h) (fun _ h => h) (fun _ _ h => h) t h
theorem same_tm {T : Nat → Option Fn} (hT : T 6 = some fn6) {t : Tm} (h : Wf vS t) (hd : t.dep ≤ 7) {k : Nat} (hk : 23 ≤ k) {st : Store} : callK T (k + 1) 6 [.p t.enc, .p t.enc] st = .ok (.p (.bl true)) st :=
  same_refl hT 23 (by have := enc_deep t; omega) (vS_sh h) (enc_wd t h) hk
theorem cut_map {α β : Type} (f : α → β) (l : List α) (lo hi : Option Int) : cut (l.map f) lo hi = (cut l lo hi).map f := by
  unfold cut
  rw [List.length_map, ← List.map_drop, ← List.map_take]
theorem cut_sub {α : Type} (l : List α) (lo hi : Option Int) : (cut l lo hi).Sublist l := (List.take_sublist _ _).trans (List.drop_sublist _ _)
def lx (E : Tx → Nat → Tm) (d : Nat) (ns : List Tx) : Tx → Nat → Tm := fun x d' => match ext (fun _ => none) d ns x with
  | some i => .nm (natTx i)
  | none => E x d'
def Tm.gl (t : Tm) (E : Tx → Nat → Tm) (d : Nat) : Tm := match t with
  | .nm x => E x d
  | .fm f ps => .fm f (ps.map fun p => (figs d p.1.length, p.2.gl (lx E d p.1) (d + p.1.length)))
  | .hl h ts => .hl h (ts.map fun t => t.gl E d)
  | .lt x b w => .lt (natTx d) (b.gl (lx E d [x]) (d + 1)) (w.gl E d)
termination_by t
decreasing_by
  all_goals simp only [Tm.fm.sizeOf_spec, Tm.hl.sizeOf_spec, Tm.lt.sizeOf_spec]
  all_goals first | (have := Tm.szp ‹_ ∈ _›; omega) | (have := List.sizeOf_lt_of_mem ‹_ ∈ _›; omega) | omega
section
variable {E E' : Tx → Nat → Tm} {d : Nat}
theorem gl_nm {x : Tx} : (Tm.nm x).gl E d = E x d := by rw [Tm.gl]
theorem gl_fm {f : Tx} {ps : List (List Tx × Tm)} : (Tm.fm f ps).gl E d = .fm f (ps.map fun p => (figs d p.1.length, p.2.gl (lx E d p.1) (d + p.1.length))) := by rw [Tm.gl]
theorem gl_hl {h : Tx} {ts : List Tm} : (Tm.hl h ts).gl E d = .hl h (ts.map fun t => t.gl E d) := by rw [Tm.gl]
theorem gl_lt {x : Tx} {b w : Tm} : (Tm.lt x b w).gl E d = .lt (natTx d) (b.gl (lx E d [x]) (d + 1)) (w.gl E d) := by rw [Tm.gl]
theorem lx_in {ns : List Tx} {x : Tx} (h : x ∈ ns) {d' : Nat} : ∃ i, d ≤ i ∧ i < d + ns.length ∧ lx E d ns x d' = .nm (natTx i) ∧ ext (fun _ => none) d ns x = some i := by
  cases h2 : ext (fun _ => none) d ns x with
  | none => exact absurd h ((ext_none ns d x).mp h2)
  | some i =>
    have := ext_some ns d x i h2
    exact ⟨i, this.1, this.2, by unfold lx; rw [h2], rfl⟩
theorem lx_out {ns : List Tx} {x : Tx} (h : x ∉ ns) {d' : Nat} : lx E d ns x d' = E x d' := by
  unfold lx
  rw [(ext_none ns d x).mpr h]
theorem ext_at : ∀ {ns : List Tx} {i : Nat} {x : Tx} {d : Nat}, ns.Nodup → ns[i]? = some x → ext (fun _ => none) d ns x = some (d + i)
  | [], i, x, d, _, h => by simp at h
  | n :: ns, i, x, d, hn, h => by
    rw [List.nodup_cons] at hn
    show ext (ext1 (fun _ => none) n d) (d + 1) ns x = _
    rw [ext_or]
    cases i with
    | zero =>
      simp only [List.getElem?_cons_zero, Option.some.injEq] at h
      subst h
      rw [(ext_none ns (d + 1) n).mpr hn.1]
      simp [ext1]
    | succ i =>
      simp only [List.getElem?_cons_succ] at h
      rw [ext_at (d := d + 1) hn.2 h, Nat.add_right_comm d 1 i, Nat.add_assoc]
      rfl
theorem lx_at {ns : List Tx} {i : Nat} {x : Tx} (hn : ns.Nodup) (h : ns[i]? = some x) {d' : Nat} : lx E d ns x d' = .nm (natTx (d + i)) := by
  unfold lx
  rw [ext_at hn h]
end
theorem gl_congr : ∀ (t : Tm) {E E' : Tx → Nat → Tm} {d : Nat}, (∀ x ∈ t.fv, ∀ d', d ≤ d' → E x d' = E' x d') → t.gl E d = t.gl E' d := by
  intro t
  induction t using Tm.ind with
  | h t ih =>
  intro E E' d h
  have up : ∀ {p : List Tx × Tm}, (∀ x, t ≠ .nm x) → p ∈ t.inn → p.2.gl (lx E d p.1) (d + p.1.length) = p.2.gl (lx E' d p.1) (d + p.1.length) := fun {p} ht hp => ih p hp fun x hx d' hd => by
    by_cases hm : x ∈ p.1
    · obtain ⟨i, _, _, e1, e2⟩ := lx_in (E := E) (d := d) hm (d' := d')
      rw [e1]
      unfold lx
      rw [e2]
    · rw [lx_out hm, lx_out hm]
      exact h x ((mem_fv ht).mpr ⟨p, hp, hx, hm⟩) d' (by omega)
  cases t with
  | nm x => rw [gl_nm, gl_nm]; exact h x (by simp [Tm.fv]) d (Nat.le_refl _)
  | fm k ps =>
    rw [gl_fm, gl_fm]
    congr 1
    exact List.map_congr_left fun p hp => by rw [up (p := p) (by simp) hp]
  | hl k ts =>
    rw [gl_hl, gl_hl]
    congr 1
    refine List.map_congr_left fun u hu => ?_
    have := up (p := ([], u)) (by simp) (List.mem_map_of_mem hu)
    exact this
  | lt x b w =>
    rw [gl_lt, gl_lt]
    have h1 := up (p := ([x], b)) (by simp) (by simp [Tm.inn])
    have h2 := up (p := ([], w)) (by simp) (by simp [Tm.inn])
    exact congr (congrArg _ h1) h2
theorem gl_fv : ∀ (t : Tm) {E : Tx → Nat → Tm} {d : Nat} {y : Tx}, y ∈ (t.gl E d).fv → ∃ x ∈ t.fv, ∃ d', d ≤ d' ∧ y ∈ (E x d').fv := by
  intro t
  induction t using Tm.ind with
  | h t ih =>
  intro E d y hy
  have up : ∀ {p : List Tx × Tm}, (∀ x, t ≠ .nm x) → p ∈ t.inn → y ∈ (p.2.gl (lx E d p.1) (d + p.1.length)).fv → y ∉ figs d p.1.length → ∃ x ∈ t.fv, ∃ d', d ≤ d' ∧ y ∈ (E x d').fv := fun {p} ht hp h1 h2 => by
    obtain ⟨x, hx, d', hd, h3⟩ := ih p hp h1
    by_cases hm : x ∈ p.1
    · obtain ⟨i, a, b, e1, _⟩ := lx_in (E := E) (d := d) hm (d' := d')
      rw [e1] at h3
      simp only [Tm.fv, List.mem_cons, List.not_mem_nil, or_false] at h3
      exact absurd (h3 ▸ figs_mem.mpr ⟨a, b⟩) h2
    · rw [lx_out hm] at h3
      exact ⟨x, (mem_fv ht).mpr ⟨p, hp, hx, hm⟩, d', by omega, h3⟩
  cases t with
  | nm x =>
    rw [gl_nm] at hy
    exact ⟨x, by simp [Tm.fv], d, Nat.le_refl _, hy⟩
  | fm k ps =>
    rw [gl_fm] at hy
    obtain ⟨p, hp, h1, h2⟩ := (mem_fv (by simp)).mp hy
    obtain ⟨q, hq, rfl⟩ := List.mem_map.mp (show p ∈ ps.map _ from hp)
    exact up (p := q) (by simp) hq h1 h2
  | hl k ts =>
    rw [gl_hl] at hy
    obtain ⟨p, hp, h1, h2⟩ := (mem_fv (by simp)).mp hy
    obtain ⟨u, hu, rfl⟩ := List.mem_map.mp (show p ∈ (ts.map fun t => t.gl E d).map _ from hp)
    obtain ⟨q, hq, rfl⟩ := List.mem_map.mp hu
    exact up (p := ([], q)) (by simp) (List.mem_map_of_mem hq) h1 (by simp [figs])
  | lt z b w =>
    rw [gl_lt] at hy
    obtain ⟨p, hp, h1, h2⟩ := (mem_fv (by simp)).mp hy
    simp only [Tm.inn, List.mem_cons, List.not_mem_nil, or_false] at hp
    rcases hp with rfl | rfl
    · exact up (p := ([z], b)) (by simp) (by simp [Tm.inn]) h1 (by simpa [figs] using h2)
    · exact up (p := ([], w)) (by simp) (by simp [Tm.inn]) h1 (by simp [figs])
theorem gl_gl : ∀ (t : Tm) {ρ : Tx → Tm} {d0 : Nat} {E : Tx → Nat → Tm} {d : Nat}, (∀ x ∈ t.fv, ∀ y ∈ (ρ x).fv, ∀ i, d0 ≤ i → y ≠ natTx i) → ∀ {F : Tx → Nat → Tm}, (∀ x ∈ t.fv, ∀ d', F x d' = ρ x) →
    (t.gl F d0).gl E d = t.gl (fun x d' => (ρ x).gl E d') d := by
  intro t
  induction t using Tm.ind with
  | h t ih =>
  intro ρ d0 E d h F hF
  have up : ∀ {p : List Tx × Tm}, (∀ x, t ≠ .nm x) → p ∈ t.inn → (p.2.gl (lx F d0 p.1) (d0 + p.1.length)).gl (lx E d (figs d0 p.1.length)) (d + p.1.length) = p.2.gl (lx (fun x d' => (ρ x).gl E d') d p.1) (d + p.1.length) := fun {p} ht hp => by
    have hfl : (figs d0 p.1.length).length = p.1.length := figs_len
    rw [ih p hp (ρ := fun x => match ext (fun _ => none) d0 p.1 x with | some i => .nm (natTx i) | none => ρ x) (F := lx F d0 p.1)]
    · refine gl_congr p.2 fun x hx d' hd => ?_
      by_cases hm : x ∈ p.1
      · obtain ⟨i, a, b, e1, e2⟩ := lx_in (E := F) (d := d0) hm (d' := d')
        try dsimp only
        rw [e2]
        try dsimp only
        rw [gl_nm]
        have hi : (figs d0 p.1.length)[i - d0]? = some (natTx i) := by
          unfold figs
          rw [List.getElem?_map, List.getElem?_range' (by omega)]
          simp
          congr 1
          omega
        rw [lx_at figs_nodup hi]
        have := ext_or p.1 (fun _ => none) d x
        obtain ⟨j, a', b', e1', e2'⟩ := lx_in (E := fun x d' => (ρ x).gl E d') (d := d) hm (d' := d')
        rw [e1']
        have : j - d = i - d0 := by
          clear e1 e1'
          have key : ∀ (ns : List Tx) (d d0 : Nat), (ext (fun _ => none) d ns x).map (· + d0) = (ext (fun _ => none) d0 ns x).map (· + d) := by
            intro ns
            induction ns with
            | nil => intro d d0; rfl
            | cons n ns ihn =>
              intro d d0
              show (ext (ext1 (fun _ => none) n d) (d + 1) ns x).map _ = (ext (ext1 (fun _ => none) n d0) (d0 + 1) ns x).map _
              rw [ext_or, ext_or ns (ext1 _ n d0)]
              have := ihn (d + 1) (d0 + 1)
              cases h1 : ext (fun _ => none) (d + 1) ns x with
              | none =>
                rw [h1] at this
                cases h2 : ext (fun _ => none) (d0 + 1) ns x with
                | none =>
                  unfold ext1
                  by_cases hx : n = x
                  · simp [hx, Nat.add_comm]
                  · simp [hx]
                | some k => rw [h2] at this; cases this
              | some k =>
                rw [h1] at this
                cases h2 : ext (fun _ => none) (d0 + 1) ns x with
                | none => rw [h2] at this; cases this
                | some k' =>
                  rw [h2] at this
                  simp only [Option.map_some, Option.some.injEq] at this
                  simp only [Option.some_or, Option.map_some, Option.some.injEq]
                  omega
          have := key p.1 d d0
          rw [e2, e2'] at this
          simp only [Option.map_some, Option.some.injEq] at this
          omega
        congr 2
        omega
      · rw [lx_out hm]
        try dsimp only
        rw [(ext_none p.1 d0 x).mpr hm]
        try dsimp only
        refine gl_congr (ρ x) fun y hy d'' hd' => ?_
        refine lx_out ?_
        intro hf
        obtain ⟨i, rfl, a, b⟩ := figs_ex hf
        exact h x ((mem_fv ht).mpr ⟨p, hp, hx, hm⟩) _ hy i a rfl
    · intro x hx y hy i hi e
      try dsimp only at hy
      by_cases hm : x ∈ p.1
      · obtain ⟨j, a, b, e1, e2⟩ := lx_in (E := F) (d := d0) hm (d' := 0)
        rw [e2] at hy
        simp only [Tm.fv, List.mem_cons, List.not_mem_nil, or_false] at hy
        rw [hy] at e
        have := natTx_inj e
        omega
      · rw [(ext_none p.1 d0 x).mpr hm] at hy
        exact h x ((mem_fv ht).mpr ⟨p, hp, hx, hm⟩) y hy i (by omega) e
    · intro x hx d'
      try dsimp only
      by_cases hm : x ∈ p.1
      · obtain ⟨j, a, b, e1, e2⟩ := lx_in (E := F) (d := d0) hm (d' := d')
        rw [e1, e2]
      · rw [lx_out hm, (ext_none p.1 d0 x).mpr hm]
        exact hF x ((mem_fv ht).mpr ⟨p, hp, hx, hm⟩) d'
  cases t with
  | nm x => rw [gl_nm, gl_nm, hF x (by simp [Tm.fv])]
  | fm k ps =>
    rw [gl_fm, gl_fm, gl_fm]
    simp only [List.map_map]
    congr 1
    refine List.map_congr_left fun p hp => ?_
    simp only [Function.comp, figs_len]
    rw [up (p := p) (by simp) hp]
  | hl k ts =>
    rw [gl_hl, gl_hl, gl_hl]
    simp only [List.map_map]
    congr 1
    refine List.map_congr_left fun u hu => ?_
    exact up (p := ([], u)) (by simp) (List.mem_map_of_mem hu)
  | lt x b w =>
    rw [gl_lt, gl_lt, gl_lt]
    have h1 := up (p := ([x], b)) (by simp) (by simp [Tm.inn])
    have h2 := up (p := ([], w)) (by simp) (by simp [Tm.inn])
    have e : figs d0 [x].length = [natTx d0] := by simp [figs]
    rw [e] at h1
    exact congr (congrArg _ h1) h2
theorem foldrM_le {l : List Nat} {n : Nat} (h : ∀ a ∈ l, a ≤ n) : l.foldr max 0 ≤ n := by
  induction l with
  | nil => exact Nat.zero_le _
  | cons a l ih =>
    simp only [List.foldr_cons]
    have := h a List.mem_cons_self
    have := ih fun b hb => h b (List.mem_cons_of_mem _ hb)
    omega
theorem gl_dep : ∀ (n : Nat) {t : Tm} {E : Tx → Nat → Tm} {d m : Nat}, t.dep ≤ n → (∀ x ∈ t.fv, ∀ d', (E x d').dep ≤ m) → (t.gl E d).dep ≤ n + m := by
  intro n
  induction n with
  | zero =>
    intro t E d m hd h
    cases t with
    | nm x => rw [gl_nm]; have := h x (by simp [Tm.fv]) d; omega
    | _ => simp [Tm.dep] at hd <;> omega
  | succ n ih =>
    intro t E d m hd h
    have up : ∀ {p : List Tx × Tm}, (∀ x, t ≠ .nm x) → p ∈ t.inn → (p.2.gl (lx E d p.1) (d + p.1.length)).dep ≤ n + m := fun {p} ht hp => by
      have := Tm.dep_inn hp
      refine ih (by omega) fun x hx d' => ?_
      by_cases hm : x ∈ p.1
      · obtain ⟨i, _, _, e1, e2⟩ := lx_in (E := E) (d := d) hm (d' := d')
        rw [e1]
        simp [Tm.dep]
      · rw [lx_out hm]
        exact h x ((mem_fv ht).mpr ⟨p, hp, hx, hm⟩) d'
    cases t with
    | nm x => rw [gl_nm]; have := h x (by simp [Tm.fv]) d; omega
    | fm k ps =>
      rw [gl_fm]
      simp only [Tm.dep, List.map_map]
      have := foldrM_le (l := ps.map ((fun p : List Tx × Tm => p.2.dep) ∘ fun p => (figs d p.1.length, p.2.gl (lx E d p.1) (d + p.1.length)))) (n := n + m) (by
        intro a ha
        obtain ⟨p, hp, rfl⟩ := List.mem_map.mp ha
        exact up (p := p) (by simp) hp)
      omega
    | hl k ts =>
      rw [gl_hl]
      simp only [Tm.dep, List.map_map]
      have := foldrM_le (l := ts.map ((fun t : Tm => t.dep) ∘ fun t => t.gl E d)) (n := n + m) (by
        intro a ha
        obtain ⟨p, hp, rfl⟩ := List.mem_map.mp ha
        exact up (p := ([], p)) (by simp) (List.mem_map_of_mem hp))
      omega
    | lt x b w =>
      rw [gl_lt]
      simp only [Tm.dep]
      have h1 := up (p := ([x], b)) (by simp) (by simp [Tm.inn])
      have h2 : (w.gl E d).dep ≤ n + m := up (p := ([], w)) (by simp) (by simp [Tm.inn])
      have h1 : (b.gl (lx E d [x]) (d + 1)).dep ≤ n + m := h1
      omega
theorem gl_wf {V : Voc} (hV : ∀ i, i < 1000 → V.nm (natTx i)) : ∀ (n : Nat) {t : Tm}, Wf V t → t.dep ≤ n → ∀ {E : Tx → Nat → Tm} {d : Nat}, (∀ x ∈ t.fv, ∀ d', Wf V (E x d')) → d + 4 * n ≤ 1000 → Wf V (t.gl E d) := by
  intro n
  induction n with
  | zero =>
    intro t hw hd E d h hn
    cases t with
    | nm x => rw [gl_nm]; exact h x (by simp [Tm.fv]) d
    | _ => simp [Tm.dep] at hd <;> omega
  | succ n ih =>
    intro t hw hd E d h hn
    have up : ∀ {p : List Tx × Tm}, (∀ x, t ≠ .nm x) → p ∈ t.inn → Wf V (p.2.gl (lx E d p.1) (d + p.1.length)) := fun {p} ht hp => by
      have := Tm.dep_inn hp
      obtain ⟨hwp, h4, _, _⟩ := hw.inn hp
      refine ih hwp (by omega) (fun x hx d' => ?_) (by omega)
      by_cases hm : x ∈ p.1
      · obtain ⟨i, a, b, e1, e2⟩ := lx_in (E := E) (d := d) hm (d' := d')
        rw [e1]
        exact .nm (hV i (by omega))
      · rw [lx_out hm]
        exact h x ((mem_fv ht).mpr ⟨p, hp, hx, hm⟩) d'
    cases hw with
    | @nm x hx => rw [gl_nm]; exact h x (by simp [Tm.fv]) d
    | @fm k ps h1 h2 h3 h4 =>
      rw [gl_fm]
      refine .fm h1 (by rw [List.length_map]; exact h2) ?_ ?_
      · intro p hp
        obtain ⟨q, hq, rfl⟩ := List.mem_map.mp hp
        obtain ⟨a, b, c⟩ := h3 q hq
        refine ⟨figs_nodup, by rw [figs_len]; exact b, ?_⟩
        intro n' hn'
        obtain ⟨i, rfl, _⟩ := figs_ex hn'
        exact hV i (by omega)
      · intro p hp
        obtain ⟨q, hq, rfl⟩ := List.mem_map.mp hp
        exact up (p := q) (by simp) hq
    | @hl k ts h1 h2 h3 =>
      rw [gl_hl]
      refine .hl (by rw [List.length_map]; exact h1) (by rw [List.length_map]; exact h2) ?_
      intro p hp
      obtain ⟨q, hq, rfl⟩ := List.mem_map.mp hp
      exact up (p := ([], q)) (by simp) (List.mem_map_of_mem hq)
    | @lt x b w hx hb hw' =>
      rw [gl_lt]
      exact .lt (hV d (by omega)) (up (p := ([x], b)) (by simp) (by simp [Tm.inn])) (up (p := ([], w)) (by simp) (by simp [Tm.inn]))
def prs (mk : Tx → P) (d : Nat) (ns : List Tx) : List (Ky × P) := (ns.zipIdx 0).map fun p => (Ky.str p.1, mk (natTx (d + p.2)))
theorem prs_keys {mk : Tx → P} {d : Nat} {ns : List Tx} : (prs mk d ns).map (·.1) = ns.map Ky.str := by
  unfold prs
  rw [List.map_map]
  have : ((fun x : Ky × P => x.1) ∘ fun p : Tx × Nat => (Ky.str p.1, mk (natTx (d + p.2)))) = Ky.str ∘ Prod.fst := rfl
  rw [this, ← List.map_map, List.zipIdx_map_fst]
theorem prs_nodup {mk : Tx → P} {d : Nat} {ns : List Tx} (h : ns.Nodup) : ((prs mk d ns).map (·.1)).Nodup := by
  rw [prs_keys]
  exact h.map (f := Ky.str) fun a b hab e => hab (by cases e; rfl)
theorem prs_len {mk : Tx → P} {d : Nat} {ns : List Tx} : (prs mk d ns).length = ns.length := by simp [prs]
theorem prs_get {mk : Tx → P} {d : Nat} : ∀ {ns : List Tx} {i : Nat} {x : Tx}, ns.Nodup → kget ((ns.zipIdx i).map fun p => (Ky.str p.1, mk (natTx (d + p.2)))) (.str x) = (ext (fun _ => none) (d + i) ns x).map fun j => mk (natTx j)
  | [], i, x, _ => rfl
  | n :: ns, i, x, h => by
    rw [List.nodup_cons] at h
    rw [List.zipIdx_cons, List.map_cons]
    show kget ((Ky.str n, mk (natTx (d + i))) :: _) (.str x) = (ext (ext1 (fun _ => none) n (d + i)) (d + i + 1) ns x).map _
    have ih := prs_get (mk := mk) (d := d) (ns := ns) (i := i + 1) (x := x) h.2
    rw [ext_or]
    by_cases hx : n = x
    · subst hx
      rw [(ext_none ns (d + i + 1) n).mpr h.1]
      simp [kget, ext1]
    · simp only [kget, Ky.str.injEq, hx, if_false]
      rw [ih]
      unfold ext1
      simp [hx, Nat.add_assoc]
def Dc (l : List (Ky × P)) (F : Tx → P) (t : Tm) : Prop := ∀ x ∈ t.fv, kget l (.str x) = some (F x)
theorem Dc.inn {l : List (Ky × P)} {mk : Tx → P} {g : Tx → Tx} {e : Tx → Option Nat} {d : Nat} {t : Tm} (h : Dc l (fun x => mk (vl g e x)) t) (ht : ∀ x, t ≠ .nm x) {p : List Tx × Tm} (hp : p ∈ t.inn) (hn : p.1.Nodup) :
    Dc (kmerge l (prs mk d p.1)) (fun x => mk (vl g (ext e d p.1) x)) p.2 := by
  intro x hx
  rw [kget_merge (prs_nodup hn)]
  have e1 : kget (prs mk d p.1) (.str x) = (ext (fun _ => none) (d + 0) p.1 x).map fun j => mk (natTx j) := prs_get hn
  rw [e1, Nat.add_zero]
  show _ = some (mk (vl g (ext e d p.1) x))
  unfold vl
  rw [ext_or p.1 e d x]
  cases h2 : ext (fun _ => none) d p.1 x with
  | some i => simp
  | none =>
    have := (ext_none p.1 d x).mp h2
    have h3 := h x ((mem_fv ht).mpr ⟨p, hp, hx, this⟩)
    unfold vl at h3
    simpa using h3
theorem Dc.put {l : List (Ky × P)} {mk : Tx → P} {g : Tx → Tx} {e : Tx → Option Nat} {d : Nat} {t : Tm} (h : Dc l (fun x => mk (vl g e x)) t) (ht : ∀ x, t ≠ .nm x) {z : Tx} {u : Tm} (hp : ([z], u) ∈ t.inn) :
    Dc (kput l (.str z) (mk (natTx d))) (fun x => mk (vl g (ext e d [z]) x)) u := by
  have := h.inn (d := d) ht hp (by simp)
  exact this
theorem figs_range {d k : Nat} : (figs d k).map P.str = (List.range k).map fun i => P.str (natTx (d + i)) := by
  unfold figs
  rw [List.map_map, List.range'_eq_map_range, List.map_map]
  rfl
theorem zip_figs {d : Nat} : ∀ (ns : List Tx) (i : Nat), zipL (ns.map P.str) ((List.range' (d + i) ns.length).map fun j => P.str (natTx j)) = (ns.zipIdx i).map fun p => P.tup [.str p.1, .str (natTx (d + p.2))]
  | [], i => rfl
  | n :: ns, i => by
    simp only [List.map_cons, List.length_cons, List.range'_succ, zipL, List.zipIdx_cons]
    rw [← zip_figs ns (i + 1)]
    rfl
theorem zip_own {d : Nat} {ns : List Tx} : zipL (ns.map P.str) ((figs d ns.length).map P.str) = (ns.zipIdx 0).map fun p => P.tup [.str p.1, .str (natTx (d + p.2))] := by
  have := zip_figs (d := d) ns 0
  rw [← this, Nat.add_zero]
  unfold figs
  rw [List.map_map]
  rfl
theorem toE_prs {mk : Tx → P} {d : Nat} : ∀ (l : List (Tx × Nat)), toEnts (l.map fun p => P.tup [.str p.1, mk (natTx (d + p.2))]) = some (l.map fun p => (Ky.str p.1, mk (natTx (d + p.2))))
  | [] => rfl
  | p :: l => by simp only [List.map_cons, toEnts, P.toKy, toE_prs l]
theorem rd_app {st st2 : Store} {dd : D} {p : P} (h : rd st dd = some p) : rd (st ++ st2) dd = some p := by
  cases dd with
  | p x => exact h
  | c x => exact h
  | r k =>
    have hk : k < st.length := by
      by_cases z : k < st.length
      · exact z
      · simp only [rd, List.getElem?_eq_none (Nat.le_of_not_lt z)] at h; cases h
    simp only [rd] at h ⊢
    rw [List.getElem?_append_left hk]
    exact h
def pl (ns : List Tx) (x : Tx) : Tx := natTx (ns.idxOf x)
theorem prs_at {mk : Tx → P} {d : Nat} {ns : List Tx} (h : ns.Nodup) {x : Tx} (hx : x ∈ ns) : kget (prs mk d ns) (.str x) = some (mk (natTx (d + ns.idxOf x))) := by
  have key : ∀ (ns : List Tx) (i : Nat), ns.Nodup → x ∈ ns → kget ((ns.zipIdx i).map fun p => (Ky.str p.1, mk (natTx (d + p.2)))) (.str x) = some (mk (natTx (d + (i + ns.idxOf x)))) := by
    intro ns
    induction ns with
    | nil => intro i _ h; cases h
    | cons n ns ih =>
      intro i h hx
      rw [List.nodup_cons] at h
      rw [List.zipIdx_cons, List.map_cons]
      by_cases hn : n = x
      · subst hn
        simp [kget, List.idxOf_cons]
      · have hx' : x ∈ ns := by
          rcases List.mem_cons.mp hx with e | e
          · exact absurd e.symm hn
          · exact e
        have := ih (i + 1) h.2 hx'
        simp only [kget, Ky.str.injEq, hn, if_false]
        rw [this, List.idxOf_cons]
        simp only [beq_iff_eq, hn, cond_eq_ite, if_false]
        congr 3
        omega
  have := key ns 0 h hx
  rw [Nat.zero_add] at this
  exact this
def Tm.neat (t : Tm) (ns : List Tx) : Tm := t.cl (pl ns) (fun _ => none) ns.length
abbrev nmQ (y : Tx) : P := .tup [.str sName, .str y]
def rx (ρ : Tx → Tm) (d : Nat) (ns : List Tx) (x : Tx) : Tm := match ext (fun _ => none) d ns x with
  | some i => .nm (natTx i)
  | none => ρ x
theorem lx_rx {ρ : Tx → Tm} {d : Nat} {ns : List Tx} : lx (fun x _ => ρ x) d ns = fun x _ => rx ρ d ns x := rfl
def Dt (l : List (Ky × P)) (ρ : Tx → Tm) (t : Tm) : Prop := ∀ x ∈ t.fv, kget l (.str x) = some (ρ x).enc
theorem Dt.inn {l : List (Ky × P)} {ρ : Tx → Tm} {d : Nat} {t : Tm} (h : Dt l ρ t) (ht : ∀ x, t ≠ .nm x) {p : List Tx × Tm} (hp : p ∈ t.inn) (hn : p.1.Nodup) : Dt (kmerge l (prs nmQ d p.1)) (rx ρ d p.1) p.2 := by
  intro x hx
  rw [kget_merge (prs_nodup hn)]
  have e1 : kget (prs nmQ d p.1) (.str x) = (ext (fun _ => none) (d + 0) p.1 x).map fun j => nmQ (natTx j) := prs_get hn
  rw [e1, Nat.add_zero]
  unfold rx
  cases h2 : ext (fun _ => none) d p.1 x with
  | some i => rw [Tm.enc_nm]; rfl
  | none =>
    have := (ext_none p.1 d x).mp h2
    rw [← h x ((mem_fv ht).mpr ⟨p, hp, hx, this⟩)]
    rfl
theorem Dt.put {l : List (Ky × P)} {ρ : Tx → Tm} {d : Nat} {t : Tm} (h : Dt l ρ t) (ht : ∀ x, t ≠ .nm x) {z : Tx} {u : Tm} (hp : ([z], u) ∈ t.inn) : Dt (kput l (.str z) (nmQ (natTx d))) (rx ρ d [z]) u := h.inn (d := d) ht hp (by simp)
theorem gvn_ev {T : Nat → Option Fn} (hT : T 80 = some fn80) : ∀ (n : Nat) {t : Tm}, Wf vS t → t.dep ≤ n → n ≤ 50 → ∀ {dd : D} {st : Store} {l : List (Ky × P)} {ρ : Tx → Tm} {d : Nat}, DD st dd l → Dt l ρ t → l.length + 10 * n ≤ 5000 → d + 10 * n ≤ 5000 →
    ∀ {k : Nat}, n ≤ k → callK T (k + 1) 80 [.p t.enc, dd, .p (.dic []), .p (.int (d : Nat))] st = .ok (.p (t.gl (fun x _ => ρ x) d).enc) st := by
  have hL := LINE_eq
  have hz2 : (2 : Nat) ≤ LINE := by omega
  have hz3 : (3 : Nat) ≤ LINE := by omega
  have hz4 : (4 : Nat) ≤ LINE := by omega
  have hz1 : (1 : Nat) ≤ LINE := by omega
  have hz0 : (0 : Nat) ≤ LINE := by omega
  have nm : ∀ {x : Tx} {dd : D} {st : Store} {l : List (Ky × P)} {ρ : Tx → Tm} {d k : Nat}, DD st dd l → Dt l ρ (.nm x) → callK T (k + 1) 80 [.p (Tm.nm x).enc, dd, .p (.dic []), .p (.int (d : Nat))] st = .ok (.p ((Tm.nm x).gl (fun x _ => ρ x) d).enc) st := by
    intro x dd st l ρ d k hl D
    refine To.run (call_end hT rfl ?_)
    unfold fn80
    have h := D x (by simp [Tm.fv])
    rw [Tm.enc_nm, gl_nm]
    rcases hl with rfl | ⟨k, rfl, hk⟩
    · simp_arith [h, Option.getD_some]
      exact Hide.of ⟨rfl, by simp⟩
    · simp_arith [hk, h, Option.getD_some]
      exact Hide.of ⟨rfl, by simp⟩
  intro n
  induction n with
  | zero =>
    intro t hw hd hn dd st l ρ d hl D hll hdd k hk
    cases t with
    | nm x => exact nm hl D
    | _ => simp [Tm.dep] at hd <;> omega
  | succ n ih =>
    intro t hw hd hn dd st l ρ d hl D hll hdd k hk
    obtain ⟨k, rfl⟩ : ∃ k', k = k' + 1 := ⟨k - 1, by omega⟩
    have hin : ∀ p ∈ t.inn, p.2.dep ≤ n := fun p hp => by have := Tm.dep_inn hp; omega
    cases hw with
    | @nm x hx => exact nm hl D
    | @fm f ps h1 h2 h3 h4 =>
      refine To.run (call_end hT rfl ?_)
      unfold fn80
      rw [Tm.enc_fm, gl_fm, Tm.enc_fm]
      simp_arith [hz0]
      let F : List Tx × Tm → P := fun p => .tup [.tup ((figs d p.1.length).map P.str), (p.2.gl (lx (fun x _ => ρ x) d p.1) (d + p.1.length)).enc]
      refine for_inv (fun rest δ st' => ∃ done more ext' x4 x5 x6 x7 x8 x9 x11 x12 x13 x14, ps = done ++ more ∧ rest = more.map (fun p => .tup [.tup (p.1.map P.str), p.2.enc]) ∧ st' = st ++ .lst (done.map F) :: ext' ∧
        δ = [some (.p (.tup [.str sForm, .str f, .tup (ps.map fun p => .tup [.tup (p.1.map P.str), p.2.enc])])), some dd, some (.p (.dic [])), some (.p (.int (d : Nat))), x4, x5, x6, x7, x8, x9, some (.r st.length), x11, x12, x13, x14])
        ⟨[], ps, [], _, _, _, _, _, _, _, _, _, _, rfl, rfl, rfl, rfl⟩ ?_ ?_
      · rintro y rr δ st' ⟨done, more, ext', x4, x5, x6, x7, x8, x9, x11, x12, x13, x14, hps, hmo, rfl, rfl⟩
        cases more with
        | nil => cases hmo
        | cons p more =>
        simp only [List.map_cons, List.cons.injEq] at hmo
        obtain ⟨rfl, rfl⟩ := hmo
        have hp : p ∈ ps := by rw [hps]; simp
        have hp4 := (h3 p hp).2.1
        have hpn := (h3 p hp).1
        have hnL : p.1.length ≤ LINE := by omega
        have hml := kmerge_len (m := prs nmQ d p.1) (l := l)
        rw [prs_len] at hml
        have h40 : (p.1.length : Int) < 2 ^ 40 ∧ -(2 ^ 40) < (p.1.length : Int) := by omega
        have hnt : ((p.1.length : Nat) : Int).toNat = p.1.length := by omega
        refine ⟨_, rfl, ?_⟩
        have hrd := (hl.app (st2 := .lst (done.map F) :: ext')).rd
        have hX0 : (st ++ MO.lst (done.map F) :: ext')[st.length]? = some (.lst (done.map F)) := at_c
        have hX1 : ∀ o, ((st ++ MO.lst (done.map F) :: ext') ++ [o])[st.length]? = some (.lst (done.map F)) := fun o => by rw [List.getElem?_append_left (List.getElem?_eq_some_iff.mp hX0).1]; exact hX0
        have hX2 : ∀ o a, ((st ++ MO.lst (done.map F) :: ext') ++ [o]).set st.length a = st ++ a :: (ext' ++ [o]) := fun o a => by rw [List.append_assoc, List.cons_append]; exact set_c
        have hDD : ∀ o, DD (st ++ MO.lst (done.map F) :: ext' ++ [o]) dd l := fun o => by rw [List.append_assoc]; exact hl.app
        generalize hX : st ++ MO.lst (done.map F) :: ext' = X at *
        simp_arith [hrd, hnL, h40, rngL0, hnt]
        refine comp_pure (fun i : Nat => .str (natTx (d + i))) (by rw [List.length_range]; exact hnL) ?_ ?_
        · intro i hi
          have hi := List.mem_range.mp hi
          refine ⟨_, rfl, ?_⟩
          have e1 : (d : Int) + (i : Nat) = ((d + i : Nat) : Int) := by omega
          have e2 : (0 : Int) ≤ ((d + i : Nat) : Int) ∧ ((d + i : Nat) : Int) < 10 ^ 18 := by omega
          simp_arith [e1, e2]
        · rw [← figs_range]
          have hpn' : kmerge [] (prs nmQ d p.1) = prs nmQ d p.1 := kmerge_nil (prs_nodup hpn)
          have hlz : l.length + p.1.length ≤ LINE := by omega
          have e3 : (d : Int) + (p.1.length : Nat) = ((d + p.1.length : Nat) : Int) := by omega
          simp_arith [zip_own, get_new]
          refine comp_pure (fun p : Tx × Nat => .tup [.str p.1, nmQ (natTx (d + p.2))]) (by simpa using hnL) ?_ ?_
          · intro q hq
            refine ⟨_, rfl, ?_⟩
            simp_arith [hz2]
          · have htE : toEnts ((p.1.zipIdx 0).map fun p => P.tup [.str p.1, nmQ (natTx (d + p.2))]) = some (prs nmQ d p.1) := toE_prs (mk := nmQ) _
            have gi := ih (h4 p hp) (hin p hp) (by omega) (dd := .r X.length) (st := X ++ [.dic (kmerge l (prs nmQ d p.1))]) (l := kmerge l (prs nmQ d p.1)) (ρ := rx ρ d p.1) (d := d + p.1.length) (.inr ⟨_, rfl, get_new⟩) (D.inn (by simp) hp hpn) (by omega) (by omega) (k := k) (by omega)
            have hdl : done.length < LINE := by
              have : done.length ≤ ps.length := by rw [hps]; simp
              omega
            simp_arith [htE, hpn', get_new, set_new, prs_len, hlz, gi, hnL, e3, hz2, hX1, hX2, hdl]
            exact Hide.of ⟨done ++ [p], more, ext' ++ [.dic (kmerge l (prs nmQ d p.1))], _, _, _, _, _, _, _, _, _, _, by rw [hps]; simp, rfl, by rw [List.map_append, List.map_cons, List.map_nil]; rfl, rfl⟩
      · rintro δ st' ⟨done, more, ext', x4, x5, x6, x7, x8, x9, x11, x12, x13, x14, hps, hmo, rfl, rfl⟩
        have hm : more = [] := by cases more with
          | nil => rfl
          | cons _ _ => simp at hmo
        subst hm
        rw [List.append_nil] at hps
        subst hps
        have hdl : ps.length ≤ LINE := by omega
        simp_arith [at_c, hz3, hdl]
        exact Hide.of ⟨by simp [F, Function.comp_def], by simp⟩
    | @hl h ts h1 h2 h3 =>
      refine To.run (call_end hT rfl ?_)
      unfold fn80
      rw [Tm.enc_hl, gl_hl, Tm.enc_hl]
      simp_arith []
      refine comp_pure (fun t => (t.gl (fun x _ => ρ x) d).enc) (by omega) ?_ ?_
      · intro t ht
        refine ⟨_, rfl, ?_⟩
        have g4 := ih (h3 t ht) (hin ([], t) (List.mem_map_of_mem ht)) (by omega) (dd := dd) (st := st) hl (fun x hx => D x ((mem_fv (by simp)).mpr ⟨([], t), List.mem_map_of_mem ht, hx, by simp⟩)) (by omega) (d := d) (by omega) (k := k) (by omega)
        simp_arith [g4]
      · have hk0 : ∀ st, cmpD .nin st (.p (.str h)) (.p (.dic [])) = some true := fun st => by simp [cmpD, rd, cmpP, P.toKy, kget]
        simp_arith [hz3, hk0]
        exact Hide.of ⟨by simp [Function.comp_def], by simp⟩
    | @lt x b w hx hb hw' =>
      refine To.run (call_end hT rfl ?_)
      unfold fn80
      rw [Tm.enc_lt, gl_lt, Tm.enc_lt]
      have hml := kput_len (l := l) (k := .str x) (p := nmQ (natTx d))
      have g5 := ih hw' (hin ([], w) (by simp [Tm.inn])) (by omega) (dd := dd) (st := st ++ [.dic (kput l (.str x) (nmQ (natTx d)))]) hl.app (fun x hx => D x ((mem_fv (by simp)).mpr ⟨([], w), by simp [Tm.inn], hx, by simp⟩)) (by omega) (d := d) (by omega) (k := k) (by omega)
      have g4 := ih hb (hin ([x], b) (by simp [Tm.inn])) (by omega) (dd := .r st.length) (st := st ++ [.dic (kput l (.str x) (nmQ (natTx d)))]) (.inr ⟨_, rfl, get_new⟩) (D.put (d := d) (z := x) (u := b) (by simp) (by simp [Tm.inn])) (by omega) (d := d + 1) (by omega) (k := k) (by omega)
      have e2 : (0 : Int) ≤ ((d : Nat) : Int) ∧ ((d : Nat) : Int) < 10 ^ 18 := by omega
      have e3 : (d : Int) + 1 = ((d + 1 : Nat) : Int) := by omega
      have hll2 : l.length < LINE := by omega
      have hsub : subM (.dic l) (.str x) (nmQ (natTx d)) = some (.dic (kput l (.str x) (nmQ (natTx d)))) := by
        show (if l.length < LINE then _ else none) = _
        rw [if_pos hll2]
        rfl
      simp_arith [hl.rd, get_new, set_new, e2, hz2, hsub, g5, e3, g4, hz4]
      exact Hide.of ⟨rfl, by simp⟩
theorem gneat_ev {T : Nat → Option Fn} (hT2 : T 80 = some fn80) (hT : T 81 = some fn81) {ns : List Tx} (hns : ns.Nodup) (hn4 : ns.length ≤ 100) {t : Tm} (hw : Wf vS t) (hd : t.dep ≤ 20) (hf : ∀ x ∈ t.fv, x ∈ ns) {k : Nat} (hk : 40 ≤ k) {st : Store} :
    callK T (k + 2) 81 [.p (.lst (ns.map P.str)), .p t.enc] st = .ok (.p (t.gl (fun x _ => .nm (pl ns x)) ns.length).enc) st := by
  refine To.run (call_end hT rfl ?_)
  unfold fn81
  have hL := LINE_eq
  have hz2 : (2 : Nat) ≤ LINE := by omega
  have hz0 : (0 : Nat) ≤ 15 := by omega
  have hnL : ns.length ≤ LINE := by omega
  simp_arith [enum_zip]
  refine comp_pure (fun p : Tx × Nat => .tup [.str p.1, nmQ (natTx p.2)]) (by simpa using hnL) ?_ ?_
  · intro p hp
    refine ⟨_, rfl, ?_⟩
    have hp2 := (List.mem_zipIdx hp).2.1
    have e2 : (0 : Int) ≤ ((p.2 : Nat) : Int) ∧ ((p.2 : Nat) : Int) < 10 ^ 18 := by omega
    simp_arith [hz2, e2]
  · have htE : toEnts (ns.zipIdx.map fun p => P.tup [.str p.1, nmQ (natTx p.2)]) = some (prs nmQ 0 ns) := by
      have := toE_prs (mk := nmQ) (d := 0) ns.zipIdx
      simp only [Nat.zero_add] at this
      rw [this]
      unfold prs
      simp only [Nat.zero_add]
    have hpn : kmerge [] (prs nmQ 0 ns) = prs nmQ 0 ns := kmerge_nil (prs_nodup hns)
    have km : kmerge [] [] = [] := rfl
    have g := fun st => gvn_ev (T := T) hT2 20 hw hd (by omega) (dd := .p (.dic (prs nmQ 0 ns))) (st := st) (l := prs nmQ 0 ns) (ρ := fun x => .nm (pl ns x)) (d := ns.length) (.inl rfl)
      (fun x hx => by rw [prs_at hns (hf x hx), Nat.zero_add, Tm.enc_nm]; rfl) (by rw [prs_len]; omega) (by omega) (k := k) (by omega)
    simp_arith [htE, hpn, g, hnL, hz0, km]
    exact Hide.of ⟨rfl, by simp⟩
theorem win_ev {T : Nat → Option Fn} {i : Nat} (hT : T i = some fn16) {V : Voc} {t : Tm} (hw : Wf V t) {k : Nat} {st : Store} : callK T (k + 1) i [.p t.enc] st = .ok (.p (.lst (t.inn.map ePart))) st := by
  refine To.run (call_end hT rfl ?_)
  unfold fn16
  have hL0 : (0 : Nat) ≤ LINE := by rw [LINE_eq]; omega
  have hL1 : (1 : Nat) ≤ LINE := by rw [LINE_eq]; omega
  have hL2 : (2 : Nat) ≤ LINE := by rw [LINE_eq]; omega
  cases hw with
  | nm hx =>
    rw [Tm.enc_nm]
    simp_arith [hL0]
    exact Hide.of ⟨by simp [Tm.inn], by simp⟩
  | @fm f ps h1 h2 h3 h4 =>
    rw [Tm.enc_fm]
    simp_arith []
    exact Hide.of ⟨by simp [Tm.inn, ePart], by simp⟩
  | @hl g ts h1 h2 h3 =>
    rw [Tm.enc_hl]
    simp_arith []
    refine comp_pure (fun t => .tup [.tup [], t.enc]) (by have := LINE_eq; omega) ?_ ?_
    · intro t ht
      refine ⟨_, rfl, ?_⟩
      simp_arith [hL0, hL2]
    · simp_arith []
      exact Hide.of ⟨by simp [Tm.inn, ePart], by simp⟩
  | @lt x b w h1 h2 h3 =>
    rw [Tm.enc_lt]
    simp_arith [hL0, hL1, hL2]
    exact Hide.of ⟨by simp [Tm.inn, ePart], by simp⟩
def Tm.hd : Tm → Tx
  | .nm _ => sName
  | .fm _ _ => sForm
  | .hl _ _ => sHole
  | .lt _ _ _ => sLet
def Px (st X : Store) : Prop := ∃ e, X = st ++ e
theorem Px.rf {st : Store} : Px st st := ⟨[], by simp⟩
theorem Px.app {st X e : Store} (h : Px st X) : Px st (X ++ e) := by obtain ⟨f, rfl⟩ := h; exact ⟨f ++ e, by simp⟩
theorem Px.set {st X : Store} {k : Nat} {o : MO} (h : Px st X) (hk : st.length ≤ k) : Px st (X.set k o) := by
  obtain ⟨f, rfl⟩ := h
  exact ⟨f.set (k - st.length) o, by rw [List.set_append_right _ _ hk]⟩
theorem Px.take {st X : Store} (h : Px st X) : X.take st.length = st := by obtain ⟨f, rfl⟩ := h; simp
theorem Px.get {st X : Store} {k : Nat} {o : MO} (h : Px st X) (e : st[k]? = some o) : X[k]? = some o := by
  obtain ⟨f, rfl⟩ := h
  rw [List.getElem?_append_left (List.getElem?_eq_some_iff.mp e).1]; exact e
theorem Px.len {st X : Store} (h : Px st X) : st.length ≤ X.length := by obtain ⟨f, rfl⟩ := h; simp
theorem get_lt {X : Store} {k : Nat} {o : MO} (h : X[k]? = some o) : k < X.length := (List.getElem?_eq_some_iff.mp h).1
theorem get_app {X e : Store} {k : Nat} {o : MO} (h : X[k]? = some o) : (X ++ e)[k]? = some o := by rw [List.getElem?_append_left (get_lt h)]; exact h
theorem set_bk {X : Store} {k : Nat} {o : MO} (h : X[k]? = some o) : X.set k o = X := by
  apply List.ext_getElem?
  intro i
  by_cases e : k = i
  · subst e; rw [List.getElem?_set_self (get_lt h), h]
  · rw [List.getElem?_set_ne e]
def kT (l : List Tx) : List (Ky × P) := l.map fun x => (Ky.str x, P.bl true)
theorem kT_keys {l : List Tx} : ((kT l).map fun e => e.1.toP) = l.map P.str := by simp [kT, Ky.toP]
theorem kT_len {l : List Tx} : (kT l).length = l.length := by simp [kT]
theorem kT_get {x : Tx} : ∀ {l : List Tx}, (kget (kT l) (.str x)).isSome = decide (x ∈ l)
  | [] => rfl
  | y :: l => by
    show (kget ((Ky.str y, P.bl true) :: kT l) (.str x)).isSome = _
    by_cases h : y = x
    · subst h; simp [kget]
    · simp only [kget, Ky.str.injEq, h, if_false, kT_get (l := l)]
      simp [Ne.symm h]
theorem kT_put {l : List Tx} {x : Tx} : kput (kT l) (.str x) (.bl true) = kT (one1T l x) := by
  unfold kput one1T
  rw [kT_get]
  by_cases h : x ∈ l
  · have h2 : (l.any fun y => y == x) = true := by simpa using h
    rw [if_pos (by simpa using h), h2, if_pos rfl]
    unfold kT
    rw [List.map_map]
    refine List.map_congr_left fun y hy => ?_
    simp only [Function.comp]
    split <;> rfl
  · have h2 : (l.any fun y => y == x) = false := by rw [List.any_eq_false]; intro y hy e; exact h ((beq_iff_eq.mp e) ▸ hy)
    rw [if_neg (by simpa using h), h2]
    simp [kT]
theorem kT_merge : ∀ {m l : List Tx}, kmerge (kT l) (kT m) = kT (m.foldl one1T l)
  | [], l => rfl
  | x :: m, l => by
    show kmerge (kput (kT l) (.str x) (.bl true)) (kT m) = _
    rw [kT_put, kT_merge]; rfl
theorem kT_ents : ∀ {l : List Tx}, toEnts (l.map fun x => P.tup [.str x, .bl true]) = some (kT l)
  | [] => rfl
  | x :: l => by simp only [List.map_cons, toEnts, P.toKy, kT_ents (l := l)]; rfl
theorem kT_nil {l : List Tx} : kmerge [] (kT l) = kT (uqT l) := kT_merge (l := [])
theorem inn_d {st : Store} {dd : D} {l : List (Ky × P)} {x : Tx} (h : rd st dd = some (.dic l)) : cmpD .inn st (.p (.str x)) dd = some ((kget l (.str x)).isSome) := by
  show (match rd st (.p (.str x)), rd st dd with | some p, some q => cmpP .inn p q | _, _ => none) = _
  rw [h]; simp [rd, cmpP, P.toKy]
theorem nin_d {st : Store} {dd : D} {l : List (Ky × P)} {x : Tx} (h : rd st dd = some (.dic l)) : cmpD .nin st (.p (.str x)) dd = some (!(kget l (.str x)).isSome) := by
  show (match rd st (.p (.str x)), rd st dd with | some p, some q => cmpP .nin p q | _, _ => none) = _
  rw [h]; simp [rd, cmpP, P.toKy]
theorem inn_sl {st : Store} {dd : D} {l : List Tx} {x : Tx} (h : rd st dd = some (.lst (l.map P.str))) : cmpD .inn st (.p (.str x)) dd = some (decide (x ∈ l)) := by
  have : cmpP .inn (.str x) (.lst (l.map P.str)) = some ((l.map P.str).any fun y => P.eqv y (.str x)) := by
    simp only [cmpP, flat_strs, P.flat, Bool.and_self, if_true]
  show (match rd st (.p (.str x)), rd st dd with | some p, some q => cmpP .inn p q | _, _ => none) = _
  rw [h]
  have e : rd st (.p (.str x)) = some (.str x) := rfl
  rw [e]
  show cmpP .inn (.str x) (.lst (l.map P.str)) = _
  rw [this, any_str]
theorem nin_st {st : Store} {l : List Tx} {x : Tx} : cmpD .nin st (.p (.str x)) (.p (.tup (l.map P.str))) = some (decide (x ∉ l)) := by
  have : cmpP .nin (.str x) (.tup (l.map P.str)) = some (!(l.map P.str).any fun y => P.eqv y (.str x)) := by
    simp only [cmpP, flat_strs, P.flat, Bool.and_self, if_true]
  show cmpP .nin (.str x) (.tup (l.map P.str)) = _
  rw [this, any_str]
  simp
theorem uq_in {a : List Tx} {x : Tx} (h : x ∈ a) : one1T a x = a := by
  unfold one1T
  rw [if_pos (by simpa using h)]
theorem uq_out {a : List Tx} {x : Tx} (h : x ∉ a) : one1T a x = a ++ [x] := by
  unfold one1T
  rw [if_neg (by intro z; obtain ⟨y, hy, e⟩ := List.any_eq_true.mp z; exact h ((beq_iff_eq.mp e) ▸ hy))]
theorem uqF_mem : ∀ (l a : List Tx) (x : Tx), x ∈ l.foldl one1T a ↔ x ∈ a ∨ x ∈ l := by
  intro l
  induction l with
  | nil => intro a x; simp
  | cons y l ih =>
    intro a x
    rw [List.foldl_cons, ih]
    by_cases h : y ∈ a
    · rw [uq_in h]
      constructor
      · rintro (h | h)
        · exact .inl h
        · exact .inr (List.mem_cons_of_mem _ h)
      · rintro (h' | h')
        · exact .inl h'
        · rcases List.mem_cons.mp h' with rfl | h'
          · exact .inl h
          · exact .inr h'
    · rw [uq_out h]
      simp only [List.mem_append, List.mem_cons, List.not_mem_nil, or_false, or_assoc]
theorem uq_filter (p : Tx → Bool) : ∀ (l a b : List Tx), ((l.foldl one1T b).filter p).foldl one1T a = (l.filter p).foldl one1T ((b.filter p).foldl one1T a) := by
  intro l
  induction l with
  | nil => intro a b; rfl
  | cons x l ih =>
    intro a b
    rw [List.foldl_cons, ih]
    by_cases h : x ∈ b
    · rw [uq_in h]
      by_cases hp : p x = true
      · rw [List.filter_cons_of_pos hp, List.foldl_cons, uq_in ((uqF_mem _ _ _).mpr (.inr (List.mem_filter.mpr ⟨h, hp⟩)))]
      · rw [List.filter_cons_of_neg hp]
    · rw [uq_out h, List.filter_append, List.foldl_append]
      by_cases hp : p x = true
      · rw [List.filter_cons_of_pos hp, List.filter_cons_of_pos hp]; rfl
      · rw [List.filter_cons_of_neg hp, List.filter_cons_of_neg hp]; rfl
theorem uqF_len : ∀ (l a : List Tx), (l.foldl one1T a).length ≤ a.length + l.length := by
  intro l
  induction l with
  | nil => intro a; exact Nat.le_refl _
  | cons x l ih =>
    intro a
    rw [List.foldl_cons]
    have := ih (one1T a x)
    by_cases h : x ∈ a
    · rw [uq_in h] at this ⊢; simp only [List.length_cons]; omega
    · rw [uq_out h] at this ⊢; simp only [List.length_cons, List.length_append, List.length_nil] at this ⊢; omega
theorem nof_ev {T : Nat → Option Fn} (hT1 : T 16 = some fn16) (hT : T 270 = some fn270) {V : Voc} : ∀ (n : Nat) {t : Tm}, Wf V t → t.dep ≤ n → n ≤ 11 → ∀ {k : Nat} {st : Store}, n + 1 ≤ k →
    callK T (k + 1) 270 [.p t.enc] st = .ok (.r st.length) (st ++ [.dic (kT (uqT t.fv))]) := by
  have hL := LINE_eq
  have hz0 : (0 : Nat) ≤ 15 := by omega
  have hz1 : (1 : Nat) ≤ 15 := by omega
  have hz2 : (2 : Nat) ≤ LINE := by omega
  have km : kmerge [] [] = [] := rfl
  have nm : ∀ {x : Tx} {k : Nat} {st : Store}, callK T (k + 1) 270 [.p (Tm.nm x).enc] st = .ok (.r st.length) (st ++ [.dic (kT (uqT (Tm.nm x).fv))]) := by
    intro x k st
    refine To.run (call_end hT rfl ?_)
    unfold fn270
    rw [Tm.enc_nm]
    have e : pairUp [.str x, .bl true] = some (kT [x]) := rfl
    have e2 : kmerge [] (kT [x]) = kT (uqT (Tm.nm x).fv) := by rw [Tm.fv]; rfl
    have hz : (kT [x]).length ≤ 15 := by simp [kT]
    simp_arith [e, hz, exp_new, e2]
    exact Hide.of ⟨rfl, rfl⟩
  intro n
  induction n with
  | zero =>
    intro t hw hd hn k st hk
    cases t with
    | nm x => exact nm
    | _ => simp [Tm.dep] at hd <;> omega
  | succ n ih =>
    intro t hw hd hn k st hk
    obtain ⟨k, rfl⟩ : ∃ k', k = k' + 1 := ⟨k - 1, by omega⟩
    by_cases hx : ∃ x, t = .nm x
    · obtain ⟨x, rfl⟩ := hx
      exact nm
    · have hx : ∀ x, t ≠ .nm x := fun x e => hx ⟨x, e⟩
      obtain ⟨w, r, he, hne⟩ : ∃ (w : Tx) (r : List P), t.enc = .tup (.str w :: r) ∧ (w == sName) = false := by
        cases t with
        | nm x => exact absurd rfl (hx x)
        | fm f ps => exact ⟨_, _, Tm.enc_fm, rfl⟩
        | hl f ps => exact ⟨_, _, Tm.enc_hl, rfl⟩
        | lt f ps => exact ⟨_, _, Tm.enc_lt, rfl⟩
      have hi := fun st => win_ev (T := T) hT1 hw (k := k) (st := st)
      have hlen := hw.len
      have h48 : 4 ^ n ≤ 4 ^ 10 := Nat.pow_le_pow_right (by omega) (by omega)
      have h47 : (4 : Nat) ^ 10 = 1048576 := by decide
      have i0 : idxP t.enc (.int 0) = some (.str w) := by rw [he]; simp_arith []
      refine To.run (call_end hT rfl ?_)
      unfold fn270
      have e0 : pairUp [] = some [] := rfl
      simp_arith [i0, hne, hi, hz0, e0, km]
      let F : List Tx × Tm → List Tx := fun p => p.2.fv.filter fun x => decide (x ∉ p.1)
      refine for_inv (fun rest δ st' => ∃ done more ext x2 x3 x4, t.inn = done ++ more ∧ rest = more.map ePart ∧ st' = st ++ .dic (kT ((done.map F).flatten.foldl one1T [])) :: ext ∧ δ = [some (.p t.enc), some (.r st.length), x2, x3, x4])
        ⟨[], t.inn, [], _, _, _, rfl, rfl, rfl, rfl⟩ ?_ ?_
      · rintro y rr δ st' ⟨done, more, ext, x2, x3, x4, hin, hmo, rfl, rfl⟩
        cases more with
        | nil => cases hmo
        | cons p more =>
        simp only [List.map_cons, List.cons.injEq] at hmo
        obtain ⟨rfl, rfl⟩ := hmo
        have hp : p ∈ t.inn := by rw [hin]; simp
        obtain ⟨hwp, hp4, _, _⟩ := hw.inn hp
        refine ⟨_, rfl, ?_⟩
        have hd' := Tm.dep_inn hp
        have hF : ∀ q ∈ t.inn, q.2.fv.length ≤ 4 ^ 10 := fun q hq => Nat.le_trans (fv_len n (hw.inn hq).1 (by have := Tm.dep_inn hq; omega)) h48
        have hdl := flat_len (l := done) (f := F) (b := 4 ^ 10) fun q hq => Nat.le_trans (List.length_filter_le _ _) (hF q (by rw [hin]; simp [hq]))
        have hdn : done.length ≤ 4 := by
          have : done.length ≤ t.inn.length := by rw [hin]; simp
          omega
        have hdm : done.length * 4 ^ 10 ≤ 4 * 4 ^ 10 := Nat.mul_le_mul_right _ hdn
        have hfp := hF p hp
        have hX0 : (st ++ MO.dic (kT ((done.map F).flatten.foldl one1T [])) :: ext)[st.length]? = some (.dic (kT ((done.map F).flatten.foldl one1T []))) := at_c
        have hX2 : ∀ (e : Store) a, ((st ++ MO.dic (kT ((done.map F).flatten.foldl one1T [])) :: ext) ++ e).set st.length a = st ++ a :: (ext ++ e) := fun e a => by rw [List.append_assoc, List.cons_append]; exact set_c
        have hlX : st.length < (st ++ MO.dic (kT ((done.map F).flatten.foldl one1T [])) :: ext).length := get_lt hX0
        generalize hX : st ++ MO.dic (kT ((done.map F).flatten.foldl one1T [])) :: ext = X at *
        have gi := ih hwp (by omega) (by omega) (k := k) (st := X) (by omega)
        have hul := uqF_len p.2.fv []
        have hul2 : (uqT p.2.fv).length ≤ 4 ^ 10 := by
          show (p.2.fv.foldl one1T []).length ≤ _
          simp only [List.length_nil] at hul
          omega
        have hX3 : ∀ o, ((X ++ [o])[st.length]?) = some (.dic (kT ((done.map F).flatten.foldl one1T []))) := fun o => get_app hX0
        simp_arith [hX0, gi, get_new, set_new, kT_keys]
        refine comp_filter (e := P.str) (fun x => decide (x ∉ p.1)) (fun x => P.tup [.str x, .bl true]) (by omega) ?_ ?_
        · intro x hx
          refine ⟨_, rfl, ?_, fun _ => by simp_arith [hz2]⟩
          simp_arith [nin_st]
        · have hul3 := List.length_filter_le (fun x => decide (x ∉ p.1)) (uqT p.2.fv)
          have hul4 := uqF_len (done.map F).flatten []
          have hsz : ((done.map F).flatten.foldl one1T []).length + ((uqT p.2.fv).filter fun x => decide (x ∉ p.1)).length ≤ LINE := by
            simp only [List.length_nil] at hul4
            omega
          have e1 : kmerge (kT ((done.map F).flatten.foldl one1T [])) (kT ((uqT p.2.fv).filter fun x => decide (x ∉ p.1))) = kT (((done ++ [p]).map F).flatten.foldl one1T []) := by
            rw [kT_merge]
            congr 1
            have := uq_filter (fun x => decide (x ∉ p.1)) p.2.fv ((done.map F).flatten.foldl one1T []) []
            unfold uqT
            rw [this]
            simp [F]
          simp_arith [get_new, set_new, hX3, kT_ents, kT_len, hsz, e1, hX2]
          exact Hide.of ⟨done ++ [p], more, _, _, _, _, by rw [hin]; simp, rfl, rfl, rfl⟩
      · rintro δ st' ⟨done, more, ext, x2, x3, x4, hin, hmo, rfl, rfl⟩
        have hm : more = [] := by cases more with
          | nil => rfl
          | cons _ _ => simp at hmo
        subst hm
        rw [List.append_nil] at hin
        subst hin
        have ef : (t.inn.map F).flatten.foldl one1T [] = uqT t.fv := by
          rw [Tm.fv_inn hx]; rfl
        rw [ef]
        have ex : ∀ (o : MO) (e : Store), exportD st.length (st ++ o :: e) (.r st.length) = .ok (.r st.length) (st ++ [o]) := fun o e => by
          unfold exportD
          simp
        simp_arith [ex]
        exact Hide.of ⟨rfl, rfl⟩
theorem while_inv {tst : Env → Store → R Bool} {body : Env → Store → R (Fl × Env)} {Q : Fl × Env → Store → Prop} (Pv : Nat → Env → Store → Prop)
    (hs : ∀ n δ st, Pv n δ st → To (tst δ st) fun b st1 => if b = true then ∃ n', n = n' + 1 ∧ To (body δ st1) fun f st2 => LpNx f st2 (fun δ2 st2 => Hide (Pv n' δ2 st2)) Q else Q (.nx, δ) st1) :
    ∀ (n fuel : Nat) {δ : Env} {st : Store}, n < fuel → Pv n δ st → To (whileL tst body fuel δ st) Q := by
  intro n
  induction n with
  | zero =>
    intro fuel δ st hf h
    obtain ⟨fuel, rfl⟩ : ∃ f, fuel = f + 1 := ⟨fuel - 1, by omega⟩
    rw [while_s]
    refine To.mono (hs 0 δ st h) fun b st1 h1 => ?_
    cases b with
    | true => rw [if_pos rfl] at h1; obtain ⟨n', e, _⟩ := h1; omega
    | false => exact h1
  | succ n ih =>
    intro fuel δ st hf h
    obtain ⟨fuel, rfl⟩ : ∃ f, fuel = f + 1 := ⟨fuel - 1, by omega⟩
    rw [while_s]
    refine To.mono (hs (n + 1) δ st h) fun b st1 h1 => ?_
    cases b with
    | false => exact h1
    | true =>
      rw [if_pos rfl] at h1 ⊢
      obtain ⟨n', e, h2⟩ := h1
      have e : n = n' := by omega
      subst e
      refine To.mono h2 fun f st2 h3 => ?_
      obtain ⟨g, δ2⟩ := f
      cases g with
      | nx => exact ih fuel (by omega) h3
      | ct => exact ih fuel (by omega) h3
      | bk => exact h3
      | rt d => exact h3
theorem fig_room {m : Nat} {l : List Tx} (h : ∀ i, i < m → natTx i ∈ l) : m ≤ l.length := by
  have := (figs_nodup (d := 0) (k := m)).length_le_of_subset (l₂ := l) fun y hy => by
    obtain ⟨i, rfl, _, b⟩ := figs_ex hy
    exact h i (by omega)
  rwa [figs_len] at this
theorem fresh_ev {T : Nat → Option Fn} (hT : T 106 = some fn106) {ns tk : List Tx} (hn : ns.length ≤ 4) (ht : tk.length ≤ 900) {dd : D} {st : Store} (hd : rd st dd = some (.dic (kT tk))) {k : Nat} :
    ∃ own : List Tx, callK T (k + 1) 106 [.p (.tup (ns.map P.str)), dd] st = .ok (.p (.tup (own.map P.str))) st ∧ own.length = ns.length ∧ own.Nodup ∧ ∀ y ∈ own, y ∉ tk ∧ (y ∈ ns ∨ ∃ i, i < 999 ∧ y = natTx i) := by
  suffices h : To (callK T (k + 1) 106 [.p (.tup (ns.map P.str)), dd] st) fun d st' => ∃ own : List Tx, d = .p (.tup (own.map P.str)) ∧ st' = st ∧ own.length = ns.length ∧ own.Nodup ∧ ∀ y ∈ own, y ∉ tk ∧ (y ∈ ns ∨ ∃ i, i < 999 ∧ y = natTx i) by
    obtain ⟨d, st', e, own, rfl, rfl, h1⟩ := h.eq
    exact ⟨own, e, h1⟩
  refine call_end hT rfl ?_
  unfold fn106
  have hL := LINE_eq
  have hz0 : (0 : Nat) ≤ LINE := by omega
  simp_arith [hz0]
  refine for_inv (fun rest δ st' => ∃ (done more told : List Tx) (m : Nat) (x4 : Option NH.D), ns = done ++ more ∧ rest = more.map P.str ∧ st' = st ++ [.lst (told.map P.str)] ∧ told.length = done.length ∧ told.Nodup ∧ (∀ y ∈ told, y ∉ tk ∧ (y ∈ ns ∨ ∃ i, i < 999 ∧ y = natTx i)) ∧ (∀ i, i < m → natTx i ∈ tk ++ told) ∧
    δ = [some (.p (.tup (ns.map P.str))), some dd, some (.r st.length), some (.p (.int (m : Nat))), x4])
    ⟨[], ns, [], 0, _, rfl, rfl, rfl, rfl, by simp, by simp, fun i h => by omega, rfl⟩ ?_ ?_
  · rintro y rr δ st' ⟨done, more, told, m, x4, hns, hmo, rfl, htl, htn, hto, hm, rfl⟩
    cases more with
    | nil => cases hmo
    | cons x more =>
    simp only [List.map_cons, List.cons.injEq] at hmo
    obtain ⟨rfl, rfl⟩ := hmo
    refine ⟨_, rfl, ?_⟩
    have hdl : done.length + 1 ≤ 4 := by
      have : ns.length = done.length + (more.length + 1) := by rw [hns]; simp
      omega
    have hrd : rd (st ++ [.lst (told.map P.str)]) dd = some (.dic (kT tk)) := rd_app hd
    have hrl : rd (st ++ [.lst (told.map P.str)]) (.r st.length) = some (.lst (told.map P.str)) := by rw [rd_r, get_new]; rfl
    have c1 : ∀ z, cmpD .inn (st ++ [.lst (told.map P.str)]) (.p (.str z)) dd = some (decide (z ∈ tk)) := fun z => by rw [inn_d hrd, kT_get]
    have c2 : ∀ z, cmpD .inn (st ++ [.lst (told.map P.str)]) (.p (.str z)) (.r st.length) = some (decide (z ∈ told)) := fun z => inn_sl hrl
    have hlb : (tk ++ told).length ≤ 904 := by rw [List.length_append]; omega
    simp_arith []
    refine while_inv (fun n δ st' => ∃ (z : Tx) (m : Nat), st' = st ++ [.lst (told.map P.str)] ∧ n = (tk ++ told).length + 1 - m ∧ m ≤ (tk ++ told).length + 1 ∧ (z ∈ ns ∨ ∃ i, i < m ∧ z = natTx i) ∧ (∀ i, i < m → natTx i ∈ tk ++ told ∨ natTx i = z) ∧
      δ = [some (.p (.tup (ns.map P.str))), some dd, some (.r st.length), some (.p (.int (m : Nat))), some (.p (.str z))]) ?_ ((tk ++ told).length + 1 - m) WH (by unfold WH; omega) ⟨x, m, rfl, rfl, Nat.le_succ_of_le (fig_room hm), .inl (by rw [hns]; simp), fun i hi => .inl (hm i hi), rfl⟩
    rintro n δ st' ⟨z, m, rfl, hnm, hmb, hz, hmz, rfl⟩
    by_cases hin : z ∈ tk ++ told
    · have hroom : m ≤ (tk ++ told).length := fig_room fun i hi => by
        rcases hmz i hi with h | h
        · exact h
        · rw [h]; exact hin
      have e2 : (0 : Int) ≤ ((m : Nat) : Int) ∧ ((m : Nat) : Int) < 10 ^ 18 := by omega
      have fin : ∃ (z' : Tx) (m' : Nat), st ++ [MO.lst (told.map P.str)] = st ++ [.lst (told.map P.str)] ∧ n - 1 = (tk ++ told).length + 1 - m' ∧ m' ≤ (tk ++ told).length + 1 ∧ (z' ∈ ns ∨ ∃ i, i < m' ∧ z' = natTx i) ∧ (∀ i, i < m' → natTx i ∈ tk ++ told ∨ natTx i = z') ∧
          [some (NH.D.p (.tup (ns.map P.str))), some dd, some (.r st.length), some (.p (.int ((m : Nat) + 1))), some (.p (.str (natTx m)))] = [some (.p (.tup (ns.map P.str))), some dd, some (.r st.length), some (.p (.int (m' : Nat))), some (.p (.str z'))] :=
        ⟨natTx m, m + 1, rfl, by omega, by omega, .inr ⟨m, by omega, rfl⟩, fun i hi => by
          by_cases e : i = m
          · exact .inr (by rw [e])
          · rcases hmz i (by omega) with h | h
            · exact .inl h
            · exact .inl (h ▸ hin), rfl⟩
      by_cases h1 : z ∈ tk
      · have d1 : decide (z ∈ tk) = true := by simp [h1]
        simp_arith [evT, c1, d1]
        refine ⟨n - 1, by omega, ?_⟩
        simp_arith [e2]
        exact Hide.of fin
      · have h2 : z ∈ told := by rcases List.mem_append.mp hin with h | h; exact absurd h h1; exact h
        have d1 : decide (z ∈ tk) = false := by simp [h1]
        have d2 : decide (z ∈ told) = true := by simp [h2]
        simp_arith [evT, c1, d1, c2, d2]
        refine ⟨n - 1, by omega, ?_⟩
        simp_arith [e2]
        exact Hide.of fin
    · have h1 : z ∉ tk := fun h => hin (List.mem_append.mpr (.inl h))
      have h2 : z ∉ told := fun h => hin (List.mem_append.mpr (.inr h))
      have d1 : decide (z ∈ tk) = false := by simp [h1]
      have d2 : decide (z ∈ told) = false := by simp [h2]
      have hz0 : told.length < LINE := by omega
      simp_arith [evT, c1, d1, c2, d2, get_new, set_new, hz0]
      refine Hide.of ⟨done ++ [x], more, told ++ [z], m, _, by rw [hns]; simp, rfl, by simp, by simp [htl], ?_, ?_, ?_, rfl⟩
      · rw [List.nodup_append]
        exact ⟨htn, by simp, fun a ha b hb e => by simp at hb; subst hb; exact h2 (e ▸ ha)⟩
      · intro y hy
        rcases List.mem_append.mp hy with hy | hy
        · exact hto y hy
        · simp only [List.mem_cons, List.not_mem_nil, or_false] at hy
          subst hy
          refine ⟨h1, ?_⟩
          rcases hz with hz | ⟨i, hi, rfl⟩
          · exact .inl hz
          · exact .inr ⟨i, by omega, rfl⟩
      · intro i hi
        rcases hmz i hi with h | h
        · rcases List.mem_append.mp h with h | h
          · exact List.mem_append.mpr (.inl h)
          · exact List.mem_append.mpr (.inr (by simp [h]))
        · rw [h]; simp
  · rintro δ st' ⟨done, more, told, m, x4, hns, hmo, rfl, htl, htn, hto, hm, rfl⟩
    have he : more = [] := by cases more with
      | nil => rfl
      | cons _ _ => simp at hmo
    subst he
    rw [List.append_nil] at hns
    subst hns
    simp_arith [get_new]
    exact Hide.of ⟨told, rfl, by simp, htl, htn, hto⟩
theorem uqF_nodup : ∀ (l a : List Tx), a.Nodup → (l.foldl one1T a).Nodup := by
  intro l
  induction l with
  | nil => intro a h; exact h
  | cons x l ih =>
    intro a h
    rw [List.foldl_cons]
    refine ih _ ?_
    by_cases hx : x ∈ a
    · rw [uq_in hx]; exact h
    · rw [uq_out hx, List.nodup_append]
      exact ⟨h, by simp, fun b hb c hc e => by simp at hc; subst hc; exact hx (e ▸ hb)⟩
theorem kmerge_app {l m : List (Ky × P)} (h : ((l ++ m).map (·.1)).Nodup) : kmerge l m = l ++ m := by
  induction m generalizing l with
  | nil => simp [kmerge]
  | cons a m ih =>
    show kmerge (kput l a.1 a.2) m = _
    have e : kput l a.1 a.2 = l ++ [a] := by
      unfold kput
      rw [if_neg]
      rw [kget_none]
      · simp
      · intro e he z
        rw [List.map_append, List.nodup_append] at h
        exact h.2.2 e.1 (List.mem_map_of_mem he) a.1 (by simp) z
    rw [e, ih]
    · simp
    · simpa using h
def dS (keys : List Tx) (σ : Tx → Tm) : List (Ky × P) := keys.map fun x => (Ky.str x, (σ x).enc)
theorem dS_keys {keys : List Tx} {σ : Tx → Tm} : ((dS keys σ).map fun e => e.1.toP) = keys.map P.str := by simp [dS, Ky.toP]
theorem dS_len {keys : List Tx} {σ : Tx → Tm} : (dS keys σ).length = keys.length := by simp [dS]
theorem dS_nodup {keys : List Tx} {σ : Tx → Tm} (h : keys.Nodup) : ((dS keys σ).map (·.1)).Nodup := by
  unfold dS
  rw [List.map_map]
  exact h.map (f := Ky.str) fun a b hab e => hab (by cases e; rfl)
theorem dS_get {σ : Tx → Tm} {x : Tx} : ∀ {keys : List Tx}, kget (dS keys σ) (.str x) = if x ∈ keys then some (σ x).enc else none
  | [] => by simp [dS, kget]
  | y :: keys => by
    show kget ((Ky.str y, (σ y).enc) :: dS keys σ) (.str x) = _
    by_cases h : y = x
    · subst h; simp [kget]
    · simp only [kget, Ky.str.injEq, h, if_false, dS_get (keys := keys)]
      simp [Ne.symm h]
theorem dS_ents {σ : Tx → Tm} : ∀ {keys : List Tx}, toEnts (keys.map fun x => P.tup [.str x, (σ x).enc]) = some (dS keys σ)
  | [] => rfl
  | x :: l => by simp only [List.map_cons, toEnts, P.toKy, dS_ents (keys := l)]; rfl
def ow : List Tx → List Tx → Tx → Tx
  | n :: ns, o :: os, x => if n = x then o else ow ns os x
  | _, _, x => x
theorem ow_at : ∀ {ns os : List Tx} {i : Nat} {x : Tx}, ns.Nodup → ns.length = os.length → ns[i]? = some x → os[i]? = some (ow ns os x)
  | [], _, i, x, _, _, h => by simp at h
  | n :: ns, [], i, x, _, e, _ => by simp at e
  | n :: ns, o :: os, i, x, hn, e, h => by
    rw [List.nodup_cons] at hn
    cases i with
    | zero =>
      simp only [List.getElem?_cons_zero, Option.some.injEq] at h
      subst h
      simp [ow]
    | succ i =>
      simp only [List.getElem?_cons_succ] at h
      have hx : n ≠ x := fun z => hn.1 (z ▸ List.mem_of_getElem? h)
      simp only [List.getElem?_cons_succ, ow, hx, if_false]
      exact ow_at hn.2 (by simpa using e) h
theorem ow_zip {F : Tx → P} : ∀ {ns os : List Tx}, ns.Nodup → ns.length = os.length → (ns.zip os).map (fun p => (Ky.str p.1, F p.2)) = ns.map fun x => (Ky.str x, F (ow ns os x))
  | [], os, _, _ => by simp
  | n :: ns, [], _, e => by simp at e
  | n :: ns, o :: os, hn, e => by
    rw [List.nodup_cons] at hn
    rw [List.zip_cons_cons, List.map_cons, List.map_cons, ow_zip hn.2 (by simpa using e)]
    congr 1
    · simp [ow]
    · refine List.map_congr_left fun x hx => ?_
      have : n ≠ x := fun z => hn.1 (z ▸ hx)
      simp [ow, this]
theorem zipL_str : ∀ {ns os : List Tx}, zipL (ns.map P.str) (os.map P.str) = (ns.zip os).map fun p => P.tup [.str p.1, .str p.2]
  | [], os => by cases os <;> rfl
  | n :: ns, [] => rfl
  | n :: ns, o :: os => by
    simp only [List.map_cons, List.zip_cons_cons]
    show _ :: _ = _
    rw [zipL_str]
abbrev nmZ (y : Tx) : P := .tup [.str sName, .str y]
theorem zip_ents : ∀ {l : List (Tx × Tx)}, toEnts (l.map fun p => P.tup [.str p.1, nmZ p.2]) = some (l.map fun p => (Ky.str p.1, nmZ p.2))
  | [] => rfl
  | x :: l => by simp only [List.map_cons, toEnts, P.toKy, zip_ents (l := l)]
def sgU (σ : Tx → Tm) (hk ns os : List Tx) (x : Tx) : Tm := if x ∈ ns then .nm (ow ns os x) else if x ∈ hk then σ x else .nm x
theorem dS_up {σ : Tx → Tm} {hk ns os : List Tx} (hh : hk.Nodup) (hn : ns.Nodup) (hd : ∀ x ∈ hk, x ∉ ns) (e : ns.length = os.length) : kmerge (dS hk σ) ((ns.zip os).map fun p => (Ky.str p.1, nmZ p.2)) = dS (hk ++ ns) (sgU σ hk ns os) := by
  have e1 : (ns.zip os).map (fun p => (Ky.str p.1, nmZ p.2)) = ns.map fun x => (Ky.str x, (sgU σ hk ns os x).enc) := by
    rw [ow_zip (F := nmZ) hn e]
    refine List.map_congr_left fun x hx => ?_
    unfold sgU
    rw [if_pos hx, Tm.enc_nm]
  have e2 : dS hk σ = hk.map fun x => (Ky.str x, (sgU σ hk ns os x).enc) := by
    refine List.map_congr_left fun x hx => ?_
    unfold sgU
    rw [if_neg (hd x hx), if_pos hx]
  have e3 : dS hk σ ++ ns.map (fun x => (Ky.str x, (sgU σ hk ns os x).enc)) = dS (hk ++ ns) (sgU σ hk ns os) := by
    rw [e2, ← List.map_append]; rfl
  rw [e1, kmerge_app, e3]
  rw [e3]
  exact dS_nodup (by
    rw [List.nodup_append]
    exact ⟨hh, hn, fun a ha b hb z => hd a ha (z ▸ hb)⟩)
def tkF (σ : Tx → Tm) (hk : List Tx) (t0 : List Tx) : List Tx := hk.foldl (fun a x => (uqT (σ x).fv).foldl one1T a) t0
theorem tkF_mem {σ : Tx → Tm} : ∀ {hk t0 : List Tx} {y : Tx}, y ∈ tkF σ hk t0 ↔ y ∈ t0 ∨ ∃ x ∈ hk, y ∈ (σ x).fv := by
  intro hk
  induction hk with
  | nil => intro t0 y; simp [tkF]
  | cons x hk ih =>
    intro t0 y
    show y ∈ tkF σ hk _ ↔ _
    rw [ih, uqF_mem, uqT_iff]
    simp only [List.mem_cons, exists_eq_or_imp, or_assoc]
theorem tkF_nodup {σ : Tx → Tm} : ∀ {hk t0 : List Tx}, t0.Nodup → (tkF σ hk t0).Nodup := by
  intro hk
  induction hk with
  | nil => intro t0 h; exact h
  | cons x hk ih =>
    intro t0 h
    exact ih (uqF_nodup _ _ h)
theorem tkF_snoc {σ : Tx → Tm} {hk t0 : List Tx} {x : Tx} : tkF σ (hk ++ [x]) t0 = (uqT (σ x).fv).foldl one1T (tkF σ hk t0) := by
  unfold tkF
  rw [List.foldl_append]; rfl
section
variable {st e : Store} {a b c a' : MO}
theorem at1 : (st ++ a :: b :: e)[st.length + 1]? = some b := by rw [List.getElem?_append_right (by omega), Nat.add_sub_cancel_left]; rfl
theorem at2 : (st ++ a :: b :: c :: e)[st.length + 2]? = some c := by rw [List.getElem?_append_right (by omega), Nat.add_sub_cancel_left]; rfl
theorem sa1 : (st ++ a :: b :: e).set (st.length + 1) a' = st ++ a :: a' :: e := by rw [List.set_append_right _ _ (by omega), Nat.add_sub_cancel_left]; rfl
theorem sa2 : (st ++ a :: b :: c :: e).set (st.length + 2) a' = st ++ a :: b :: a' :: e := by rw [List.set_append_right _ _ (by omega), Nat.add_sub_cancel_left]; rfl
end
theorem take_l {st e : Store} : (st ++ e).take st.length = st := by simp
theorem under_ev {T : Nat → Option Fn} (hT16 : T 16 = some fn16) (hT106 : T 106 = some fn106) (hT270 : T 270 = some fn270) (hT : T 274 = some fn274) {V : Voc} {m : Nat} (hm : m ≤ 11) {n : Nat} (hn : n ≤ 11) {ns : List Tx} {t : Tm} (hns : ns.Nodup) (hn4 : ns.length ≤ 4) (hw : Wf V t) (hd : t.dep ≤ n)
    {keys : List Tx} {σ : Tx → Tm} {L : List Tx} (hk : keys.Nodup) (hkl : keys.length ≤ 900) (hko : ∀ x, x ∉ keys → σ x = .nm x) (hs : ∀ x ∈ t.fv, x ∉ ns → Wf V (σ x) ∧ (σ x).dep ≤ m ∧ ∀ y ∈ (σ x).fv, y ∈ L) (hLl : L.length ≤ 900)
    {kk : Nat} {st : Store} (hst : st[kk]? = some (.dic (dS keys σ))) {k : Nat} (hnk : n + 2 ≤ k) (hmk : m + 2 ≤ k) :
    ∃ (os hk' : List Tx) (kh : Nat) (X : Store), os.length = ns.length ∧ os.Nodup ∧ (∀ y ∈ os, y ∈ ns ∨ ∃ i, i < 999 ∧ y = natTx i) ∧ (∀ x ∈ t.fv, x ∉ ns → ∀ y ∈ (σ x).fv, y ∉ os) ∧ hk'.Nodup ∧ (∀ x ∈ hk', x ∉ ns) ∧ hk'.length ≤ keys.length ∧ (∀ x ∈ t.fv, x ∉ ns → x ∉ hk' → σ x = .nm x) ∧
      X[kh]? = some (.dic (dS (hk' ++ ns) (sgU σ hk' ns os))) ∧ ∀ u : Tm, callK T k 275 [.p t.enc, .r kh] X = .ok (.p u.enc) X → callK T (k + 1) 274 [.p (.tup (ns.map P.str)), .p t.enc, .r kk] st = .ok (.p (.tup [.tup (os.map P.str), u.enc])) st := by
  have hL := LINE_eq
  obtain ⟨k, rfl⟩ : ∃ k', k = k' + 1 := ⟨k - 1, by omega⟩
  have hF : ∀ x, x ∈ uqT t.fv ↔ x ∈ t.fv := uqT_iff t.fv
  have hFl : (uqT t.fv).length ≤ 4 ^ 11 := by
    have h1 := uqF_len t.fv []
    have h2 := fv_len n hw hd
    have h3 : 4 ^ n ≤ 4 ^ 11 := Nat.pow_le_pow_right (by omega) hn
    simp only [List.length_nil, Nat.zero_add] at h1
    exact Nat.le_trans h1 (Nat.le_trans h2 h3)
  have h411 : (4 : Nat) ^ 11 = 4194304 := by decide
  obtain ⟨F, eF⟩ : ∃ F, F = uqT t.fv := ⟨_, rfl⟩
  have hFn : F.Nodup := by rw [eF]; exact uqF_nodup _ _ (by simp)
  rw [← eF] at hF hFl
  obtain ⟨hk', ehk⟩ : ∃ h, h = keys.filter fun x => decide (x ∈ F) && decide (x ∉ ns) := ⟨_, rfl⟩
  have hhm : ∀ x, x ∈ hk' ↔ x ∈ keys ∧ x ∈ t.fv ∧ x ∉ ns := fun x => by rw [ehk, List.mem_filter]; simp [hF]
  have hhn : hk'.Nodup := by rw [ehk]; exact hk.filter _
  have hhl : hk'.length ≤ keys.length := by rw [ehk]; exact List.length_filter_le _ _
  obtain ⟨t0, et0⟩ : ∃ h, h = F.filter fun x => decide (x ∉ ns) && decide (x ∉ hk') := ⟨_, rfl⟩
  have ht0 : ∀ x, x ∈ t0 ↔ x ∈ t.fv ∧ x ∉ ns ∧ x ∉ hk' := fun x => by rw [et0, List.mem_filter]; simp [hF]
  have ht0n : t0.Nodup := by rw [et0]; exact hFn.filter _
  have htn := tkF_nodup (σ := σ) (hk := hk') ht0n
  have htL : ∀ y ∈ tkF σ hk' t0, y ∈ L := fun y hy => by
    rcases tkF_mem.mp hy with h | ⟨x, hx, h⟩
    · obtain ⟨a, b, c⟩ := (ht0 y).mp h
      have e := hko y fun z => c ((hhm y).mpr ⟨z, a, b⟩)
      exact (hs y a b).2.2 y (by rw [e]; simp [Tm.fv])
    · obtain ⟨_, a, b⟩ := (hhm x).mp hx
      exact (hs x a b).2.2 y h
  have htl : (tkF σ hk' t0).length ≤ 900 := Nat.le_trans (htn.length_le_of_subset htL) hLl
  have hX4 : rd (st ++ .dic (kT F) :: .dic (dS hk' σ) :: .dic (kT (tkF σ hk' t0)) :: List.replicate hk'.length MO.dead) (.r (st.length + 2)) = some (.dic (kT (tkF σ hk' t0))) := by rw [rd_r, at2]; rfl
  obtain ⟨os, eo, hol, hon, hot⟩ := fresh_ev (T := T) hT106 (ns := ns) hn4 htl hX4 (k := k)
  refine ⟨os, hk', st.length + 1, st ++ .dic (kT F) :: .dic (dS (hk' ++ ns) (sgU σ hk' ns os)) :: .dic (kT (tkF σ hk' t0)) :: List.replicate hk'.length MO.dead, hol, hon, fun y hy => (hot y hy).2, ?_, hhn, fun x hx => ((hhm x).mp hx).2.2, hhl, ?_, at1, ?_⟩
  · intro x hx hxn y hy hyo
    refine (hot y hyo).1 (tkF_mem.mpr ?_)
    by_cases h : x ∈ hk'
    · exact .inr ⟨x, h, hy⟩
    · have e := hko x fun z => h ((hhm x).mpr ⟨z, hx, hxn⟩)
      rw [e] at hy
      simp only [Tm.fv, List.mem_cons, List.not_mem_nil, or_false] at hy
      subst hy
      exact .inl ((ht0 y).mpr ⟨hx, hxn, h⟩)
  · intro x hx hxn h
    exact hko x fun z => h ((hhm x).mpr ⟨z, hx, hxn⟩)
  · intro u hu
    refine To.run (call_end hT rfl ?_)
    unfold fn274
    have hz2 : (2 : Nat) ≤ LINE := by omega
    have g1 := nof_ev (T := T) hT16 hT270 n hw hd hn (k := k) (st := st) (by omega)
    rw [← eF] at g1
    have hkl2 : kk < st.length := get_lt hst
    have hkX : ∀ e : Store, (st ++ e)[kk]? = some (.dic (dS keys σ)) := fun e => get_app hst
    have hY1 : ∀ e : Store, ((st ++ e).set kk (.dicL (dS keys σ)))[kk]? = some (.dicL (dS keys σ)) := fun e => set_some (hkX e)
    have hY2 : ∀ o : MO, ((st ++ [o]).set kk (.dicL (dS keys σ)))[st.length]? = some o := fun o => by rw [List.getElem?_set_ne (by omega), get_new]
    have hY3 : ∀ e : Store, (st ++ e).set kk (.dic (dS keys σ)) = st ++ e := fun e => set_bk (hkX e)
    simp_arith [g1, hkX, dS_keys]
    refine comp_filter (e := P.str) (fun x => decide (x ∈ F) && decide (x ∉ ns)) (fun x => P.tup [.str x, (σ x).enc]) (by omega) ?_ ?_
    · intro x hx
      refine ⟨_, rfl, ?_, fun _ => ?_⟩
      · have c1 : cmpD .inn ((st ++ [MO.dic (kT F)]).set kk (.dicL (dS keys σ))) (.p (.str x)) (.r st.length) = some (decide (x ∈ F)) := by
          rw [inn_d (l := kT F) (by rw [rd_r, hY2]; rfl), kT_get]
        by_cases h : x ∈ F
        · have d1 : decide (x ∈ F) = true := by simp [h]
          by_cases h2 : x ∈ ns
          · have d2 : decide (x ∉ ns) = false := by simp [h2]
            simp_arith [c1, d1, nin_st, d2]
          · have d2 : decide (x ∉ ns) = true := by simp [h2]
            simp_arith [c1, d1, nin_st, d2]
        · have d1 : decide (x ∈ F) = false := by simp [h]
          simp_arith [c1, d1, nin_st]
      · have e1 : kget (dS keys σ) (.str x) = some (σ x).enc := by rw [dS_get, if_pos hx]
        simp_arith [hY1, e1, hz2]
    · rw [← ehk]
      have km : kmerge [] (dS hk' σ) = dS hk' σ := kmerge_nil (dS_nodup hhn)
      have km0 : kmerge [] (kT t0) = kT t0 := by
        rw [kT_nil]
        show kT (t0.foldl one1T []) = _
        have : ∀ (l a : List Tx), (a ++ l).Nodup → l.foldl one1T a = a ++ l := by
          intro l
          induction l with
          | nil => intro a _; simp
          | cons x l ih =>
            intro a h
            rw [List.foldl_cons, uq_out, ih]
            · simp
            · simpa using h
            · intro z
              rw [List.nodup_append] at h
              exact h.2.2 x z x List.mem_cons_self rfl
        rw [this t0 [] (by simpa using ht0n)]
        rfl
      have hW1 : ((st ++ [MO.dic (kT F), .dic (dS hk' σ)]).set st.length (.dicL (kT F)))[st.length + 1]? = some (.dic (dS hk' σ)) := by rw [List.getElem?_set_ne (by omega), at1]
      simp_arith [hY1, hY3, dS_ents, km, List.append_assoc, at_c, kT_keys, List.length_append]
      refine comp_filter (e := P.str) (fun x => decide (x ∉ ns) && decide (x ∉ hk')) (fun x => P.tup [.str x, .bl true]) (by omega) ?_ ?_
      · intro x hx
        refine ⟨_, rfl, ?_, fun _ => by simp_arith [hz2]⟩
        have c1 : cmpD .nin (st ++ [MO.dicL (kT F), .dic (dS hk' σ)]) (.p (.str x)) (.r (st.length + 1)) = some (decide (x ∉ hk')) := by
          rw [nin_d (l := dS hk' σ) (by rw [rd_r, at1]; rfl), dS_get]
          by_cases h : x ∈ hk' <;> simp [h]
        by_cases h : x ∈ ns
        · have d1 : decide (x ∉ ns) = false := by simp [h]
          simp_arith [set_c, c1, d1, nin_st]
        · have d1 : decide (x ∉ ns) = true := by simp [h]
          by_cases h2 : x ∈ hk'
          · have d2 : decide (x ∉ hk') = false := by simp [h2]
            simp_arith [set_c, c1, d1, nin_st, d2]
          · have d2 : decide (x ∉ hk') = true := by simp [h2]
            simp_arith [set_c, c1, d1, nin_st, d2]
      · rw [← et0]
        simp_arith [set_c, at_c, kT_ents, km0, List.append_assoc, List.length_append, at1, sa1, dS_keys]
        refine for_inv (fun rest δ st' => ∃ (done more : List Tx) (x5 x7 x8 : Option NH.D), hk' = done ++ more ∧ rest = more.map P.str ∧ st' = st ++ .dic (kT F) :: .dicL (dS hk' σ) :: .dic (kT (tkF σ done t0)) :: List.replicate done.length MO.dead ∧
          δ = [some (.p (.tup (ns.map P.str))), some (.p t.enc), some (.r kk), some (.r st.length), some (.r (st.length + 1)), x5, some (.r (st.length + 2)), x7, x8])
          ⟨[], hk', _, _, _, rfl, rfl, rfl, rfl⟩ ?_ ?_
        · rintro y rr δ st' ⟨done, more, x5, x7, x8, hhk, hmo, rfl, rfl⟩
          cases more with
          | nil => cases hmo
          | cons x more =>
          simp only [List.map_cons, List.cons.injEq] at hmo
          obtain ⟨rfl, rfl⟩ := hmo
          have hx : x ∈ hk' := by rw [hhk]; simp
          obtain ⟨hxk, hxf, hxn⟩ := (hhm x).mp hx
          obtain ⟨w1, w2, w3⟩ := hs x hxf hxn
          refine ⟨_, rfl, ?_⟩
          have e1 : kget (dS hk' σ) (.str x) = some (σ x).enc := by rw [dS_get, if_pos hx]
          have g2 := fun st => nof_ev (T := T) hT16 hT270 m w1 w2 hm (k := k) (st := st) (by omega)
          have ez : List.replicate done.length MO.dead ++ [MO.dead] = List.replicate (done ++ [x]).length MO.dead := by
            rw [List.length_append, List.length_singleton, List.replicate_succ']
          have htd : ∀ d2 : List Tx, (∀ z ∈ d2, z ∈ hk') → (tkF σ d2 t0).length ≤ 900 := fun d2 h2 => Nat.le_trans ((tkF_nodup ht0n).length_le_of_subset fun z hz => htL z (tkF_mem.mpr (by
            rcases tkF_mem.mp hz with h | ⟨a, b, c⟩
            · exact .inl h
            · exact .inr ⟨a, h2 a b, c⟩))) hLl
          have h1 := htd done fun z hz => by rw [hhk]; simp [hz]
          have h2 : (uqT (σ x).fv).length ≤ 4 ^ 11 := by
            have h1 := uqF_len (σ x).fv []
            have h2 := fv_len m w1 w2
            have h3 : 4 ^ m ≤ 4 ^ 11 := Nat.pow_le_pow_right (by omega) hm
            simp only [List.length_nil, Nat.zero_add] at h1
            exact Nat.le_trans h1 (Nat.le_trans h2 h3)
          have hsz : (tkF σ done t0).length + (uqT (σ x).fv).length ≤ LINE := by omega
          have hfin : ∃ (done' more' : List Tx) (x5 x7' x8' : Option NH.D), hk' = done' ++ more' ∧ more.map P.str = more'.map P.str ∧ st ++ MO.dic (kT F) :: .dicL (dS hk' σ) :: .dic (kT ((uqT (σ x).fv).foldl one1T (tkF σ done t0))) :: (List.replicate done.length MO.dead ++ [MO.dead]) = st ++ .dic (kT F) :: .dicL (dS hk' σ) :: .dic (kT (tkF σ done' t0)) :: List.replicate done'.length MO.dead ∧
              [some (NH.D.p (.tup (ns.map P.str))), some (.p t.enc), some (.r kk), some (.r st.length), some (.r (st.length + 1)), some (.p (.str x)), some (.r (st.length + 2)), x7, x8] = [some (.p (.tup (ns.map P.str))), some (.p t.enc), some (.r kk), some (.r st.length), some (.r (st.length + 1)), x5, some (.r (st.length + 2)), x7', x8'] :=
            ⟨done ++ [x], more, _, _, _, by rw [hhk]; simp, rfl, by rw [tkF_snoc, ez], rfl⟩
          have hZ : ∀ (A B C o : MO) (e : Store), (st ++ A :: B :: C :: (e ++ [o]))[(st ++ A :: B :: C :: e).length]? = some o := fun A B C o e => by
            have := get_new (st := st ++ A :: B :: C :: e) (o := o)
            simpa using this
          have hZs : ∀ (A B C o o' : MO) (e : Store), (st ++ A :: B :: C :: (e ++ [o])).set (st ++ A :: B :: C :: e).length o' = st ++ A :: B :: C :: (e ++ [o']) := fun A B C o o' e => by
            have := set_new (st := st ++ A :: B :: C :: e) (o := o) (o' := o')
            simpa using this
          simp_arith [at1, at2, e1, g2, List.append_assoc, hZ, hZs, kT_len, hsz, kT_merge, sa2]
          exact Hide.of hfin
        · rintro δ st' ⟨done, more, x5, x7, x8, hhk, hmo, rfl, rfl⟩
          have he : more = [] := by cases more with
            | nil => rfl
            | cons _ _ => simp at hmo
          subst he
          rw [List.append_nil] at hhk
          subst hhk
          have hnL : ns.length ≤ LINE := by omega
          have hzl : (ns.zip os).length ≤ LINE := by
            have := List.length_zip (l₁ := ns) (l₂ := os)
            omega
          simp_arith [at1, sa1, eo, hol, hnL, zipL_str]
          refine comp_pure (e := fun p : Tx × Tx => P.tup [.str p.1, .str p.2]) (fun p => P.tup [.str p.1, nmZ p.2]) hzl ?_ ?_
          · intro p hp
            refine ⟨_, rfl, ?_⟩
            simp_arith [hz2]
          · have hd2 := dS_up (σ := σ) hhn hns (fun x hx => ((hhm x).mp hx).2.2) hol.symm
            have hsz : hk'.length + (ns.zip os).length ≤ LINE := by
              have := List.length_zip (l₁ := ns) (l₂ := os)
              omega
            simp_arith [at1, sa1, zip_ents, dS_len, hsz, hd2, hu, hz2]
            exact Hide.of ⟨rfl, by simp⟩
open Classical in
theorem pick {α β : Type} [Inhabited β] {l : List α} {G : α → β → Prop} (h : ∀ a ∈ l, ∃ b, G a b) : ∃ f : α → β, ∀ a ∈ l, G a (f a) :=
  ⟨fun a => if h2 : a ∈ l then Classical.choose (h a h2) else default, fun a m => by
    show G a (if h2 : a ∈ l then Classical.choose (h a h2) else default)
    rw [dif_pos m]; exact Classical.choose_spec (h a m)⟩
structure Put (V : Voc) (b : Nat) (L : List Tx) (σ : Tx → Tm) (t u : Tm) : Prop where
  wf : Wf V u
  dep : u.dep ≤ b
  fv : ∀ y ∈ u.fv, y ∈ L
  gl : ∀ E d, u.gl E d = t.gl (fun x d' => (σ x).gl E d') d
structure PutP (V : Voc) (b : Nat) (L : List Tx) (σ : Tx → Tm) (p q : List Tx × Tm) : Prop where
  wf : Wf V q.2
  dep : q.2.dep ≤ b
  nd : q.1.Nodup
  len : q.1.length = p.1.length
  nm : ∀ y ∈ q.1, V.nm y
  fv : ∀ y ∈ q.2.fv, y ∉ q.1 → y ∈ L
  gl : ∀ E d, q.2.gl (lx E d q.1) (d + p.1.length) = p.2.gl (lx (fun x d' => (σ x).gl E d') d p.1) (d + p.1.length)
structure Sb (V : Voc) (m : Nat) (L : List Tx) (keys : List Tx) (σ : Tx → Tm) (t : Tm) : Prop where
  nd : keys.Nodup
  out : ∀ x, x ∉ keys → σ x = .nm x
  wf : ∀ x ∈ t.fv, Wf V (σ x)
  dep : ∀ x ∈ t.fv, (σ x).dep ≤ m
  fv : ∀ x ∈ t.fv, ∀ y ∈ (σ x).fv, y ∈ L
theorem Sb.inn {V : Voc} {m : Nat} {L keys : List Tx} {σ : Tx → Tm} {t : Tm} (h : Sb V m L keys σ t) (ht : ∀ x, t ≠ .nm x) {u : Tm} (hp : ([], u) ∈ t.inn) : Sb V m L keys σ u where
  nd := h.nd
  out := h.out
  wf := fun x hx => h.wf x ((mem_fv ht).mpr ⟨_, hp, hx, by simp⟩)
  dep := fun x hx => h.dep x ((mem_fv ht).mpr ⟨_, hp, hx, by simp⟩)
  fv := fun x hx => h.fv x ((mem_fv ht).mpr ⟨_, hp, hx, by simp⟩)
instance : Inhabited Tm := ⟨.nm []⟩
theorem pall_ev {T : Nat → Option Fn} (hT16 : T 16 = some fn16) (hT106 : T 106 = some fn106) (hT270 : T 270 = some fn270) (hT274 : T 274 = some fn274) (hT : T 275 = some fn275) {V : Voc} (hV : ∀ i, i < 1000 → V.nm (natTx i)) {m : Nat} (hm : m ≤ 11) :
    ∀ (n : Nat) {t : Tm}, Wf V t → t.dep ≤ n → n ≤ 11 → ∀ {L keys : List Tx} {σ : Tx → Tm}, Sb V m L keys σ t → keys.length + 4 * n ≤ 900 → L.length + 4 * n ≤ 900 → ∀ {kk : Nat} {st : Store}, st[kk]? = some (.dic (dS keys σ)) →
    ∀ {k : Nat}, 3 * n + m + 4 ≤ k → ∃ u, callK T (k + 1) 275 [.p t.enc, .r kk] st = .ok (.p u.enc) st ∧ Put V (n + m) L σ t u := by
  have hL := LINE_eq
  have hz2 : (2 : Nat) ≤ LINE := by omega
  have hz3 : (3 : Nat) ≤ LINE := by omega
  have hz4 : (4 : Nat) ≤ LINE := by omega
  have hz1 : (1 : Nat) ≤ LINE := by omega
  have nm : ∀ {n : Nat} {x : Tx} {L keys : List Tx} {σ : Tx → Tm}, Sb V m L keys σ (.nm x) → ∀ {kk : Nat} {st : Store}, st[kk]? = some (.dic (dS keys σ)) → ∀ {k : Nat}, ∃ u, callK T (k + 1) 275 [.p (Tm.nm x).enc, .r kk] st = .ok (.p u.enc) st ∧ Put V (n + m) L σ (.nm x) u := by
    intro n x L keys σ hs kk st hst k
    refine ⟨σ x, ?_, hs.wf x (by simp [Tm.fv]), by have := hs.dep x (by simp [Tm.fv]); omega, hs.fv x (by simp [Tm.fv]), fun E d => by rw [gl_nm]⟩
    refine To.run (call_end hT rfl ?_)
    unfold fn275
    have e : (kget (dS keys σ) (.str x)).getD (.tup [.str sName, .str x]) = (σ x).enc := by
      rw [dS_get]
      by_cases h : x ∈ keys
      · rw [if_pos h]; rfl
      · rw [if_neg h, hs.out x h, Tm.enc_nm]; rfl
    rw [Tm.enc_nm]
    simp_arith [hst, e]
    exact Hide.of ⟨rfl, by simp⟩
  intro n
  induction n with
  | zero =>
    intro t hw hd hn L keys σ hs hkl hLl kk st hst k hk
    cases t with
    | nm x => exact nm hs hst
    | _ => simp [Tm.dep] at hd <;> omega
  | succ n ih =>
    intro t hw hd hn L keys σ hs hkl hLl kk st hst k hk
    obtain ⟨k, rfl⟩ : ∃ k', k = k' + 1 := ⟨k - 1, by omega⟩
    -- a part
    have part : (∀ x, t ≠ .nm x) → ∀ p ∈ t.inn, ∃ q : List Tx × Tm, callK T (k + 1) 274 [.p (.tup (p.1.map P.str)), .p p.2.enc, .r kk] st = .ok (.p (.tup [.tup (q.1.map P.str), q.2.enc])) st ∧ PutP V (n + m) L σ p q := by
      intro ht p hp
      obtain ⟨k, rfl⟩ : ∃ k', k = k' + 1 := ⟨k - 1, by omega⟩
      have hd' := Tm.dep_inn hp
      obtain ⟨hwp, hp4, hpn, hpv⟩ := hw.inn hp
      have hfv : ∀ x ∈ p.2.fv, x ∉ p.1 → x ∈ t.fv := fun x hx hxn => (mem_fv ht).mpr ⟨p, hp, hx, hxn⟩
      obtain ⟨os, hk', kh, X, e1, e2, e3, e4, e5, e6, e7, e8, hX, e9⟩ := under_ev (T := T) hT16 hT106 hT270 hT274 hm (n := n) (by omega) hpn hp4 hwp (by omega) hs.nd (by omega) hs.out
        (fun x hx hxn => ⟨hs.wf x (hfv x hx hxn), hs.dep x (hfv x hx hxn), hs.fv x (hfv x hx hxn)⟩) (by omega : L.length ≤ 900) hst (k := k + 1) (by omega) (by omega)
      have hosV : ∀ y ∈ os, V.nm y := fun y hy => by
        rcases e3 y hy with h | ⟨i, hi, rfl⟩
        · exact hpv y h
        · exact hV i (by omega)
      have own_mem : ∀ x ∈ p.1, ow p.1 os x ∈ os := fun x hx => by
        obtain ⟨i, hi, e⟩ := List.getElem_of_mem hx
        exact List.mem_of_getElem? (ow_at hpn e1.symm (by rw [List.getElem?_eq_getElem hi, e]))
      have sgo : ∀ x ∈ p.2.fv, x ∉ p.1 → sgU σ hk' p.1 os x = σ x := fun x hx hxn => by
        unfold sgU
        rw [if_neg hxn]
        by_cases h : x ∈ hk'
        · rw [if_pos h]
        · rw [if_neg h, e8 x hx hxn h]
      have sgi : ∀ x ∈ p.1, sgU σ hk' p.1 os x = .nm (ow p.1 os x) := fun x hx => by unfold sgU; rw [if_pos hx]
      have hsb : Sb V m (os ++ L) (hk' ++ p.1) (sgU σ hk' p.1 os) p.2 := {
        nd := by
          rw [List.nodup_append]
          exact ⟨e5, hpn, fun a ha b hb z => e6 a ha (z ▸ hb)⟩
        out := fun x hx => by
          unfold sgU
          rw [if_neg fun h => hx (List.mem_append.mpr (.inr h)), if_neg fun h => hx (List.mem_append.mpr (.inl h))]
        wf := fun x hx => by
          by_cases h : x ∈ p.1
          · rw [sgi x h]; exact .nm (hosV _ (own_mem x h))
          · rw [sgo x hx h]; exact hs.wf x (hfv x hx h)
        dep := fun x hx => by
          by_cases h : x ∈ p.1
          · rw [sgi x h]; simp [Tm.dep]
          · rw [sgo x hx h]; exact hs.dep x (hfv x hx h)
        fv := fun x hx y hy => by
          by_cases h : x ∈ p.1
          · rw [sgi x h] at hy
            simp only [Tm.fv, List.mem_cons, List.not_mem_nil, or_false] at hy
            exact List.mem_append.mpr (.inl (hy ▸ own_mem x h))
          · rw [sgo x hx h] at hy
            exact List.mem_append.mpr (.inr (hs.fv x (hfv x hx h) y hy)) }
      obtain ⟨u, hu, hP⟩ := ih hwp (by omega) (by omega) hsb (by rw [List.length_append]; omega) (by rw [List.length_append]; omega) hX (k := k) (by omega)
      refine ⟨(os, u), e9 u hu, hP.wf, hP.dep, e2, e1, hosV, fun y hy hyo => ?_, fun E d => ?_⟩
      · rcases List.mem_append.mp (hP.fv y hy) with h | h
        · exact absurd h hyo
        · exact h
      · rw [hP.gl]
        refine gl_congr p.2 fun x hx d' hd' => ?_
        by_cases h : x ∈ p.1
        · rw [sgi x h, gl_nm]
          obtain ⟨i, hi, e⟩ := List.getElem_of_mem h
          have hi2 : p.1[i]? = some x := by rw [List.getElem?_eq_getElem hi, e]
          rw [lx_at hpn hi2, lx_at e2 (ow_at hpn e1.symm hi2)]
        · rw [sgo x hx h, lx_out h]
          exact gl_congr _ fun y hy d'' _ => lx_out (e4 x hx h y hy)
    have hin : ∀ p ∈ t.inn, p.2.dep ≤ n := fun p hp => by have := Tm.dep_inn hp; omega
    cases hw with
    | @nm x hx => exact nm hs hst
    | @fm f ps h1 h2 h3 h4 =>
      obtain ⟨F, hF⟩ := pick (part (by simp))
      change ∀ a ∈ ps, _ at hF
      refine ⟨.fm f (ps.map F), ?_, ?_⟩
      · refine To.run (call_end hT rfl ?_)
        unfold fn275
        rw [Tm.enc_fm, Tm.enc_fm]
        simp_arith []
        refine comp_pure (fun p => .tup [.tup ((F p).1.map P.str), (F p).2.enc]) (by omega) ?_ ?_
        · intro p hp
          refine ⟨_, rfl, ?_⟩
          have g4 := (hF p hp).1
          simp_arith [g4]
        · simp_arith [hz3]
          exact Hide.of ⟨by simp [Function.comp_def], by simp⟩
      · refine ⟨.fm h1 (by rw [List.length_map]; exact h2) ?_ ?_, ?_, ?_, ?_⟩
        · intro q hq
          obtain ⟨p, hp, rfl⟩ := List.mem_map.mp hq
          have g := (hF p hp).2
          exact ⟨g.nd, by rw [g.len]; exact (h3 p hp).2.1, g.nm⟩
        · intro q hq
          obtain ⟨p, hp, rfl⟩ := List.mem_map.mp hq
          exact (hF p hp).2.wf
        · simp only [Tm.dep, List.map_map]
          have := foldrM_le (l := ps.map ((fun p : List Tx × Tm => p.2.dep) ∘ F)) (n := n + m) (by
            intro a ha
            obtain ⟨p, hp, rfl⟩ := List.mem_map.mp ha
            exact (hF p hp).2.dep)
          omega
        · intro y hy
          obtain ⟨q, hq, a, b⟩ := (mem_fv (by simp)).mp hy
          obtain ⟨p, hp, rfl⟩ := List.mem_map.mp (show q ∈ ps.map F from hq)
          exact (hF p hp).2.fv y a b
        · intro E d
          rw [gl_fm, gl_fm, List.map_map]
          congr 1
          refine List.map_congr_left fun p hp => ?_
          have g := (hF p hp).2
          simp only [Function.comp, g.len, g.gl]
    | @hl h ts h1 h2 h3 =>
      have sub : ∀ a ∈ ts, ∃ u, callK T (k + 1) 275 [.p a.enc, .r kk] st = .ok (.p u.enc) st ∧ Put V (n + m) L σ a u := fun a ha => by
        have := hin ([], a) (List.mem_map_of_mem ha)
        exact ih (h3 a ha) this (by omega) (hs.inn (by simp) (List.mem_map_of_mem ha)) (by omega) (by omega) hst (by omega)
      obtain ⟨F, hF⟩ := pick sub
      refine ⟨.hl h (ts.map F), ?_, ?_⟩
      · refine To.run (call_end hT rfl ?_)
        unfold fn275
        rw [Tm.enc_hl, Tm.enc_hl]
        simp_arith []
        refine comp_pure (fun p => (F p).enc) (by omega) ?_ ?_
        · intro p hp
          refine ⟨_, rfl, ?_⟩
          have g4 := (hF p hp).1
          simp_arith [g4]
        · simp_arith [hz3]
          exact Hide.of ⟨by simp [Function.comp_def], by simp⟩
      · refine ⟨.hl (by rw [List.length_map]; exact h1) (by rw [List.length_map]; exact h2) ?_, ?_, ?_, ?_⟩
        · intro q hq
          obtain ⟨p, hp, rfl⟩ := List.mem_map.mp hq
          exact (hF p hp).2.wf
        · simp only [Tm.dep, List.map_map]
          have := foldrM_le (l := ts.map ((fun t : Tm => t.dep) ∘ F)) (n := n + m) (by
            intro a ha
            obtain ⟨p, hp, rfl⟩ := List.mem_map.mp ha
            exact (hF p hp).2.dep)
          omega
        · intro y hy
          obtain ⟨q, hq, a, b⟩ := (mem_fv (by simp)).mp hy
          obtain ⟨u, hu, rfl⟩ := List.mem_map.mp (show q ∈ (ts.map F).map _ from hq)
          obtain ⟨p, hp, rfl⟩ := List.mem_map.mp hu
          exact (hF p hp).2.fv y a
        · intro E d
          rw [gl_hl, gl_hl, List.map_map]
          congr 1
          refine List.map_congr_left fun p hp => ?_
          simp only [Function.comp, (hF p hp).2.gl]
    | @lt x b w hx hb hw' =>
      have mw : (([] : List Tx), w) ∈ (Tm.lt x b w).inn := by simp [Tm.inn]
      obtain ⟨q, g1, g2⟩ := part (by simp) ([x], b) (by simp [Tm.inn])
      obtain ⟨u, g3, g4⟩ := ih hw' (hin _ mw) (by omega) (hs.inn (by simp) mw) (by omega) (by omega) hst (k := k) (by omega)
      obtain ⟨y, hy⟩ : ∃ y, q.1 = [y] := by
        have := g2.len
        rcases q with ⟨q1, q2⟩
        match q1, this with
        | [y], _ => exact ⟨y, rfl⟩
      refine ⟨.lt y q.2 u, ?_, ?_⟩
      · refine To.run (call_end hT rfl ?_)
        unfold fn275
        rw [Tm.enc_lt, Tm.enc_lt]
        rw [hy] at g1
        simp only [List.map_cons, List.map_nil] at g1
        simp_arith [hz1, g1, g3, hz4]
        exact Hide.of ⟨rfl, by simp⟩
      · refine ⟨.lt (g2.nm y (by rw [hy]; simp)) g2.wf g4.wf, ?_, ?_, ?_⟩
        · have := g2.dep
          have := g4.dep
          simp only [Tm.dep]
          omega
        · intro z hz
          obtain ⟨p, hp, a, b⟩ := (mem_fv (by simp)).mp hz
          simp only [Tm.inn, List.mem_cons, List.not_mem_nil, or_false] at hp
          rcases hp with rfl | rfl
          · exact g2.fv z a (by rw [hy]; exact b)
          · exact g4.fv z a
        · intro E d
          rw [gl_lt, gl_lt, g4.gl]
          have := g2.gl E d
          rw [hy] at this
          have e : q.2.gl (lx E d [y]) (d + 1) = b.gl (lx (fun x d' => (σ x).gl E d') d [x]) (d + 1) := this
          rw [e]
abbrev eP (p : Tx × Tm) : P := .tup [.str p.1, p.2.enc]
def sg : List (Tx × Tm) → Tx → Tm
  | [], x => .nm x
  | p :: ps, x => if p.1 = x then p.2 else sg ps x
theorem sg_out : ∀ {ps : List (Tx × Tm)} {x : Tx}, x ∉ ps.map Prod.fst → sg ps x = .nm x
  | [], x, _ => rfl
  | p :: ps, x, h => by
    simp only [List.map_cons, List.mem_cons, not_or] at h
    unfold sg
    rw [if_neg (Ne.symm h.1), sg_out h.2]
theorem sg_in : ∀ {ps : List (Tx × Tm)} {p : Tx × Tm}, (ps.map Prod.fst).Nodup → p ∈ ps → sg ps p.1 = p.2
  | [], p, _, h => by cases h
  | q :: ps, p, hn, h => by
    rw [List.map_cons, List.nodup_cons] at hn
    unfold sg
    rcases List.mem_cons.mp h with rfl | h
    · rw [if_pos rfl]
    · rw [if_neg fun e : q.1 = p.1 => hn.1 (by rw [e]; exact List.mem_map_of_mem h), sg_in hn.2 h]
theorem sg_prop {G : Tm → Prop} {ps : List (Tx × Tm)} (h : ∀ p ∈ ps, G p.2) {x : Tx} (hx : G (.nm x)) : G (sg ps x) := by
  induction ps with
  | nil => exact hx
  | cons p ps ih =>
    unfold sg
    split
    · exact h p List.mem_cons_self
    · exact ih fun q hq => h q (List.mem_cons_of_mem _ hq)
theorem sg_dS {ps qs : List (Tx × Tm)} (hn : (ps.map Prod.fst).Nodup) (hs : ∀ p ∈ qs, p ∈ ps) : (qs.map fun p => (Ky.str p.1, p.2.enc)) = dS (qs.map Prod.fst) (sg ps) := by
  unfold dS
  rw [List.map_map]
  refine List.map_congr_left fun p hp => ?_
  simp only [Function.comp, sg_in hn (hs p hp)]
theorem eP_ents : ∀ {qs : List (Tx × Tm)}, toEnts (qs.map eP) = some (qs.map fun p => (Ky.str p.1, p.2.enc))
  | [] => rfl
  | p :: l => by simp only [List.map_cons, toEnts, P.toKy, eP_ents (qs := l)]
theorem Wf.fvn {V : Voc} {t : Tm} (h : Wf V t) : ∀ v ∈ t.fv, V.nm v := by
  induction t using Tm.ind with
  | h t ih =>
  intro v hv
  by_cases hx : ∃ x, t = .nm x
  · obtain ⟨x, rfl⟩ := hx
    simp only [Tm.fv, List.mem_cons, List.not_mem_nil, or_false] at hv
    cases h with
    | nm h => exact hv ▸ h
  · obtain ⟨p, hp, a, b⟩ := (mem_fv (fun x e => hx ⟨x, e⟩)).mp hv
    exact ih p hp (h.inn hp).1 v a
theorem putin_ev {T : Nat → Option Fn} (hT16 : T 16 = some fn16) (hT106 : T 106 = some fn106) (hT270 : T 270 = some fn270) (hT274 : T 274 = some fn274) (hT275 : T 275 = some fn275) (hT : T 276 = some fn276) {V : Voc} (hV : ∀ i, i < 1000 → V.nm (natTx i)) {m : Nat} (hm : m ≤ 11)
    {n : Nat} {t : Tm} (hw : Wf V t) (hd : t.dep ≤ n) (hn : n ≤ 11) {L : List Tx} {ps qs : List (Tx × Tm)} (hps : (ps.map Prod.fst).Nodup) (hq : qs.Perm ps) (hpl : ps.length ≤ 100) (hLl : L.length ≤ 100)
    (hpn : ∀ p ∈ ps, Wf V p.2 ∧ p.2.dep ≤ m ∧ ∀ y ∈ p.2.fv, y ∈ L) (hf : ∀ x ∈ t.fv, V.nm x ∧ x ∈ L) {dd : D} {st : Store} (hh : rd st dd = some (.lst (qs.map eP))) {k : Nat} (hk : 3 * n + m + 4 ≤ k) :
    ∃ u, callK T (k + 2) 276 [.p t.enc, dd] st = .ok (.p u.enc) st ∧ Put V (n + m) L (sg ps) t u := by
  have hL := LINE_eq
  have hql : qs.length = ps.length := hq.length_eq
  have hqn : (qs.map Prod.fst).Nodup := (hq.map Prod.fst).nodup_iff.mpr hps
  have eD := sg_dS hps (qs := qs) fun p hp => hq.mem_iff.mp hp
  have hb : Sb V m L (qs.map Prod.fst) (sg ps) t := {
    nd := hqn
    out := fun x hx => sg_out fun h => hx ((hq.map Prod.fst).mem_iff.mpr h)
    wf := fun x hx => sg_prop (fun p hp => (hpn p hp).1) (.nm (hf x hx).1)
    dep := fun x hx => sg_prop (G := fun u => u.dep ≤ m) (fun p hp => (hpn p hp).2.1) (by simp [Tm.dep])
    fv := fun x hx => sg_prop (G := fun u => ∀ y ∈ u.fv, y ∈ L) (fun p hp => (hpn p hp).2.2) (fun y hy => by
      simp only [Tm.fv, List.mem_cons, List.not_mem_nil, or_false] at hy
      exact hy ▸ (hf x hx).2) }
  obtain ⟨u, g, hP⟩ := pall_ev (T := T) hT16 hT106 hT270 hT274 hT275 hV hm n hw hd hn hb (by rw [List.length_map]; omega) (by omega) (st := st ++ [.dic (dS (qs.map Prod.fst) (sg ps))]) get_new (k := k) (by omega)
  refine ⟨u, ?_, hP⟩
  refine To.run (call_end hT rfl ?_)
  unfold fn276
  have km : kmerge [] (dS (qs.map Prod.fst) (sg ps)) = dS (qs.map Prod.fst) (sg ps) := kmerge_nil (dS_nodup hqn)
  simp_arith [hh, eP_ents, eD, km, g]
  exact Hide.of ⟨rfl, by simp⟩
abbrev Eo (ns : List Tx) : Tx → Nat → Tm := fun x _ => .nm (pl ns x)
def rw_ (ns : List Tx) (keys : List Tx) (σ : Tx → Tm) (x : Tx) : Tm := if x ∈ keys then (σ x).gl (Eo ns) ns.length else .nm (pl ns x)
theorem pl_fig {ns : List Tx} {x : Tx} (h : x ∈ ns) : pl ns x ∈ figs 0 ns.length := figs_mem.mpr ⟨Nat.zero_le _, by have := List.idxOf_lt_length_iff.mpr h; omega⟩
theorem pl_figs {n i : Nat} (h : i < n) : pl (figs 0 n) (natTx i) = natTx i := by
  unfold pl
  congr 1
  have hg : (figs 0 n)[i]? = some (natTx i) := by
    unfold figs
    rw [List.getElem?_map, List.getElem?_range' h]
    simp
  have hl : i < (figs 0 n).length := by rw [figs_len]; exact h
  have e : (figs 0 n)[i] = natTx i := by
    rw [List.getElem?_eq_getElem hl] at hg
    exact Option.some.inj hg
  rw [← e]
  exact List.Nodup.idxOf_getElem figs_nodup i hl
theorem rw_fv {ns keys : List Tx} {σ : Tx → Tm} {x : Tx} (hx : x ∈ ns) (h : ∀ y ∈ (σ x).fv, y ∈ ns) : ∀ y ∈ (rw_ ns keys σ x).fv, y ∈ figs 0 ns.length := by
  intro y hy
  unfold rw_ at hy
  split at hy
  · obtain ⟨z, hz, d', _, h2⟩ := gl_fv _ hy
    simp only [Tm.fv, List.mem_cons, List.not_mem_nil, or_false] at h2
    rw [h2]
    exact pl_fig (h z hz)
  · simp only [Tm.fv, List.mem_cons, List.not_mem_nil, or_false] at hy
    rw [hy]
    exact pl_fig hx
def dueT (ns keys : List Tx) (σ : Tx → Tm) (t : Tm) : Tm := (t.gl (fun x _ => rw_ ns keys σ x) ns.length).gl (Eo (figs 0 ns.length)) ns.length
theorem due_eq {ns keys : List Tx} {σ : Tx → Tm} {t : Tm} (ht : ∀ x ∈ t.fv, x ∈ ns) (hs : ∀ x ∈ t.fv, ∀ y ∈ (σ x).fv, y ∈ ns) (hk : ∀ x, x ∉ keys → σ x = .nm x) :
    dueT ns keys σ t = t.gl (fun x d' => (σ x).gl (Eo ns) d') ns.length := by
  have nf : ∀ y ∈ figs 0 ns.length, ∀ i, ns.length ≤ i → y ≠ natTx i := fun y hy i hi e => by
    obtain ⟨j, rfl, _, b⟩ := figs_ex hy
    have := natTx_inj e
    omega
  unfold dueT
  rw [gl_gl t (ρ := rw_ ns keys σ) (fun x hx y hy => nf y (rw_fv (ht x hx) (hs x hx) y hy)) (fun x _ d' => rfl)]
  refine gl_congr t fun x hx d' _ => ?_
  unfold rw_
  by_cases h : x ∈ keys
  · rw [if_pos h, gl_gl (σ x) (ρ := fun y => .nm (pl ns y)) (fun z hz y hy => nf y (by
      simp only [Tm.fv, List.mem_cons, List.not_mem_nil, or_false] at hy
      rw [hy]; exact pl_fig (hs x hx z hz))) (fun z _ d' => rfl)]
    refine gl_congr (σ x) fun z hz d'' _ => ?_
    rw [gl_nm]
    show Tm.nm (pl (figs 0 ns.length) (pl ns z)) = _
    rw [show pl ns z = natTx (ns.idxOf z) from rfl, pl_figs (List.idxOf_lt_length_iff.mpr (hs x hx z hz))]
    rfl
  · rw [if_neg h, hk x h, gl_nm, gl_nm]
    show Tm.nm (pl (figs 0 ns.length) (pl ns x)) = _
    rw [show pl ns x = natTx (ns.idxOf x) from rfl, pl_figs (List.idxOf_lt_length_iff.mpr (ht x hx))]
    rfl
theorem put_due_ev {T : Nat → Option Fn} (hT80 : T 80 = some fn80) (hT81 : T 81 = some fn81) (hT : T 126 = some fn126) {ns : List Tx} (hns : ns.Nodup) (hn4 : ns.length ≤ 50) {ps : List (Tx × Tm)} (hps : (ps.map Prod.fst).Nodup) (hpl : ps.length ≤ 50)
    (hpn : ∀ p ∈ ps, p.1 ∈ ns ∧ Wf vS p.2 ∧ p.2.dep ≤ 9 ∧ ∀ y ∈ p.2.fv, y ∈ ns) {t : Tm} (hw : Wf vS t) (hd : t.dep ≤ 9) (hf : ∀ x ∈ t.fv, x ∈ ns) {rp : Nat} {st : Store} (hr : st[rp]? = some (.lst (ps.map eP))) {k : Nat} (hk : 60 ≤ k) :
    callK T (k + 3) 126 [.p (.lst (ns.map P.str)), .p t.enc, .r rp] st = .ok (.p (dueT ns (ps.map Prod.fst) (sg ps) t).enc) st := by
  refine To.run (call_end hT rfl ?_)
  unfold fn126
  have hL := LINE_eq
  have hz2 : (2 : Nat) ≤ LINE := by omega
  have hz0 : (0 : Nat) ≤ 15 := by omega
  have hnL : ns.length ≤ LINE := by omega
  have hrl := get_lt hr
  simp_arith [enum_zip]
  refine comp_pure (fun p : Tx × Nat => .tup [.str p.1, nmQ (natTx p.2)]) (by simpa using hnL) ?_ ?_
  · intro p hp
    refine ⟨_, rfl, ?_⟩
    have hp2 := (List.mem_zipIdx hp).2.1
    have e2 : (0 : Int) ≤ ((p.2 : Nat) : Int) ∧ ((p.2 : Nat) : Int) < 10 ^ 18 := by omega
    simp_arith [hz2, e2]
  · have htE : toEnts (ns.zipIdx.map fun p => P.tup [.str p.1, nmQ (natTx p.2)]) = some (prs nmQ 0 ns) := by
      have := toE_prs (mk := nmQ) (d := 0) ns.zipIdx
      simp only [Nat.zero_add] at this
      rw [this]
      unfold prs
      simp only [Nat.zero_add]
    have hpn' : kmerge [] (prs nmQ 0 ns) = prs nmQ 0 ns := kmerge_nil (prs_nodup hns)
    have km : kmerge [] [] = [] := rfl
    have hl1 : (st ++ [MO.dic (prs nmQ 0 ns)])[rp]? = some (.lst (ps.map eP)) := get_app hr
    have own : ∀ x ∈ ns, kget (prs nmQ 0 ns) (.str x) = some (Tm.nm (pl ns x)).enc := fun x hx => by rw [prs_at hns hx, Nat.zero_add, Tm.enc_nm]; rfl
    simp_arith [htE, hpn', lock_r hl1]
    let S : Store := (st ++ [MO.dic (prs nmQ 0 ns)]).set rp (.lstL (ps.map eP))
    refine for_inv (fun rest δ st' => ∃ (done more : List (Tx × Tm)) (l : List (Ky × P)) (x4 x5 x7 : Option NH.D), ps = done ++ more ∧ rest = more.map eP ∧ st' = st.set rp (.lstL (ps.map eP)) ++ [.dic l] ∧ l.length ≤ ns.length + done.length ∧ (∀ x ∈ ns, kget l (.str x) = some (rw_ ns (done.map Prod.fst) (sg ps) x).enc) ∧
      δ = [some (.p (.lst (ns.map P.str))), some (.p t.enc), some (.r rp), some (.p (.dic (prs nmQ 0 ns))), x4, x5, some (.r st.length), x7])
      ⟨[], ps, prs nmQ 0 ns, _, _, _, rfl, rfl, by rw [List.set_append_left _ _ hrl], by rw [prs_len]; simp, fun x hx => by rw [own x hx]; simp [rw_], rfl⟩ ?_ ?_
    · rintro y rr δ st' ⟨done, more, l, x4, x5, x7, hp0, hmo, rfl, hll, hlg, rfl⟩
      cases more with
      | nil => cases hmo
      | cons p more =>
      simp only [List.map_cons, List.cons.injEq] at hmo
      obtain ⟨rfl, rfl⟩ := hmo
      have hp : p ∈ ps := by rw [hp0]; simp
      obtain ⟨a1, a2, a3, a4⟩ := hpn p hp
      refine ⟨_, rfl, ?_⟩
      have hdl : done.length ≤ ps.length := by rw [hp0]; simp
      have g := fun st => gvn_ev (T := T) hT80 9 a2 a3 (by omega) (dd := .p (.dic (prs nmQ 0 ns))) (st := st) (l := prs nmQ 0 ns) (ρ := fun x => .nm (pl ns x)) (d := ns.length) (.inl rfl)
        (fun x hx => own x (a4 x hx)) (by rw [prs_len]; omega) (by omega) (k := k + 1) (by omega)
      have hll2 : l.length < LINE := by omega
      have hsub : subM (.dic l) (.str p.1) (p.2.gl (fun x _ => .nm (pl ns x)) ns.length).enc = some (.dic (kput l (.str p.1) (p.2.gl (fun x _ => .nm (pl ns x)) ns.length).enc)) := by
        show (if l.length < LINE then _ else none) = _
        rw [if_pos hll2]
        rfl
      have hgn : ∀ (a b : MO), (st.set rp a ++ [b])[st.length]? = some b := fun a b => by
        have := get_new (st := st.set rp a) (o := b)
        rwa [List.length_set] at this
      have hsn : ∀ (a b c : MO), (st.set rp a ++ [b]).set st.length c = st.set rp a ++ [c] := fun a b c => by
        have := set_new (st := st.set rp a) (o := b) (o' := c)
        rwa [List.length_set] at this
      simp_arith [hz0, km, hnL, g, hgn, hsub, hsn]
      refine Hide.of ⟨done ++ [p], more, kput l (.str p.1) (p.2.gl (fun x _ => .nm (pl ns x)) ns.length).enc, _, _, _, by rw [hp0]; simp, rfl, rfl, ?_, ?_, rfl⟩
      · have := kput_len (l := l) (k := .str p.1) (p := (p.2.gl (fun x _ => .nm (pl ns x)) ns.length).enc)
        rw [List.length_append]
        simp only [List.length_cons, List.length_nil]
        omega
      · intro x hx
        rw [kget_put]
        by_cases h : p.1 = x
        · subst h
          rw [if_pos rfl]
          unfold rw_
          rw [if_pos (by simp), sg_in hps hp]
        · rw [if_neg (by simpa using h), hlg x hx]
          unfold rw_
          have : (x ∈ (done ++ [p]).map Prod.fst) ↔ x ∈ done.map Prod.fst := by
            rw [List.map_append, List.mem_append]
            simp [Ne.symm h]
          simp only [this]
    · rintro δ st' ⟨done, more, l, x4, x5, x7, hp0, hmo, rfl, hll, hlg, rfl⟩
      have he : more = [] := by cases more with
        | nil => rfl
        | cons _ _ => simp at hmo
      subst he
      rw [List.append_nil] at hp0
      subst hp0
      have hul : (st.set rp (.lstL (ps.map eP)) ++ [MO.dic l])[rp]? = some (.lstL (ps.map eP)) := get_app (set_some hr)
      have hub : ∀ e : Store, (st.set rp (.lstL (ps.map eP)) ++ e).set rp (.lst (ps.map eP)) = st ++ e := fun e => by
        rw [List.set_append_left _ _ (by rw [List.length_set]; exact hrl), List.set_set, set_bk hr]
      have h40 : (ns.length : Int) < 2 ^ 40 ∧ -(2 ^ 40) < (ns.length : Int) := by omega
      have hnt : ((ns.length : Nat) : Int).toNat = ns.length := by omega
      have hsf : ∀ x ∈ ns, ∀ y ∈ (rw_ ns (ps.map Prod.fst) (sg ps) x).fv, y ∈ figs 0 ns.length := fun x hx => rw_fv hx (sg_prop (G := fun u => ∀ y ∈ u.fv, y ∈ ns) (fun p hp => (hpn p hp).2.2.2) (fun y hy => by simp only [Tm.fv, List.mem_cons, List.not_mem_nil, or_false] at hy; exact hy ▸ hx))
      have hrw : ∀ x, Wf vS (rw_ ns (ps.map Prod.fst) (sg ps) x) ∧ (rw_ ns (ps.map Prod.fst) (sg ps) x).dep ≤ 9 := fun x => by
        unfold rw_
        split
        · rename_i h
          obtain ⟨p, hp, rfl⟩ := List.mem_map.mp h
          obtain ⟨_, a2, a3, _⟩ := hpn p hp
          rw [sg_in hps hp]
          refine ⟨gl_wf (V := vS) (fun i _ => natTx_shy i) 9 a2 a3 (fun z _ _ => .nm (natTx_shy _)) (by omega), ?_⟩
          have := gl_dep 9 (E := Eo ns) (d := ns.length) (m := 0) a3 (fun x _ _ => by simp [Tm.dep])
          omega
        · exact ⟨.nm (natTx_shy _), by simp [Tm.dep]⟩
      have g1 := fun st dd (h : DD st dd l) => gvn_ev (T := T) hT80 9 hw hd (by omega) (st := st) (l := l) (ρ := rw_ ns (ps.map Prod.fst) (sg ps)) (d := ns.length) h (fun x hx => hlg x (hf x hx)) (by omega) (by omega) (k := k + 1) (by omega)
      have g1' := g1 (st ++ [MO.dic l]) (.r st.length) (.inr ⟨_, rfl, get_new⟩)
      have hwt : Wf vS (t.gl (fun x _ => rw_ ns (ps.map Prod.fst) (sg ps) x) ns.length) := gl_wf (V := vS) (fun i _ => natTx_shy i) 9 hw hd (fun x _ _ => (hrw x).1) (by omega)
      have g2 := fun st => gneat_ev (T := T) hT80 hT81 (ns := figs 0 ns.length) figs_nodup (by rw [figs_len]; omega) hwt (by
        have := gl_dep 9 (E := fun x _ => rw_ ns (ps.map Prod.fst) (sg ps) x) (d := ns.length) (m := 9) hd (fun x _ _ => (hrw x).2)
        omega) (fun y hy => by
          obtain ⟨x, hx, _, _, h⟩ := gl_fv _ hy
          exact hsf x (hf x hx) y h) (k := k) (by omega) (st := st)
      rw [figs_len] at g2
      simp_arith [unlock_c hul, hub, hnL, h40, hnt, rngL0]
      refine comp_pure (fun i : Nat => .str (natTx (0 + i))) (by rw [List.length_range]; exact hnL) ?_ ?_
      · intro i hi
        have hi := List.mem_range.mp hi
        refine ⟨_, rfl, ?_⟩
        have e2 : (0 : Int) ≤ ((i : Nat) : Int) ∧ ((i : Nat) : Int) < 10 ^ 18 := by omega
        simp_arith [e2]
      · rw [← figs_range]
        simp_arith [hz0, km, hnL, g1', g2]
        exact Hide.of ⟨rfl, by simp⟩
theorem inn_s {c : Nat} {y : Tx} {st : Store} : cmpD .inn st (.p (.str [c])) (.p (.str y)) = some (decide (c ∈ y)) := rfl
theorem allBl_f {α : Type} {f : α → Bool} (l : List α) : allBl (l.map fun a => P.bl (f a)) = some (l.map f) := by
  have := allBl_m (l := l.map f)
  rw [List.map_map] at this
  exact this
theorem all_id {α : Type} {f : α → Bool} (l : List α) : (l.map f).all id = l.all f := by rw [List.all_map]; rfl
abbrev figSigns : Tx := [48, 49, 50, 51, 52, 53, 54, 55, 56, 57]
theorem low_abc {c : Nat} : Low c ↔ c ∈ abc := by
  constructor
  · intro h
    unfold Low at h
    have : ∀ c, c < 123 → 97 ≤ c → c ∈ abc := by decide
    exact this c (by omega) h.1
  · intro h
    have : ∀ c ∈ abc, 97 ≤ c ∧ c ≤ 122 := by decide
    exact this c h
theorem fig_figs {c : Nat} : (48 ≤ c ∧ c ≤ 57) ↔ c ∈ figSigns := by
  constructor
  · intro h
    have : ∀ c, c < 58 → 48 ≤ c → c ∈ figSigns := by decide
    exact this c (by omega) h.1
  · intro h
    have : ∀ c ∈ figSigns, 48 ≤ c ∧ c ≤ 57 := by decide
    exact this c h
theorem word_ev {T : Nat → Option Fn} (hT : T 53 = some fn53) {k : Nat} {st : Store} {x : Tx} (h1 : 1 ≤ x.length) (h8 : x.length ≤ 8) : callK T (k + 1) 53 [.p (.str x)] st = .ok (.p (.bl (x.all fun c => decide (c ∈ abc)))) st := by
  refine To.run (call_end hT rfl ?_)
  unfold fn53
  have hL : x.length ≤ LINE := by have := LINE_eq; omega
  have q1 : (1 : Int) ≤ x.length := by omega
  have q8 : (x.length : Int) ≤ 8 := by omega
  simp_arith [hL, q1, q8]
  refine comp_pure (fun c : Nat => .bl (decide (c ∈ abc))) hL ?_ ?_
  · intro c hc
    exact ⟨_, rfl, by simp_arith [inn_s]⟩
  · simp_arith [allBl_f, all_id]
    exact Hide.of ⟨rfl, by simp⟩
theorem idx_str {c : Nat} {r : Tx} (h : (c :: r).length ≤ LINE) : idxP (.str (c :: r)) (.int 0) = some (.str [c]) := by
  unfold idxP
  dsimp only
  rw [if_pos h, List.length_cons, ix0]; rfl
theorem name_ev {T : Nat → Option Fn} (hT53 : T 53 = some fn53) (hT : T 54 = some fn54) {k : Nat} {st : Store} {x : Tx} (h : IsNm x) : callK T (k + 2) 54 [.p (.str x)] st = .ok (.p (.bl true)) st := by
  refine To.run (call_end hT rfl ?_)
  unfold fn54
  rcases h with h | h
  · have hw := word_ev (T := T) hT53 (k := k) (st := st) h.1 h.2.1
    rw [show (x.all fun c => decide (c ∈ abc)) = true from List.all_eq_true.mpr fun c m => decide_eq_true (low_abc.mp (h.2.2.1 c m))] at hw
    simp_arith [hw]
    exact Hide.of ⟨rfl, by simp⟩
  · obtain ⟨h1, h3, hf, h0⟩ := h
    have hw := word_ev (T := T) hT53 (k := k) (st := st) h1 (by omega)
    have hL : x.length ≤ LINE := by have := LINE_eq; omega
    cases x with
    | nil => simp at h1
    | cons c r =>
      rw [show ((c :: r).all fun c => decide (c ∈ abc)) = false from by
        simp only [List.all_cons]
        rw [decide_eq_false (fun m => by have := low_abc.mpr m; have := hf c List.mem_cons_self; unfold Low at *; omega)]
        rfl] at hw
      have q1 : (1 : Int) ≤ (c :: r).length := by omega
      have q3 : ((c :: r).length : Int) ≤ 3 := by omega
      generalize hx : c :: r = x at *
      have hi : idxP (.str x) (.int 0) = some (.str [c]) := by rw [← hx]; exact idx_str (by rw [hx]; exact hL)
      have hall : (x.all fun c => decide (c ∈ figSigns)) = true := List.all_eq_true.mpr fun c m => decide_eq_true (fig_figs.mp (hf c m))
      have h0' : (x == [48]) = true ∨ (x == [48]) = false ∧ ([c] == ([48] : Tx)) = false := by
        rcases h0 with h | h
        · exact .inl (by rw [h]; rfl)
        · by_cases e : x = [48]
          · exact .inl (by rw [e]; rfl)
          · refine .inr ⟨beq_eq_false_iff_ne.mpr e, beq_eq_false_iff_ne.mpr fun e2 => h ?_⟩
            rw [← hx, (List.cons.inj e2).1]; rfl
      simp_arith [hw, hL, q1, q3]
      refine comp_pure (fun c : Nat => .bl (decide (c ∈ figSigns))) hL ?_ ?_
      · intro c hc
        exact ⟨_, rfl, by simp_arith [inn_s]⟩
      · rcases h0' with h | ⟨h, h'⟩
        · simp_arith [allBl_f, all_id, hall, h]
          exact Hide.of ⟨rfl, by simp⟩
        · simp_arith [allBl_f, all_id, hall, h, hi, h']
          exact Hide.of ⟨rfl, by simp⟩
theorem uq_nodup : ∀ (l a : List Tx), (a ++ l).Nodup → l.foldl one1T a = a ++ l
  | [], a, _ => by simp
  | x :: l, a, h => by
    have hx : a.any (· == x) = false := by
      rw [List.any_eq_false]
      intro y hy e
      have e' : y = x := by simpa using e
      rw [List.nodup_append] at h
      exact h.2.2 y hy x List.mem_cons_self e'
    simp only [List.foldl_cons]
    rw [show one1T a x = a ++ [x] by unfold one1T; rw [hx]; rfl]
    rw [uq_nodup l (a ++ [x]) (by simpa using h)]
    simp
theorem lset_names {ns : List Tx} (h : ns.Nodup) (hl : ns.length ≤ 4) : lsetP (.tup (ns.map .str)) = some ns.length := by
  simp only [lsetP, allStr_m, Option.bind_some]
  rw [if_pos (by omega)]
  unfold uqT
  rw [uq_nodup ns [] (by simpa using h)]
  rfl
theorem arenames_ev {T : Nat → Option Fn} (hT53 : T 53 = some fn53) (hT54 : T 54 = some fn54) (hT : T 83 = some fn83) {k : Nat} {st : Store} {ns : List Tx} (hn : ∀ n ∈ ns, IsNm n) (hd : ns.Nodup) (hl : ns.length ≤ 4) : callK T (k + 3) 83 [.p (.tup (ns.map .str))] st = .ok (.p (.bl true)) st := by
  refine To.run (call_end hT rfl ?_)
  unfold fn83
  have hL : ns.length ≤ LINE := by have := LINE_eq; omega
  simp_arith []
  refine comp_pure (fun _ : Tx => .bl true) hL ?_ ?_
  · intro n hm
    exact ⟨_, rfl, by simp_arith [name_ev hT53 hT54 (hn n hm) (k := k) (st := st)]⟩
  · have he : ((ns.length : Int) == (ns.length : Int)) = true := beq_self_eq_true _
    simp_arith [allBl_true, map_const_all, lset_names hd hl, hL, he]
    exact Hide.of ⟨rfl, by simp⟩
structure VT (V : Voc) : Prop where
  nm : ∀ x, V.nm x → IsNm x
  wd : ∀ x, V.wd x → IsWd x
  hd : ∀ x n, V.hd x n → IsNm x
theorem part2_ev {T : Nat → Option Fn} (hT53 : T 53 = some fn53) (hT54 : T 54 = some fn54) (hT83 : T 83 = some fn83) (hT : T 84 = some fn84) {k : Nat} {st : Store} {ns : List Tx} {t : Tm} (hn : ∀ n ∈ ns, IsNm n) (hd : ns.Nodup) (hl : ns.length ≤ 4)
    (h : callK T (k + 3) 85 [.p t.enc] st = .ok (.p (.bl true)) st) : callK T (k + 4) 84 [.p (ePart (ns, t))] st = .ok (.p (.bl true)) st := by
  refine To.run (call_end hT rfl ?_)
  unfold fn84 ePart
  have hL2 : (2 : Nat) ≤ LINE := by rw [LINE_eq]; omega
  have he : (((2 : Nat) : Int) == 2) = true := rfl
  simp_arith [hL2, he, arenames_ev hT53 hT54 hT83 hn hd hl (k := k) (st := st), h]
  exact Hide.of ⟨rfl, by simp⟩
theorem term_ev {T : Nat → Option Fn} (hT53 : T 53 = some fn53) (hT54 : T 54 = some fn54) (hT83 : T 83 = some fn83) (hT84 : T 84 = some fn84) (hT : T 85 = some fn85) {V : Voc} (hV : VT V) : ∀ t : Tm, Wf V t → ∀ {k : Nat} {st : Store}, 2 * t.dep ≤ k → callK T (k + 4) 85 [.p t.enc] st = .ok (.p (.bl true)) st := by
  intro t
  induction t using Tm.ind with
  | h t ih =>
  intro hw k st hk
  have hL2 : (2 : Nat) ≤ LINE := by rw [LINE_eq]; omega
  have hL3 : (3 : Nat) ≤ LINE := by rw [LINE_eq]; omega
  have hL4 : (4 : Nat) ≤ LINE := by rw [LINE_eq]; omega
  have e2 : (((2 : Nat) : Int) == 2) = true := rfl
  have e3 : (((3 : Nat) : Int) == 3) = true := rfl
  have e4 : (((4 : Nat) : Int) == 4) = true := rfl
  have l2 : ¬ ((2 : Nat) : Int) < 2 := by omega
  have l3 : ¬ ((3 : Nat) : Int) < 2 := by omega
  have l4 : ¬ ((4 : Nat) : Int) < 2 := by omega
  refine To.run (call_end hT rfl ?_)
  unfold fn85
  cases hw with
  | @nm x hx =>
    rw [Tm.enc_nm]
    have hn := name_ev (T := T) hT53 hT54 (hV.nm x hx) (k := k + 1) (st := st)
    simp_arith [hL2, e2, l2, hn]
    exact Hide.of ⟨rfl, by simp⟩
  | @fm f ps hf h4 hps hws =>
    have hdp : 1 ≤ (Tm.fm f ps).dep := by simp [Tm.dep]
    obtain ⟨k, rfl⟩ : ∃ k', k = k' + 1 := ⟨k - 1, by omega⟩
    rw [Tm.enc_fm]
    have hwd := hV.wd f hf
    have hn := word_ev (T := T) hT53 (k := k + 3) (st := st) hwd.1 hwd.2.1
    rw [show (f.all fun c => decide (c ∈ abc)) = true from List.all_eq_true.mpr fun c m => decide_eq_true (low_abc.mp (hwd.2.2.1 c m))] at hn
    simp_arith [hL3, e3, l3, hn]
    refine comp_pure (fun _ => .bl true) (by have := LINE_eq; omega) ?_ ?_
    · intro p hp
      refine ⟨_, rfl, ?_⟩
      have hd := Tm.dep_inn (t := .fm f ps) hp
      obtain ⟨k', hk'⟩ : ∃ k', k = k' + 1 := ⟨k - 1, by omega⟩
      have hc := ih p hp (hws p hp) (k := k - 1) (st := st) (by omega)
      subst hk'
      have hc2 := part2_ev (T := T) hT53 hT54 hT83 hT84 (k := k' + 1) (st := st) (ns := p.1) (t := p.2) (fun n hn => hV.nm n ((hps p hp).2.2 n hn)) (hps p hp).1 (hps p hp).2.1 hc
      unfold ePart at hc2
      simp_arith [hc2]
    · simp_arith [allBl_true, map_const_all]
      exact Hide.of ⟨rfl, by simp⟩
  | @hl g ts hg h4 hts =>
    have hdp : 1 ≤ (Tm.hl g ts).dep := by simp [Tm.dep]
    obtain ⟨k, rfl⟩ : ∃ k', k = k' + 1 := ⟨k - 1, by omega⟩
    rw [Tm.enc_hl]
    have hn := name_ev (T := T) hT53 hT54 (hV.hd g _ hg) (k := k + 2) (st := st)
    simp_arith [hL3, e3, l3, hn]
    refine comp_pure (fun _ => .bl true) (by have := LINE_eq; omega) ?_ ?_
    · intro t ht
      refine ⟨_, rfl, ?_⟩
      have hm : (([] : List Tx), t) ∈ (Tm.hl g ts).inn := List.mem_map_of_mem ht
      have hd := Tm.dep_inn hm
      simp only at hd
      have hc := ih _ hm (hts t ht) (k := k) (st := st) (show 2 * t.dep ≤ k by omega)
      simp only at hc
      simp_arith [hc]
    · simp_arith [allBl_true, map_const_all]
      exact Hide.of ⟨rfl, by simp⟩
  | @lt x b w hx hb hw' =>
    have hdp : 1 ≤ (Tm.lt x b w).dep := by simp [Tm.dep]
    obtain ⟨k, rfl⟩ : ∃ k', k = k' + 1 := ⟨k - 1, by omega⟩
    rw [Tm.enc_lt]
    have hn := name_ev (T := T) hT53 hT54 (hV.nm x hx) (k := k + 2) (st := st)
    have mb : ([x], b) ∈ (Tm.lt x b w).inn := by simp [Tm.inn]
    have mw : (([] : List Tx), w) ∈ (Tm.lt x b w).inn := by simp [Tm.inn]
    have db := Tm.dep_inn mb
    have dw := Tm.dep_inn mw
    simp only at db dw
    have eb := ih _ mb hb (k := k) (st := st) (show 2 * b.dep ≤ k by omega)
    have ew := ih _ mw hw' (k := k) (st := st) (show 2 * w.dep ≤ k by omega)
    simp only at eb ew
    simp_arith [hL4, e4, l4, hn, eb, ew]
    exact Hide.of ⟨rfl, by simp⟩
theorem nm_fig {i : Nat} (h : i < 1000) : IsNm (natTx i) := by
  refine .inr ?_
  by_cases h0 : i = 0
  · subst h0; exact ⟨by decide, by decide, by decide, .inl (by decide)⟩
  · by_cases h1 : i = 1
    · subst h1; exact ⟨by decide, by decide, by decide, .inr (by decide)⟩
    · obtain ⟨_, _, a, b, c, d⟩ := fig_ok (i - 2) (by omega)
      rw [show 2 + (i - 2) = i by omega] at a b c d
      exact ⟨a, b, c, .inr d⟩
abbrev vN : Voc := ⟨IsNm, IsWd, fun h _ => IsNm h⟩
theorem World.whole {w : P} {pool words : List Tx} {hs : List (Tx × Nat)} (W : World w pool words hs) {h : Tx} {n : Nat} (m : (h, n) ∈ hs) : IsNm h := by
  obtain ⟨a, b, c, e, _⟩ := W.hl
  rw [e] at m
  simp only [List.mem_cons, List.not_mem_nil, or_false, Prod.mk.injEq] at m
  have hd : ∀ x : Tx, x = [104] ∨ x = [103] ∨ x = [48] → IsNm x := fun x hx => by
    rcases hx with rfl | rfl | rfl
    · exact .inl ⟨by decide, by decide, by unfold Low; decide, by decide⟩
    · exact .inl ⟨by decide, by decide, by unfold Low; decide, by decide⟩
    · exact .inr ⟨by decide, by decide, by decide, .inl rfl⟩
  rcases m with m | m | m <;> exact hd _ (by rw [m.1]; simp)
theorem Wf.vn {w : P} {pool words : List Tx} {hs : List (Tx × Nat)} (W : World w pool words hs) {t : Tm} (h : Wf ⟨(· ∈ pool), (· ∈ words), fun h n => (h, n) ∈ hs⟩ t) : Wf vN t :=
  h.voc (fun x h => W.pn x h) (fun x h => W.wn x h) (fun x n h => W.whole h)
theorem vn_s {t : Tm} (h : Wf vN t) : Wf vS t := Wf.voc (V := vN) (V' := vS) (fun x (h : IsNm x) => h.shy) (fun x (h : IsWd x) c m => by
  have := h.2.2.1 c m
  unfold Low at this
  omega) (fun x n (h : IsNm x) => h.shy) h
theorem eP_ok {b : Nat} {qs : List (Tx × Tm)} (h : ∀ p ∈ qs, Shy p.1 ∧ Wf vS p.2 ∧ p.2.dep ≤ b) : (P.lst (qs.map eP)).sh = true ∧ (P.lst (qs.map eP)).deep ≤ 3 * b + 4 ∧ (P.lst (qs.map eP)).eqv (.lst (qs.map eP)) = true := by
  refine ⟨shs_of fun p hp => ?_, ?_, ?_⟩
  · obtain ⟨a, c, _⟩ := h p hp
    show (P.sh (.str p.1) && (P.sh p.2.enc && true)) = true
    rw [shy_sh a, vS_sh c]; rfl
  · have h1 : P.deeps (qs.map eP) ≤ 3 * b + 3 := deeps_of fun p hp => by
      have := enc_deep p.2
      have := (h p hp).2.2
      simp only [P.deep, P.deeps]
      omega
    simp only [P.deep]
    omega
  · show P.eqvs (qs.map eP) (qs.map eP) = true
    clear h
    induction qs with
    | nil => rfl
    | cons p qs ih =>
      simp only [List.map_cons, P.eqvs, Bool.and_eq_true]
      refine ⟨?_, ih⟩
      show ((p.1 == p.1) && (p.2.enc.eqv p.2.enc && true)) = true
      rw [(Tm.deq p.2 p.2).mpr rfl]
      simp
def wl (w : List Nat) : P := .tup (w.map fun i : Nat => .int (i : Int))
def ahd (n : Nat) : List (List (List Nat)) → List (List Nat)
  | [] => []
  | ws :: r => ws.map (n :: ·) ++ ahd (n + 1) r
def Tm.isLt : Tm → Bool
  | .lt _ _ _ => true
  | _ => false
def Tm.waysD : Nat → Tm → List (List Nat)
  | 0, _ => [[]]
  | d + 1, t => [] :: ahd 0 (t.inn.map fun p => Tm.waysD d p.2)
def Tm.lwaysD : Nat → Tm → List (List Nat)
  | 0, t => if t.isLt then [[]] else []
  | d + 1, t => (if t.isLt then [[]] else []) ++ ahd 0 (t.inn.map fun p => Tm.lwaysD d p.2)
def Tm.at : Tm → List Nat → Option Tm
  | t, [] => some t
  | t, i :: w => match t.inn[i]? with
    | some p => Tm.at p.2 w
    | none => none
def Tm.atLt (t : Tm) (w : List Nat) : Bool := match t.at w with
  | some u => u.isLt
  | none => false
theorem filter_ahd {p : List Nat → Bool} {q : Nat → List Nat → Bool} (h : ∀ i w, p (i :: w) = q i w) : ∀ (l : List (List (List Nat))) (n : Nat), (ahd n l).filter p = ahd n (l.mapIdx fun i ws => ws.filter (q (n + i)))
  | [], n => by simp [ahd]
  | ws :: r, n => by
    simp only [ahd, List.filter_append, List.mapIdx_cons, Nat.add_zero]
    rw [filter_ahd h r (n + 1)]
    congr 1
    · rw [List.filter_map]
      congr 1
      apply List.filter_congr
      intro w _
      simp [h]
    · have e : (fun i (ws : List (List Nat)) => ws.filter (q (n + 1 + i))) = fun i ws => ws.filter (q (n + (i + 1))) := by
        funext i ws
        rw [Nat.add_assoc, Nat.add_comm 1 i]
      rw [e]
theorem leaf_dep {t : Tm} (h : t.dep = 0) : t.inn = [] := by
  cases t with
  | nm x => rfl
  | fm f ps => simp [Tm.dep] at h
  | hl g ts => simp [Tm.dep] at h
  | lt x b w => simp [Tm.dep] at h
theorem ways_filter : ∀ (d : Nat) (t : Tm), t.dep ≤ d → (t.waysD d).filter t.atLt = t.lwaysD d
  | 0, t, h => by
    simp only [Tm.waysD, Tm.lwaysD, List.filter_cons, List.filter_nil]
    rfl
  | d + 1, t, h => by
    have h0 : t.atLt [] = t.isLt := by simp [Tm.atLt, Tm.at]
    simp only [Tm.waysD, Tm.lwaysD, List.filter_cons, h0]
    have h1 : (ahd 0 (t.inn.map fun p => Tm.waysD d p.2)).filter t.atLt = ahd 0 (t.inn.map fun p => Tm.lwaysD d p.2) := by
      rw [filter_ahd (p := t.atLt) (q := fun i w => t.atLt (i :: w)) (fun _ _ => rfl)]
      congr 1
      apply List.ext_getElem
      · simp
      · intro i h1 h2
        simp only [List.getElem_mapIdx, List.getElem_map, Nat.zero_add]
        simp only [List.length_mapIdx, List.length_map] at h1
        have hp : t.inn[i] ∈ t.inn := List.getElem_mem _
        rw [← ways_filter d t.inn[i].2 (by have := Tm.dep_inn hp; omega)]
        apply List.filter_congr
        intro w _
        simp [Tm.atLt, Tm.at, List.getElem?_eq_getElem h1]
    rw [h1]
    split <;> rfl
theorem lts_wl : ∀ (v w : List Nat), P.lts (v.map fun i : Nat => .int (i : Int)) (w.map fun i : Nat => .int (i : Int)) = decide (v < w)
  | [], [] => by simp [P.lts]
  | [], _ :: _ => by simp [P.lts]
  | _ :: _, [] => by simp [P.lts]
  | i :: v, j :: w => by
    simp only [List.map_cons, P.lts, P.eqv, P.lt]
    rw [lts_wl v w]
    by_cases h : i = j
    · subst h; simp
    · have h' : ¬ (i : Int) = j := by omega
      simp [h, h', List.cons_lt_cons_iff]
theorem le_wl (v w : List Nat) : srtLe (wl v) (wl w) = !decide (w < v) := by
  unfold srtLe wl
  rw [P.lt, lts_wl]
theorem ahd_mem {n : Nat} : ∀ {l : List (List (List Nat))} {w : List Nat}, w ∈ ahd n l → ∃ i v, w = i :: v ∧ n ≤ i
  | ws :: r, w, h => by
    simp only [ahd, List.mem_append, List.mem_map] at h
    rcases h with ⟨v, _, rfl⟩ | h
    · exact ⟨n, v, rfl, Nat.le_refl _⟩
    · obtain ⟨i, v, e, hi⟩ := ahd_mem h
      exact ⟨i, v, e, by omega⟩
theorem ahd_sorted : ∀ {l : List (List (List Nat))} {n : Nat}, (∀ ws ∈ l, ws.Pairwise fun v w => ¬ w < v) → (ahd n l).Pairwise fun v w => ¬ w < v
  | [], _, _ => .nil
  | ws :: r, n, h => by
    simp only [ahd]
    rw [List.pairwise_append]
    refine ⟨?_, ahd_sorted fun x hx => h x (List.mem_cons_of_mem _ hx), ?_⟩
    · rw [List.pairwise_map]
      refine (h ws List.mem_cons_self).imp fun {a b} hab => ?_
      simp only [List.cons_lt_cons_iff, Nat.lt_irrefl, false_or, true_and]
      exact hab
    · intro a ha b hb
      obtain ⟨v, _, rfl⟩ := List.mem_map.mp ha
      obtain ⟨i, w, rfl, hi⟩ := ahd_mem hb
      simp only [List.cons_lt_cons_iff]
      omega
theorem lways_sorted : ∀ (d : Nat) (t : Tm), (t.lwaysD d).Pairwise fun v w => ¬ w < v
  | 0, t => by simp only [Tm.lwaysD]; split <;> simp
  | d + 1, t => by
    simp only [Tm.lwaysD]
    have h1 : (ahd 0 (t.inn.map fun p => Tm.lwaysD d p.2)).Pairwise fun v w => ¬ w < v := ahd_sorted fun ws hws => by
      obtain ⟨p, _, rfl⟩ := List.mem_map.mp hws
      exact lways_sorted d p.2
    rw [List.pairwise_append]
    refine ⟨by split <;> simp, h1, ?_⟩
    intro a ha b hb
    split at ha
    · rw [List.mem_singleton] at ha
      subst ha
      simp
    · cases ha
theorem sort_lways (d : Nat) (t : Tm) : ((t.lwaysD d).map wl).mergeSort srtLe = (t.lwaysD d).map wl := by
  apply List.mergeSort_of_pairwise
  rw [List.pairwise_map]
  exact (lways_sorted d t).imp fun {a b} h => by rw [le_wl]; simpa using h
def cN : Nat → Nat
  | 0 => 1
  | d + 1 => 1 + 4 * cN d
theorem ahd_len {b : Nat} : ∀ {l : List (List (List Nat))} {n : Nat}, (∀ ws ∈ l, ws.length ≤ b) → (ahd n l).length ≤ l.length * b
  | [], _, _ => by simp [ahd]
  | ws :: r, n, h => by
    have h1 := h ws List.mem_cons_self
    have h2 := ahd_len (n := n + 1) fun x hx => h x (List.mem_cons_of_mem _ hx)
    simp only [ahd, List.length_append, List.length_map, List.length_cons, Nat.add_mul]
    omega
theorem ways_len {V : Voc} : ∀ (d : Nat) (t : Tm), Wf V t → (t.waysD d).length ≤ cN d
  | 0, t, _ => by simp [Tm.waysD, cN]
  | d + 1, t, h => by
    simp only [Tm.waysD, List.length_cons, cN]
    have h1 := ahd_len (l := t.inn.map fun p => Tm.waysD d p.2) (n := 0) (b := cN d) fun ws hws => by
      obtain ⟨p, hp, rfl⟩ := List.mem_map.mp hws
      exact ways_len d p.2 (h.inn hp).1
    rw [List.length_map] at h1
    have h2 : t.inn.length * cN d ≤ 4 * cN d := Nat.mul_le_mul_right _ h.len
    omega
theorem lways_len {V : Voc} : ∀ (d : Nat) (t : Tm), Wf V t → (t.lwaysD d).length ≤ cN d
  | 0, t, _ => by simp only [Tm.lwaysD, cN]; split <;> simp
  | d + 1, t, h => by
    simp only [Tm.lwaysD, List.length_append, cN]
    have h1 := ahd_len (l := t.inn.map fun p => Tm.lwaysD d p.2) (n := 0) (b := cN d) fun ws hws => by
      obtain ⟨p, hp, rfl⟩ := List.mem_map.mp hws
      exact lways_len d p.2 (h.inn hp).1
    rw [List.length_map] at h1
    have h2 : t.inn.length * cN d ≤ 4 * cN d := Nat.mul_le_mul_right _ h.len
    split <;> simp <;> omega
theorem ahd_long {b : Nat} {n : Nat} : ∀ {l : List (List (List Nat))} {n : Nat}, (∀ ws ∈ l, ∀ w ∈ ws, w.length ≤ b) → ∀ w ∈ ahd n l, w.length ≤ b + 1
  | [], _, _, w, h => by cases h
  | ws :: r, n, h, w, hw => by
    simp only [ahd, List.mem_append, List.mem_map] at hw
    rcases hw with ⟨v, hv, rfl⟩ | hw
    · have := h ws List.mem_cons_self v hv
      simp; omega
    · exact ahd_long (n := n) (fun x hx => h x (List.mem_cons_of_mem _ hx)) w hw
theorem ways_long : ∀ (d : Nat) (t : Tm), ∀ w ∈ t.waysD d, w.length ≤ d
  | 0, t, w, h => by simp [Tm.waysD] at h; simp [h]
  | d + 1, t, w, h => by
    simp only [Tm.waysD, List.mem_cons] at h
    rcases h with rfl | h
    · simp
    · exact ahd_long (n := 0) (fun ws hws w hw => by
        obtain ⟨p, _, rfl⟩ := List.mem_map.mp hws
        exact ways_long d p.2 w hw) w h
theorem lways_long : ∀ (d : Nat) (t : Tm), ∀ w ∈ t.lwaysD d, w.length ≤ d
  | 0, t, w, h => by simp only [Tm.lwaysD] at h; split at h <;> simp at h; simp [h]
  | d + 1, t, w, h => by
    simp only [Tm.lwaysD, List.mem_append] at h
    rcases h with h | h
    · split at h <;> simp at h; simp [h]
    · exact ahd_long (n := 0) (fun ws hws w hw => by
        obtain ⟨p, _, rfl⟩ := List.mem_map.mp hws
        exact lways_long d p.2 w hw) w h
def Tm.rpl (t : Tm) (y : Tx) (w : Tm) : Tm := match t with
  | .nm x => if x = y then w else .nm x
  | .fm f ps => .fm f (ps.map fun p => (p.1, p.2.rpl y w))
  | .hl h ts => .hl h (ts.map fun t => t.rpl y w)
  | .lt x b v => .lt x (b.rpl y w) (v.rpl y w)
termination_by t
decreasing_by
  all_goals simp only [Tm.fm.sizeOf_spec, Tm.hl.sizeOf_spec, Tm.lt.sizeOf_spec]
  all_goals first | (have := Tm.szp ‹_ ∈ _›; omega) | (have := List.sizeOf_lt_of_mem ‹_ ∈ _›; omega) | omega
theorem rpl_nm {x y : Tx} {w : Tm} : (Tm.nm x).rpl y w = if x = y then w else .nm x := by rw [Tm.rpl]
theorem rpl_fm {f y : Tx} {w : Tm} {ps : List (List Tx × Tm)} : (Tm.fm f ps).rpl y w = .fm f (ps.map fun p => (p.1, p.2.rpl y w)) := by rw [Tm.rpl]
theorem rpl_hl {h y : Tx} {w : Tm} {ts : List Tm} : (Tm.hl h ts).rpl y w = .hl h (ts.map fun t => t.rpl y w) := by rw [Tm.rpl]
theorem rpl_lt {x y : Tx} {w b v : Tm} : (Tm.lt x b v).rpl y w = .lt x (b.rpl y w) (v.rpl y w) := by rw [Tm.rpl]
def Tm.wi : Tm → Nat → Tm → Tm
  | .nm x, _, _ => .nm x
  | .fm f ps, i, u => .fm f (ps.set i ((ps.getD i ([], u)).1, u))
  | .hl h ts, i, u => .hl h (ts.set i u)
  | .lt x b w, i, u => if i = 0 then .lt x u w else .lt x b u
def Tm.lp : Tm → List Nat → Tm
  | .lt x b w, [] => b.rpl x w
  | t, [] => t
  | t, i :: v => match t.inn[i]? with
    | some p => t.wi i (p.2.lp v)
    | none => t
def Tm.pg : Tm → List Nat → (Tx → Nat → Tm) → Nat → Tm
  | .lt x b w, [], E, d => b.gl (fun y d' => if y = x then w.gl E d' else E y d') d
  | t, [], E, d => t.gl E d
  | t, i :: v, E, d => match t.inn[i]? with
    | some p => (t.gl E d).wi i (p.2.pg v (lx E d p.1) (d + p.1.length))
    | none => t.gl E d
theorem rpl_gl {j : Nat} {w : Tm} : ∀ (t : Tm) {G : Tx → Nat → Tm} {d : Nat}, j < d → (t.gl G d).rpl (natTx j) w = t.gl (fun y d' => (G y d').rpl (natTx j) w) d := by
  intro t
  induction t using Tm.ind with
  | h t ih =>
  intro G d hj
  have up : ∀ {p : List Tx × Tm}, p ∈ t.inn → (p.2.gl (lx G d p.1) (d + p.1.length)).rpl (natTx j) w = p.2.gl (lx (fun y d' => (G y d').rpl (natTx j) w) d p.1) (d + p.1.length) := fun {p} hp => by
    rw [ih p hp (by omega)]
    refine gl_congr p.2 fun x hx d' hd => ?_
    by_cases hm : x ∈ p.1
    · obtain ⟨i, a, b, e1, e2⟩ := lx_in (E := G) (d := d) hm (d' := d')
      rw [e1, rpl_nm, if_neg fun e => by have := natTx_inj e; omega]
      unfold lx
      rw [e2]
    · rw [lx_out hm, lx_out hm]
  cases t with
  | nm x => rw [gl_nm, gl_nm]
  | fm k ps =>
    rw [gl_fm, gl_fm, rpl_fm, List.map_map]
    congr 1
    exact List.map_congr_left fun p hp => by simp only [Function.comp]; rw [up (p := p) hp]
  | hl k ts =>
    rw [gl_hl, gl_hl, rpl_hl, List.map_map]
    congr 1
    refine List.map_congr_left fun u hu => ?_
    exact up (p := ([], u)) (List.mem_map_of_mem hu)
  | lt x b v =>
    rw [gl_lt, gl_lt, rpl_lt]
    have h1 := up (p := ([x], b)) (by simp [Tm.inn])
    have h2 := up (p := ([], v)) (by simp [Tm.inn])
    exact congr (congrArg _ h1) h2
def Lvd (E : Tx → Nat → Tm) (d : Nat) (t : Tm) : Prop := ∀ x ∈ t.fv, ∃ i, i < d ∧ ∀ d', E x d' = .nm (natTx i)
theorem Lvd.inn {E : Tx → Nat → Tm} {d : Nat} {t : Tm} (h : Lvd E d t) (ht : ∀ x, t ≠ .nm x) {p : List Tx × Tm} (hp : p ∈ t.inn) : Lvd (lx E d p.1) (d + p.1.length) p.2 := by
  intro x hx
  by_cases hm : x ∈ p.1
  · obtain ⟨i, a, b, e1, e2⟩ := lx_in (E := E) (d := d) hm (d' := 0)
    refine ⟨i, b, fun d' => ?_⟩
    unfold lx
    rw [e2]
  · obtain ⟨i, a, b⟩ := h x ((mem_fv ht).mpr ⟨p, hp, hx, hm⟩)
    exact ⟨i, by omega, fun d' => by rw [lx_out hm]; exact b d'⟩
abbrev idE : Tx → Nat → Tm := fun y _ => .nm y
theorem lx_id {d n : Nat} : lx idE d (figs d n) = idE := by
  funext y d'
  by_cases h : y ∈ figs d n
  · obtain ⟨i, rfl, a, b⟩ := figs_ex h
    have hi : (figs d n)[i - d]? = some (natTx i) := by
      unfold figs
      rw [List.getElem?_map, List.getElem?_range' (by omega)]
      simp
      congr 1
      omega
    rw [lx_at figs_nodup hi]
    congr 2
    omega
  · rw [lx_out h]
theorem gl_id {t : Tm} {E : Tx → Nat → Tm} {d : Nat} (h : Lvd E d t) {d1 : Nat} : (t.gl E d).gl idE d1 = t.gl E d1 := by
  rw [gl_gl t (ρ := fun x => E x 0) (F := E)]
  · refine gl_congr t fun x hx d' _ => ?_
    obtain ⟨i, hi, e⟩ := h x hx
    rw [e 0, e d', gl_nm]
  · intro x hx y hy i hi
    obtain ⟨j, hj, e⟩ := h x hx
    rw [e 0] at hy
    simp only [Tm.fv, List.mem_cons, List.not_mem_nil, or_false] at hy
    intro e2
    rw [hy] at e2
    have := natTx_inj e2
    omega
  · intro x hx d'
    obtain ⟨j, hj, e⟩ := h x hx
    rw [e 0, e d']
theorem gl_fv_lv {t : Tm} {E : Tx → Nat → Tm} {d : Nat} (h : Lvd E d t) : ∀ {d1 : Nat}, ∀ y ∈ (t.gl E d1).fv, ∃ i, i < d ∧ y = natTx i := by
  intro d1 y hy
  obtain ⟨x, hx, d', _, h3⟩ := gl_fv t hy
  obtain ⟨i, hi, e⟩ := h x hx
  rw [e d'] at h3
  simp only [Tm.fv, List.mem_cons, List.not_mem_nil, or_false] at h3
  exact ⟨i, hi, h3⟩
theorem gl_inn : ∀ {t : Tm} {E : Tx → Nat → Tm} {d : Nat}, ((t.gl E d).inn = t.inn.map fun p => (figs d p.1.length, p.2.gl (lx E d p.1) (d + p.1.length))) ∨ ∃ x, t = .nm x := by
  intro t E d
  cases t with
  | nm x => exact .inr ⟨x, rfl⟩
  | fm f ps => left; rw [gl_fm]; rfl
  | hl h ts =>
    left
    rw [gl_hl]
    simp only [Tm.inn, List.map_map]
    refine List.map_congr_left fun u hu => ?_
    simp only [Function.comp, List.length_nil, Nat.add_zero]
    refine congr (congrArg _ (by simp [figs])) ?_
    rfl
  | lt x b w =>
    left
    rw [gl_lt]
    simp only [Tm.inn, List.map_cons, List.map_nil, List.length_cons, List.length_nil, Nat.add_zero, Nat.zero_add]
    have e1 : figs d 1 = [natTx d] := by simp [figs]
    have e2 : figs d 0 = [] := by simp [figs]
    rw [e1, e2]
    rfl
theorem wi_gl {t u : Tm} {E : Tx → Nat → Tm} {d i : Nat} {p : List Tx × Tm} (hp : t.inn[i]? = some p) : (t.wi i u).gl E d = (t.gl E d).wi i (u.gl (lx E d p.1) (d + p.1.length)) := by
  cases t with
  | nm x => simp [Tm.inn] at hp
  | fm f ps =>
    have hp' : ps[i]? = some p := hp
    simp only [Tm.wi, gl_fm, List.map_set, List.getD_eq_getElem?_getD, hp', List.getElem?_map, Option.map_some, Option.getD_some]
  | hl h ts =>
    simp only [Tm.inn, List.getElem?_map, Option.map_eq_some_iff] at hp
    obtain ⟨v, hv, rfl⟩ := hp
    simp only [Tm.wi, gl_hl, List.map_set]
    rfl
  | lt x b w =>
    simp only [Tm.wi]
    rw [gl_lt]
    match i, hp with
    | 0, hp =>
      simp only [Tm.inn, List.getElem?_cons_zero, Option.some.injEq] at hp
      subst hp
      simp only [if_pos, gl_lt, Tm.wi]
      rfl
    | 1, hp =>
      simp only [Tm.inn, List.getElem?_cons_succ, List.getElem?_cons_zero, Option.some.injEq] at hp
      subst hp
      simp only [Nat.one_ne_zero, if_false, gl_lt, Tm.wi]
      rfl
    | i + 2, hp => simp [Tm.inn] at hp
theorem wi_wi {t u v : Tm} {i : Nat} : (t.wi i u).wi i v = t.wi i v := by
  cases t with
  | nm x => rfl
  | fm f ps =>
    simp only [Tm.wi, List.getD_eq_getElem?_getD, List.set_set]
    congr 1
    by_cases h : i < ps.length
    · simp [h]
    · rw [List.set_eq_of_length_le (by omega), List.set_eq_of_length_le (by omega)]
  | hl h ts => simp only [Tm.wi, List.set_set]
  | lt x b w =>
    simp only [Tm.wi]
    by_cases h : i = 0 <;> simp [h, Tm.wi]
theorem inn_nm {t : Tm} {i : Nat} {p : List Tx × Tm} (h : t.inn[i]? = some p) : ∀ x, t ≠ .nm x := fun x e => by subst e; simp [Tm.inn] at h
theorem pg_some {t : Tm} {i : Nat} {v : List Nat} {E : Tx → Nat → Tm} {d : Nat} {p : List Tx × Tm} (hp : t.inn[i]? = some p) : t.pg (i :: v) E d = (t.gl E d).wi i (p.2.pg v (lx E d p.1) (d + p.1.length)) := by cases t <;> simp only [Tm.pg, hp]
theorem pg_none {t : Tm} {i : Nat} {v : List Nat} {E : Tx → Nat → Tm} {d : Nat} (hp : t.inn[i]? = none) : t.pg (i :: v) E d = t.gl E d := by cases t <;> simp only [Tm.pg, hp]
theorem lp_some {t : Tm} {i : Nat} {v : List Nat} {p : List Tx × Tm} (hp : t.inn[i]? = some p) : t.lp (i :: v) = t.wi i (p.2.lp v) := by cases t <;> simp only [Tm.lp, hp]
theorem lp_none {t : Tm} {i : Nat} {v : List Nat} (hp : t.inn[i]? = none) : t.lp (i :: v) = t := by cases t <;> simp only [Tm.lp, hp]
theorem lp_gl : ∀ (v : List Nat) {t : Tm} {E : Tx → Nat → Tm} {d : Nat}, Lvd E d t → ((t.gl E d).lp v).gl idE d = t.pg v E d := by
  intro v
  induction v with
  | nil =>
    intro t E d h
    cases t with
    | lt x b w =>
      rw [gl_lt]
      simp only [Tm.lp, Tm.pg]
      have hb := h.inn (by simp) (p := ([x], b)) (by simp [Tm.inn])
      have hw := h.inn (by simp) (p := ([], w)) (by simp [Tm.inn])
      have hw : Lvd E d w := hw
      rw [rpl_gl b (Nat.lt_succ_self d)]
      rw [gl_gl b (ρ := fun y => if y = x then w.gl E d else E y 0)]
      · refine gl_congr b fun y hy d' _ => ?_
        try dsimp only
        by_cases e : y = x
        · rw [if_pos e, if_pos e, gl_id hw]
        · rw [if_neg e, if_neg e]
          obtain ⟨i, hi, g⟩ := hb y hy
          have g0 := g 0
          have g1 := g d'
          rw [lx_out (by simpa using e)] at g0 g1
          rw [g0, g1, gl_nm]
      · intro y hy z hz i hi
        try dsimp only at hz
        by_cases e : y = x
        · rw [if_pos e] at hz
          obtain ⟨j, hj, rfl⟩ := gl_fv_lv hw z hz
          intro e2
          have := natTx_inj e2
          omega
        · rw [if_neg e] at hz
          obtain ⟨j, hj, g⟩ := h y ((mem_fv (t := .lt x b w) (by simp)).mpr ⟨([x], b), by simp [Tm.inn], hy, by simpa using e⟩)
          rw [g 0] at hz
          simp only [Tm.fv, List.mem_cons, List.not_mem_nil, or_false] at hz
          intro e2
          rw [hz] at e2
          have := natTx_inj e2
          omega
      · intro y hy d'
        try dsimp only
        by_cases e : y = x
        · subst e
          rw [if_pos rfl, lx_at (List.nodup_cons.mpr ⟨by simp, .nil⟩) (i := 0) rfl, rpl_nm, Nat.add_zero, if_pos rfl]
        · rw [if_neg e, lx_out (by simpa using e)]
          obtain ⟨j, hj, g⟩ := h y ((mem_fv (t := .lt x b w) (by simp)).mpr ⟨([x], b), by simp [Tm.inn], hy, by simpa using e⟩)
          rw [g d', g 0, rpl_nm, if_neg fun e2 => by have := natTx_inj e2; omega]
    | nm x => simp only [gl_nm, Tm.pg]; obtain ⟨i, hi, e⟩ := h x (by simp [Tm.fv]); rw [e d]; simp only [Tm.lp, gl_nm]
    | fm f ps => have := gl_id h (d1 := d); rw [gl_fm] at this ⊢; simp only [Tm.lp, Tm.pg]; rw [this, gl_fm]
    | hl f ps => have := gl_id h (d1 := d); rw [gl_hl] at this ⊢; simp only [Tm.lp, Tm.pg]; rw [this, gl_hl]
  | cons i v ih =>
    intro t E d h
    cases hp : t.inn[i]? with
    | none =>
      have e1 : t.pg (i :: v) E d = t.gl E d := pg_none hp
      have e2 : (t.gl E d).lp (i :: v) = t.gl E d := by
        rcases gl_inn (t := t) (E := E) (d := d) with g | ⟨x, rfl⟩
        · have : (t.gl E d).inn[i]? = none := by rw [g, List.getElem?_map, hp]; rfl
          exact lp_none this
        · rw [gl_nm]
          obtain ⟨j, hj, e⟩ := h x (by simp [Tm.fv])
          rw [e d]
          simp [Tm.lp, Tm.inn]
      rw [e2, e1, gl_id h]
    | some p =>
      have ht := inn_nm hp
      have hpm := List.mem_of_getElem? hp
      have e1 : t.pg (i :: v) E d = (t.gl E d).wi i (p.2.pg v (lx E d p.1) (d + p.1.length)) := pg_some hp
      have g : (t.gl E d).inn = _ := (gl_inn (t := t) (E := E) (d := d)).resolve_right fun ⟨x, e⟩ => ht x e
      have g2 : (t.gl E d).inn[i]? = some (figs d p.1.length, p.2.gl (lx E d p.1) (d + p.1.length)) := by rw [g, List.getElem?_map, hp]; rfl
      have e2 : (t.gl E d).lp (i :: v) = (t.gl E d).wi i ((p.2.gl (lx E d p.1) (d + p.1.length)).lp v) := lp_some g2
      rw [e1, e2, wi_gl g2]
      simp only [figs_len, lx_id]
      rw [ih (h.inn ht hpm)]
      have e3 := gl_id h (d1 := d)
      rw [e3]
theorem lets_sum (t : Tm) : t.lets = (if t.isLt then 1 else 0) + (t.inn.map fun p => p.2.lets).sum := by
  cases t with
  | nm x => simp [Tm.lets, Tm.isLt, Tm.inn]
  | fm f ps => simp [Tm.lets, Tm.isLt, Tm.inn]
  | hl h ts => simp [Tm.lets, Tm.isLt, Tm.inn, Function.comp_def]
  | lt x b w => simp [Tm.lets, Tm.isLt, Tm.inn]; omega
theorem sum_mem {α : Type} {f : α → Nat} : ∀ {l : List α} {a : α}, a ∈ l → f a ≤ (l.map f).sum
  | b :: l, a, h => by
    simp only [List.map_cons, List.sum_cons]
    rcases List.mem_cons.mp h with rfl | h
    · omega
    · have := sum_mem (f := f) h; omega
theorem lets_inn {t : Tm} {p : List Tx × Tm} (h : p ∈ t.inn) : p.2.lets ≤ t.lets := by
  rw [lets_sum t]
  have := sum_mem (f := fun p : List Tx × Tm => p.2.lets) h
  omega
theorem ahd_len2 : ∀ (l : List (List (List Nat))) (n : Nat), (ahd n l).length = (l.map List.length).sum
  | [], _ => rfl
  | ws :: r, n => by simp only [ahd, List.length_append, List.length_map, List.map_cons, List.sum_cons, ahd_len2 r (n + 1)]
theorem lways_lets : ∀ (d : Nat) (t : Tm), t.dep ≤ d → (t.lwaysD d).length = t.lets
  | 0, t, h => by
    rw [lets_sum, leaf_dep (by omega)]
    simp only [Tm.lwaysD]
    split <;> simp
  | d + 1, t, h => by
    rw [lets_sum]
    simp only [Tm.lwaysD, List.length_append, ahd_len2, List.map_map]
    have e : t.inn.map (List.length ∘ fun p => Tm.lwaysD d p.2) = t.inn.map fun p => p.2.lets := List.map_congr_left fun p hp => by
      have := Tm.dep_inn hp
      exact lways_lets d p.2 (by omega)
    rw [e]
    split <;> simp
theorem sum_congr {α : Type} {f g : α → Nat} {l : List α} (h : ∀ a ∈ l, f a = g a) : (l.map f).sum = (l.map g).sum := by rw [List.map_congr_left h]
theorem sum_add {α : Type} {f g : α → Nat} : ∀ l : List α, (l.map fun a => f a + g a).sum = (l.map f).sum + (l.map g).sum
  | [] => rfl
  | a :: l => by simp only [List.map_cons, List.sum_cons, sum_add l]; omega
theorem sum_filter0 {L : Tx → Nat} {ns : List Tx} : ∀ l : List Tx, (l.map fun x => if x ∈ ns then 0 else L x).sum = ((l.filter fun x => decide (x ∉ ns)).map L).sum
  | [] => rfl
  | x :: l => by
    simp only [List.map_cons, List.sum_cons, List.filter_cons, sum_filter0 l]
    by_cases h : x ∈ ns <;> simp [h]
theorem sum_flat {α : Type} {L : Tx → Nat} {f : α → List Tx} : ∀ l : List α, ((l.map f).flatten.map L).sum = (l.map fun a => ((f a).map L).sum).sum
  | [] => rfl
  | a :: l => by simp only [List.map_cons, List.flatten_cons, List.map_append, List.sum_append, List.sum_cons, sum_flat l]
theorem lets_gl : ∀ (t : Tm) {E : Tx → Nat → Tm} {d : Nat} {L : Tx → Nat}, (∀ x ∈ t.fv, ∀ d', (E x d').lets = L x) → (t.gl E d).lets = t.lets + (t.fv.map L).sum := by
  intro t
  induction t using Tm.ind with
  | h t ih =>
  intro E d L h
  have up : ∀ {p : List Tx × Tm}, (∀ x, t ≠ .nm x) → p ∈ t.inn → (p.2.gl (lx E d p.1) (d + p.1.length)).lets = p.2.lets + ((p.2.fv.filter fun x => decide (x ∉ p.1)).map L).sum := fun {p} ht hp => by
    rw [ih p hp (L := fun x => if x ∈ p.1 then 0 else L x), sum_filter0]
    intro x hx d'
    by_cases hm : x ∈ p.1
    · obtain ⟨i, a, b, e1, e2⟩ := lx_in (E := E) (d := d) hm (d' := d')
      rw [e1, if_pos hm]
      simp [Tm.lets]
    · rw [lx_out hm, if_neg hm]
      exact h x ((mem_fv ht).mpr ⟨p, hp, hx, hm⟩) d'
  by_cases ht : ∃ x, t = .nm x
  · obtain ⟨x, rfl⟩ := ht
    rw [gl_nm, h x (by simp [Tm.fv])]
    simp [Tm.lets, Tm.fv]
  · have ht : ∀ x, t ≠ .nm x := fun x e => ht ⟨x, e⟩
    have g : (t.gl E d).inn = _ := (gl_inn (t := t) (E := E) (d := d)).resolve_right fun ⟨x, e⟩ => ht x e
    have gi : (t.gl E d).isLt = t.isLt := by
      cases t with
      | nm x => exact absurd rfl (ht x)
      | fm f ps => rw [gl_fm]; rfl
      | hl h ts => rw [gl_hl]; rfl
      | lt x b w => rw [gl_lt]; rfl
    rw [lets_sum (t.gl E d), lets_sum t, g, gi, List.map_map, Tm.fv_inn ht, sum_flat]
    have e : (t.inn.map ((fun p : List Tx × Tm => p.2.lets) ∘ fun p => (figs d p.1.length, p.2.gl (lx E d p.1) (d + p.1.length)))).sum = (t.inn.map fun p => p.2.lets + ((p.2.fv.filter fun x => decide (x ∉ p.1)).map L).sum).sum := sum_congr fun p hp => up ht hp
    rw [e, sum_add]
    omega
theorem lets_gl0 {t : Tm} {E : Tx → Nat → Tm} {d : Nat} (h : ∀ x ∈ t.fv, ∀ d', ∃ z, E x d' = .nm z) : (t.gl E d).lets = t.lets := by
  rw [lets_gl t (L := fun _ => 0)]
  · have : ∀ l : List Tx, (l.map fun _ => 0).sum = 0 := fun l => by induction l with
      | nil => rfl
      | cons a l ih => rw [List.map_cons, List.sum_cons, ih]
    rw [this]; rfl
  · intro x hx d'
    obtain ⟨z, e⟩ := h x hx d'
    rw [e]; simp [Tm.lets]
theorem Lvd.names {E : Tx → Nat → Tm} {d : Nat} {t : Tm} (h : Lvd E d t) : ∀ x ∈ t.fv, ∀ d', ∃ z, E x d' = .nm z := fun x hx d' => let ⟨i, _, e⟩ := h x hx; ⟨_, e d'⟩
theorem sum_count {x : Tx} {c : Nat} : ∀ l : List Tx, (l.map fun y => if y = x then c else 0).sum = l.count x * c
  | [] => by simp
  | y :: l => by
    simp only [List.map_cons, List.sum_cons, sum_count l, List.count_cons]
    by_cases h : y = x
    · subst h; simp [Nat.add_mul]; omega
    · simp [h]
theorem set_sum {α : Type} {f : α → Nat} : ∀ {l : List α} {i : Nat} {a b : α}, l[i]? = some a → ((l.set i b).map f).sum + f a = (l.map f).sum + f b
  | [], i, a, b, h => by simp at h
  | x :: l, 0, a, b, h => by simp at h; subst h; simp only [List.set_cons_zero, List.map_cons, List.sum_cons]; omega
  | x :: l, i + 1, a, b, h => by
    have := set_sum (f := f) (b := b) (show l[i]? = some a by simpa using h)
    simp only [List.set_cons_succ, List.map_cons, List.sum_cons]; omega
theorem wi_lets {t u : Tm} {i : Nat} {p : List Tx × Tm} (hp : t.inn[i]? = some p) : (t.wi i u).lets + p.2.lets = t.lets + u.lets := by
  cases t with
  | nm x => simp [Tm.inn] at hp
  | fm f ps =>
    simp only [Tm.wi, Tm.lets]
    exact set_sum (f := fun p : List Tx × Tm => p.2.lets) hp
  | hl h ts =>
    simp only [Tm.inn, List.getElem?_map, Option.map_eq_some_iff] at hp
    obtain ⟨v, hv, rfl⟩ := hp
    simp only [Tm.wi, Tm.lets]
    exact set_sum (f := fun t : Tm => t.lets) hv
  | lt x b w =>
    match i, hp with
    | 0, hp =>
      simp only [Tm.inn, List.getElem?_cons_zero, Option.some.injEq] at hp
      subst hp
      simp only [Tm.wi, if_pos, Tm.lets]; omega
    | 1, hp =>
      simp only [Tm.inn, List.getElem?_cons_succ, List.getElem?_cons_zero, Option.some.injEq] at hp
      subst hp
      simp only [Tm.wi, Nat.one_ne_zero, if_false, Tm.lets]; omega
    | i + 2, hp => simp [Tm.inn] at hp
theorem pg_lets : ∀ (v : List Nat) {t : Tm} {E : Tx → Nat → Tm} {d : Nat} {x : Tx} {b w : Tm}, Lvd E d t → t.at v = some (.lt x b w) → b.fv.count x = 1 → (t.pg v E d).lets + 1 = t.lets := by
  intro v
  induction v with
  | nil =>
    intro t E d x b w h ha hc
    simp only [Tm.at, Option.some.injEq] at ha
    subst ha
    simp only [Tm.pg]
    have hw : Lvd E d w := h.inn (by simp) (p := ([], w)) (by simp [Tm.inn])
    rw [lets_gl b (L := fun y => if y = x then w.lets else 0)]
    · rw [sum_count, hc]
      simp only [Tm.lets]; omega
    · intro y hy d'
      try dsimp only
      by_cases e : y = x
      · rw [if_pos e, if_pos e]
        exact lets_gl0 hw.names
      · rw [if_neg e, if_neg e]
        obtain ⟨i, hi, g⟩ := h y ((mem_fv (t := .lt x b w) (by simp)).mpr ⟨([x], b), by simp [Tm.inn], hy, by simpa using e⟩)
        rw [g]; simp [Tm.lets]
  | cons i v ih =>
    intro t E d x b w h ha hc
    simp only [Tm.at] at ha
    split at ha
    · rename_i p hp
      have ht := inn_nm hp
      have hl := h.inn ht (List.mem_of_getElem? hp)
      rw [pg_some hp]
      have g : (t.gl E d).inn = _ := (gl_inn (t := t) (E := E) (d := d)).resolve_right fun ⟨x, e⟩ => ht x e
      have g2 : (t.gl E d).inn[i]? = some (figs d p.1.length, p.2.gl (lx E d p.1) (d + p.1.length)) := by rw [g, List.getElem?_map, hp]; rfl
      have e1 := wi_lets (u := p.2.pg v (lx E d p.1) (d + p.1.length)) g2
      have e2 := ih hl ha hc
      have e3 := lets_gl0 h.names (d := d)
      have e4 := lets_gl0 hl.names (d := d + p.1.length)
      simp only at e1
      rw [e4, e3] at e1
      omega
    · cases ha
theorem rpl_ev {T : Nat → Option Fn} (hT : T 135 = some fn135) {V : Voc} : ∀ (n : Nat) {t : Tm}, Wf V t → t.dep ≤ n → ∀ {y : Tx} {w : Tm} {st : Store} {k : Nat}, n ≤ k → callK T (k + 1) 135 [.p t.enc, .p (.str y), .p w.enc] st = .ok (.p (t.rpl y w).enc) st := by
  have hL := LINE_eq
  have hz2 : (2 : Nat) ≤ LINE := by omega
  have hz3 : (3 : Nat) ≤ LINE := by omega
  have hz4 : (4 : Nat) ≤ LINE := by omega
  have nm : ∀ {x y : Tx} {w : Tm} {st : Store} {k : Nat}, callK T (k + 1) 135 [.p (Tm.nm x).enc, .p (.str y), .p w.enc] st = .ok (.p ((Tm.nm x).rpl y w).enc) st := by
    intro x y w st k
    refine To.run (call_end hT rfl ?_)
    unfold fn135
    rw [Tm.enc_nm, rpl_nm]
    by_cases e : x = y
    · subst e
      simp_arith []
      exact Hide.of ⟨by simp, by simp⟩
    · simp_arith [beq_eq_false_iff_ne.mpr e, if_neg e, Tm.enc_nm]
      exact Hide.of ⟨by rw [if_neg e, Tm.enc_nm], by simp⟩
  intro n
  induction n with
  | zero =>
    intro t hw hd y w st k hk
    cases t with
    | nm x => exact nm
    | _ => simp [Tm.dep] at hd <;> omega
  | succ n ih =>
    intro t hw hd y w st k hk
    obtain ⟨k, rfl⟩ : ∃ k', k = k' + 1 := ⟨k - 1, by omega⟩
    have hin : ∀ p ∈ t.inn, p.2.dep ≤ n := fun p hp => by have := Tm.dep_inn hp; omega
    cases hw with
    | @nm x hx => exact nm
    | @fm f ps h1 h2 h3 h4 =>
      refine To.run (call_end hT rfl ?_)
      unfold fn135
      rw [Tm.enc_fm, rpl_fm, Tm.enc_fm]
      simp_arith []
      refine comp_pure (fun p : List Tx × Tm => .tup [.tup (p.1.map P.str), (p.2.rpl y w).enc]) (by omega) ?_ ?_
      · intro p hp
        refine ⟨_, rfl, ?_⟩
        have g4 := ih (h4 p hp) (hin p hp) (y := y) (w := w) (st := st) (k := k) (by omega)
        simp_arith [g4, hz2]
      · simp_arith [hz3]
        exact Hide.of ⟨by simp [Function.comp_def], by simp⟩
    | @hl h ts h1 h2 h3 =>
      refine To.run (call_end hT rfl ?_)
      unfold fn135
      rw [Tm.enc_hl, rpl_hl, Tm.enc_hl]
      simp_arith []
      refine comp_pure (fun t : Tm => (t.rpl y w).enc) (by omega) ?_ ?_
      · intro u hu
        refine ⟨_, rfl, ?_⟩
        have g4 := ih (h3 u hu) (hin ([], u) (List.mem_map_of_mem hu)) (y := y) (w := w) (st := st) (k := k) (by omega)
        simp_arith [g4]
      · simp_arith [hz3]
        exact Hide.of ⟨by simp [Function.comp_def], by simp⟩
    | @lt x b v hx hb hv =>
      refine To.run (call_end hT rfl ?_)
      unfold fn135
      rw [Tm.enc_lt, rpl_lt, Tm.enc_lt]
      have g4 := fun st => ih hb (hin ([x], b) (by simp [Tm.inn])) (y := y) (w := w) (st := st) (k := k) (by omega)
      have g5 := fun st => ih hv (hin ([], v) (by simp [Tm.inn])) (y := y) (w := w) (st := st) (k := k) (by omega)
      simp_arith [g4, g5, hz4]
      exact Hide.of ⟨rfl, by simp⟩
theorem idx_hd' (t : Tm) : idxP t.enc (.int 0) = some (.str t.hd) := by
  cases t <;> simp [Tm.enc, Tm.hd, ix0]
theorem hd_let' (t : Tm) : (t.hd == sLet) = t.isLt := by cases t <;> rfl
theorem enumL_map' {α : Type} {f : α → P} : ∀ (l : List α) (n : Nat), enumL n (l.map f) = (l.mapIdx fun i a => P.tup [.int ((n + i : Nat) : Int), f a])
  | [], _ => by simp [enumL]
  | a :: l, n => by
    simp only [List.map_cons, enumL, List.mapIdx_cons, Nat.add_zero]
    rw [enumL_map' l (n + 1)]
    have e : (fun i a => P.tup [.int ((n + 1 + i : Nat) : Int), f a]) = fun i a => P.tup [.int ((n + (i + 1) : Nat) : Int), f a] := by
      funext i a; rw [Nat.add_assoc, Nat.add_comm 1 i]
    rw [e]
theorem ahd_snoc' : ∀ (l : List (List (List Nat))) (n : Nat) (ws : List (List Nat)), ahd n (l ++ [ws]) = ahd n l ++ ws.map ((n + l.length) :: ·)
  | [], n, ws => by simp [ahd]
  | a :: l, n, ws => by
    simp only [List.cons_append, ahd, ahd_snoc' l (n + 1) ws, List.append_assoc, List.length_cons]
    rw [Nat.add_assoc, Nat.add_comm 1]
theorem lw_ev {T : Nat → Option Fn} (hT11 : T 11 = some fn11) (hT : T 136 = some fn136) {V : Voc} : ∀ (d : Nat) (t : Tm), Wf V t → t.dep ≤ d → d ≤ 100 → t.lets ≤ 1000 → ∀ {k : Nat} {st : Store}, d + 1 ≤ k → callK T (k + 1) 136 [.p t.enc] st = .ok (.p (.lst ((t.lwaysD d).map wl))) st := by
  have hL := LINE_eq
  have hL0 : (0 : Nat) ≤ LINE := by omega
  have hL1 : (1 : Nat) ≤ LINE := by omega
  intro d
  induction d with
  | zero =>
    intro t hw hd _ _ k st hk
    obtain ⟨k, rfl⟩ : ∃ k', k = k' + 1 := ⟨k - 1, by omega⟩
    have hi := inner_ev (T := T) hT11 hw (k := k) (st := st)
    rw [leaf_dep (by omega)] at hi
    refine To.run (call_end hT rfl ?_)
    unfold fn136
    cases hl : t.isLt <;>
    · simp_arith [hL0, hL1, hi, enumL, idx_hd', hd_let', hl]
      exact Hide.of ⟨by simp [Tm.lwaysD, wl, hl], by simp⟩
  | succ d ih =>
    intro t hw hd hd8 hlt k st hk
    obtain ⟨k, rfl⟩ : ∃ k', k = k' + 1 := ⟨k - 1, by omega⟩
    have hi := inner_ev (T := T) hT11 hw (k := k) (st := st)
    refine To.run (call_end hT rfl ?_)
    unfold fn136
    obtain ⟨H0, hH⟩ : ∃ H0, (if t.isLt then [[]] else ([] : List (List Nat))) = H0 := ⟨_, rfl⟩
    have hH1 : H0.length ≤ 1 := by rw [← hH]; split <;> simp
    have hall : (t.lwaysD (d + 1)).length ≤ 1000 := by rw [lways_lets _ _ hd]; exact hlt
    have eall : t.lwaysD (d + 1) = H0 ++ ahd 0 (t.inn.map fun p => Tm.lwaysD d p.2) := by rw [← hH]; rfl
    cases hl : t.isLt <;>
    · simp_arith [hL0, hL1, hi, enumL_map', idx_hd', hd_let', hl]
      refine for_inv (fun rest δ st1 => ∃ (x2 x3 x4 x5 : Option D) (l1 l2 : List (List Tx × Tm)), δ = [some (.p t.enc), some (.p (.lst ((H0 ++ ahd 0 (l1.map fun p => Tm.lwaysD d p.2)).map wl))), x2, x3, x4, x5] ∧ t.inn = l1 ++ l2 ∧ rest = (l2.mapIdx fun i p => P.tup [.int ((l1.length + i : Nat) : Int), ePart p]) ∧ st1 = st) ⟨none, none, none, none, [], t.inn, by rw [← hH, hl]; simp [ahd, wl], rfl, by simp, rfl⟩ ?_ ?_
      · rintro y rr δ st1 ⟨x2, x3, x4, x5, l1, l2, rfl, i1, i2, rfl⟩
        cases l2 with
        | nil => simp at i2
        | cons p l2 =>
          simp only [List.mapIdx_cons, List.cons.injEq, Nat.add_zero] at i2
          obtain ⟨rfl, rfl⟩ := i2
          have hp : p ∈ t.inn := by rw [i1]; simp
          have hpw := (hw.inn hp).1
          have hdp := Tm.dep_inn hp
          have hlp := lets_inn hp
          have hc := ih p.2 hpw (by omega) (by omega) (by omega) (k := k) (st := st1) (by omega)
          refine ⟨_, rfl, ?_⟩
          have hwl := lways_lets d p.2 (by omega)
          simp_arith [hc]
          refine comp_pure (fun w => wl (l1.length :: w)) (by omega) ?_ ?_
          · intro w hww
            refine ⟨_, rfl, ?_⟩
            have hlw := lways_long d p.2 w hww
            have hq : 1 + w.length ≤ LINE := by omega
            unfold wl
            simp_arith [hL1, hq]
          · have e1 : (Tm.lwaysD d p.2).map (fun w => wl (l1.length :: w)) = ((Tm.lwaysD d p.2).map (l1.length :: ·)).map wl := by simp
            have hq : (H0 ++ ahd 0 (l1.map fun p => Tm.lwaysD d p.2)).length + (Tm.lwaysD d p.2).length ≤ LINE := by
              rw [eall, i1, List.length_append, ahd_len2, List.map_map, List.map_append, List.sum_append, List.map_cons, List.sum_cons] at hall
              rw [List.length_append, ahd_len2, List.map_map]
              simp only [Function.comp] at hall ⊢
              omega
            have e2 : (H0 ++ ahd 0 (l1.map fun p => Tm.lwaysD d p.2)).map wl ++ ((Tm.lwaysD d p.2).map (l1.length :: ·)).map wl = (H0 ++ ahd 0 ((l1 ++ [p]).map fun p => Tm.lwaysD d p.2)).map wl := by
              have e3 : ahd 0 ((l1 ++ [p]).map fun p => Tm.lwaysD d p.2) = ahd 0 (l1.map fun p => Tm.lwaysD d p.2) ++ (Tm.lwaysD d p.2).map (l1.length :: ·) := by rw [List.map_append, List.map_cons, List.map_nil, ahd_snoc', List.length_map, Nat.zero_add]
              rw [e3, ← List.append_assoc]; simp only [List.map_append]
            generalize H0 ++ ahd 0 (l1.map fun p => Tm.lwaysD d p.2) = Y at *
            simp_arith [e1, hq]
            exact Hide.of ⟨_, _, _, _, l1 ++ [p], l2, by rw [← e2], by simp [i1], by simp [Nat.add_assoc, Nat.add_comm 1], rfl⟩
      · rintro δ st1 ⟨x2, x3, x4, x5, l1, l2, rfl, i1, i2, rfl⟩
        have : l2 = [] := by cases l2 with | nil => rfl | cons a l => simp at i2
        subst this
        rw [List.append_nil] at i1
        rw [← i1, ← eall]
        simp_arith []
        exact Hide.of ⟨rfl, by simp⟩
theorem wl_ok' (w : List Nat) : (wl w).sh = true ∧ (wl w).deep ≤ 1 := by
  unfold wl
  have h1 : P.deeps (w.map fun i : Nat => P.int (i : Int)) ≤ 0 := deeps_of fun _ _ => Nat.le_refl _
  exact ⟨by simp only [P.sh]; exact shs_of fun _ _ => rfl, by simp only [P.deep]; omega⟩
theorem wl_nil {st : Store} : cmpD .eq st (.p (wl [])) (.p (.tup [])) = some true := by
  rw [cmp_eq (wl_ok' []).1 rfl (by have := (wl_ok' []).2; omega) (by decide)]; rfl
theorem wl_cons {st : Store} {i : Nat} {w : List Nat} : cmpD .eq st (.p (wl (i :: w))) (.p (.tup [])) = some false := by
  rw [cmp_eq (wl_ok' _).1 rfl (by have := (wl_ok' (i :: w)).2; omega) (by decide)]; rfl
theorem wl_hd {i : Nat} {w : List Nat} : idxP (wl (i :: w)) (.int 0) = some (.int (i : Nat)) := by unfold wl; simp [ix0]
theorem wl_tl {i : Nat} {w : List Nat} : cutP (some 1) none (wl (i :: w)) = some (wl w) := by
  unfold wl
  show some (P.tup (cut _ (some ((1 : Nat) : Int)) none)) = _
  rw [cut_from (by simp)]
  rfl
theorem at_some {t : Tm} {i : Nat} {v : List Nat} {u : Tm} (h : t.at (i :: v) = some u) : ∃ p, t.inn[i]? = some p ∧ p.2.at v = some u := by
  simp only [Tm.at] at h
  split at h
  · rename_i p hp; exact ⟨p, hp, h⟩
  · cases h
theorem set_at {α : Type} {f : α → P} {l : List α} {i : Nat} {a b : α} (h : l[i]? = some a) : (ixOf (l.map f).length (i : Nat)).map (fun k => (MO.lst ((l.map f).set k (f b)))) = some (.lst ((l.set i b).map f)) := by
  have := (List.getElem?_eq_some_iff.mp h).1
  rw [List.length_map, ixOf_nat (by omega) (by omega)]
  simp [List.map_set]
theorem ix_at {α : Type} {f : α → P} {l : List α} {i : Nat} {a : α} (h : l[i]? = some a) : idxP (.lst (l.map f)) (.int (i : Nat)) = some (f a) := by
  obtain ⟨h1, h2⟩ := List.getElem?_eq_some_iff.mp h
  rw [ix_map (f := f) (l := l) (u := i) (by omega), h2]
theorem lp_ev {T : Nat → Option Fn} (hT135 : T 135 = some fn135) (hT : T 137 = some fn137) {V : Voc} : ∀ (v : List Nat) {n : Nat} {t : Tm} {x : Tx} {b w : Tm}, Wf V t → t.dep ≤ n → t.at v = some (.lt x b w) → ∀ {st : Store} {k : Nat}, n ≤ k →
    callK T (k + 1) 137 [.p t.enc, .p (wl v)] st = .ok (.p (t.lp v).enc) st := by
  have hL := LINE_eq
  have hz0 : (0 : Nat) ≤ LINE := by omega
  have hz1 : (1 : Nat) ≤ LINE := by omega
  have hz2 : (2 : Nat) ≤ LINE := by omega
  have hz3 : (3 : Nat) ≤ LINE := by omega
  have hz4 : (4 : Nat) ≤ LINE := by omega
  have l0 : (0 : Nat) < LINE := by omega
  have l1 : (1 : Nat) < LINE := by omega
  intro v
  induction v with
  | nil =>
    intro n t x b w hw hd ha st k hk
    simp only [Tm.at, Option.some.injEq] at ha
    subst ha
    have hdd : (Tm.lt x b w).dep = 1 + max b.dep w.dep := by simp [Tm.dep]
    obtain ⟨k, rfl⟩ : ∃ k', k = k' + 1 := ⟨k - 1, by omega⟩
    have hb := (hw.inn (p := ([x], b)) (by simp [Tm.inn])).1
    refine To.run (call_end hT rfl ?_)
    unfold fn137
    have g := fun st => rpl_ev (T := T) hT135 k hb (show b.dep ≤ k by omega) (y := x) (w := w) (st := st) (k := k) (by omega)
    rw [Tm.enc_lt]
    simp_arith [wl_nil, hz0, g]
    exact Hide.of ⟨rfl, by simp⟩
  | cons i v ih =>
    intro n t x b w hw hd ha st k hk
    obtain ⟨p, hp, ha'⟩ := at_some ha
    have hpm := List.mem_of_getElem? hp
    have hpd := Tm.dep_inn hpm
    obtain ⟨k, rfl⟩ : ∃ k', k = k' + 1 := ⟨k - 1, by omega⟩
    have g := fun st => ih (n := k) (hw.inn hpm).1 (by omega) ha' (st := st) (k := k) (by omega)
    rw [lp_some hp]
    refine To.run (call_end hT rfl ?_)
    unfold fn137
    cases hw with
    | nm hx => simp [Tm.inn] at hp
    | @fm f ps h1 h2 h3 h4 =>
      have hp' : ps[i]? = some p := hp
      have hix := ix_at (f := fun p : List Tx × Tm => .tup [.tup (p.1.map P.str), p.2.enc]) hp'
      have hst : ixOf ps.length (i : Nat) = some i := by have := (List.getElem?_eq_some_iff.mp hp').1; rw [ixOf_nat (by omega) (by omega)]; simp
      have hpl : ps.length ≤ LINE := by omega
      rw [Tm.enc_fm]
      simp_arith [wl_cons, wl_hd, wl_tl, hz0, get_new, set_new, hix, g, hz2, hst, hz3, hpl]
      exact Hide.of ⟨by simp [Tm.wi, List.getD_eq_getElem?_getD, hp', Tm.enc_fm], by simp⟩
    | @hl h ts h1 h2 h3 =>
      simp only [Tm.inn, List.getElem?_map, Option.map_eq_some_iff] at hp
      obtain ⟨u, hu, rfl⟩ := hp
      have hix := ix_at (f := Tm.enc) hu
      have hst : ixOf ts.length (i : Nat) = some i := by have := (List.getElem?_eq_some_iff.mp hu).1; rw [ixOf_nat (by omega) (by omega)]; simp
      have hpl : ts.length ≤ LINE := by omega
      rw [Tm.enc_hl]
      simp_arith [wl_cons, wl_hd, wl_tl, hz0, get_new, set_new, hix, g, hz2, hst, hz3, hpl]
      exact Hide.of ⟨by simp [Tm.wi, Tm.enc_hl], by simp⟩
    | @lt x' b' w' h1 h2 h3 =>
      have hcut : cutP (some 2) none (.tup [.str sLet, .str x', b'.enc, w'.enc]) = some (.tup [b'.enc, w'.enc]) := by
        show some (P.tup (cut _ (some ((2 : Nat) : Int)) none)) = _
        rw [cut_from (by simp)]
        rfl
      rw [Tm.enc_lt]
      match i, hp with
      | 0, hp =>
        simp only [Tm.inn, List.getElem?_cons_zero, Option.some.injEq] at hp
        subst hp
        simp_arith [wl_cons, wl_hd, wl_tl, hz0, hcut, enumL, comp_c, g, hz4, l0, l1]
        exact Hide.of ⟨by simp [Tm.wi, Tm.enc_lt], by simp⟩
      | 1, hp =>
        simp only [Tm.inn, List.getElem?_cons_succ, List.getElem?_cons_zero, Option.some.injEq] at hp
        subst hp
        simp_arith [wl_cons, wl_hd, wl_tl, hz0, hcut, enumL, comp_c, g, hz4, l0, l1]
        exact Hide.of ⟨by simp [Tm.wi, Tm.enc_lt], by simp⟩
      | i + 2, hp => simp [Tm.inn] at hp
theorem putneat_ev {T : Nat → Option Fn} (hT80 : T 80 = some fn80) (hT81 : T 81 = some fn81) (hT135 : T 135 = some fn135) (hT137 : T 137 = some fn137) (hT : T 138 = some fn138) {V : Voc} {v : List Nat} {t : Tm} {x : Tx} {b w : Tm} {many : Nat} (hw : Wf V t) (hd : t.dep ≤ 20) (ha : t.at v = some (.lt x b w))
    (hm : many ≤ 100) (hs : Wf vS (t.lp v)) (hd2 : (t.lp v).dep ≤ 20) (hf : ∀ x ∈ (t.lp v).fv, x ∈ figs 0 many) {k : Nat} (hk : 41 ≤ k) {st : Store} :
    callK T (k + 2) 138 [.p t.enc, .p (wl v), .p (.int (many : Nat))] st = .ok (.p ((t.lp v).gl idE many).enc) st := by
  have hL := LINE_eq
  refine To.run (call_end hT rfl ?_)
  unfold fn138
  have h40 : (many : Int) < 2 ^ 40 ∧ -(2 ^ 40) < (many : Int) := by omega
  have hnt : ((many : Nat) : Int).toNat = many := by omega
  simp_arith [h40, rngL0, hnt]
  refine comp_pure (fun i : Nat => .str (natTx i)) (by rw [List.length_range]; omega) ?_ ?_
  · intro i hi
    have hi := List.mem_range.mp hi
    refine ⟨_, rfl, ?_⟩
    have e2 : (0 : Int) ≤ ((i : Nat) : Int) ∧ ((i : Nat) : Int) < 10 ^ 18 := by omega
    simp_arith [e2]
  · have e : (List.range many).map (fun i : Nat => P.str (natTx i)) = (figs 0 many).map P.str := by rw [figs_range]; simp
    have g := fun st => lp_ev (T := T) hT135 hT137 v hw hd ha (st := st) (k := k) (by omega)
    obtain ⟨k, rfl⟩ : ∃ k', k = k' + 1 := ⟨k - 1, by omega⟩
    have g2 := fun st => gneat_ev (T := T) hT80 hT81 (ns := figs 0 many) figs_nodup (by rw [figs_len]; exact hm) hs hd2 hf (k := k) (by omega) (st := st)
    have e3 : (t.lp v).gl (fun x _ => .nm (pl (figs 0 many) x)) (figs 0 many).length = (t.lp v).gl idE many := by
      rw [figs_len]
      refine gl_congr _ fun x hx d' _ => ?_
      obtain ⟨i, rfl, _, hi⟩ := figs_ex (hf x hx)
      rw [pl_figs (by omega)]
    rw [e3] at g2
    simp_arith [e, g, g2]
    exact Hide.of ⟨rfl, by simp⟩
theorem winner_ev {T : Nat → Option Fn} (hT : T 181 = some fn181) {V : Voc} {t u : Tm} {i : Nat} {p : List Tx × Tm} (hw : Wf V t) (hp : t.inn[i]? = some p) {k : Nat} {st : Store} :
    callK T (k + 1) 181 [.p t.enc, .p (.int (i : Nat)), .p u.enc] st = .ok (.p (t.wi i u).enc) st := by
  have hL := LINE_eq
  have hz0 : (0 : Nat) ≤ LINE := by omega
  have hz1 : (1 : Nat) ≤ LINE := by omega
  have hz2 : (2 : Nat) ≤ LINE := by omega
  have hz3 : (3 : Nat) ≤ LINE := by omega
  have hz4 : (4 : Nat) ≤ LINE := by omega
  have hz22 : (2 : Nat) + 2 ≤ LINE := by omega
  have hz21 : (2 : Nat) + 1 ≤ LINE := by omega
  have cut2 : ∀ {a b : P} {l : List P}, cutP none (some 2) (.tup (a :: b :: l)) = some (.tup [a, b]) := by
    intro a b l
    show some (P.tup (cut _ none (some ((2 : Nat) : Int)))) = _
    rw [cut_to (by simp)]
    rfl
  refine To.run (call_end hT rfl ?_)
  unfold fn181
  cases hw with
  | nm hx => simp [Tm.inn] at hp
  | @fm f ps h1 h2 h3 h4 =>
    have hp' : ps[i]? = some p := hp
    have hix := ix_at (f := fun p : List Tx × Tm => .tup [.tup (p.1.map P.str), p.2.enc]) hp'
    have hst : ixOf ps.length (i : Nat) = some i := by have := (List.getElem?_eq_some_iff.mp hp').1; rw [ixOf_nat (by omega) (by omega)]; simp
    have hpl : ps.length ≤ LINE := by omega
    rw [Tm.enc_fm]
    simp_arith [cut2, get_new, set_new, hix, hz1, hz2, hst, hz3, hz21, hpl]
    exact Hide.of ⟨by simp [Tm.wi, List.getD_eq_getElem?_getD, hp', Tm.enc_fm], by simp⟩
  | @hl h ts h1 h2 h3 =>
    simp only [Tm.inn, List.getElem?_map, Option.map_eq_some_iff] at hp
    obtain ⟨v, hu, rfl⟩ := hp
    have hix := ix_at (f := Tm.enc) hu
    have hst : ixOf ts.length (i : Nat) = some i := by have := (List.getElem?_eq_some_iff.mp hu).1; rw [ixOf_nat (by omega) (by omega)]; simp
    have hpl : ts.length ≤ LINE := by omega
    rw [Tm.enc_hl]
    simp_arith [cut2, get_new, set_new, hix, hz1, hz2, hst, hz3, hz21, hpl]
    exact Hide.of ⟨by simp [Tm.wi, Tm.enc_hl], by simp⟩
  | @lt x' b' w' h1 h2 h3 =>
    rw [Tm.enc_lt]
    match i, hp with
    | 0, hp =>
      simp_arith [cut2, hz2, hz22, hz4]
      exact Hide.of ⟨by simp [Tm.wi, Tm.enc_lt], by simp⟩
    | 1, hp =>
      simp_arith [cut2, hz2, hz22, hz4]
      exact Hide.of ⟨by simp [Tm.wi, Tm.enc_lt], by simp⟩
    | i + 2, hp => simp [Tm.inn] at hp
theorem wi_wf {V : Voc} {t u : Tm} {i : Nat} {p : List Tx × Tm} (hw : Wf V t) (hp : t.inn[i]? = some p) (hu : Wf V u) : Wf V (t.wi i u) := by
  cases hw with
  | nm hx => exact .nm hx
  | @fm f ps h1 h2 h3 h4 =>
    have hp' : ps[i]? = some p := hp
    have hm := List.mem_of_getElem? hp'
    refine .fm h1 (by rw [List.length_set]; exact h2) ?_ ?_
    · intro q hq
      rcases List.mem_or_eq_of_mem_set hq with hq | rfl
      · exact h3 q hq
      · rw [List.getD_eq_getElem?_getD, hp']; exact h3 p hm
    · intro q hq
      rcases List.mem_or_eq_of_mem_set hq with hq | rfl
      · exact h4 q hq
      · exact hu
  | @hl h ts h1 h2 h3 =>
    refine .hl (by rw [List.length_set]; exact h1) (by rw [List.length_set]; exact h2) fun q hq => ?_
    rcases List.mem_or_eq_of_mem_set hq with hq | rfl
    · exact h3 q hq
    · exact hu
  | @lt x b w h1 h2 h3 =>
    simp only [Tm.wi]
    split
    · exact .lt h1 hu h3
    · exact .lt h1 h2 hu
theorem wi_inn {t u : Tm} {i : Nat} {p q : List Tx × Tm} (hp : t.inn[i]? = some p) (hq : q ∈ (t.wi i u).inn) : q ∈ t.inn ∨ q = (p.1, u) := by
  cases t with
  | nm x => simp [Tm.inn] at hp
  | fm f ps =>
    have hp' : ps[i]? = some p := hp
    rcases List.mem_or_eq_of_mem_set (show q ∈ ps.set i _ from hq) with h | h
    · exact .inl h
    · right; rw [h, List.getD_eq_getElem?_getD, hp']; rfl
  | hl h ts =>
    simp only [Tm.inn, List.getElem?_map, Option.map_eq_some_iff] at hp
    obtain ⟨v, hv, rfl⟩ := hp
    obtain ⟨r, hr, rfl⟩ := List.mem_map.mp (show q ∈ (ts.set i u).map _ from hq)
    rcases List.mem_or_eq_of_mem_set hr with h | rfl
    · exact .inl (List.mem_map_of_mem h)
    · exact .inr rfl
  | lt x b w =>
    match i, hp with
    | 0, hp =>
      simp only [Tm.inn, List.getElem?_cons_zero, Option.some.injEq] at hp
      subst hp
      simp only [Tm.wi, if_pos, Tm.inn, List.mem_cons, List.not_mem_nil, or_false] at hq ⊢
      rcases hq with rfl | rfl <;> simp
    | 1, hp =>
      simp only [Tm.inn, List.getElem?_cons_succ, List.getElem?_cons_zero, Option.some.injEq] at hp
      subst hp
      simp only [Tm.wi, Nat.one_ne_zero, if_false, Tm.inn, List.mem_cons, List.not_mem_nil, or_false] at hq ⊢
      rcases hq with rfl | rfl <;> simp
    | i + 2, hp => simp [Tm.inn] at hp
theorem dep_le {t : Tm} {n : Nat} (ht : ∀ p ∈ t.inn, p.2.dep < n) (h0 : 1 ≤ n) : t.dep ≤ n := by
  cases t with
  | nm x => simp [Tm.dep]
  | fm f ps =>
    simp only [Tm.dep]
    have : (ps.map fun p => p.2.dep).foldr max 0 ≤ n - 1 := foldr_le fun a ha => by
      obtain ⟨p, hp, rfl⟩ := List.mem_map.mp ha
      have := ht p hp
      omega
    omega
  | hl h ts =>
    simp only [Tm.dep]
    have : (ts.map fun t => t.dep).foldr max 0 ≤ n - 1 := foldr_le fun a ha => by
      obtain ⟨p, hp, rfl⟩ := List.mem_map.mp ha
      have := ht ([], p) (List.mem_map_of_mem hp)
      simp only at this
      omega
    omega
  | lt x b w =>
    have h1 := ht ([x], b) (by simp [Tm.inn])
    have h2 := ht ([], w) (by simp [Tm.inn])
    simp only [Tm.dep] at h1 h2 ⊢
    omega
theorem wi_nm {t u : Tm} {i : Nat} (ht : ∀ x, t ≠ .nm x) : ∀ x, t.wi i u ≠ .nm x := by
  cases t with
  | nm x => exact absurd rfl (ht x)
  | fm f ps => simp [Tm.wi]
  | hl h ts => simp [Tm.wi]
  | lt x b w => intro y; simp only [Tm.wi]; split <;> simp
theorem fv_gl : ∀ (t : Tm) {E : Tx → Nat → Tm} {d : Nat} {y c : Tx}, y ∈ t.fv → (∀ d', c ∈ (E y d').fv) → (∀ i, c ≠ natTx i) → c ∈ (t.gl E d).fv := by
  intro t
  induction t using Tm.ind with
  | h t ih =>
  intro E d y c hy hE hn
  by_cases ht : ∃ z, t = .nm z
  · obtain ⟨z, rfl⟩ := ht
    simp only [Tm.fv, List.mem_cons, List.not_mem_nil, or_false] at hy
    subst hy
    rw [gl_nm]; exact hE d
  · have ht : ∀ z, t ≠ .nm z := fun z e => ht ⟨z, e⟩
    obtain ⟨p, hp, h1, h2⟩ := (mem_fv ht).mp hy
    have g : (t.gl E d).inn = _ := (gl_inn (t := t) (E := E) (d := d)).resolve_right fun ⟨z, e⟩ => ht z e
    have ht2 : ∀ z, t.gl E d ≠ .nm z := by
      cases t with
      | nm z => exact absurd rfl (ht z)
      | fm f ps => rw [gl_fm]; simp
      | hl h ts => rw [gl_hl]; simp
      | lt x b w => rw [gl_lt]; simp
    refine (mem_fv ht2).mpr ⟨(figs d p.1.length, p.2.gl (lx E d p.1) (d + p.1.length)), by rw [g]; exact List.mem_map_of_mem hp, ?_, ?_⟩
    · exact ih p hp h1 (fun d' => by rw [lx_out h2]; exact hE d') hn
    · intro hf
      obtain ⟨i, e, _⟩ := figs_ex hf
      exact hn i e
theorem natTx_ne (i : Nat) : natTx i ≠ [] := by
  intro e
  have : (Nat.toDigits 10 i).length = 0 := by rw [← List.length_map (f := Char.toNat)]; unfold natTx at e; rw [e]; rfl
  have := @Nat.length_toDigits_pos 10 i
  omega
structure PutAt (V : Voc) (n : Nat) (L : List Tx) (t : Tm) (v : List Nat) (u : Tm) : Prop where
  wf : Wf V u
  dep : u.dep ≤ 2 * n
  fv : ∀ y ∈ u.fv, y ∈ L
  gl : ∀ E d, u.gl E d = t.pg v E d
theorem putat_ev {T : Nat → Option Fn} (hT16 : T 16 = some fn16) (hT106 : T 106 = some fn106) (hT181 : T 181 = some fn181) (hT270 : T 270 = some fn270) (hT274 : T 274 = some fn274) (hT275 : T 275 = some fn275) (hT276 : T 276 = some fn276) (hT : T 280 = some fn280) {V : Voc} (hV : ∀ i, i < 1000 → V.nm (natTx i)) :
    ∀ (v : List Nat) {n : Nat} {t : Tm} {x : Tx} {b w : Tm} {L : List Tx}, Wf V t → t.dep ≤ n → n ≤ 11 → t.at v = some (.lt x b w) → (∀ y ∈ t.fv, y ∈ L) → L.length + 4 * n ≤ 100 → ∀ {st : Store} {k : Nat}, 60 + n ≤ k →
    ∃ u, callK T (k + 1) 280 [.p t.enc, .p (wl v)] st = .ok (.p u.enc) st ∧ PutAt V n L t v u := by
  have hL := LINE_eq
  have hz0 : (0 : Nat) ≤ LINE := by omega
  have hz1 : (1 : Nat) ≤ LINE := by omega
  have hz2 : (2 : Nat) ≤ LINE := by omega
  intro v
  induction v with
  | nil =>
    intro n t x b w L hw hd hn ha hf hLl st k hk
    simp only [Tm.at, Option.some.injEq] at ha
    subst ha
    have hdd : (Tm.lt x b w).dep = 1 + max b.dep w.dep := by simp [Tm.dep]
    obtain ⟨k, rfl⟩ : ∃ k', k = k' + 2 := ⟨k - 2, by omega⟩
    have hb := (hw.inn (p := ([x], b)) (by simp [Tm.inn])).1
    have hww := (hw.inn (p := ([], w)) (by simp [Tm.inn])).1
    obtain ⟨u, g, hP⟩ := putin_ev (T := T) hT16 hT106 hT270 hT274 hT275 hT276 hV (m := n - 1) (by omega) (n := n - 1) (t := b) hb (by omega) (by omega) (L := x :: L) (ps := [(x, w)]) (qs := [(x, w)]) (by simp) (.refl _) (by simp) (by simp; omega)
      (fun p hp => by
        simp only [List.mem_cons, List.not_mem_nil, or_false] at hp
        subst hp
        exact ⟨hww, by show w.dep ≤ _; omega, fun y hy => List.mem_cons_of_mem _ (hf y ((mem_fv (t := .lt x b w) (by simp)).mpr ⟨([], w), by simp [Tm.inn], hy, by simp⟩))⟩)
      (fun y hy => ⟨hb.fvn y hy, by
        by_cases e : y = x
        · simp [e]
        · exact List.mem_cons_of_mem _ (hf y ((mem_fv (t := .lt x b w) (by simp)).mpr ⟨([x], b), by simp [Tm.inn], hy, by simpa using e⟩))⟩)
      (dd := .p (.lst [.tup [.str x, w.enc]])) (st := st) rfl (k := k) (by omega)
    refine ⟨u, ?_, hP.wf, by have := hP.dep; omega, ?_, ?_⟩
    · refine To.run (call_end hT rfl ?_)
      unfold fn280
      rw [Tm.enc_lt]
      simp_arith [wl_nil, hz0, hz1, hz2, g]
      exact Hide.of ⟨rfl, by simp⟩
    · intro y hy
      rcases List.mem_cons.mp (hP.fv y hy) with rfl | h
      · obtain ⟨E, hE⟩ : ∃ E : Tx → Nat → Tm, E = fun z _ => if z = y then .nm [] else .nm [48] := ⟨_, rfl⟩
        have h1 : ([] : Tx) ∈ (u.gl E 0).fv := fv_gl u hy (fun d' => by rw [hE]; simp [Tm.fv]) fun i e => natTx_ne i e.symm
        rw [hP.gl E 0] at h1
        obtain ⟨z, hz, d', _, h2⟩ := gl_fv b h1
        by_cases e : y = z
        · subst e
          have e2 : sg [(y, w)] y = w := by unfold sg; simp
          try dsimp only at h2
          rw [e2] at h2
          obtain ⟨z2, hz2, d2, _, h3⟩ := gl_fv w h2
          rw [hE] at h3
          by_cases e3 : z2 = y
          · subst e3
            exact hf _ ((mem_fv (t := .lt z2 b w) (by simp)).mpr ⟨([], w), by simp [Tm.inn], hz2, by simp⟩)
          · simp [e3, Tm.fv] at h3
        · have e2 : sg [(y, w)] z = .nm z := by unfold sg; rw [if_neg e]; rfl
          try dsimp only at h2
          rw [e2, gl_nm, hE] at h2
          simp [Ne.symm e, Tm.fv] at h2
      · exact h
    · intro E d
      rw [hP.gl E d]
      simp only [Tm.pg]
      refine gl_congr b fun z hz d' _ => ?_
      unfold sg
      by_cases e : x = z
      · subst e; simp
      · rw [if_neg e, if_neg (Ne.symm e)]; unfold sg; rw [gl_nm]
  | cons i v ih =>
    intro n t x b w L hw hd hn ha hf hLl st k hk
    obtain ⟨p, hp, ha'⟩ := at_some ha
    have hpm := List.mem_of_getElem? hp
    have hpd := Tm.dep_inn hpm
    have ht := inn_nm hp
    obtain ⟨k, rfl⟩ : ∃ k', k = k' + 1 := ⟨k - 1, by omega⟩
    obtain ⟨hwp, hp4, _, _⟩ := hw.inn hpm
    obtain ⟨u, g, hP⟩ := ih (n := n - 1) (L := L ++ p.1) hwp (by omega) (by omega) ha' (fun y hy => by
      by_cases hm : y ∈ p.1
      · exact List.mem_append.mpr (.inr hm)
      · exact List.mem_append.mpr (.inl (hf y ((mem_fv ht).mpr ⟨p, hpm, hy, hm⟩)))) (by rw [List.length_append]; omega) (st := st) (k := k) (by omega)
    have g2 := win_ev (T := T) hT16 hw (k := k) (st := st)
    have g3 := winner_ev (T := T) hT181 (u := u) hw hp (k := k) (st := st)
    have hix := ix_at (f := ePart) hp
    have he : ePart p = .tup [.tup (p.1.map .str), p.2.enc] := rfl
    refine ⟨t.wi i u, ?_, wi_wf hw hp hP.wf, ?_, ?_, ?_⟩
    · refine To.run (call_end hT rfl ?_)
      unfold fn280
      simp_arith [wl_cons, wl_hd, wl_tl, hz0, g2, hix, he, g, g3]
      exact Hide.of ⟨rfl, by simp⟩
    · refine dep_le (fun q hq => ?_) (by omega)
      rcases wi_inn hp hq with h | rfl
      · have := Tm.dep_inn h; omega
      · have := hP.dep; show u.dep < _; omega
    · intro y hy
      obtain ⟨q, hq, h1, h2⟩ := (mem_fv (wi_nm ht)).mp hy
      rcases wi_inn hp hq with h | rfl
      · exact hf y ((mem_fv ht).mpr ⟨q, h, h1, h2⟩)
      · rcases List.mem_append.mp (hP.fv y h1) with h | h
        · exact h
        · exact absurd h h2
    · intro E d
      rw [pg_some hp, wi_gl hp, hP.gl]
def Sy (p : P) (b : Nat) : Prop := ∃ s, sayO p = some s ∧ s.length ≤ b
def SyL (l : List P) (n : Nat) : Prop := ∃ ts, sayOs l = some ts ∧ (ts.map fun t => t.length + 2).sum ≤ n
theorem SyL.nil : SyL [] 0 := ⟨[], rfl, by simp⟩
theorem SyL.cons {p : P} {l : List P} {a b : Nat} (h : Sy p a) (g : SyL l b) : SyL (p :: l) (a + 2 + b) := by
  obtain ⟨s, h1, h2⟩ := h
  obtain ⟨ts, g1, g2⟩ := g
  refine ⟨s :: ts, by simp only [sayOs, h1, g1], ?_⟩
  simp only [List.map_cons, List.sum_cons]
  omega
theorem SyL.all {α : Type} {f : α → P} {b : Nat} : ∀ {l : List α}, (∀ a ∈ l, Sy (f a) b) → SyL (l.map f) (l.length * (b + 2))
  | [], _ => by simpa using SyL.nil
  | a :: l, h => by
    have := SyL.cons (h a List.mem_cons_self) (SyL.all fun x hx => h x (List.mem_cons_of_mem _ hx))
    rw [List.length_cons, Nat.add_mul, Nat.one_mul, Nat.add_comm]
    exact this
theorem join_len : ∀ ts : List Tx, (joinTx [44, 32] ts).length ≤ (ts.map fun t => t.length + 2).sum
  | [] => by simp [joinTx]
  | [t] => by simp [joinTx]
  | t :: u :: ts => by
    have := join_len (u :: ts)
    simp only [joinTx, List.length_append, List.map_cons, List.sum_cons, List.length_cons, List.length_nil] at this ⊢
    omega
theorem Sy.tup {l : List P} {n : Nat} (h : SyL l n) : Sy (.tup l) (n + 3) := by
  obtain ⟨ts, h1, h2⟩ := h
  refine ⟨_, by rw [sayO, h1, Option.map_some], ?_⟩
  have := join_len ts
  simp only [List.length_cons, List.length_append]
  split <;> simp only [List.length_cons, List.length_nil] <;> omega
theorem Sy.mono {p : P} {a b : Nat} (h : Sy p a) (hab : a ≤ b) : Sy p b := by obtain ⟨s, h1, h2⟩ := h; exact ⟨s, h1, by omega⟩
theorem Sy.str {x : Tx} {n : Nat} (h : x.all okSign = true) (hl : x.length ≤ n) : Sy (.str x) (n + 2) := ⟨39 :: (x ++ [39]), by simp only [sayO, h, if_true], by simp; omega⟩
theorem wd_ok {x : Tx} (h : IsWd x) : x.all okSign = true := by
  rw [List.all_eq_true]
  intro c hc
  have := h.2.2.1 c hc
  unfold Low at this
  simp only [okSign, Bool.or_eq_true, Bool.and_eq_true, decide_eq_true_eq]
  omega
theorem nm_ok {x : Tx} (h : IsNm x) : x.all okSign = true ∧ x.length ≤ 8 := by
  rcases h with h | h
  · exact ⟨wd_ok h, h.2.1⟩
  · refine ⟨?_, by have := h.2.1; omega⟩
    rw [List.all_eq_true]
    intro c hc
    have := h.2.2.1 c hc
    simp only [okSign, Bool.or_eq_true, Bool.and_eq_true, decide_eq_true_eq]
    omega
def bN : Nat → Nat
  | 0 => 30
  | n + 1 => 4 * bN n + 400
theorem bN_ge : ∀ n, 30 ≤ bN n
  | 0 => Nat.le_refl _
  | n + 1 => by have := bN_ge n; simp only [bN]; omega
theorem say_tm : ∀ (n : Nat) {t : Tm}, Wf vN t → t.dep ≤ n → Sy t.enc (bN n) := by
  intro n
  induction n with
  | zero =>
    intro t hw hd
    cases hw with
    | @nm x hx =>
      rw [Tm.enc_nm]
      have h := nm_ok (show IsNm x from hx)
      exact (Sy.tup (SyL.cons (Sy.str (x := sName) (n := 4) (by decide) (by decide)) (SyL.cons (Sy.str h.1 h.2) SyL.nil))).mono (by decide)
    | _ => simp [Tm.dep] at hd <;> omega
  | succ n ih =>
    intro t hw hd
    have hb := bN_ge n
    cases hw with
    | @nm x hx =>
      rw [Tm.enc_nm]
      have h := nm_ok (show IsNm x from hx)
      exact (Sy.tup (SyL.cons (Sy.str (x := sName) (n := 4) (by decide) (by decide)) (SyL.cons (Sy.str h.1 h.2) SyL.nil))).mono (by simp only [bN]; omega)
    | @fm f ps h1 h2 h3 h4 =>
      rw [Tm.enc_fm]
      have hf : IsWd f := h1
      have hps : SyL (ps.map fun p => P.tup [.tup (p.1.map .str), p.2.enc]) (ps.length * (((4 * (8 + 2 + 2) + 3) + 2 + (bN n + 2 + 0) + 3) + 2)) := SyL.all fun p hp => by
        have hd2 := Tm.dep_inn (t := .fm f ps) (p := p) hp
        have g1 : Sy (.tup (p.1.map .str)) (4 * (8 + 2 + 2) + 3) := by
          have := SyL.all (f := P.str) (b := 8 + 2) (l := p.1) fun x hx => Sy.str (nm_ok ((h3 p hp).2.2 x hx)).1 (nm_ok ((h3 p hp).2.2 x hx)).2
          refine (Sy.tup this).mono ?_
          have := Nat.mul_le_mul_right (8 + 2 + 2) (h3 p hp).2.1
          omega
        exact Sy.tup (SyL.cons g1 (SyL.cons (ih (h4 p hp) (by omega)) SyL.nil))
      refine (Sy.tup (SyL.cons (Sy.str (x := sForm) (n := 4) (by decide) (by decide)) (SyL.cons (Sy.str (wd_ok hf) hf.2.1) (SyL.cons (Sy.tup hps) SyL.nil)))).mono ?_
      have := Nat.mul_le_mul_right (((4 * (8 + 2 + 2) + 3) + 2 + (bN n + 2 + 0) + 3) + 2) h2
      simp only [bN]
      omega
    | @hl h ts h1 h2 h3 =>
      rw [Tm.enc_hl]
      have hf := nm_ok (show IsNm h from h1)
      have hps : SyL (ts.map Tm.enc) (ts.length * (bN n + 2)) := SyL.all fun u hu => by
        have hd2 := Tm.dep_inn (t := .hl h ts) (p := ([], u)) (List.mem_map_of_mem hu)
        exact ih (h3 u hu) (by show u.dep ≤ n; simp only at hd2; omega)
      refine (Sy.tup (SyL.cons (Sy.str (x := sHole) (n := 4) (by decide) (by decide)) (SyL.cons (Sy.str hf.1 hf.2) (SyL.cons (Sy.tup hps) SyL.nil)))).mono ?_
      have := Nat.mul_le_mul_right (bN n + 2) h2
      simp only [bN]
      omega
    | @lt x b w h1 h2 h3 =>
      rw [Tm.enc_lt]
      have hf := nm_ok (show IsNm x from h1)
      have hdd : (Tm.lt x b w).dep = 1 + max b.dep w.dep := by simp [Tm.dep]
      refine (Sy.tup (SyL.cons (Sy.str (x := sLet) (n := 4) (by decide) (by decide)) (SyL.cons (Sy.str hf.1 hf.2) (SyL.cons (ih h2 (by omega)) (SyL.cons (ih h3 (by omega)) SyL.nil))))).mono ?_
      simp only [bN]
      omega
theorem rep_tm {t : Tm} (hw : Wf vN t) (hd : t.dep ≤ 7) : ∃ s, repP t.enc = some (.str s) := by
  obtain ⟨s, h1, h2⟩ := say_tm 7 hw hd
  have hL := LINE_eq
  have h3 : bN 7 ≤ 16000000 := by decide
  have h4 := enc_deep t
  have h5 : t.enc.deep ≤ 60 := by omega
  refine ⟨s, ?_⟩
  cases t <;> (simp only [Tm.enc_nm, Tm.enc_fm, Tm.enc_hl, Tm.enc_lt] at h1 h5 ⊢; unfold repP; dsimp only; rw [decide_eq_true h5, if_pos rfl, h1, Option.bind_some, if_pos (by omega)])
theorem rpl_fv : ∀ (t : Tm) {y z : Tx} {w : Tm}, z ∈ (t.rpl y w).fv → (z ∈ t.fv ∧ z ≠ y) ∨ z ∈ w.fv := by
  intro t
  induction t using Tm.ind with
  | h t ih =>
  intro y z w hz
  cases t with
  | nm x =>
    rw [rpl_nm] at hz
    split at hz
    · exact .inr hz
    · rename_i e
      simp only [Tm.fv, List.mem_cons, List.not_mem_nil, or_false] at hz
      exact .inl ⟨by simp [Tm.fv, hz], by rw [hz]; exact e⟩
  | fm f ps =>
    rw [rpl_fm] at hz
    obtain ⟨p, hp, h1, h2⟩ := (mem_fv (by simp)).mp hz
    obtain ⟨q, hq, rfl⟩ := List.mem_map.mp (show p ∈ ps.map _ from hp)
    rcases ih q hq h1 with ⟨a, b⟩ | h
    · exact .inl ⟨(mem_fv (by simp)).mpr ⟨q, hq, a, h2⟩, b⟩
    · exact .inr h
  | hl f ts =>
    rw [rpl_hl] at hz
    obtain ⟨p, hp, h1, h2⟩ := (mem_fv (by simp)).mp hz
    obtain ⟨q, hq, rfl⟩ := List.mem_map.mp (show p ∈ (ts.map fun t => t.rpl y w).map _ from hp)
    obtain ⟨r, hr, rfl⟩ := List.mem_map.mp hq
    rcases ih ([], r) (List.mem_map_of_mem hr) h1 with ⟨a, b⟩ | h
    · exact .inl ⟨(mem_fv (by simp)).mpr ⟨([], r), List.mem_map_of_mem hr, a, h2⟩, b⟩
    · exact .inr h
  | lt x b v =>
    rw [rpl_lt] at hz
    obtain ⟨p, hp, h1, h2⟩ := (mem_fv (by simp)).mp hz
    simp only [Tm.inn, List.mem_cons, List.not_mem_nil, or_false] at hp
    rcases hp with rfl | rfl
    · rcases ih ([x], b) (by simp [Tm.inn]) h1 with ⟨a, c⟩ | h
      · exact .inl ⟨(mem_fv (by simp)).mpr ⟨([x], b), by simp [Tm.inn], a, h2⟩, c⟩
      · exact .inr h
    · rcases ih ([], v) (by simp [Tm.inn]) h1 with ⟨a, c⟩ | h
      · exact .inl ⟨(mem_fv (by simp)).mpr ⟨([], v), by simp [Tm.inn], a, h2⟩, c⟩
      · exact .inr h
theorem rpl_wf {V : Voc} {y : Tx} {w : Tm} (hww : Wf V w) : ∀ {t : Tm}, Wf V t → Wf V (t.rpl y w) := by
  intro t h
  induction h with
  | nm hx => rw [rpl_nm]; split; exact hww; exact .nm hx
  | fm h1 h2 h3 h4 ih =>
    rw [rpl_fm]
    refine .fm h1 (by rw [List.length_map]; exact h2) ?_ ?_
    · intro p hp
      obtain ⟨q, hq, rfl⟩ := List.mem_map.mp hp
      exact h3 q hq
    · intro p hp
      obtain ⟨q, hq, rfl⟩ := List.mem_map.mp hp
      exact ih q hq
  | hl h1 h2 h3 ih =>
    rw [rpl_hl]
    refine .hl (by rw [List.length_map]; exact h1) (by rw [List.length_map]; exact h2) fun p hp => ?_
    obtain ⟨q, hq, rfl⟩ := List.mem_map.mp hp
    exact ih q hq
  | lt h1 h2 h3 ih1 ih2 => rw [rpl_lt]; exact .lt h1 ih1 ih2
theorem rpl_dep {y : Tx} {w : Tm} {m : Nat} (hm : w.dep ≤ m) : ∀ (n : Nat) {t : Tm}, t.dep ≤ n → (t.rpl y w).dep ≤ n + m := by
  intro n
  induction n with
  | zero =>
    intro t hd
    cases t with
    | nm x => rw [rpl_nm]; split; omega; simp [Tm.dep]
    | _ => simp [Tm.dep] at hd <;> omega
  | succ n ih =>
    intro t hd
    cases t with
    | nm x => rw [rpl_nm]; split; omega; simp [Tm.dep]
    | fm f ps =>
      rw [rpl_fm]
      refine dep_le (fun p hp => ?_) (by omega)
      obtain ⟨q, hq, rfl⟩ := List.mem_map.mp (show p ∈ ps.map _ from hp)
      have := Tm.dep_inn (t := .fm f ps) (p := q) hq
      have := ih (t := q.2) (by omega)
      simp only
      omega
    | hl h ts =>
      rw [rpl_hl]
      refine dep_le (fun p hp => ?_) (by omega)
      obtain ⟨q, hq, rfl⟩ := List.mem_map.mp (show p ∈ (ts.map fun t => t.rpl y w).map _ from hp)
      obtain ⟨r, hr, rfl⟩ := List.mem_map.mp hq
      have h1 := Tm.dep_inn (t := .hl h ts) (p := ([], r)) (List.mem_map_of_mem hr)
      simp only at h1 ⊢
      have := ih (t := r) (by omega)
      omega
    | lt x b v =>
      rw [rpl_lt]
      have hdd : (Tm.lt x b v).dep = 1 + max b.dep v.dep := by simp [Tm.dep]
      have h1 := ih (t := b) (by omega)
      have h2 := ih (t := v) (by omega)
      simp only [Tm.dep]
      omega
theorem lp_ok {V : Voc} : ∀ (v : List Nat) {n : Nat} {t : Tm} {x : Tx} {b w : Tm}, Wf V t → t.dep ≤ n → t.at v = some (.lt x b w) → Wf V (t.lp v) ∧ (t.lp v).dep ≤ 2 * n ∧ ∀ y ∈ (t.lp v).fv, y ∈ t.fv := by
  intro v
  induction v with
  | nil =>
    intro n t x b w hw hd ha
    simp only [Tm.at, Option.some.injEq] at ha
    subst ha
    have hb := (hw.inn (p := ([x], b)) (by simp [Tm.inn])).1
    have hww := (hw.inn (p := ([], w)) (by simp [Tm.inn])).1
    have hdd : (Tm.lt x b w).dep = 1 + max b.dep w.dep := by simp [Tm.dep]
    simp only [Tm.lp]
    refine ⟨rpl_wf hww hb, ?_, fun y hy => ?_⟩
    · have := rpl_dep (y := x) (w := w) (Nat.le_refl w.dep) b.dep (t := b) (Nat.le_refl _)
      omega
    · rcases rpl_fv b hy with ⟨h1, h2⟩ | h
      · exact (mem_fv (by simp)).mpr ⟨([x], b), by simp [Tm.inn], h1, by simpa using h2⟩
      · exact (mem_fv (by simp)).mpr ⟨([], w), by simp [Tm.inn], h, by simp⟩
  | cons i v ih =>
    intro n t x b w hw hd ha
    obtain ⟨p, hp, ha'⟩ := at_some ha
    have hpm := List.mem_of_getElem? hp
    have hpd := Tm.dep_inn hpm
    have ht := inn_nm hp
    obtain ⟨h1, h2, h3⟩ := ih (n := n - 1) (hw.inn hpm).1 (by omega) ha'
    rw [lp_some hp]
    refine ⟨wi_wf hw hp h1, ?_, fun y hy => ?_⟩
    · refine dep_le (fun q hq => ?_) (by omega)
      rcases wi_inn hp hq with h | rfl
      · have := Tm.dep_inn h; omega
      · show (p.2.lp v).dep < _; omega
    · obtain ⟨q, hq, g1, g2⟩ := (mem_fv (wi_nm ht)).mp hy
      rcases wi_inn hp hq with h | rfl
      · exact (mem_fv ht).mpr ⟨q, h, g1, g2⟩
      · exact (mem_fv ht).mpr ⟨p, hpm, h3 y g1, g2⟩
theorem gl_at : ∀ (v : List Nat) {t : Tm} {E : Tx → Nat → Tm} {d : Nat} {x : Tx} {b w : Tm}, t.at v = some (.lt x b w) → ∃ x' b' w', (t.gl E d).at v = some (.lt x' b' w') := by
  intro v
  induction v with
  | nil =>
    intro t E d x b w ha
    simp only [Tm.at, Option.some.injEq] at ha
    subst ha
    rw [gl_lt]
    exact ⟨_, _, _, rfl⟩
  | cons i v ih =>
    intro t E d x b w ha
    obtain ⟨p, hp, ha'⟩ := at_some ha
    have ht := inn_nm hp
    have g : (t.gl E d).inn = _ := (gl_inn (t := t) (E := E) (d := d)).resolve_right fun ⟨x, e⟩ => ht x e
    have g2 : (t.gl E d).inn[i]? = some (figs d p.1.length, p.2.gl (lx E d p.1) (d + p.1.length)) := by rw [g, List.getElem?_map, hp]; rfl
    obtain ⟨x', b', w', e⟩ := ih (E := lx E d p.1) (d := d + p.1.length) ha'
    exact ⟨x', b', w', by simp only [Tm.at, g2]; exact e⟩
theorem at_lways : ∀ (d : Nat) (t : Tm), ∀ v ∈ t.lwaysD d, ∃ x b w, t.at v = some (.lt x b w)
  | 0, t, v, h => by
    simp only [Tm.lwaysD] at h
    split at h
    · rename_i hl
      simp only [List.mem_cons, List.not_mem_nil, or_false] at h
      subst h
      cases t with
      | lt x b w => exact ⟨x, b, w, rfl⟩
      | _ => simp [Tm.isLt] at hl
    · cases h
  | d + 1, t, v, h => by
    simp only [Tm.lwaysD, List.mem_append] at h
    rcases h with h | h
    · split at h
      · rename_i hl
        simp only [List.mem_cons, List.not_mem_nil, or_false] at h
        subst h
        cases t with
        | lt x b w => exact ⟨x, b, w, rfl⟩
        | _ => simp [Tm.isLt] at hl
      · cases h
    · have : ∀ {l : List (List Tx × Tm)} {n : Nat}, v ∈ ahd n (l.map fun p => Tm.lwaysD d p.2) → ∃ i u p, v = (n + i) :: u ∧ l[i]? = some p ∧ u ∈ Tm.lwaysD d p.2 := by
        intro l
        induction l with
        | nil => intro n h; cases h
        | cons p l ihl =>
          intro n h
          simp only [List.map_cons, ahd, List.mem_append, List.mem_map] at h
          rcases h with ⟨u, hu, rfl⟩ | h
          · exact ⟨0, u, p, rfl, rfl, hu⟩
          · obtain ⟨i, u, q, rfl, h1, h2⟩ := ihl h
            exact ⟨i + 1, u, q, by rw [Nat.add_assoc, Nat.add_comm 1], by simpa using h1, h2⟩
      obtain ⟨i, u, p, rfl, hp, hu⟩ := this h
      rw [Nat.zero_add]
      obtain ⟨x, b, w, e⟩ := at_lways d p.2 u hu
      exact ⟨x, b, w, by simp only [Tm.at, hp]; exact e⟩
theorem countP_strs {x : Tx} : ∀ l : List Tx, (l.map P.str).countP (fun y => y.eqv (.str x)) = l.count x
  | [] => rfl
  | y :: l => by
    simp only [List.map_cons, List.countP_cons, List.count_cons, countP_strs l]
    rfl
theorem lcnt_ok {l : List Tx} {x : Tx} (hl : ∀ y ∈ l, Shy y) (hx : Shy x) : lcntP (.lst (l.map .str)) (.str x) = some (.int ((l.count x : Nat) : Int)) := by
  rw [lcn_l, if_pos, countP_strs]
  simp only [Bool.and_eq_true, List.all_eq_true, decide_eq_true_eq]
  refine ⟨⟨?_, shy_sh hx⟩, by simp [P.deep]⟩
  intro p hp
  obtain ⟨y, hy, rfl⟩ := List.mem_map.mp hp
  exact shy_sh (hl y hy)
theorem k13_plain {T : Nat → Option Fn} (hT2 : T 2 = some fn2) (hT3 : T 3 = some fn3) (hT4 : T 4 = some fn4) (hT5 : T 5 = some fn5) (hT6 : T 6 = some fn6) (hT7 : T 7 = some fn7) (hT8 : T 8 = some fn8) (hT9 : T 9 = some fn9) (hT10 : T 10 = some fn10) (hT11 : T 11 = some fn11) (hT13 : T 13 = some fn13) (hT16 : T 16 = some fn16) (hT53 : T 53 = some fn53) (hT54 : T 54 = some fn54) (hT80 : T 80 = some fn80) (hT81 : T 81 = some fn81) (hT83 : T 83 = some fn83) (hT84 : T 84 = some fn84) (hT85 : T 85 = some fn85) (hT106 : T 106 = some fn106) (hT135 : T 135 = some fn135) (hT136 : T 136 = some fn136) (hT137 : T 137 = some fn137) (hT138 : T 138 = some fn138) (hT181 : T 181 = some fn181) (hT270 : T 270 = some fn270) (hT274 : T 274 = some fn274) (hT275 : T 275 = some fn275) (hT276 : T 276 = some fn276) (hT280 : T 280 = some fn280) (hT183 : T 183 = some fn183)
    (ns : List Int) (hns : ns.length ≤ 63) : ∃ st', callK T 230 183 [scr ns] [] = .ok (.p (.bl true)) st' := by
  suffices h : To (callK T (229 + 1) 183 [scr ns] []) fun d st' => d = .p (.bl true) by
    obtain ⟨d, st', e, rfl⟩ := h.eq
    exact ⟨st', e⟩
  have hT7' : T 7 = some (wFn 5) := hT7
  refine call_end hT183 rfl ?_
  unfold fn183
  have hL := LINE_eq
  have hnL : ns.length ≤ LINE := by omega
  have hz0 : (0 : Nat) ≤ LINE := by omega
  have hz1 : (1 : Nat) ≤ LINE := by omega
  have hz2 : (2 : Nat) ≤ LINE := by omega
  have e22 : rngL 0 (Int.toNat 2) = [.int 0, .int 1] := rfl
  have h22 : (2 : Int) < 2 ^ 40 ∧ -(2 ^ 40) < (2 : Int) := by decide +kernel
  simp_arith [hnL]
  refine ⟨by constructor <;> split <;> omega, ?_⟩
  refine for_inv (fun rest δ st => ∃ (x1 x2 x3 x4 x5 x6 x7 x8 x9 x10 x11 x12 x13 x14 : Option NH.D), δ = [some (scr ns), x1, x2, x3, x4, x5, x6, x7, x8, x9, x10, x11, x12, x13, x14] ∧ ∀ y ∈ rest, ∃ i : Nat, y = .int i) ⟨_, _, _, _, _, _, _, _, _, _, _, _, _, _, rfl, ?_⟩ ?_ ?_
  · intro y hy
    rw [rngL0] at hy
    obtain ⟨i, _, rfl⟩ := List.mem_map.mp hy
    exact ⟨i, rfl⟩
  · rintro y rr δ st ⟨x1, x2, x3, x4, x5, x6, x7, x8, x9, x10, x11, x12, x13, x14, rfl, hi⟩
    obtain ⟨i, rfl⟩ := hi y List.mem_cons_self
    have hi' := fun z hz => hi z (List.mem_cons_of_mem _ hz)
    refine ⟨_, rfl, ?_⟩
    simp_arith []
    refine To.mono (tape_to hT2 hT3 hns) ?_
    rintro d st1 ⟨rfl, o, rfl, ht⟩
    simp_arith []
    refine To.mono (world_to hT4 hT5 hT7' ht (by omega)) ?_
    rintro d st2 ⟨w, pool, words, hs, rfl, W, t2, b2⟩
    simp_arith []
    refine To.mono (some_term_to (b := 5) hT4 hT9 hT8 hT10 W (k := 225) (by omega) t2 (by omega)) ?_
    rintro d st4 ⟨t, rfl, D, hlets, t4, b4⟩
    have iP : idxP w (.str sPool) = some (.lst (pool.map .str)) := by rw [W.eq, ix_d, kg_s]
    have hpl := W.pl
    have hwN := Wf.vn W D.wf
    have hwS := vn_s hwN
    obtain ⟨s, hrep⟩ := rep_tm hwN D.dep
    have hneat := fun st => gneat_ev (T := T) hT80 hT81 W.pd (by omega) hwS (Nat.le_trans D.dep (by omega)) D.fv (k := 227) (st := st) (by omega)
    have hlw := fun st => lw_ev (T := T) hT11 hT136 7 t hwN D.dep (by omega) (by omega) (k := 228) (st := st) (by omega)
    have hlwl := lways_lets 7 t D.dep
    simp_arith [iP, hrep, hneat, hlw]
    refine for_inv (fun rest δ st' => ∃ (ws : List (List Nat)) (x8 x9 x10 x11 x12 x13 x14 : Option NH.D), (∀ v ∈ ws, v ∈ t.lwaysD 7) ∧ rest = ws.map wl ∧
      δ = [some (scr ns), some (.p (.int i)), some (.r st.length), some (.p w), some (.p t.enc), some (.p (.lst (pool.map .str))), some (.p (.str s)), some (.p (t.gl (fun x _ => .nm (pl pool x)) pool.length).enc), x8, x9, x10, x11, x12, x13, x14])
      ⟨t.lwaysD 7, _, _, _, _, _, _, _, fun _ h => h, rfl, rfl⟩ ?_ ?_
    · rintro y rr2 δ X ⟨ws, x8, x9, x10, x11, x12, x13, x14, hws, hre, rfl⟩
      cases ws with
      | nil => cases hre
      | cons v ws =>
      simp only [List.map_cons, List.cons.injEq] at hre
      obtain ⟨rfl, rfl⟩ := hre
      refine ⟨_, rfl, ?_⟩
      obtain ⟨x, b, wo, hat⟩ := at_lways 7 t v (hws v List.mem_cons_self)
      have hvl := lways_long 7 t v (hws v List.mem_cons_self)
      have hE : Lvd (fun x _ => .nm (pl pool x)) pool.length t := fun x hx => ⟨pool.idxOf x, List.idxOf_lt_length_iff.mpr (D.fv x hx), fun _ => rfl⟩
      have hwhS : Wf vS (t.gl (fun x _ => .nm (pl pool x)) pool.length) := gl_wf (V := vS) (fun i _ => natTx_shy i) 7 hwS D.dep (fun _ _ _ => .nm (natTx_shy _)) (by omega)
      have hwhd : (t.gl (fun x _ => .nm (pl pool x)) pool.length).dep ≤ 7 := by
        have := gl_dep 7 (E := fun x _ => .nm (pl pool x)) (d := pool.length) (m := 0) D.dep (fun x _ _ => by simp [Tm.dep])
        omega
      obtain ⟨x', b', w', hat2⟩ := gl_at v (E := fun x _ => .nm (pl pool x)) (d := pool.length) hat
      obtain ⟨hl1, hl2, hl3⟩ := lp_ok v hwhS hwhd hat2
      have hdue := fun st => putneat_ev (T := T) hT80 hT81 hT135 hT137 hT138 hwhS (Nat.le_trans hwhd (by omega)) hat2 (many := pool.length) (by omega) hl1 (by omega) (fun y hy => by
        obtain ⟨j, hj, rfl⟩ := gl_fv_lv hE y (hl3 y hy)
        exact figs_mem.mpr ⟨Nat.zero_le _, by omega⟩) (k := 227) (st := st) (by omega)
      have edue := lp_gl v hE
      rw [edue] at hdue
      obtain ⟨u, hput, hP⟩ := putat_ev (T := T) hT16 hT106 hT181 hT270 hT274 hT275 hT276 hT280 (V := vN) (fun i hi => nm_fig hi) v (n := 7) hwN D.dep (by omega) hat (L := pool) D.fv (by omega) (st := X) (k := 228) (by omega)
      have hu1 := fun st => term_ev (T := T) hT53 hT54 hT83 hT84 hT85 (V := vN) ⟨fun _ h => h, fun _ h => h, fun _ _ h => h⟩ u hP.wf (k := 225) (st := st) (by have := hP.dep; omega)
      have hus := vn_s hP.wf
      have hu3 := fun st => gneat_ev (T := T) hT80 hT81 W.pd (by omega) hus (Nat.le_trans hP.dep (by omega)) hP.fv (k := 227) (st := st) (by omega)
      have e3 : u.gl (fun x _ => .nm (pl pool x)) pool.length = t.pg v (fun x _ => .nm (pl pool x)) pool.length := hP.gl _ _
      have hgS : Wf vS (u.gl (fun x _ => .nm (pl pool x)) pool.length) := gl_wf (V := vS) (fun i _ => natTx_shy i) 14 hus hP.dep (fun _ _ _ => .nm (natTx_shy _)) (by omega)
      have hgd : (u.gl (fun x _ => .nm (pl pool x)) pool.length).dep ≤ 14 := by
        have := gl_dep 14 (E := fun x _ => .nm (pl pool x)) (d := pool.length) (m := 0) hP.dep (fun x _ _ => by simp [Tm.dep])
        omega
      rw [e3] at hu3 hgS hgd
      have hu4 := fun st => same_refl (T := T) hT6 50 (p := (t.pg v (fun x _ => .nm (pl pool x)) pool.length).enc) (by have := enc_deep (t.pg v (fun x _ => .nm (pl pool x)) pool.length); omega) (vS_sh hgS) (enc_wd _ hgS) (k := 228) (st := st) (by omega)
      have c2 : ∀ st, cmpD .isnB st (.p (.bl true)) (.p (.bl true)) = some false := fun _ => rfl
      have c5 : ∀ st, cmpD .ne st (.p (.str s)) (.p (.str s)) = some false := fun _ => by
        show (eqP (.str s) (.str s)).map not = some false
        unfold eqP
        rw [if_pos (by rfl)]
        simp [P.eqv]
      have hvL : v.length ≤ LINE := by omega
      have hplL : pool.length ≤ LINE := by omega
      simp_arith [hplL, hdue, h22, e22, for_c, hput, hu1, c2, hu3, hu4, hrep, c5]
      unfold wl
      simp_arith []
      refine for_inv (fun rest δ st1 => ∃ (x13 : Option NH.D) (t' : Tm) (v' : List Nat), δ = [some (scr ns), some (.p (.int i)), some (.r st.length), some (.p w), some (.p t.enc), some (.p (.lst (pool.map .str))), some (.p (.str s)), some (.p (t.gl (fun x _ => .nm (pl pool x)) pool.length).enc), some (.p (wl v)), some (.p (t.pg v (fun x _ => .nm (pl pool x)) pool.length).enc), some (.p (.int 1)), some (.p u.enc), some (.p t'.enc), x13, x14] ∧ Wf vN t' ∧ t'.dep ≤ 7 ∧ t'.at v' = some (.lt x b wo) ∧ rest = (v'.map fun i : Nat => .int (i : Int)) ∧ st1 = X)
        ⟨_, t, v, rfl, hwN, D.dep, hat, rfl, rfl⟩ ?_ ?_
      · rintro y rr3 δ st1 ⟨x13, t', v', rfl, i1, i1d, i2, i3, rfl⟩
        cases v' with
        | nil => cases i3
        | cons j v' =>
          cases i3
          obtain ⟨p, hp, i2'⟩ := at_some i2
          refine ⟨_, rfl, ?_⟩
          have hin := inner_ev (T := T) hT11 i1 (k := 228) (st := st1)
          have hx := ix_at (f := ePart) hp
          have he : ePart p = .tup [.tup (p.1.map .str), p.2.enc] := rfl
          have hdp := Tm.dep_inn (List.mem_of_getElem? hp)
          simp_arith [hin, hx, he]
          exact Hide.of ⟨_, p.2, v', rfl, (i1.inn (List.mem_of_getElem? hp)).1, by omega, i2', rfl, rfl⟩
      · rintro δ st1 ⟨x13, t', v', rfl, i1, i1d, i2, i3, rfl⟩
        have hv0 : v' = [] := by cases v' with
          | nil => rfl
          | cons _ _ => cases i3
        subst hv0
        simp only [Tm.at, Option.some.injEq] at i2
        subst i2
        have hb : Wf vN b := (i1.inn (p := ([x], b)) (by simp [Tm.inn])).1
        have hbs := vn_s hb
        have hdd : (Tm.lt x b wo).dep = 1 + max b.dep wo.dep := by simp [Tm.dep]
        have hnm := fun st => names_ev (T := T) hT11 hT13 11 hb (show b.dep ≤ 11 by omega) (by omega) (B := []) (by simp) (k := 228) (st := st) (by omega)
        have ff : ∀ l : List Tx, (l.filter fun x => decide (x ∉ ([] : List Tx))) = l := fun l => by simp
        rw [ff] at hnm
        simp only [List.map_nil] at hnm
        have hxs : Shy x := by cases i1 with | lt hx _ _ => exact (show IsNm x from hx).shy
        have hcnt := lcnt_ok (l := b.fv) (x := x) (fun y hy => hbs.fvn y hy) hxs
        have c7 : ∀ st, cmpD .eq st (.p (.int ((b.fv.count x : Nat) : Int))) (.p (.int 1)) = some (decide (b.fv.count x = 1)) := fun st => by
          rw [cmp_eq rfl rfl (by simp [P.deep]) (by simp [P.deep])]
          show some (((b.fv.count x : Nat) : Int) == 1) = _
          by_cases h : b.fv.count x = 1
          · simp [h]
          · simp only [h, decide_false, Option.some.injEq, beq_eq_false_iff_ne, ne_eq]; omega
        rw [Tm.enc_lt]
        by_cases hc : b.fv.count x = 1
        · have hul : u.lets + 1 = t.lets := by
            rw [← pg_lets v hE hat hc, ← hP.gl, lets_gl0]
            exact fun _ _ _ => ⟨_, rfl⟩
          have hlu := fun st => lw_ev (T := T) hT11 hT136 14 u hP.wf hP.dep (by omega) (by omega) (k := 228) (st := st) (by omega)
          have hlul := lways_lets 14 u hP.dep
          have c8 : ∀ st, cmpD .ne st (.p (.int ((u.lets : Nat) : Int))) (.p (.int (((t.lets : Nat) : Int) - 1))) = some false := fun st => by
            rw [cmp_ne rfl rfl (by simp [P.deep]) (by simp [P.deep])]
            show some (!(((u.lets : Nat) : Int) == ((t.lets : Nat) : Int) - 1)) = _
            have : ((u.lets : Nat) : Int) = ((t.lets : Nat) : Int) - 1 := by omega
            rw [this]; simp
          have hl5 : u.lets ≤ LINE := by omega
          have hl6 : t.lets ≤ LINE := by omega
          simp_arith [hz0, hnm, hcnt, c7, hc, decide_true, hlu, hlw, hlul, hlwl, c8, hl5, hl6]
          exact Hide.of ⟨ws, _, _, _, _, _, _, _, fun v hv => hws v (List.mem_cons_of_mem _ hv), rfl, rfl⟩
        · simp_arith [hz0, hnm, hcnt, c7, hc, decide_false]
          exact Hide.of ⟨ws, _, _, _, _, _, _, _, fun v hv => hws v (List.mem_cons_of_mem _ hv), rfl, rfl⟩
    · rintro δ X ⟨ws, x8, x9, x10, x11, x12, x13, x14, hws, hre, rfl⟩
      simp_arith []
      exact Hide.of ⟨_, _, _, _, _, _, _, _, _, _, _, _, _, _, rfl, hi'⟩
  · rintro δ st ⟨x1, x2, x3, x4, x5, x6, x7, x8, x9, x10, x11, x12, x13, x14, rfl, _⟩
    simp_arith []
    exact Hide.of rfl
end NH
namespace K13
open PySem L2 NH
abbrev top (i : Nat) : Stmt := PySem.Challenge.pw_nameholes_k13_lets_put.main.body.getD i (.Pass ⟨0, 0, 0, 0⟩)
abbrev d53 : DefD := ⟨"is_word", top 5, ["thing", "sign"], ["thing"], fn53⟩
abbrev d54 : DefD := ⟨"is_name", top 6, ["thing", "sign"], ["thing"], fn54⟩
abbrev d83 : DefD := ⟨"are_names", top 7, ["thing", "one"], ["thing"], fn83⟩
abbrev d84 : DefD := ⟨"is_part", top 8, ["thing"], ["thing"], fn84⟩
abbrev d85 : DefD := ⟨"is_term", top 9, ["thing", "sort", "size", "fine", "one"], ["thing"], fn85⟩
abbrev d16 : DefD := ⟨"straight_within", top 10, ["term", "one"], ["term"], fn16⟩
abbrev d270 : DefD := ⟨"names_of", top 11, ["term", "told", "bound", "inner", "name"], ["term"], fn270⟩
abbrev d106 : DefD := ⟨"fresh_names", top 13, ["names", "taken", "told", "number", "name"], ["names", "taken"], fn106⟩
abbrev d274 : DefD := ⟨"put_under", top 14, ["names", "inner", "put", "free", "here", "name", "taken", "own", "call"], ["names", "inner", "put"], fn274⟩
abbrev d275 : DefD := ⟨"put_all", top 15, ["term", "put", "sort", "names", "inner", "body"], ["term", "put"], fn275⟩
abbrev d276 : DefD := ⟨"put_in", top 16, ["term", "pairs"], ["term", "pairs"], fn276⟩
abbrev d181 : DefD := ⟨"with_inner", top 18, ["term", "at", "inner", "row"], ["term", "at", "inner"], fn181⟩
abbrev d280 : DefD := ⟨"put_at", top 19, ["term", "way", "bound", "inner"], ["term", "way"], fn280⟩
abbrev d2 : DefD := ⟨"_law_cell_at", top 21, ["_law_script", "_law_k"], ["_law_script", "_law_k"], fn2⟩
abbrev d3 : DefD := ⟨"_law_tape", top 22, ["_law_script", "_law_k", "_law_cell"], ["_law_script", "_law_k"], fn3⟩
abbrev d4 : DefD := ⟨"_law_take", top 23, ["_law_tape_here", "_law_many", "_law_digit", "_law_once"], ["_law_tape_here", "_law_many"], fn4⟩
abbrev d5 : DefD := ⟨"_law_words", top 24, ["_law_tape_here", "_law_many", "_law_letters", "_law_stem", "_law_k", "_law_at", "_law_first", "_law_signs", "_law_sign"], ["_law_tape_here", "_law_many"], fn5⟩
abbrev d6 : DefD := ⟨"_law_same", top 25, ["_law_got", "_law_due", "_law_one", "_law_other"], ["_law_got", "_law_due"], fn6⟩
abbrev d80 : DefD := ⟨"_law_given", top 26, ["_law_term", "_law_names", "_law_rows", "_law_level", "_law_taken", "_law_one", "_law_own", "_law_body", "_law_inner_here", "_law_worth", "_law_parts", "_law_bound", "_law_called", "_law_k", "_law_name"], ["_law_term", "_law_names", "_law_rows", "_law_level"], fn80⟩
abbrev d81 : DefD := ⟨"_law_neat", top 27, ["_law_names", "_law_term", "_law_k", "_law_name"], ["_law_names", "_law_term"], fn81⟩
abbrev d7 : DefD := ⟨"_law_world", top 28, ["_law_tape_here", "_law_words_here", "_law_word", "_law_pool", "_law_holes", "_law_name"], ["_law_tape_here"], fn7⟩
abbrev d8 : DefD := ⟨"_law_any", top 29, ["_law_tape_here", "_law_world_here", "_law_names", "_law_room", "_law_deep", "_law_way", "_law_x", "_law_body", "_law_hole", "_law_many", "_law_k", "_law_word", "_law_parts", "_law_bound"], ["_law_tape_here", "_law_world_here", "_law_names", "_law_room", "_law_deep"], fn8⟩
abbrev d9 : DefD := ⟨"_law_unlike", top 30, ["_law_tape_here", "_law_some", "_law_many", "_law_left", "_law_k"], ["_law_tape_here", "_law_some", "_law_many"], fn9⟩
abbrev d10 : DefD := ⟨"_law_some_term", top 31, ["_law_tape_here", "_law_world_here", "_law_lets", "_law_room"], ["_law_tape_here", "_law_world_here", "_law_lets"], fn10⟩
abbrev d11 : DefD := ⟨"_law_inner", top 32, ["_law_term", "_law_one"], ["_law_term"], fn11⟩
abbrev d13 : DefD := ⟨"_law_names_in", top 34, ["_law_term", "_law_bound", "_law_seen", "_law_own", "_law_inner_here"], ["_law_term", "_law_bound"], fn13⟩
abbrev d135 : DefD := ⟨"_law_replaced", top 36, ["_law_term", "_law_name", "_law_worth", "_law_inner_here", "_law_own"], ["_law_term", "_law_name", "_law_worth"], fn135⟩
abbrev d136 : DefD := ⟨"_law_ways", top 37, ["_law_term", "_law_seen", "_law_k", "_law_own", "_law_inner_here", "_law_way"], ["_law_term"], fn136⟩
abbrev d137 : DefD := ⟨"_law_let_put", top 38, ["_law_term", "_law_way", "_law_k", "_law_body", "_law_worth", "_law_at", "_law_inner_here", "_law_row", "_law_made"], ["_law_term", "_law_way"], fn137⟩
abbrev d138 : DefD := ⟨"_law_put_neat", top 39, ["_law_term", "_law_way", "_law_many", "_law_k"], ["_law_term", "_law_way", "_law_many"], fn138⟩
abbrev d183 : DefD := ⟨"law", top 42, ["_law_script", "_law_k", "_law_tape_here", "_law_world_here", "_law_term", "_law_names", "_law_kept", "_law_whole", "_law_way", "_law_due", "_law_turn", "_law_seen", "_law_let", "_law_at", "_law_often"], ["_law_script"], fn183⟩
abbrev defs : List (Nat × DefD) := [(53, d53), (54, d54), (83, d83), (84, d84), (85, d85), (16, d16), (270, d270), (106, d106), (274, d274), (275, d275), (276, d276), (181, d181), (280, d280), (2, d2), (3, d3), (4, d4), (5, d5), (6, d6), (80, d80), (81, d81), (7, d7), (8, d8), (9, d9), (10, d10), (11, d11), (13, d13), (135, d135), (136, d136), (137, d137), (138, d138), (183, d183)]
abbrev bnames : List Str := ["abs", "all", "bool", "dict", "enumerate", "int", "isinstance", "len", "list", "min", "range", "repr", "set", "str", "tuple", "zip"]
abbrev globs : List (Str × NH.P) := [("FIGURES", .str [48, 49, 50, 51, 52, 53, 54, 55, 56, 57]), ("LETTERS", .str [97, 98, 99, 100, 101, 102, 103, 104, 105, 106, 107, 108, 109, 110, 111, 112, 113, 114, 115, 116, 117, 118, 119, 120, 121, 122]), ("MOST_FIGURES", .int 3), ("MOST_LETTERS", .int 8)]
abbrev T : Nat → Option Fn := tabT defs
set_option maxRecDepth 1000000 in
theorem checked : (defs.all fun p => okDef (infOf defs bnames globs) p.2) = true := by decide +kernel
theorem plain : ∀ ns : List Int, ns.length ≤ 63 → ∃ st', callK T 230 183 [scriptD ns] [] = .ok (.p (.bl true)) st' := fun ns h => NH.k13_plain (T := T) rfl rfl rfl rfl rfl rfl rfl rfl rfl rfl rfl rfl rfl rfl rfl rfl rfl rfl rfl rfl rfl rfl rfl rfl rfl rfl rfl rfl rfl rfl rfl ns h
end K13
namespace K13
open PySem L2 NH
theorem all_mk {P : Program} {w : World} {K : PySem.W.Frag} {h : Heap} {mg : Str → Option Value} {fa : Addr} (X : K.In h) (G : h.Ns mainGlobals mg) (hfa : mg "law" = some (.ref fa))
    {f53 : Addr} {od53 an53 : Option Addr} {sl53 : Array (Option Value)} {oc53 kV53 dc53 pm53 cd53 ct53 : Value}
    (a53 : PySem.W.nsIn K mainGlobals d53.nm = some (some (.ref f53))) (l53 : K.lookup f53 = some ⟨oc53, od53, .func (PySem.W.fnOf d53.nm d53.nm (defArgs d53.st) (defBody d53.st) (defScope d53.st) .none kV53 dc53 pm53 an53 cd53 ct53), sl53⟩) (c53 : PySem.W.codeIn K cd53 d53.nm = true) (k53 : PySem.W.keepIn K (.ref f53) = true)
    {f54 : Addr} {od54 an54 : Option Addr} {sl54 : Array (Option Value)} {oc54 kV54 dc54 pm54 cd54 ct54 : Value}
    (a54 : PySem.W.nsIn K mainGlobals d54.nm = some (some (.ref f54))) (l54 : K.lookup f54 = some ⟨oc54, od54, .func (PySem.W.fnOf d54.nm d54.nm (defArgs d54.st) (defBody d54.st) (defScope d54.st) .none kV54 dc54 pm54 an54 cd54 ct54), sl54⟩) (c54 : PySem.W.codeIn K cd54 d54.nm = true) (k54 : PySem.W.keepIn K (.ref f54) = true)
    {f83 : Addr} {od83 an83 : Option Addr} {sl83 : Array (Option Value)} {oc83 kV83 dc83 pm83 cd83 ct83 : Value}
    (a83 : PySem.W.nsIn K mainGlobals d83.nm = some (some (.ref f83))) (l83 : K.lookup f83 = some ⟨oc83, od83, .func (PySem.W.fnOf d83.nm d83.nm (defArgs d83.st) (defBody d83.st) (defScope d83.st) .none kV83 dc83 pm83 an83 cd83 ct83), sl83⟩) (c83 : PySem.W.codeIn K cd83 d83.nm = true) (k83 : PySem.W.keepIn K (.ref f83) = true)
    {f84 : Addr} {od84 an84 : Option Addr} {sl84 : Array (Option Value)} {oc84 kV84 dc84 pm84 cd84 ct84 : Value}
    (a84 : PySem.W.nsIn K mainGlobals d84.nm = some (some (.ref f84))) (l84 : K.lookup f84 = some ⟨oc84, od84, .func (PySem.W.fnOf d84.nm d84.nm (defArgs d84.st) (defBody d84.st) (defScope d84.st) .none kV84 dc84 pm84 an84 cd84 ct84), sl84⟩) (c84 : PySem.W.codeIn K cd84 d84.nm = true) (k84 : PySem.W.keepIn K (.ref f84) = true)
    {f85 : Addr} {od85 an85 : Option Addr} {sl85 : Array (Option Value)} {oc85 kV85 dc85 pm85 cd85 ct85 : Value}
    (a85 : PySem.W.nsIn K mainGlobals d85.nm = some (some (.ref f85))) (l85 : K.lookup f85 = some ⟨oc85, od85, .func (PySem.W.fnOf d85.nm d85.nm (defArgs d85.st) (defBody d85.st) (defScope d85.st) .none kV85 dc85 pm85 an85 cd85 ct85), sl85⟩) (c85 : PySem.W.codeIn K cd85 d85.nm = true) (k85 : PySem.W.keepIn K (.ref f85) = true)
    {f16 : Addr} {od16 an16 : Option Addr} {sl16 : Array (Option Value)} {oc16 kV16 dc16 pm16 cd16 ct16 : Value}
    (a16 : PySem.W.nsIn K mainGlobals d16.nm = some (some (.ref f16))) (l16 : K.lookup f16 = some ⟨oc16, od16, .func (PySem.W.fnOf d16.nm d16.nm (defArgs d16.st) (defBody d16.st) (defScope d16.st) .none kV16 dc16 pm16 an16 cd16 ct16), sl16⟩) (c16 : PySem.W.codeIn K cd16 d16.nm = true) (k16 : PySem.W.keepIn K (.ref f16) = true)
    {f270 : Addr} {od270 an270 : Option Addr} {sl270 : Array (Option Value)} {oc270 kV270 dc270 pm270 cd270 ct270 : Value}
    (a270 : PySem.W.nsIn K mainGlobals d270.nm = some (some (.ref f270))) (l270 : K.lookup f270 = some ⟨oc270, od270, .func (PySem.W.fnOf d270.nm d270.nm (defArgs d270.st) (defBody d270.st) (defScope d270.st) .none kV270 dc270 pm270 an270 cd270 ct270), sl270⟩) (c270 : PySem.W.codeIn K cd270 d270.nm = true) (k270 : PySem.W.keepIn K (.ref f270) = true)
    {f106 : Addr} {od106 an106 : Option Addr} {sl106 : Array (Option Value)} {oc106 kV106 dc106 pm106 cd106 ct106 : Value}
    (a106 : PySem.W.nsIn K mainGlobals d106.nm = some (some (.ref f106))) (l106 : K.lookup f106 = some ⟨oc106, od106, .func (PySem.W.fnOf d106.nm d106.nm (defArgs d106.st) (defBody d106.st) (defScope d106.st) .none kV106 dc106 pm106 an106 cd106 ct106), sl106⟩) (c106 : PySem.W.codeIn K cd106 d106.nm = true) (k106 : PySem.W.keepIn K (.ref f106) = true)
    {f274 : Addr} {od274 an274 : Option Addr} {sl274 : Array (Option Value)} {oc274 kV274 dc274 pm274 cd274 ct274 : Value}
    (a274 : PySem.W.nsIn K mainGlobals d274.nm = some (some (.ref f274))) (l274 : K.lookup f274 = some ⟨oc274, od274, .func (PySem.W.fnOf d274.nm d274.nm (defArgs d274.st) (defBody d274.st) (defScope d274.st) .none kV274 dc274 pm274 an274 cd274 ct274), sl274⟩) (c274 : PySem.W.codeIn K cd274 d274.nm = true) (k274 : PySem.W.keepIn K (.ref f274) = true)
    {f275 : Addr} {od275 an275 : Option Addr} {sl275 : Array (Option Value)} {oc275 kV275 dc275 pm275 cd275 ct275 : Value}
    (a275 : PySem.W.nsIn K mainGlobals d275.nm = some (some (.ref f275))) (l275 : K.lookup f275 = some ⟨oc275, od275, .func (PySem.W.fnOf d275.nm d275.nm (defArgs d275.st) (defBody d275.st) (defScope d275.st) .none kV275 dc275 pm275 an275 cd275 ct275), sl275⟩) (c275 : PySem.W.codeIn K cd275 d275.nm = true) (k275 : PySem.W.keepIn K (.ref f275) = true)
    {f276 : Addr} {od276 an276 : Option Addr} {sl276 : Array (Option Value)} {oc276 kV276 dc276 pm276 cd276 ct276 : Value}
    (a276 : PySem.W.nsIn K mainGlobals d276.nm = some (some (.ref f276))) (l276 : K.lookup f276 = some ⟨oc276, od276, .func (PySem.W.fnOf d276.nm d276.nm (defArgs d276.st) (defBody d276.st) (defScope d276.st) .none kV276 dc276 pm276 an276 cd276 ct276), sl276⟩) (c276 : PySem.W.codeIn K cd276 d276.nm = true) (k276 : PySem.W.keepIn K (.ref f276) = true)
    {f181 : Addr} {od181 an181 : Option Addr} {sl181 : Array (Option Value)} {oc181 kV181 dc181 pm181 cd181 ct181 : Value}
    (a181 : PySem.W.nsIn K mainGlobals d181.nm = some (some (.ref f181))) (l181 : K.lookup f181 = some ⟨oc181, od181, .func (PySem.W.fnOf d181.nm d181.nm (defArgs d181.st) (defBody d181.st) (defScope d181.st) .none kV181 dc181 pm181 an181 cd181 ct181), sl181⟩) (c181 : PySem.W.codeIn K cd181 d181.nm = true) (k181 : PySem.W.keepIn K (.ref f181) = true)
    {f280 : Addr} {od280 an280 : Option Addr} {sl280 : Array (Option Value)} {oc280 kV280 dc280 pm280 cd280 ct280 : Value}
    (a280 : PySem.W.nsIn K mainGlobals d280.nm = some (some (.ref f280))) (l280 : K.lookup f280 = some ⟨oc280, od280, .func (PySem.W.fnOf d280.nm d280.nm (defArgs d280.st) (defBody d280.st) (defScope d280.st) .none kV280 dc280 pm280 an280 cd280 ct280), sl280⟩) (c280 : PySem.W.codeIn K cd280 d280.nm = true) (k280 : PySem.W.keepIn K (.ref f280) = true)
    {f2 : Addr} {od2 an2 : Option Addr} {sl2 : Array (Option Value)} {oc2 kV2 dc2 pm2 cd2 ct2 : Value}
    (a2 : PySem.W.nsIn K mainGlobals d2.nm = some (some (.ref f2))) (l2 : K.lookup f2 = some ⟨oc2, od2, .func (PySem.W.fnOf d2.nm d2.nm (defArgs d2.st) (defBody d2.st) (defScope d2.st) .none kV2 dc2 pm2 an2 cd2 ct2), sl2⟩) (c2 : PySem.W.codeIn K cd2 d2.nm = true) (k2 : PySem.W.keepIn K (.ref f2) = true)
    {f3 : Addr} {od3 an3 : Option Addr} {sl3 : Array (Option Value)} {oc3 kV3 dc3 pm3 cd3 ct3 : Value}
    (a3 : PySem.W.nsIn K mainGlobals d3.nm = some (some (.ref f3))) (l3 : K.lookup f3 = some ⟨oc3, od3, .func (PySem.W.fnOf d3.nm d3.nm (defArgs d3.st) (defBody d3.st) (defScope d3.st) .none kV3 dc3 pm3 an3 cd3 ct3), sl3⟩) (c3 : PySem.W.codeIn K cd3 d3.nm = true) (k3 : PySem.W.keepIn K (.ref f3) = true)
    {f4 : Addr} {od4 an4 : Option Addr} {sl4 : Array (Option Value)} {oc4 kV4 dc4 pm4 cd4 ct4 : Value}
    (a4 : PySem.W.nsIn K mainGlobals d4.nm = some (some (.ref f4))) (l4 : K.lookup f4 = some ⟨oc4, od4, .func (PySem.W.fnOf d4.nm d4.nm (defArgs d4.st) (defBody d4.st) (defScope d4.st) .none kV4 dc4 pm4 an4 cd4 ct4), sl4⟩) (c4 : PySem.W.codeIn K cd4 d4.nm = true) (k4 : PySem.W.keepIn K (.ref f4) = true)
    {f5 : Addr} {od5 an5 : Option Addr} {sl5 : Array (Option Value)} {oc5 kV5 dc5 pm5 cd5 ct5 : Value}
    (a5 : PySem.W.nsIn K mainGlobals d5.nm = some (some (.ref f5))) (l5 : K.lookup f5 = some ⟨oc5, od5, .func (PySem.W.fnOf d5.nm d5.nm (defArgs d5.st) (defBody d5.st) (defScope d5.st) .none kV5 dc5 pm5 an5 cd5 ct5), sl5⟩) (c5 : PySem.W.codeIn K cd5 d5.nm = true) (k5 : PySem.W.keepIn K (.ref f5) = true)
    {f6 : Addr} {od6 an6 : Option Addr} {sl6 : Array (Option Value)} {oc6 kV6 dc6 pm6 cd6 ct6 : Value}
    (a6 : PySem.W.nsIn K mainGlobals d6.nm = some (some (.ref f6))) (l6 : K.lookup f6 = some ⟨oc6, od6, .func (PySem.W.fnOf d6.nm d6.nm (defArgs d6.st) (defBody d6.st) (defScope d6.st) .none kV6 dc6 pm6 an6 cd6 ct6), sl6⟩) (c6 : PySem.W.codeIn K cd6 d6.nm = true) (k6 : PySem.W.keepIn K (.ref f6) = true)
    {f80 : Addr} {od80 an80 : Option Addr} {sl80 : Array (Option Value)} {oc80 kV80 dc80 pm80 cd80 ct80 : Value}
    (a80 : PySem.W.nsIn K mainGlobals d80.nm = some (some (.ref f80))) (l80 : K.lookup f80 = some ⟨oc80, od80, .func (PySem.W.fnOf d80.nm d80.nm (defArgs d80.st) (defBody d80.st) (defScope d80.st) .none kV80 dc80 pm80 an80 cd80 ct80), sl80⟩) (c80 : PySem.W.codeIn K cd80 d80.nm = true) (k80 : PySem.W.keepIn K (.ref f80) = true)
    {f81 : Addr} {od81 an81 : Option Addr} {sl81 : Array (Option Value)} {oc81 kV81 dc81 pm81 cd81 ct81 : Value}
    (a81 : PySem.W.nsIn K mainGlobals d81.nm = some (some (.ref f81))) (l81 : K.lookup f81 = some ⟨oc81, od81, .func (PySem.W.fnOf d81.nm d81.nm (defArgs d81.st) (defBody d81.st) (defScope d81.st) .none kV81 dc81 pm81 an81 cd81 ct81), sl81⟩) (c81 : PySem.W.codeIn K cd81 d81.nm = true) (k81 : PySem.W.keepIn K (.ref f81) = true)
    {f7 : Addr} {od7 an7 : Option Addr} {sl7 : Array (Option Value)} {oc7 kV7 dc7 pm7 cd7 ct7 : Value}
    (a7 : PySem.W.nsIn K mainGlobals d7.nm = some (some (.ref f7))) (l7 : K.lookup f7 = some ⟨oc7, od7, .func (PySem.W.fnOf d7.nm d7.nm (defArgs d7.st) (defBody d7.st) (defScope d7.st) .none kV7 dc7 pm7 an7 cd7 ct7), sl7⟩) (c7 : PySem.W.codeIn K cd7 d7.nm = true) (k7 : PySem.W.keepIn K (.ref f7) = true)
    {f8 : Addr} {od8 an8 : Option Addr} {sl8 : Array (Option Value)} {oc8 kV8 dc8 pm8 cd8 ct8 : Value}
    (a8 : PySem.W.nsIn K mainGlobals d8.nm = some (some (.ref f8))) (l8 : K.lookup f8 = some ⟨oc8, od8, .func (PySem.W.fnOf d8.nm d8.nm (defArgs d8.st) (defBody d8.st) (defScope d8.st) .none kV8 dc8 pm8 an8 cd8 ct8), sl8⟩) (c8 : PySem.W.codeIn K cd8 d8.nm = true) (k8 : PySem.W.keepIn K (.ref f8) = true)
    {f9 : Addr} {od9 an9 : Option Addr} {sl9 : Array (Option Value)} {oc9 kV9 dc9 pm9 cd9 ct9 : Value}
    (a9 : PySem.W.nsIn K mainGlobals d9.nm = some (some (.ref f9))) (l9 : K.lookup f9 = some ⟨oc9, od9, .func (PySem.W.fnOf d9.nm d9.nm (defArgs d9.st) (defBody d9.st) (defScope d9.st) .none kV9 dc9 pm9 an9 cd9 ct9), sl9⟩) (c9 : PySem.W.codeIn K cd9 d9.nm = true) (k9 : PySem.W.keepIn K (.ref f9) = true)
    {f10 : Addr} {od10 an10 : Option Addr} {sl10 : Array (Option Value)} {oc10 kV10 dc10 pm10 cd10 ct10 : Value}
    (a10 : PySem.W.nsIn K mainGlobals d10.nm = some (some (.ref f10))) (l10 : K.lookup f10 = some ⟨oc10, od10, .func (PySem.W.fnOf d10.nm d10.nm (defArgs d10.st) (defBody d10.st) (defScope d10.st) .none kV10 dc10 pm10 an10 cd10 ct10), sl10⟩) (c10 : PySem.W.codeIn K cd10 d10.nm = true) (k10 : PySem.W.keepIn K (.ref f10) = true)
    {f11 : Addr} {od11 an11 : Option Addr} {sl11 : Array (Option Value)} {oc11 kV11 dc11 pm11 cd11 ct11 : Value}
    (a11 : PySem.W.nsIn K mainGlobals d11.nm = some (some (.ref f11))) (l11 : K.lookup f11 = some ⟨oc11, od11, .func (PySem.W.fnOf d11.nm d11.nm (defArgs d11.st) (defBody d11.st) (defScope d11.st) .none kV11 dc11 pm11 an11 cd11 ct11), sl11⟩) (c11 : PySem.W.codeIn K cd11 d11.nm = true) (k11 : PySem.W.keepIn K (.ref f11) = true)
    {f13 : Addr} {od13 an13 : Option Addr} {sl13 : Array (Option Value)} {oc13 kV13 dc13 pm13 cd13 ct13 : Value}
    (a13 : PySem.W.nsIn K mainGlobals d13.nm = some (some (.ref f13))) (l13 : K.lookup f13 = some ⟨oc13, od13, .func (PySem.W.fnOf d13.nm d13.nm (defArgs d13.st) (defBody d13.st) (defScope d13.st) .none kV13 dc13 pm13 an13 cd13 ct13), sl13⟩) (c13 : PySem.W.codeIn K cd13 d13.nm = true) (k13 : PySem.W.keepIn K (.ref f13) = true)
    {f135 : Addr} {od135 an135 : Option Addr} {sl135 : Array (Option Value)} {oc135 kV135 dc135 pm135 cd135 ct135 : Value}
    (a135 : PySem.W.nsIn K mainGlobals d135.nm = some (some (.ref f135))) (l135 : K.lookup f135 = some ⟨oc135, od135, .func (PySem.W.fnOf d135.nm d135.nm (defArgs d135.st) (defBody d135.st) (defScope d135.st) .none kV135 dc135 pm135 an135 cd135 ct135), sl135⟩) (c135 : PySem.W.codeIn K cd135 d135.nm = true) (k135 : PySem.W.keepIn K (.ref f135) = true)
    {f136 : Addr} {od136 an136 : Option Addr} {sl136 : Array (Option Value)} {oc136 kV136 dc136 pm136 cd136 ct136 : Value}
    (a136 : PySem.W.nsIn K mainGlobals d136.nm = some (some (.ref f136))) (l136 : K.lookup f136 = some ⟨oc136, od136, .func (PySem.W.fnOf d136.nm d136.nm (defArgs d136.st) (defBody d136.st) (defScope d136.st) .none kV136 dc136 pm136 an136 cd136 ct136), sl136⟩) (c136 : PySem.W.codeIn K cd136 d136.nm = true) (k136 : PySem.W.keepIn K (.ref f136) = true)
    {f137 : Addr} {od137 an137 : Option Addr} {sl137 : Array (Option Value)} {oc137 kV137 dc137 pm137 cd137 ct137 : Value}
    (a137 : PySem.W.nsIn K mainGlobals d137.nm = some (some (.ref f137))) (l137 : K.lookup f137 = some ⟨oc137, od137, .func (PySem.W.fnOf d137.nm d137.nm (defArgs d137.st) (defBody d137.st) (defScope d137.st) .none kV137 dc137 pm137 an137 cd137 ct137), sl137⟩) (c137 : PySem.W.codeIn K cd137 d137.nm = true) (k137 : PySem.W.keepIn K (.ref f137) = true)
    {f138 : Addr} {od138 an138 : Option Addr} {sl138 : Array (Option Value)} {oc138 kV138 dc138 pm138 cd138 ct138 : Value}
    (a138 : PySem.W.nsIn K mainGlobals d138.nm = some (some (.ref f138))) (l138 : K.lookup f138 = some ⟨oc138, od138, .func (PySem.W.fnOf d138.nm d138.nm (defArgs d138.st) (defBody d138.st) (defScope d138.st) .none kV138 dc138 pm138 an138 cd138 ct138), sl138⟩) (c138 : PySem.W.codeIn K cd138 d138.nm = true) (k138 : PySem.W.keepIn K (.ref f138) = true)
    {f183 : Addr} {od183 an183 : Option Addr} {sl183 : Array (Option Value)} {oc183 kV183 dc183 pm183 cd183 ct183 : Value}
    (a183 : PySem.W.nsIn K mainGlobals d183.nm = some (some (.ref f183))) (l183 : K.lookup f183 = some ⟨oc183, od183, .func (PySem.W.fnOf d183.nm d183.nm (defArgs d183.st) (defBody d183.st) (defScope d183.st) .none kV183 dc183 pm183 an183 cd183 ct183), sl183⟩) (c183 : PySem.W.codeIn K cd183 d183.nm = true) (k183 : PySem.W.keepIn K (.ref f183) = true)
    (z0 : PySem.W.nsIn K mainGlobals "abs" = some none)
    (z1 : PySem.W.nsIn K mainGlobals "all" = some none)
    (z2 : PySem.W.nsIn K mainGlobals "bool" = some none)
    (z3 : PySem.W.nsIn K mainGlobals "dict" = some none)
    (z4 : PySem.W.nsIn K mainGlobals "enumerate" = some none)
    (z5 : PySem.W.nsIn K mainGlobals "int" = some none)
    (z6 : PySem.W.nsIn K mainGlobals "isinstance" = some none)
    (z7 : PySem.W.nsIn K mainGlobals "len" = some none)
    (z8 : PySem.W.nsIn K mainGlobals "list" = some none)
    (z9 : PySem.W.nsIn K mainGlobals "min" = some none)
    (z10 : PySem.W.nsIn K mainGlobals "range" = some none)
    (z11 : PySem.W.nsIn K mainGlobals "repr" = some none)
    (z12 : PySem.W.nsIn K mainGlobals "set" = some none)
    (z13 : PySem.W.nsIn K mainGlobals "str" = some none)
    (z14 : PySem.W.nsIn K mainGlobals "tuple" = some none)
    (z15 : PySem.W.nsIn K mainGlobals "zip" = some none)
    {tk0 : Tok} (g0 : PySem.W.nsIn K mainGlobals "FIGURES" = some (some (.str "0123456789" tk0)))
    {tk1 : Tok} (g1 : PySem.W.nsIn K mainGlobals "LETTERS" = some (some (.str "abcdefghijklmnopqrstuvwxyz" tk1)))
    {tk2 : Tok} (g2 : PySem.W.nsIn K mainGlobals "MOST_FIGURES" = some (some (.int 3 tk2)))
    {tk3 : Tok} (g3 : PySem.W.nsIn K mainGlobals "MOST_LETTERS" = some (some (.int 8 tk3)))
    : ∃ fd : FuncData, (∀ (s : Shared) (u : Value), BindsTo s fd ⟨[u], []⟩ [("_law_script", u)]) ∧ ∀ base : Heap, FnG P w K mg base 230 fa fd ["_law_script"] (spEv (W := ⟨P, w⟩) K T 230 183) :=
  law_end X G defs bnames globs checked (List.forall_mem_cons.mpr ⟨⟨_, g0, ⟨_, rfl⟩⟩, List.forall_mem_cons.mpr ⟨⟨_, g1, ⟨_, rfl⟩⟩, List.forall_mem_cons.mpr ⟨⟨_, g2, ⟨_, rfl⟩⟩, List.forall_mem_cons.mpr ⟨⟨_, g3, ⟨_, rfl⟩⟩, fun _ m => by cases m⟩⟩⟩⟩)
    (List.forall_mem_cons.mpr ⟨known_of X G a53 l53 c53 k53 (fun _ _ _ _ _ _ us hl => match us, hl with | [_], _ => rfl), List.forall_mem_cons.mpr ⟨known_of X G a54 l54 c54 k54 (fun _ _ _ _ _ _ us hl => match us, hl with | [_], _ => rfl), List.forall_mem_cons.mpr ⟨known_of X G a83 l83 c83 k83 (fun _ _ _ _ _ _ us hl => match us, hl with | [_], _ => rfl), List.forall_mem_cons.mpr ⟨known_of X G a84 l84 c84 k84 (fun _ _ _ _ _ _ us hl => match us, hl with | [_], _ => rfl), List.forall_mem_cons.mpr ⟨known_of X G a85 l85 c85 k85 (fun _ _ _ _ _ _ us hl => match us, hl with | [_], _ => rfl), List.forall_mem_cons.mpr ⟨known_of X G a16 l16 c16 k16 (fun _ _ _ _ _ _ us hl => match us, hl with | [_], _ => rfl), List.forall_mem_cons.mpr ⟨known_of X G a270 l270 c270 k270 (fun _ _ _ _ _ _ us hl => match us, hl with | [_], _ => rfl), List.forall_mem_cons.mpr ⟨known_of X G a106 l106 c106 k106 (fun _ _ _ _ _ _ us hl => match us, hl with | [_, _], _ => rfl), List.forall_mem_cons.mpr ⟨known_of X G a274 l274 c274 k274 (fun _ _ _ _ _ _ us hl => match us, hl with | [_, _, _], _ => rfl), List.forall_mem_cons.mpr ⟨known_of X G a275 l275 c275 k275 (fun _ _ _ _ _ _ us hl => match us, hl with | [_, _], _ => rfl), List.forall_mem_cons.mpr ⟨known_of X G a276 l276 c276 k276 (fun _ _ _ _ _ _ us hl => match us, hl with | [_, _], _ => rfl), List.forall_mem_cons.mpr ⟨known_of X G a181 l181 c181 k181 (fun _ _ _ _ _ _ us hl => match us, hl with | [_, _, _], _ => rfl), List.forall_mem_cons.mpr ⟨known_of X G a280 l280 c280 k280 (fun _ _ _ _ _ _ us hl => match us, hl with | [_, _], _ => rfl), List.forall_mem_cons.mpr ⟨known_of X G a2 l2 c2 k2 (fun _ _ _ _ _ _ us hl => match us, hl with | [_, _], _ => rfl), List.forall_mem_cons.mpr ⟨known_of X G a3 l3 c3 k3 (fun _ _ _ _ _ _ us hl => match us, hl with | [_, _], _ => rfl), List.forall_mem_cons.mpr ⟨known_of X G a4 l4 c4 k4 (fun _ _ _ _ _ _ us hl => match us, hl with | [_, _], _ => rfl), List.forall_mem_cons.mpr ⟨known_of X G a5 l5 c5 k5 (fun _ _ _ _ _ _ us hl => match us, hl with | [_, _], _ => rfl), List.forall_mem_cons.mpr ⟨known_of X G a6 l6 c6 k6 (fun _ _ _ _ _ _ us hl => match us, hl with | [_, _], _ => rfl), List.forall_mem_cons.mpr ⟨known_of X G a80 l80 c80 k80 (fun _ _ _ _ _ _ us hl => match us, hl with | [_, _, _, _], _ => rfl), List.forall_mem_cons.mpr ⟨known_of X G a81 l81 c81 k81 (fun _ _ _ _ _ _ us hl => match us, hl with | [_, _], _ => rfl), List.forall_mem_cons.mpr ⟨known_of X G a7 l7 c7 k7 (fun _ _ _ _ _ _ us hl => match us, hl with | [_], _ => rfl), List.forall_mem_cons.mpr ⟨known_of X G a8 l8 c8 k8 (fun _ _ _ _ _ _ us hl => match us, hl with | [_, _, _, _, _], _ => rfl), List.forall_mem_cons.mpr ⟨known_of X G a9 l9 c9 k9 (fun _ _ _ _ _ _ us hl => match us, hl with | [_, _, _], _ => rfl), List.forall_mem_cons.mpr ⟨known_of X G a10 l10 c10 k10 (fun _ _ _ _ _ _ us hl => match us, hl with | [_, _, _], _ => rfl), List.forall_mem_cons.mpr ⟨known_of X G a11 l11 c11 k11 (fun _ _ _ _ _ _ us hl => match us, hl with | [_], _ => rfl), List.forall_mem_cons.mpr ⟨known_of X G a13 l13 c13 k13 (fun _ _ _ _ _ _ us hl => match us, hl with | [_, _], _ => rfl), List.forall_mem_cons.mpr ⟨known_of X G a135 l135 c135 k135 (fun _ _ _ _ _ _ us hl => match us, hl with | [_, _, _], _ => rfl), List.forall_mem_cons.mpr ⟨known_of X G a136 l136 c136 k136 (fun _ _ _ _ _ _ us hl => match us, hl with | [_], _ => rfl), List.forall_mem_cons.mpr ⟨known_of X G a137 l137 c137 k137 (fun _ _ _ _ _ _ us hl => match us, hl with | [_, _], _ => rfl), List.forall_mem_cons.mpr ⟨known_of X G a138 l138 c138 k138 (fun _ _ _ _ _ _ us hl => match us, hl with | [_, _, _], _ => rfl), List.forall_mem_cons.mpr ⟨known_of X G a183 l183 c183 k183 (fun _ _ _ _ _ _ us hl => match us, hl with | [_], _ => rfl), fun _ m => by cases m⟩⟩⟩⟩⟩⟩⟩⟩⟩⟩⟩⟩⟩⟩⟩⟩⟩⟩⟩⟩⟩⟩⟩⟩⟩⟩⟩⟩⟩⟩⟩)
    (List.forall_mem_cons.mpr ⟨z0, List.forall_mem_cons.mpr ⟨z1, List.forall_mem_cons.mpr ⟨z2, List.forall_mem_cons.mpr ⟨z3, List.forall_mem_cons.mpr ⟨z4, List.forall_mem_cons.mpr ⟨z5, List.forall_mem_cons.mpr ⟨z6, List.forall_mem_cons.mpr ⟨z7, List.forall_mem_cons.mpr ⟨z8, List.forall_mem_cons.mpr ⟨z9, List.forall_mem_cons.mpr ⟨z10, List.forall_mem_cons.mpr ⟨z11, List.forall_mem_cons.mpr ⟨z12, List.forall_mem_cons.mpr ⟨z13, List.forall_mem_cons.mpr ⟨z14, List.forall_mem_cons.mpr ⟨z15, fun _ m => by cases m⟩⟩⟩⟩⟩⟩⟩⟩⟩⟩⟩⟩⟩⟩⟩⟩) (d := d183) rfl hfa rfl
end K13
open PySem PySem.W PyProof.Rows in
set_option maxRecDepth 100000 in
set_option maxHeartbeats 0 in
theorem PySem.Challenge.cw_nameholes_k13_lets_put_holds : PySem.Challenge.rw_nameholes_k13_lets_put.Holds := by
  w_on; o_law; k_head; (case hw => w_witness2)
  k_fill
  refine NH.walk (l := PySem.Challenge.rw_nameholes_k13_lets_put) (T := K13.T) (k := 230) (f := 183) (x := "_law_script") rfl rfl ⟨rfl, by decide, by decide⟩ (fun w h Y => PySem.W.kIn_of Y) K13.plain ?F
  case F =>
    intro w mg fa h KX G hmg
    refine' K13.all_mk KX G hmg ?a53 ?l53 ?c53 ?k53 ?a54 ?l54 ?c54 ?k54 ?a83 ?l83 ?c83 ?k83 ?a84 ?l84 ?c84 ?k84 ?a85 ?l85 ?c85 ?k85 ?a16 ?l16 ?c16 ?k16 ?a270 ?l270 ?c270 ?k270 ?a106 ?l106 ?c106 ?k106 ?a274 ?l274 ?c274 ?k274 ?a275 ?l275 ?c275 ?k275 ?a276 ?l276 ?c276 ?k276 ?a181 ?l181 ?c181 ?k181 ?a280 ?l280 ?c280 ?k280 ?a2 ?l2 ?c2 ?k2 ?a3 ?l3 ?c3 ?k3 ?a4 ?l4 ?c4 ?k4 ?a5 ?l5 ?c5 ?k5 ?a6 ?l6 ?c6 ?k6 ?a80 ?l80 ?c80 ?k80 ?a81 ?l81 ?c81 ?k81 ?a7 ?l7 ?c7 ?k7 ?a8 ?l8 ?c8 ?k8 ?a9 ?l9 ?c9 ?k9 ?a10 ?l10 ?c10 ?k10 ?a11 ?l11 ?c11 ?k11 ?a13 ?l13 ?c13 ?k13 ?a135 ?l135 ?c135 ?k135 ?a136 ?l136 ?c136 ?k136 ?a137 ?l137 ?c137 ?k137 ?a138 ?l138 ?c138 ?k138 ?a183 ?l183 ?c183 ?k183 ?z0 ?z1 ?z2 ?z3 ?z4 ?z5 ?z6 ?z7 ?z8 ?z9 ?z10 ?z11 ?z12 ?z13 ?z14 ?z15 ?gG0 ?gG1 ?gG2 ?gG3
    (case a53 => k_is); (case l53 => k_is); (case c53 => k_is); (case k53 => k_is)
    (case a54 => k_is); (case l54 => k_is); (case c54 => k_is); (case k54 => k_is)
    (case a83 => k_is); (case l83 => k_is); (case c83 => k_is); (case k83 => k_is)
    (case a84 => k_is); (case l84 => k_is); (case c84 => k_is); (case k84 => k_is)
    (case a85 => k_is); (case l85 => k_is); (case c85 => k_is); (case k85 => k_is)
    (case a16 => k_is); (case l16 => k_is); (case c16 => k_is); (case k16 => k_is)
    (case a270 => k_is); (case l270 => k_is); (case c270 => k_is); (case k270 => k_is)
    (case a106 => k_is); (case l106 => k_is); (case c106 => k_is); (case k106 => k_is)
    (case a274 => k_is); (case l274 => k_is); (case c274 => k_is); (case k274 => k_is)
    (case a275 => k_is); (case l275 => k_is); (case c275 => k_is); (case k275 => k_is)
    (case a276 => k_is); (case l276 => k_is); (case c276 => k_is); (case k276 => k_is)
    (case a181 => k_is); (case l181 => k_is); (case c181 => k_is); (case k181 => k_is)
    (case a280 => k_is); (case l280 => k_is); (case c280 => k_is); (case k280 => k_is)
    (case a2 => k_is); (case l2 => k_is); (case c2 => k_is); (case k2 => k_is)
    (case a3 => k_is); (case l3 => k_is); (case c3 => k_is); (case k3 => k_is)
    (case a4 => k_is); (case l4 => k_is); (case c4 => k_is); (case k4 => k_is)
    (case a5 => k_is); (case l5 => k_is); (case c5 => k_is); (case k5 => k_is)
    (case a6 => k_is); (case l6 => k_is); (case c6 => k_is); (case k6 => k_is)
    (case a80 => k_is); (case l80 => k_is); (case c80 => k_is); (case k80 => k_is)
    (case a81 => k_is); (case l81 => k_is); (case c81 => k_is); (case k81 => k_is)
    (case a7 => k_is); (case l7 => k_is); (case c7 => k_is); (case k7 => k_is)
    (case a8 => k_is); (case l8 => k_is); (case c8 => k_is); (case k8 => k_is)
    (case a9 => k_is); (case l9 => k_is); (case c9 => k_is); (case k9 => k_is)
    (case a10 => k_is); (case l10 => k_is); (case c10 => k_is); (case k10 => k_is)
    (case a11 => k_is); (case l11 => k_is); (case c11 => k_is); (case k11 => k_is)
    (case a13 => k_is); (case l13 => k_is); (case c13 => k_is); (case k13 => k_is)
    (case a135 => k_is); (case l135 => k_is); (case c135 => k_is); (case k135 => k_is)
    (case a136 => k_is); (case l136 => k_is); (case c136 => k_is); (case k136 => k_is)
    (case a137 => k_is); (case l137 => k_is); (case c137 => k_is); (case k137 => k_is)
    (case a138 => k_is); (case l138 => k_is); (case c138 => k_is); (case k138 => k_is)
    (case a183 => k_is); (case l183 => k_is); (case c183 => k_is); (case k183 => k_is)
    (case z0 => k_is); (case z1 => k_is); (case z2 => k_is); (case z3 => k_is); (case z4 => k_is); (case z5 => k_is); (case z6 => k_is); (case z7 => k_is); (case z8 => k_is); (case z9 => k_is); (case z10 => k_is); (case z11 => k_is); (case z12 => k_is); (case z13 => k_is); (case z14 => k_is); (case z15 => k_is); (case gG0 => k_is); (case gG1 => k_is); (case gG2 => k_is); (case gG3 => k_is)
