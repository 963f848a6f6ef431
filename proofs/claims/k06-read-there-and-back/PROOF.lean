import PyProof.Rows.All
import Wide.All
import OpenK.AllK
import Wide.FinOn
import HandS.ForMost
import HandS.ForExc
import HandS.Deep
import HandS.TupLe
import HandS.TupAny
import HandS.IsInst
import HandS.Zip
import HandS.TupLen
import HandS.WordsDict
import HandS.Rev
import HandS.SortInts
import HandS.SortRule
import PyProof.Rows.SortKeyStr
import KE.KSortTupAny
import HandS.SetFor
import PyProof.Rows.SortShellAny
import HandS.More
import HandS.Conv
import HandS.Small
import HandS.HotCalls
import HandS.DictSubView
import HandS.DictTup
import HandS.ExcIs
import KE.KIsAll
import PySem.Challenge.RW_clashbook_k06_read_there_and_back
set_option Elab.async false
set_option linter.all false
set_option maxRecDepth 100000
namespace PV
abbrev Tx := List Nat
abbrev SZ : Nat := 16777216
inductive D where
  | non | bl (b : Bool) | int (i : Int) | str (s : Tx)
  | tup (xs : List D) | lst (xs : List D) | dic (kvs : List (D × D))
  deriving Inhabited
inductive O where
  | val (d : D) | lst (xs : List D) | dic (t : Bool) (kvs : List (D × D)) | tr (xs : List O) | tp (xs : List O) | ins (c : Nat) (fs : List O)
  deriving Inhabited
def O.toD : O → Option D
  | .val d => some d
  | .lst xs => some (.lst xs)
  | .dic false kvs => some (.dic kvs)
  | _ => none
def O.toL : O → Option D
  | .val d => some d
  | .lst xs => some (.lst xs)
  | _ => none
abbrev Sg := List (Option O)
mutual
def D.eq : D → D → Bool
  | .non, .non => true
  | .bl a, .bl b => a == b
  | .bl a, .int j => (if a then 1 else 0) == j
  | .int i, .bl b => i == (if b then 1 else 0)
  | .int i, .int j => i == j
  | .str x, .str y => x == y
  | .lst xs, .lst ys => D.eqs xs ys
  | .tup xs, .tup ys => D.eqs xs ys
  | _, _ => false
def D.eqs : List D → List D → Bool
  | [], [] => true
  | x :: xs, y :: ys => D.eq x y && D.eqs xs ys
  | _, _ => false
end
mutual
def D.lay : D → Bool
  | .str x => x.all (· < 1114112)
  | .tup xs => D.lays xs
  | .lst xs => D.lays xs
  | .dic _ => false
  | _ => true
def D.lays : List D → Bool
  | [] => true
  | x :: xs => D.lay x && D.lays xs
end
mutual
def D.dep : D → Nat
  | .tup xs => D.deps xs + 1
  | .lst xs => D.deps xs + 1
  | _ => 0
def D.deps : List D → Nat
  | [] => 0
  | x :: xs => max (D.dep x) (D.deps xs)
end
def D.scal : D → Bool
  | .non | .bl _ | .int _ | .str _ => true
  | _ => false
def D.shp (d : D) : Bool := d.lay && decide (d.dep ≤ 64)
def isKey1 : D → Bool
  | .int _ => true
  | .str _ => true
  | _ => false
def isKey : Bool → D → Bool
  | false, k => isKey1 k
  | true, .tup ks => ks.all isKey1
  | _, _ => false
def lookD (kvs : List (D × D)) (k : D) : Option D := (kvs.find? fun p => D.eq p.1 k).map (·.2)
def hasD (kvs : List (D × D)) (k : D) : Bool := kvs.any fun p => D.eq p.1 k
def putD (kvs : List (D × D)) (k v : D) : List (D × D) := if hasD kvs k = true then kvs.map (fun p => if D.eq p.1 k = true then (p.1, v) else p) else kvs ++ [(k, v)]
inductive R (α : Type) where
  | ok (a : α) (σ : Sg) | exc (c : Nat) (σ : Sg) | bad
def R.bind {α β : Type} (r : R α) (f : α → Sg → R β) : R β := match r with
  | .ok a σ => f a σ
  | .exc c σ => .exc c σ
  | .bad => .bad
inductive Fl where
  | nx | ret (o : O)
inductive FR where
  | ok (r : O) (io : List O) | exc (c : Nat) (io : List O) | bad
abbrev Fn := Nat → List O → FR
abbrev at? {α : Type} (xs : List α) (i : Int) : Option α := L2.atI xs i
abbrev ixN := L2.ixN
def cut {α : Type} (xs : List α) (lo hi : Option Int) : List α := (xs.drop (HT.sIx xs.length 0 lo)).take (HT.sIx xs.length xs.length hi - HT.sIx xs.length 0 lo)
inductive Bn | add | sub | mul | mod | div | pow | xor
inductive Cp | eq | ne | lt | le | gt | ge | is | nis | isin | nin
inductive Bf | len | list | tuple | sorted | int | str | min | max | sum | any | all
inductive Ty | bool | int | str | list | tuple
inductive Mt | join | index | split | part
def binD : Bn → D → D → Option O
  | .add, .int i, .int j => some (.val (.int (i + j)))
  | .add, .str x, .str y => if x.length + y.length ≤ SZ then some (.val (.str (x ++ y))) else none
  | .add, .lst x, .lst y => if x.length + y.length ≤ SZ then some (.lst (x ++ y)) else none
  | .add, .tup x, .tup y => if x.length + y.length ≤ SZ then some (.val (.tup (x ++ y))) else none
  | .sub, .int i, .int j => some (.val (.int (i - j)))
  | .mul, .int i, .int j => if i.natAbs < 2 ^ 64 ∨ j.natAbs < 2 ^ 64 then some (.val (.int (i * j))) else none
  | .mod, .int i, .int j => if 0 < j then some (.val (.int (i % j))) else none
  | .div, .int i, .int j => if 0 < j ∧ j.natAbs < 1073741824 then some (.val (.int (i / j))) else none
  | .pow, .int i, .int j => if 0 ≤ j ∧ j.natAbs ≤ 1000000 ∧ i.natAbs < 2 ^ 64 then some (.val (.int (i ^ j.toNat))) else none
  | .xor, .int i, .int j => some (.val (.int (PySem.Builtin.bitXor i j)))
  | _, _, _ => none
def eqD (a b : D) : Option Bool := if (a.scal && b.scal) || (a.shp && b.shp) then some (D.eq a b) else none
def inD0 (a : D) : D → Option Bool
  | .lst xs => if a.shp && D.shp (.lst xs) then some (xs.any fun z => D.eq z a) else none
  | .tup xs => if a.shp && D.shp (.tup xs) then some (xs.any fun z => D.eq z a) else none
  | .str y => match a with
    | .str [c] => some (decide (c ∈ y))
    | _ => none
  | _ => none
def inD (a : D) : D → Option Bool
  | .dic kvs => if isKey1 a = true then some (hasD kvs a) else none
  | y => inD0 a y
def intsD : List D → Option (List Int)
  | [] => some []
  | .int i :: r => (intsD r).map (i :: ·)
  | _ => none
def cmpD : Cp → D → D → Option Bool
  | .eq, a, b => eqD a b
  | .ne, a, b => (eqD a b).map (!·)
  | .lt, .int i, .int j => some (decide (i < j))
  | .le, .int i, .int j => some (decide (i ≤ j))
  | .gt, .int i, .int j => some (decide (j < i))
  | .ge, .int i, .int j => some (decide (j ≤ i))
  | .lt, .str i, .str j => some (decide (i < j))
  | .lt, .tup xs, .tup ys => match intsD xs, intsD ys with
    | some a, some b => some (HT.lexLt a b)
    | _, _ => none
  | .ge, .tup xs, .tup ys => match intsD xs, intsD ys with
    | some a, some b => some (!HT.lexLt a b)
    | _, _ => none
  | .le, .tup xs, .tup ys => match intsD xs, intsD ys with
    | some a, some b => some (!HT.lexLt b a)
    | _, _ => none
  | .gt, .str i, .str j => some (decide (j < i))
  | .ge, .str i, .str j => some (!decide (i < j))
  | .le, .str i, .str j => some (!decide (j < i))
  | .is, a, .non => some (match a with | .non => true | _ => false)
  | .nis, a, .non => some (match a with | .non => false | _ => true)
  | .isin, a, b => inD a b
  | .nin, a, b => (inD a b).map (!·)
  | _, _, _ => none
def ixD0 : D → D → Option D
  | .lst xs, .int i => at? xs i
  | .tup xs, .int i => at? xs i
  | .str x, .int i => if x.length ≤ SZ then (at? x i).map fun c => .str [c] else none
  | _, _ => none
def ixD : D → D → Option D
  | .dic kvs, k => if isKey1 k = true then lookD kvs k else none
  | x, k => ixD0 x k
def slD (a : D) (lo hi : Option Int) : Option O := match a with
  | .lst xs => some (.lst (cut xs lo hi))
  | .str x => if x.length ≤ SZ then some (.val (.str (cut x lo hi))) else none
  | .tup xs => some (.val (.tup (cut xs lo hi)))
  | _ => none
def lenD : D → Option Nat
  | .lst xs => some xs.length
  | .tup xs => some xs.length
  | .str x => if x.length ≤ SZ then some x.length else none
  | _ => none
def boolsD : List D → Option (List Bool)
  | [] => some []
  | .bl i :: r => (boolsD r).map (i :: ·)
  | _ => none
def txsD : List D → Option (List Tx)
  | [] => some []
  | .str i :: r => (txsD r).map (i :: ·)
  | _ => none
def maxI : List Int → Int
  | [] => 0
  | [x] => x
  | x :: r => max x (maxI r)
def minI : List Int → Int
  | [] => 0
  | [x] => x
  | x :: r => min x (minI r)
def isTy : Ty → D → Bool
  | .bool, .bl _ => true
  | .int, .bl _ => true
  | .int, .int _ => true
  | .str, .str _ => true
  | .list, .lst _ => true
  | .tuple, .tup _ => true
  | _, _ => false
def dTy : D → Option String
  | .non => some "NoneType" | .bl _ => some "bool" | .int _ => some "int" | .str _ => some "str" | .tup _ => some "tuple" | .lst _ => some "list" | .dic _ => none
def srtI (ns : List Int) : List Int := ns.mergeSort fun a b => decide (a ≤ b)
def keysD : List (D × D) → Option (List Int)
  | [] => some []
  | (.int i, _) :: r => (keysD r).map (i :: ·)
  | _ => none
def dedI (ns : List Int) : List Int := ns.foldr (fun n r => if r.contains n = true then r else n :: r) []
def rangeL (n : Nat) : List D := (List.range n).map fun k => D.int (k : Nat)
def prD (p : Int × Int) : D := .tup [.int p.1, .int p.2]
def prsD : List D → Option (List (Int × Int))
  | [] => some []
  | .tup [.int a, .int b] :: r => (prsD r).map ((a, b) :: ·)
  | _ => none
def leP (p q : Int × Int) : Bool := decide (p.1 < q.1) || (decide (p.1 = q.1) && decide (p.2 ≤ q.2))
def srtP (ps : List (Int × Int)) : List (Int × Int) := ps.mergeSort leP
def txD (p : Tx × D) : D := .tup [.str p.1, p.2]
def txsP : List D → Option (List (Tx × D))
  | [] => some []
  | .tup [.str s, d] :: r => (txsP r).map ((s, d) :: ·)
  | _ => none
def leT (p q : Tx × D) : Bool := decide (p.1 ≤ q.1)
def srtT (ps : List (Tx × D)) : List (Tx × D) := ps.mergeSort leT
def txtsD : List D → Option (List Tx)
  | [] => some []
  | .str s :: r => (txtsD r).map (s :: ·)
  | _ => none
def srtX (ts : List Tx) : List Tx := ts.mergeSort fun a b => decide (a ≤ b)
def dedX (ts : List Tx) : List Tx := ts.foldr (fun n r => if r.contains n = true then r else n :: r) []
def sortSetD : D → Option O
  | .lst xs => match intsD xs with
    | some ns => if ns.length < 64 then some (.lst ((srtI (dedI ns)).map .int)) else none
    | none => match txtsD xs with
      | some ts => if ts.length ≤ 4000 then some (.lst ((srtX (dedX ts)).map .str)) else none
      | none => none
  | _ => none
def keysX : List (D × D) → Option (List Tx)
  | [] => some []
  | (.str s, _) :: r => (keysX r).map (s :: ·)
  | _ => none
def srtD (xs : List D) : Option O := match intsD xs with
  | some ns => some (.lst ((srtI ns).map .int))
  | none => match prsD xs with
    | some ps => some (.lst ((srtP ps).map prD))
    | none => match txsP xs with
      | some ps => if (ps.map (·.1)).Nodup then some (.lst ((srtT ps).map txD)) else none
      | none => match txtsD xs with
        | some ts => if ts.length < 64 then some (.lst ((srtX ts).map .str)) else none
        | none => none
def lrngD : D → Option O
  | .int n => if n.natAbs ≤ 16777216 then some (.lst (rangeL n.toNat)) else none
  | _ => none
def bfD : Bf → List D → Option O
  | .sorted, [.lst xs] => srtD xs
  | .len, [a] => (lenD a).map fun n => .val (.int n)
  | .list, [.lst xs] => some (.lst xs)
  | .list, [.tup xs] => some (.lst xs)
  | .tuple, [.lst xs] => some (.val (.tup xs))
  | .tuple, [.tup xs] => some (.val (.tup xs))
  | .int, [.int i] => some (.val (.int i))
  | .int, [.bl b] => some (.val (.int (if b then 1 else 0)))
  | .max, [.int i, .int j] => some (.val (.int (if j > i then j else i)))
  | .min, [.int i, .int j] => some (.val (.int (if j < i then j else i)))
  | .max, [.lst xs] => match intsD xs with
    | some ns => if ns.isEmpty then none else some (.val (.int (maxI ns)))
    | none => none
  | .min, [.lst xs] => match intsD xs with
    | some ns => if ns.isEmpty then none else some (.val (.int (minI ns)))
    | none => none
  | .sum, [.lst xs] => (intsD xs).map fun ns => .val (.int ns.sum)
  | .any, [.lst xs] => (boolsD xs).map fun ns => .val (.bl (ns.any id))
  | .all, [.lst xs] => (boolsD xs).map fun ns => .val (.bl (ns.all id))
  | _, _ => none
inductive Ex where
  | c (d : D)
  | var (i : Nat)
  | frz (i : Nat)
  | bor (i : Nat)
  | glb (x : Tx) (d : D)
  | bin (op : Bn) (a b : Ex)
  | cmp (op : Cp) (a b : Ex)
  | chain (op op' : Cp) (a b c : Ex)
  | chain3 (op op' op2 : Cp) (a b c d : Ex)
  | not (a : Ex)
  | neg (a : Ex)
  | and (es : List Ex)
  | or (es : List Ex)
  | tup (es : List Ex)
  | lst (es : List Ex)
  | ix (a b : Ex)
  | sl (a lo hi : Ex)
  | no
  | call (g : Nat) (es : List Ex)
  | bf (b : Bf) (es : List Ex)
  | isi (a : Ex) (t : Ty)
  | mt (m : Mt) (a : Ex) (es : List Ex)
  | pop (i : Nat)
  | comp (elt : Ex) (tg : List Nat) (one : Bool) (it cond : Ex)
  | seq (a : Ex)
  | rng (es : List Ex)
  | enum (a : Ex)
  | zip (a b : Ex)
  | rev (a : Ex)
  | fz (a : Ex)
  | own (i : Nat)
  | callO (g : Nat) (es : List Ex)
  | dnew (t : Bool)
  | dget (i : Nat) (k : Ex)
  | din (i : Nat) (k : Ex)
  | dnin (i : Nat) (k : Ex)
  | dix (kvs : List (Tx × Tx)) (k : Ex)
  | dsk (i : Nat)
  | mv (i : Nat)
  | frzT (i : Nat)
  | lnP (i : Nat) (ks : List Ex)
  | trev (a : Ex)
  | compH (k : Nat) (elt : Ex) (tg : List Nat) (one : Bool) (cond : Ex)
  | skey (i : Nat)
  | lvals (i : Nat)
  | sset (a : Ex)
  | dnew1 (i : Nat) (b : Bool)
  | fld (c f : Nat)
  | ixP (i : Nat) (ks : List Ex) (k : Ex)
  | dgetP (i : Nat) (ks : List Ex) (k : Ex)
  | dinP (i : Nat) (ks : List Ex) (k : Ex)
  | dninP (i : Nat) (ks : List Ex) (k : Ex)
  | lstP (i : Nat) (ks : List Ex)
  | mvF (i c f : Nat)
  | mk (c g : Nat) (es : List Ex)
  | callM (c g : Nat) (es : List Ex)
  | rep (a n : Ex)
  | compO (elt : Ex) (tg : List Nat) (one : Bool) (it : Ex)
  | lrng (a : Ex)
  | lrev (a : Ex)
  deriving Inhabited
inductive SuE where
  | isx (ks : List Nat) | isxs (kss : List (List Nat)) | bl (b : Bool) | var (j : Nat) | not (e : SuE) | and (es : List SuE)
inductive SuS where
  | set (j : Nat) (e : SuE) | lst (j : Nat) (es : List SuE) | add (j : Nat) (es : List SuE) | str (j : Nat) (s : Tx)
def SuS.slot : SuS → Nat
  | .set j _ => j
  | .lst j _ => j
  | .add j _ => j
  | .str j _ => j
inductive Sm where
  | set (i : Nat) (e : Ex)
  | unp (is : List Nat) (e : Ex)
  | app (i : Nat) (e : Ex)
  | setIx (i : Nat) (k v : Ex)
  | ex (e : Ex)
  | ret (e : Ex)
  | iff (t : Ex) (a b : List Sm)
  | for_ (tg : List Nat) (one : Bool) (it : Ex) (body : List Sm)
  | wh (t : Ex) (body : List Sm)
  | raise (c : Nat)
  | never
  | pass
  | dset (i : Nat) (k v : Ex)
  | ins (i : Nat) (k v : Ex)
  | appP (i : Nat) (ks : List Ex) (e : Ex)
  | appN (i : Nat) (e : Ex)
  | appT (i : Nat) (a b : Ex)
  | setP (i : Nat) (ks : List Ex) (k v : Ex)
  | dsetP (i : Nat) (ks : List Ex) (k v : Ex)
  | setF (i c f : Nat) (e : Ex)
  | try_ (i : Nat) (hs : List Nat) (body : List Sm) (su : List SuS)
  deriving Inhabited
def Ex.bo : Ex → Option Nat
  | .bor i => some i
  | .own i => some i
  | _ => none
def getO (σ : Sg) (i : Nat) : Option O := (σ[i]?).bind id
def lift {α : Type} (σ : Sg) : Option α → R α
  | some a => .ok a σ
  | none => .bad
def pre (b : Option Nat) (r : R O) (σ : Sg) : R (Option D) := match b with
  | some i => match getO σ i with
    | some _ => .ok none σ
    | none => .bad
  | none => r.bind fun o σ' => match o.toD with
    | some d => .ok (some d) σ'
    | none => .bad
def fin (b : Option Nat) (d : Option D) (σ : Sg) : Option D := match b with
  | some i => (getO σ i).bind O.toD
  | none => d
def op2 {α : Type} (f : D → D → Option α) (ba bb : Option Nat) (fa fb : Sg → R O) (σ : Sg) : R α :=
  (pre ba (fa σ) σ).bind fun da σ1 => (pre bb (fb σ1) σ1).bind fun db σ2 => match fin ba da σ2, fin bb db σ2 with
    | some a, some b => lift σ2 (f a b)
    | _, _ => .bad
def op1 {α : Type} (f : D → Option α) (ba : Option Nat) (fa : Sg → R O) (σ : Sg) : R α :=
  (pre ba (fa σ) σ).bind fun da σ1 => match fin ba da σ1 with
    | some a => lift σ1 (f a)
    | _ => .bad
def fins : List (Option Nat) → List (Option D) → Sg → Option (List D)
  | [], [], _ => some []
  | b :: bs, d :: ds, σ => match fin b d σ, fins bs ds σ with
    | some x, some xs => some (x :: xs)
    | _, _ => none
  | _, _, _ => none
def vb (r : R Bool) : R O := r.bind fun b σ => .ok (.val (.bl b)) σ
def tb (r : R O) : R Bool := r.bind fun o σ => match o with
  | .val (.bl b) => .ok b σ
  | _ => .bad
def store (tg : List Nat) (one : Bool) (d : D) (σ : Sg) : Option Sg := match one, tg, d with
  | true, [i], d => some (σ.set i (some (.val d)))
  | false, is, .tup xs => if is.length = xs.length then some ((is.zip xs).foldl (fun σ p => σ.set p.1 (some (.val p.2))) σ) else none
  | _, _, _ => none
def wipes : List Nat → Sg → Sg
  | [], σ => σ
  | v :: vs, σ => (wipes vs σ).set v none
def unwipe : List Nat → Sg → Sg → Option Sg
  | [], _, σ => some σ
  | v :: vs, σ0, σ => match getO σ0 v with
    | none => (unwipe vs σ0 σ).map fun s => s.set v none
    | some (.val d) => (unwipe vs σ0 σ).map fun s => s.set v (some (.val d))
    | _ => none
def compLoop (f : D → Sg → R (Option D)) : List D → Sg → R (List D)
  | [], σ => .ok [] σ
  | x :: xs, σ => (f x σ).bind fun o σ1 => (compLoop f xs σ1).bind fun ys σ2 => .ok (match o with | some y => y :: ys | none => ys) σ2
def noExc {α : Type} : R α → R α
  | .exc _ _ => .bad
  | r => r
def compHD (k : Nat) (tg : List Nat) (f : D → Sg → R (Option D)) (σ : Sg) : R O := match getO σ k with
  | some (.lst xs) => noExc ((compLoop f xs (σ.set k none)).bind fun ys σ2 => match unwipe tg (σ.set k none) (wipes tg σ2) with
    | some σ4 => if ys.length ≤ SZ then (match getO σ4 k with
      | none => .ok (.lst ys) (σ4.set k (some (.lst xs)))
      | some _ => .bad) else .bad
    | none => .bad)
  | _ => .bad
def forLoop (f : D → Sg → R Fl) : List D → Sg → R Fl
  | [], σ => .ok .nx σ
  | x :: xs, σ => (f x σ).bind fun o σ1 => match o with
    | .nx => forLoop f xs σ1
    | .ret v => .ok (.ret v) σ1
def whLoop (t : Sg → R Bool) (f : Sg → R Fl) : Nat → Sg → R Fl
  | 0, _ => .bad
  | n + 1, σ => (t σ).bind fun b σ1 => if b = true then (f σ1).bind fun o σ2 => match o with
    | .nx => whLoop t f n σ2
    | .ret v => .ok (.ret v) σ2
    else .ok .nx σ1
def enumD (k : Nat) : List D → List D
  | [] => []
  | x :: xs => .tup [.int k, x] :: enumD (k + 1) xs
def zipD : List D → List D → List D
  | x :: xs, y :: ys => .tup [x, y] :: zipD xs ys
  | _, _ => []
def rangeD (lo : Int) : Nat → List D
  | 0 => []
  | n + 1 => .int lo :: rangeD (lo + 1) n
def seqD : D → Option (List D)
  | .lst xs => some xs
  | .tup xs => some xs
  | .str x => some (x.map fun c => .str [c])
  | _ => none
def lstOnly (g : List D → List D) : D → Option (List D)
  | .lst xs => some (g xs)
  | _ => none
def zipOnly : D → D → Option (List D)
  | .lst xs, .lst ys => some (zipD xs ys)
  | .tup xs, .lst ys => some (zipD xs ys)
  | _, _ => none
def rangeC (lo c : Int) : Nat → List D
  | 0 => []
  | n + 1 => .int lo :: rangeC (lo + c) c n
def okStep (i j c : Int) : Prop := c ≠ 0 ∧ c.natAbs < 1073741824 ∧ PySem.Builtin.Range.small i j c = true ∧ 0 ≤ PySem.Builtin.Range.rangeSize i j c
noncomputable section
instance (i j c : Int) : Decidable (okStep i j c) := Classical.propDecidable _
def rngD : List D → Option (List D)
  | [.int j] => if j.natAbs < 2 ^ 62 then some (rangeD 0 j.toNat) else none
  | [.int i, .int j] => if i.natAbs < 2 ^ 62 ∧ j.natAbs < 2 ^ 62 then some (rangeD i (j - i).toNat) else none
  | [.int i, .int j, .int c] => if okStep i j c then some (rangeC i c (PySem.Builtin.Range.rangeSize i j c).toNat) else none
  | _ => none
def vals : List O → Option (List D)
  | [] => some []
  | .val d :: r => (vals r).map (d :: ·)
  | _ => none
def mtD : Mt → D → List D → Option O
  | .join, .str s, [.lst xs] => match txsD xs with
    | some ys => if ((ys.map List.length).sum + s.length * ys.length) ≤ SZ then some (.val (.str (TL.joinL s ys))) else none
    | none => none
  | .index, .lst xs, [a] => if a.shp && D.shp (.lst xs) then (xs.findIdx? fun z => D.eq z a).map fun (n : Nat) => O.val (.int (n : Int)) else none
  | .split, .str x, [.str y] => if y.isEmpty = false ∧ y.all (· < 256) = true ∧ x.length + 2 ≤ SZ then some (.lst ((TL.spl y 0 [] x).map .str)) else none
  | .part, .str x, [.str y] => if y.isEmpty = false ∧ x.length ≤ SZ then (match TL.par y [] x with
    | some (a, b) => some (.val (.tup [.str a, .str y, .str b]))
    | none => some (.val (.tup [.str x, .str [], .str []]))) else none
  | _, _, _ => none
def Ex.isNo : Ex → Bool
  | .no => true
  | _ => false
def bnd (no : Bool) (r : R O) (σ : Sg) : R (Option Int) := if no = true then .ok none σ else r.bind fun o σ' => match o with
  | .val (.int i) => .ok (some i) σ'
  | _ => .bad
def tst (no : Bool) (r : R O) (σ : Sg) : R Bool := if no = true then .ok true σ else tb r
def recvOk : Mt → D → Bool
  | .join, .str _ => true
  | .split, .str _ => true
  | .part, .str _ => true
  | .index, .lst _ => true
  | _, _ => false
def popO (i : Nat) (σ : Sg) : R O := match getO σ i with
  | some (.lst xs) => match xs.getLast? with
    | some x => .ok (.val x) (σ.set i (some (.lst xs.dropLast)))
    | none => .bad
  | _ => .bad
mutual
def D.flat : D → Bool
  | .lst _ => false
  | .dic _ => false
  | .tup xs => D.flats xs
  | _ => true
def D.flats : List D → Bool
  | [] => true
  | x :: xs => D.flat x && D.flats xs
end
def O.flat : O → Bool
  | .val d => d.flat
  | .lst xs => D.flats xs
  | _ => false
def argsO : List Ex → List (Option D) → Sg → Option (List O)
  | [], [], _ => some []
  | e :: es, d :: ds, σ => match (match e with
      | .own i => getO σ i
      | .bor i => ((getO σ i).bind O.toL).map O.val
      | _ => d.map O.val), argsO es ds σ with
    | some o, some os => some (o :: os)
    | _, _ => none
  | _, _, _ => none
def outO : List Ex → List O → Sg → Option Sg
  | [], [], σ => some σ
  | [], _ :: _, _ => none
  | e :: es, os, σ => match e with
    | .own i => match os with
      | o :: os => outO es os (σ.set i (some o))
      | [] => none
    | _ => outO es os σ
def lent : List Ex → Bool
  | [] => false
  | .bor _ :: _ => true
  | _ :: es => lent es
def slotD (σ : Sg) (i : Nat) : Option (Bool × List (D × D)) := match getO σ i with
  | some (.dic t kvs) => some (t, kvs)
  | _ => none
def atD {α : Type} (i : Nat) (f : List (D × D) → D → Option α) (fk : Sg → R O) (σ : Sg) : R α := match slotD σ i with
  | some _ => (pre none (fk σ) σ).bind fun dk σ1 => match dk, slotD σ1 i with
    | some k, some (t, kvs) => if isKey t k = true then lift σ1 (f kvs k) else .bad
    | _, _ => .bad
  | none => .bad
def inDk (i : Nat) (fk : Sg → R O) (σ : Sg) : R Bool := (pre none (fk σ) σ).bind fun dk σ1 => match dk, slotD σ1 i with
    | some k, some (t, kvs) => if isKey t k = true then .ok (hasD kvs k) σ1 else .bad
    | _, _ => .bad
mutual
def deepD : O → Option D
  | .val d => some d
  | .lst xs => some (.lst xs)
  | .tr xs => (deepsD xs).map .lst
  | .tp xs => (deepsD xs).map .tup
  | _ => none
def deepsD : List O → Option (List D)
  | [] => some []
  | o :: os => match deepD o, deepsD os with
    | some d, some ds => some (d :: ds)
    | _, _ => none
end
def atO : O → List Nat → Option O
  | o, [] => some o
  | .tr xs, k :: ks => match xs[k]? with
    | some x => atO x ks
    | none => none
  | .tp xs, k :: ks => match xs[k]? with
    | some x => atO x ks
    | none => none
  | .ins _ xs, k :: ks => match xs[k]? with
    | some x => atO x ks
    | none => none
  | _, _ => none
def putO : O → List Nat → O → O
  | _, [], n => n
  | .tr xs, k :: ks, n => .tr (match xs[k]? with
    | some x => xs.set k (putO x ks n)
    | none => xs)
  | .tp xs, k :: ks, n => .tp (match xs[k]? with
    | some x => xs.set k (putO x ks n)
    | none => xs)
  | .ins c xs, k :: ks, n => .ins c (match xs[k]? with
    | some x => xs.set k (putO x ks n)
    | none => xs)
  | o, _, _ => o
def resR (o : O) : List D → Option (List Nat × O)
  | [] => some ([], o)
  | .int k :: ds => match resR o ds with
    | some (ns, .tr xs) => match L2.ixN xs.length k with
      | some n => match xs[n]? with
        | some x => some (ns ++ [n], x)
        | none => none
      | none => none
    | some (ns, .tp xs) => match L2.ixN xs.length k with
      | some n => match xs[n]? with
        | some x => some (ns ++ [n], x)
        | none => none
      | none => none
    | _ => none
  | .str [c, f] :: ds => match resR o ds with
    | some (ns, .ins c' xs) => if c' = c then (match xs[f]? with
      | some x => some (ns ++ [f], x)
      | none => none) else none
    | _ => none
  | _ => none
inductive Stp where
  | ix (f : Sg → R O)
  | fd (c n : Nat)
def evP (o : O) (f : List Stp) : Sg → R (List D) := match f with
  | [] => fun σ => .ok [] σ
  | .ix k :: r => fun σ => (evP o r σ).bind fun ds σ1 => (pre none (k σ1) σ1).bind fun d σ2 => match d with
    | some (.int j) => if (resR o (.int j :: ds)).isSome = true then .ok (.int j :: ds) σ2 else .bad
    | _ => .bad
  | .fd c n :: r => fun σ => (evP o r σ).bind fun ds σ1 => if (resR o (.str [c, n] :: ds)).isSome = true then .ok (.str [c, n] :: ds) σ1 else .bad
def lenP (i : Nat) (fs : List Stp) (σ : Sg) : R O := match getO σ i with
  | some o => (evP o fs (σ.set i none)).bind fun ds σ1 => match getO σ1 i, resR o ds with
    | none, some (_, .lst xs) => .ok (.val (.int (xs.length : Nat))) (σ1.set i (some o))
    | none, some (_, .tr xs) => .ok (.val (.int (xs.length : Nat))) (σ1.set i (some o))
    | none, some (_, .dic _ xs) => .ok (.val (.int (xs.length : Nat))) (σ1.set i (some o))
    | _, _ => .bad
  | none => .bad
def appP (i : Nat) (fs : List Stp) (fa : Sg → R O) (σ : Sg) : R Fl := match getO σ i with
  | some o => (evP o fs (σ.set i none)).bind fun ds σ1 => match resR o ds with
    | some (ns, .lst xs) => (pre none (fa σ1) σ1).bind fun d σ2 => match d, getO σ2 i with
      | some x, none => if xs.length < SZ then .ok .nx (σ2.set i (some (putO o ns (.lst (xs ++ [x]))))) else .bad
      | _, _ => .bad
    | _ => .bad
  | none => .bad
def getP (i : Nat) (fs : List Stp) (fk : Sg → R O) (g : O → D → Option D) (σ : Sg) : R O := match getO σ i with
  | some o => (evP o fs (σ.set i none)).bind fun ds σ1 => match resR o ds with
    | some (_, s) => (pre none (fk σ1) σ1).bind fun d σ2 => match d, getO σ2 i with
      | some x, none => match g s x with
        | some y => .ok (.val y) (σ2.set i (some o))
        | none => .bad
      | _, _ => .bad
    | none => .bad
  | none => .bad
def ixG : O → D → Option D
  | .lst xs, .int j => at? xs j
  | .tp xs, .int j => match L2.ixN xs.length j with
    | some n => match xs[n]? with
      | some (.val d) => some d
      | _ => none
    | none => none
  | _, _ => none
def dgG : O → D → Option D
  | .dic t kvs, k => if isKey t k = true then lookD kvs k else none
  | _, _ => none
def dinP (i : Nat) (fs : List Stp) (fk : Sg → R O) (σ : Sg) : R Bool := (pre none (fk σ) σ).bind fun dk σ1 => match dk, getO σ1 i with
  | some k, some o => (evP o fs (σ1.set i none)).bind fun ds σ2 => match getO σ2 i, resR o ds with
    | none, some (_, .dic t kvs) => if isKey t k = true then .ok (hasD kvs k) (σ2.set i (some o)) else .bad
    | _, _ => .bad
  | _, _ => .bad
def lstP (i : Nat) (fs : List Stp) (σ : Sg) : R O := match getO σ i with
  | some o => (evP o fs (σ.set i none)).bind fun ds σ1 => match getO σ1 i, resR o ds with
    | none, some (_, .lst xs) => .ok (.lst xs) (σ1.set i (some o))
    | _, _ => .bad
  | none => .bad
def setP (i : Nat) (fs : List Stp) (fk fv : Sg → R O) (g : O → D → D → Option O) (σ : Sg) : R Fl := (pre none (fv σ) σ).bind fun dv σ0 => match getO σ0 i with
  | some o => (evP o fs (σ0.set i none)).bind fun ds σ1 => match resR o ds with
    | some (ns, s) => (pre none (fk σ1) σ1).bind fun dk σ2 => match dv, dk, getO σ2 i with
      | some y, some k, none => match g s k y with
        | some s' => .ok .nx (σ2.set i (some (putO o ns s')))
        | none => .bad
      | _, _, _ => .bad
    | none => .bad
  | none => .bad
def ixS : O → D → D → Option O
  | .lst xs, .int j, y => match L2.ixN xs.length j with
    | some n => some (.lst (xs.set n y))
    | none => none
  | _, _, _ => none
def dcS : O → D → D → Option O
  | .dic t kvs, k, y => if isKey t k = true ∧ kvs.length < SZ then some (.dic t (putD kvs k y)) else none
  | _, _, _ => none
def setF (i c f : Nat) (fe : Sg → R O) (σ : Sg) : R Fl := (fe σ).bind fun n σ1 => match getO σ1 i with
  | some (.ins c' xs) => if c' = c then (if f = xs.length then .ok .nx (σ1.set i (some (.ins c (xs ++ [n])))) else if f < xs.length then .ok .nx (σ1.set i (some (.ins c (xs.set f n)))) else .bad) else .bad
  | _ => .bad
def mvF (i c f : Nat) (σ : Sg) : R O := match getO σ i with
  | some (.ins c' xs) => if c' = c then (match xs[f]? with
    | some o => .ok o (σ.set i none)
    | none => .bad) else .bad
  | _ => .bad
def isIns (c : Nat) : List Ex → Sg → Bool
  | .own i :: _, σ => match getO σ i with
    | some (.ins c' _) => decide (c' = c)
    | _ => false
  | _, _ => false
def asTr : O → Option (List O)
  | .tr xs => some xs
  | .lst [] => some []
  | _ => none
def appN (i : Nat) (fe : Sg → R O) (σ : Sg) : R Fl := match (getO σ i).bind asTr with
  | some _ => (pre none (fe σ) σ).bind fun d σ1 => match d, (getO σ1 i).bind asTr with
    | some x, some xs => if xs.length < SZ then .ok .nx (σ1.set i (some (.tr (xs ++ [.tr [.lst [], .val x]])))) else .bad
    | _, _ => .bad
  | none => .bad
def appT (i : Nat) (f1 f2 : Sg → R O) (σ : Sg) : R Fl := match (getO σ i).bind asTr with
  | some _ => (f1 σ).bind fun o1 σ1 => match o1 with
    | .lst ys => (pre none (f2 σ1) σ1).bind fun d σ2 => match d, (getO σ2 i).bind asTr with
      | some x, some xs => if xs.length < SZ then .ok .nx (σ2.set i (some (.tr (xs ++ [.tp [.lst ys, .val x]])))) else .bad
      | _, _ => .bad
    | _ => .bad
  | none => .bad
def repD : D → D → Option O
  | d, .int k => if 0 ≤ k ∧ k ≤ 1000 then some (.lst (List.replicate k.toNat d)) else none
  | _, _ => none
def asL : D → O
  | .lst xs => .lst xs
  | d => .val d
def lrevD : D → Option O
  | .lst xs => some (.lst xs.reverse)
  | _ => none
def revD : D → Option O
  | .lst xs => some (.val (.tup xs.reverse))
  | _ => none
def linkD (g : D → D → Option Bool) (fb : Sg → R O) (rest : D → Sg → R O) (x : D) (σ : Sg) : R O := (pre none (fb σ) σ).bind fun db σ2 => match db with
  | some y => match g x y with
    | some true => rest y σ2
    | some false => .ok (.val (.bl false)) σ2
    | none => .bad
  | none => .bad
def lastD (g : D → D → Option Bool) (fc : Sg → R O) (y : D) (σ : Sg) : R O := (pre none (fc σ) σ).bind fun dc σ3 => match dc with
  | some z => (lift σ3 (g y z)).bind fun b σ4 => .ok (.val (.bl b)) σ4
  | none => .bad
mutual
def ev (F : Fn) : Ex → Sg → R O
  | .c d, σ => .ok (.val d) σ
  | .var i, σ => match getO σ i with
    | some (.val d) => .ok (.val d) σ
    | _ => .bad
  | .frz i, σ => match (getO σ i).bind O.toD with
    | some d => .ok (.val d) (σ.set i (some (.val d)))
    | none => .bad
  | .glb _ d, σ => .ok (.val d) σ
  | .bin op a b, σ => op2 (binD op) a.bo b.bo (ev F a) (ev F b) σ
  | .cmp op a b, σ => vb (op2 (cmpD op) a.bo b.bo (ev F a) (ev F b) σ)
  | .chain op op' a b c, σ => (pre none (ev F a σ) σ).bind fun da σ1 => (pre none (ev F b σ1) σ1).bind fun db σ2 => match da, db with
    | some x, some y => match cmpD op x y with
      | some true => (pre none (ev F c σ2) σ2).bind fun dc σ3 => match dc with
        | some z => (lift σ3 (cmpD op' y z)).bind fun b σ4 => .ok (.val (.bl b)) σ4
        | none => .bad
      | some false => .ok (.val (.bl false)) σ2
      | none => .bad
    | _, _ => .bad
  | .chain3 op op' op2 a b c d, σ => (pre none (ev F a σ) σ).bind fun da σ1 => match da with
    | some x => linkD (cmpD op) (ev F b) (fun y => linkD (cmpD op') (ev F c) (fun z => lastD (cmpD op2) (ev F d) z) y) x σ1
    | none => .bad
  | .not a, σ => (tb (ev F a σ)).bind fun b σ' => .ok (.val (.bl (!b))) σ'
  | .neg a, σ => op1 (fun d => match d with | .int i => some (O.val (.int (-i))) | _ => none) none (ev F a) σ
  | .and es, σ => vb (evAnd F es σ)
  | .or es, σ => vb (evOr F es σ)
  | .tup es, σ => (evs F es σ).bind fun ds σ' => if ds.length ≤ SZ then .ok (.val (.tup ds)) σ' else .bad
  | .lst es, σ => (evs F es σ).bind fun ds σ' => if ds.length ≤ SZ then .ok (.lst ds) σ' else .bad
  | .ix a b, σ => op2 (fun x y => (ixD x y).map O.val) a.bo b.bo (ev F a) (ev F b) σ
  | .sl a lo hi, σ => (pre a.bo (ev F a σ) σ).bind fun da σ1 => (bnd lo.isNo (ev F lo σ1) σ1).bind fun l σ2 => (bnd hi.isNo (ev F hi σ2) σ2).bind fun h σ3 => match fin a.bo da σ3 with
    | some x => lift σ3 (slD x l h)
    | none => .bad
  | .call g es, σ => (evs F es σ).bind fun ds σ' => match F g (ds.map O.val) with
    | .ok r _ => .ok r σ'
    | .exc c _ => .exc c σ'
    | .bad => .bad
  | .bf b es, σ => (evp F es σ).bind fun ds σ' => match fins (es.map Ex.bo) ds σ' with
    | some xs => lift σ' (bfD b xs)
    | none => .bad
  | .isi a t, σ => op1 (fun d => if (dTy d).isSome then some (O.val (.bl (isTy t d))) else none) a.bo (ev F a) σ
  | .mt m a es, σ => (pre a.bo (ev F a σ) σ).bind fun da σ1 => match fin a.bo da σ1 with
    | some z => if recvOk m z = true then (evp F es σ1).bind fun ds σ2 => match fin a.bo da σ2, fins (es.map Ex.bo) ds σ2 with
      | some x, some xs => lift σ2 (mtD m x xs)
      | _, _ => .bad
      else .bad
    | none => .bad
  | .pop i, σ => popO i σ
  | .fz a, σ => (pre none (ev F a σ) σ).bind fun d σ' => match d with
    | some d => .ok (.val d) σ'
    | none => .bad
  | .callO g es, σ => (evp F es σ).bind fun ds σ' => match argsO es ds σ' with
    | some as => match F g as with
      | .ok r os => match outO es os σ' with
        | some σ2 => if (!lent es || (r.flat && os.all O.flat)) = true then .ok r σ2 else .bad
        | none => .bad
      | .exc c os => match outO es os σ' with
        | some σ2 => if (!lent es || os.all O.flat) = true then .exc c σ2 else .bad
        | none => .bad
      | .bad => .bad
    | none => .bad
  | .dnew t, σ => .ok (.dic t []) σ
  | .frzT i, σ => match (getO σ i).bind deepD with
    | some d => .ok (.val d) (σ.set i (some (.val d)))
    | none => .bad
  | .lnP i ks, σ => lenP i (evF F ks) σ
  | .trev a, σ => op1 revD a.bo (ev F a) σ
  | .mv i, σ => match getO σ i with
    | some o => .ok o (σ.set i none)
    | none => .bad
  | .dget i k, σ => (atD i lookD (ev F k) σ).bind fun d σ' => .ok (.val d) σ'
  | .din i k, σ => vb (inDk i (ev F k) σ)
  | .dnin i k, σ => (inDk i (ev F k) σ).bind fun b σ' => .ok (.val (.bl (!b))) σ'
  | .dix kvs k, σ => (pre none (ev F k σ) σ).bind fun dk σ' => match dk with
    | some (.str x) => match (kvs.reverse.find? fun p => p.1 == x) with
      | some p => .ok (.val (.str p.2)) σ'
      | none => .bad
    | _ => .bad
  | .comp elt tg one it cond, σ => (evI F it σ).bind fun xs σ1 => noExc ((compLoop (fun x σ => match store tg one x (wipes tg σ) with
      | some σ2 => (tst cond.isNo (ev F cond σ2) σ2).bind fun b σ3 => if b = true then (pre none (ev F elt σ3) σ3).bind fun d σ4 => .ok d σ4 else .ok none σ3
      | none => .bad) xs σ1).bind fun ys σ2 => match unwipe tg σ1 (wipes tg σ2) with
      | some σ4 => if ys.length ≤ SZ then .ok (.lst ys) σ4 else .bad
      | none => .bad)
  | .lvals i, σ => match getO σ i with
    | some (.dic _ kvs) => .ok (.lst (kvs.map Prod.snd)) σ
    | _ => .bad
  | .skey i, σ => match getO σ i with
    | some (.dic false kvs) => match keysD kvs with
      | some ks => if ks.length ≤ SZ then .ok (.lst ((srtI ks).map .int)) σ else .bad
      | none => match keysX kvs with
        | some ks => if ks.length ≤ SZ then .ok (.lst ((srtX ks).map .str)) σ else .bad
        | none => .bad
    | _ => .bad
  | .sset a, σ => op1 sortSetD none (ev F a) σ
  | .dnew1 i b, σ => match getO σ i with
    | some (.val (.int k)) => .ok (.dic false [(.int k, .bl b)]) σ
    | _ => .bad
  | .ixP i ks k, σ => getP i (evF F ks) (ev F k) ixG σ
  | .dgetP i ks k, σ => getP i (evF F ks) (ev F k) dgG σ
  | .dinP i ks k, σ => vb (PV.dinP i (evF F ks) (ev F k) σ)
  | .dninP i ks k, σ => (PV.dinP i (evF F ks) (ev F k) σ).bind fun b σ' => .ok (.val (.bl (!b))) σ'
  | .lstP i ks, σ => PV.lstP i (evF F ks) σ
  | .mvF i c f, σ => PV.mvF i c f σ
  | .mk c g es, σ => (evs F es σ).bind fun ds σ' => match F g (.ins c [] :: ds.map O.val) with
    | .ok (.val .non) [o] => .ok o σ'
    | _ => .bad
  | .callM c g es, σ => if isIns c es σ = true then ((evp F es σ).bind fun ds σ' => match argsO es ds σ' with
    | some as => match F g as with
      | .ok r os => match outO es os σ' with
        | some σ2 => if (!lent es || (r.flat && os.all O.flat)) = true then .ok r σ2 else .bad
        | none => .bad
      | .exc c os => match outO es os σ' with
        | some σ2 => if (!lent es || os.all O.flat) = true then .exc c σ2 else .bad
        | none => .bad
      | .bad => .bad
    | none => .bad) else .bad
  | .lrng a, σ => op1 lrngD none (ev F a) σ
  | .lrev a, σ => op1 lrevD a.bo (ev F a) σ
  | .rep a n, σ => op2 repD none none (ev F a) (ev F n) σ
  | .compO elt tg one it, σ => (evI F it σ).bind fun xs σ1 => noExc ((compLoop (fun x σ => match store tg one x (wipes tg σ) with
      | some σ2 => (ev F elt σ2).bind fun o σ3 => match o with
        | .lst ys => .ok (some (.lst ys)) σ3
        | _ => .bad
      | none => .bad) xs σ1).bind fun ys σ2 => match unwipe tg σ1 (wipes tg σ2) with
      | some σ4 => if ys.length ≤ SZ then .ok (.tr (ys.map asL)) σ4 else .bad
      | none => .bad)
  | .compH k elt tg one cond, σ => compHD k tg (fun x σ => match store tg one x (wipes tg σ) with
      | some σ2 => (tst cond.isNo (ev F cond σ2) σ2).bind fun b σ3 => if b = true then (pre none (ev F elt σ3) σ3).bind fun d σ4 => .ok d σ4 else .ok none σ3
      | none => .bad) σ
  | _, _ => .bad
def evs (F : Fn) : List Ex → Sg → R (List D)
  | [], σ => .ok [] σ
  | e :: es, σ => (pre none (ev F e σ) σ).bind fun d σ1 => match d with
    | some x => (evs F es σ1).bind fun xs σ2 => .ok (x :: xs) σ2
    | none => .bad
def evp (F : Fn) : List Ex → Sg → R (List (Option D))
  | [], σ => .ok [] σ
  | e :: es, σ => (pre e.bo (ev F e σ) σ).bind fun d σ1 => (evp F es σ1).bind fun ds σ2 => .ok (d :: ds) σ2
def evAnd (F : Fn) : List Ex → Sg → R Bool
  | [], _ => .bad
  | [e], σ => tb (ev F e σ)
  | e :: es, σ => (tb (ev F e σ)).bind fun b σ' => if b = true then evAnd F es σ' else .ok false σ'
def evOr (F : Fn) : List Ex → Sg → R Bool
  | [], _ => .bad
  | [e], σ => tb (ev F e σ)
  | e :: es, σ => (tb (ev F e σ)).bind fun b σ' => if b = true then .ok true σ' else evOr F es σ'
def evF (F : Fn) : List Ex → List Stp
  | [] => []
  | .fld c n :: ks => .fd c n :: evF F ks
  | k :: ks => .ix (ev F k) :: evF F ks
def evI (F : Fn) : Ex → Sg → R (List D)
  | .seq a, σ => op1 seqD none (ev F a) σ
  | .rng es, σ => (evs F es σ).bind fun ds σ' => lift σ' (rngD ds)
  | .enum a, σ => op1 (lstOnly (enumD 0)) none (ev F a) σ
  | .zip a b, σ => op2 zipOnly none none (ev F a) (ev F b) σ
  | .rev a, σ => op1 (lstOnly List.reverse) none (ev F a) σ
  | _, _ => .bad
end
mutual
def suE (k : Nat) (σ : Sg) : SuE → Option Bool
  | .isx ks => some (ks.contains k)
  | .isxs kss => some (kss.any fun ks => ks.contains k)
  | .bl b => some b
  | .var j => match getO σ j with
    | some (.val (.bl b)) => some b
    | _ => none
  | .not e => (suE k σ e).map (!·)
  | .and es => suA k σ es
def suA (k : Nat) (σ : Sg) : List SuE → Option Bool
  | [] => some true
  | e :: es => match suE k σ e, suA k σ es with
    | some a, some b => some (a && b)
    | _, _ => none
end
def suL (k : Nat) (σ : Sg) : List SuE → Option (List Bool)
  | [] => some []
  | e :: es => match suE k σ e, suL k σ es with
    | some a, some b => some (a :: b)
    | _, _ => none
def suS (k : Nat) : SuS → Sg → Option Sg
  | .set j e, σ => (suE k σ e).map fun b => σ.set j (some (.val (.bl b)))
  | .lst j es, σ => match suL k σ es with
    | some bs => if bs.length ≤ SZ then some (σ.set j (some (.lst (bs.map .bl)))) else none
    | none => none
  | .add j es, σ => match (getO σ j).bind O.toL, suL k σ es with
    | some (.lst xs), some bs => if xs.length + bs.length ≤ SZ then some (σ.set j (some (.lst (xs ++ bs.map .bl)))) else none
    | _, _ => none
  | .str j s, σ => some (σ.set j (some (.val (.str s))))
def suSs (k : Nat) : List SuS → Sg → Option Sg
  | [], σ => some σ
  | s :: ss, σ => (suS k s σ).bind (suSs k ss)
def tryR (hs : List Nat) (i : Nat) (su : List SuS) : R Fl → R Fl
  | .exc k σ => if hs.contains k = true ∧ i < σ.length then (match suSs k su (σ.set i none) with
    | some σ2 => .ok .nx (σ2.set i none)
    | none => .bad) else .bad
  | r => r
mutual
def ex (F : Fn) (N : Nat) : Sm → Sg → R Fl
  | .set i e, σ => (ev F e σ).bind fun o σ' => .ok .nx (σ'.set i (some o))
  | .unp is e, σ => (pre none (ev F e σ) σ).bind fun d σ' => match d with
    | some d => match store is false d σ' with
      | some σ2 => .ok .nx σ2
      | none => .bad
    | none => .bad
  | .app i e, σ => match getO σ i with
    | some (.lst _) => (pre none (ev F e σ) σ).bind fun d σ' => match d, getO σ' i with
      | some x, some (.lst xs) => if xs.length < SZ then .ok .nx (σ'.set i (some (.lst (xs ++ [x])))) else .bad
      | _, _ => .bad
    | _ => .bad
  | .setIx i k v, σ => (pre none (ev F v σ) σ).bind fun dv σ1 => match getO σ1 i with
    | some _ => (pre none (ev F k σ1) σ1).bind fun dk σ2 => match dv, dk, getO σ2 i with
      | some y, some (.int j), some (.lst xs) => match L2.ixN xs.length j with
        | some n => .ok .nx (σ2.set i (some (.lst (xs.set n y))))
        | none => .bad
      | _, _, _ => .bad
    | none => .bad
  | .ex e, σ => (ev F e σ).bind fun _ σ' => .ok .nx σ'
  | .ret e, σ => (ev F e σ).bind fun o σ' => .ok (.ret o) σ'
  | .iff t a b, σ => (tb (ev F t σ)).bind fun c σ' => if c = true then exs F N a σ' else exs F N b σ'
  | .for_ tg one it body, σ => (evI F it σ).bind fun xs σ1 => forLoop (fun x σ => match store tg one x σ with
      | some σ2 => exs F N body σ2
      | none => .bad) xs σ1
  | .wh t body, σ => whLoop (fun σ => tb (ev F t σ)) (fun σ => exs F N body σ) N σ
  | .raise c, σ => .exc c σ
  | .never, _ => .bad
  | .pass, σ => .ok .nx σ
  | .dset i k v, σ => (pre none (ev F v σ) σ).bind fun dv σ1 => match slotD σ1 i with
    | some _ => (pre none (ev F k σ1) σ1).bind fun dk σ2 => match dv, dk, slotD σ2 i with
      | some y, some k, some (t, kvs) => if isKey t k = true ∧ kvs.length < SZ then .ok .nx (σ2.set i (some (.dic t (putD kvs k y)))) else .bad
      | _, _, _ => .bad
    | none => .bad
  | .appP i ks e, σ => PV.appP i (evF F ks) (ev F e) σ
  | .appN i e, σ => PV.appN i (ev F e) σ
  | .appT i a b, σ => PV.appT i (ev F a) (ev F b) σ
  | .setP i ks k v, σ => PV.setP i (evF F ks) (ev F k) (ev F v) ixS σ
  | .dsetP i ks k v, σ => PV.setP i (evF F ks) (ev F k) (ev F v) dcS σ
  | .setF i c f e, σ => PV.setF i c f (ev F e) σ
  | .try_ i hs body su, σ => tryR hs i su (exs F N body σ)
  | .ins i k v, σ => match getO σ i with
    | some (.lst _) => (pre none (ev F k σ) σ).bind fun dk σ1 => (pre none (ev F v σ1) σ1).bind fun dv σ2 => match dk, dv, getO σ2 i with
      | some (.int j), some y, some (.lst xs) => if xs.length < SZ ∧ 0 ≤ j ∧ j ≤ xs.length then .ok .nx (σ2.set i (some (.lst (xs.take j.toNat ++ y :: xs.drop j.toNat)))) else .bad
      | _, _, _ => .bad
    | _ => .bad
def exs (F : Fn) (N : Nat) : List Sm → Sg → R Fl
  | [], σ => .ok .nx σ
  | s :: ss, σ => (ex F N s σ).bind fun f σ' => match f with
    | .nx => exs F N ss σ'
    | .ret o => .ok (.ret o) σ'
end
structure Df where
  n : Nat
  ar : Nat
  io : List Nat
  body : List Sm
def ioOut (io : List Nat) (σ : Sg) : Option (List O) := match io with
  | [] => some []
  | i :: r => match getO σ i, ioOut r σ with
    | some o, some os => some (o :: os)
    | _, _ => none
def runDf (F : Fn) (N : Nat) (d : Df) (as : List O) : FR :=
  if as.length = d.ar then
    match exs F N d.body (as.map some ++ List.replicate (d.n - as.length) none) with
    | .ok .nx σ => match ioOut d.io σ with
      | some os => .ok (.val .non) os
      | none => .bad
    | .ok (.ret o) σ => match ioOut d.io σ with
      | some os => .ok o os
      | none => .bad
    | .exc c σ => match ioOut d.io σ with
      | some os => .exc c os
      | none => .bad
    | .bad => .bad
  else .bad
def run (T : Nat → Df) (N : Nat) : Nat → Fn
  | 0 => fun _ _ => .bad
  | n + 1 => fun g as => runDf (run T N n) N (T g) as
end
end PV
set_option maxRecDepth 100000
namespace PV
open PySem PySem.Spec PyProof.Rows L2
abbrev LS := L2.St
def sOf (x : Tx) : Str := ⟨x.toArray⟩
def keyOf : D → Option Key
  | .int i => some (.inl i)
  | .str x => some (.inr (sOf x))
  | _ => none
mutual
inductive Rep (K : PySem.W.Frag) (G : Hp) : D → V → Prop
  | non : Rep K G .non .non
  | bl (b : Bool) : Rep K G (.bl b) (.bl b)
  | int (i : Int) : Rep K G (.int i) (.int i)
  | str (x : Tx) : Rep K G (.str x) (.str (sOf x))
  | tup {a : Addr} {vs : List V} {xs : List D} : G a = some (.tup vs) → Reps K G xs vs → Rep K G (.tup xs) (.ref a)
  | lst {a : Addr} {vs : List V} {xs : List D} : SqL K G a vs → Reps K G xs vs → Rep K G (.lst xs) (.ref a)
  | dic {a : Addr} {ps : List (Key × V)} {kvs : List (D × D)} : G a = some (.dK ps) → (kvs.map fun p => keyOf p.1) = (ps.map fun p => some p.1) → Reps K G (kvs.map Prod.snd) (ps.map Prod.snd) → Rep K G (.dic kvs) (.ref a)
inductive Reps (K : PySem.W.Frag) (G : Hp) : List D → List V → Prop
  | nil : Reps K G [] []
  | cons {x : D} {v : V} {xs : List D} {vs : List V} : Rep K G x v → Reps K G xs vs → Reps K G (x :: xs) (v :: vs)
end
theorem seqT {K : PySem.W.Frag} {H H' : Hp} {a : Addr} {xs : List V} (e : Same H H') (h : SqT K H a xs) : SqT K H' a xs := by
  rcases h with (h | ⟨o, h⟩) | h
  · exact .inl (.inl (e _ _ h))
  · exact .inl (.inr ⟨o, e _ _ h⟩)
  · exact .inr h
section
variable {K : PySem.W.Frag} {G G' : Hp}
mutual
theorem Rep.mono (s : Same G G') : ∀ {d : D} {v : V}, Rep K G d v → Rep K G' d v
  | _, _, .non => .non
  | _, _, .bl b => .bl b
  | _, _, .int i => .int i
  | _, _, .str x => .str x
  | _, _, .tup h r => .tup (s _ _ h) (Reps.mono s r)
  | _, _, .lst h r => .lst (s.seq h) (Reps.mono s r)
  | _, _, .dic h e r => .dic (s _ _ h) e (Reps.mono s r)
theorem Reps.mono (s : Same G G') : ∀ {d : List D} {v : List V}, Reps K G d v → Reps K G' d v
  | _, _, .nil => .nil
  | _, _, .cons h r => .cons (Rep.mono s h) (Reps.mono s r)
end
theorem Reps.len : ∀ {xs : List D} {vs : List V}, Reps K G xs vs → xs.length = vs.length
  | _, _, .nil => rfl
  | _, _, .cons _ r => congrArg (· + 1) (Reps.len r)
theorem Reps.get : ∀ {xs : List D} {vs : List V} {i : Nat} {x : D}, Reps K G xs vs → xs[i]? = some x → ∃ v, vs[i]? = some v ∧ Rep K G x v
  | _, _, _, _, .nil, e => by simp at e
  | _, _, 0, _, .cons h _, e => by simp at e; subst e; exact ⟨_, rfl, h⟩
  | _, _, i + 1, x, .cons _ r, e => by
    obtain ⟨v, a, b⟩ := Reps.get (i := i) (x := x) r (by simpa using e)
    exact ⟨v, by simpa using a, b⟩
theorem Reps.app : ∀ {xs ys : List D} {vs ws : List V}, Reps K G xs vs → Reps K G ys ws → Reps K G (xs ++ ys) (vs ++ ws)
  | _, _, _, _, .nil, s => s
  | _, _, _, _, .cons h r, s => .cons h (Reps.app r s)
theorem Reps.take : ∀ {xs : List D} {vs : List V} (n : Nat), Reps K G xs vs → Reps K G (xs.take n) (vs.take n)
  | _, _, 0, _ => by simpa using Reps.nil
  | _, _, _ + 1, .nil => .nil
  | _, _, n + 1, .cons h r => .cons h (Reps.take n r)
theorem Reps.drop : ∀ {xs : List D} {vs : List V} (n : Nat), Reps K G xs vs → Reps K G (xs.drop n) (vs.drop n)
  | _, _, 0, r => r
  | _, _, _ + 1, .nil => .nil
  | _, _, n + 1, .cons _ r => Reps.drop n r
theorem Reps.set {x : D} {v : V} (h : Rep K G x v) : ∀ {xs : List D} {vs : List V} (n : Nat), Reps K G xs vs → Reps K G (xs.set n x) (vs.set n v)
  | _, _, _, .nil => .nil
  | _, _, 0, .cons _ r => .cons h r
  | _, _, n + 1, .cons q r => .cons q (Reps.set h n r)
theorem Reps.rev : ∀ {xs : List D} {vs : List V}, Reps K G xs vs → Reps K G xs.reverse vs.reverse
  | _, _, .nil => .nil
  | _, _, .cons h r => by
    rw [List.reverse_cons, List.reverse_cons]
    exact (Reps.rev r).app (.cons h .nil)
theorem Reps.dropLast {xs : List D} {vs : List V} (r : Reps K G xs vs) : Reps K G xs.dropLast vs.dropLast := by
  rw [List.dropLast_eq_take, List.dropLast_eq_take, r.len]
  exact r.take _
end
def keysL : List D → Option (List Key)
  | [] => some []
  | k :: ks => match keyOf k, keysL ks with
    | some x, some xs => some (x :: xs)
    | _, _ => none
def keysOf : D → Option (List Key)
  | .tup ks => keysL ks
  | _ => none
inductive RepsD (K : PySem.W.Frag) (G : Hp) {κ : Type} (f : D → Option κ) : List (D × D) → List (κ × V) → Prop
  | nil : RepsD K G f [] []
  | cons {k : D} {k' : κ} {d : D} {v : V} {r : List (D × D)} {r' : List (κ × V)} : f k = some k' → Rep K G d v → RepsD K G f r r' → RepsD K G f ((k, d) :: r) ((k', v) :: r')
theorem RepsD.of_maps {K : PySem.W.Frag} {G : Hp} : ∀ {kvs : List (D × D)} {ps : List (Key × V)}, (kvs.map fun p => keyOf p.1) = (ps.map fun p => some p.1) → Reps K G (kvs.map Prod.snd) (ps.map Prod.snd) → RepsD K G keyOf kvs ps
  | [], [], _, _ => .nil
  | [], _ :: _, e, _ => by simp at e
  | _ :: _, [], e, _ => by simp at e
  | (k, d) :: kvs, (k', v) :: ps, e, r => by
    simp only [List.map_cons, List.cons.injEq] at e
    rw [List.map_cons, List.map_cons] at r
    cases r with
    | cons a b => exact .cons e.1 a (RepsD.of_maps e.2 b)
theorem RepsD.maps {K : PySem.W.Frag} {G : Hp} {kvs : List (D × D)} {ps : List (Key × V)} (h : RepsD K G keyOf kvs ps) : (kvs.map fun p => keyOf p.1) = (ps.map fun p => some p.1) ∧ Reps K G (kvs.map Prod.snd) (ps.map Prod.snd) := by
  induction h with
  | nil => exact ⟨rfl, .nil⟩
  | cons a b _ ih => exact ⟨by simp only [List.map_cons, a, ih.1], .cons b ih.2⟩
theorem RepsD.mono {K : PySem.W.Frag} {G G' : Hp} {κ : Type} {f : D → Option κ} (s : Same G G') {kvs : List (D × D)} {ps : List (κ × V)} (h : RepsD K G f kvs ps) : RepsD K G' f kvs ps := by
  induction h with
  | nil => exact .nil
  | cons a b _ ih => exact .cons a (b.mono s) ih
theorem RepsD.len {K : PySem.W.Frag} {G : Hp} {κ : Type} {f : D → Option κ} {kvs : List (D × D)} {ps : List (κ × V)} (h : RepsD K G f kvs ps) : kvs.length = ps.length := by
  induction h with
  | nil => rfl
  | cons a b _ ih => exact congrArg (· + 1) ih
def clNm : Nat → Str
  | 0 => "Ledger"
  | 1 => "Book"
  | 2 => "Weave"
  | _ => "Desk"
def clFd : Nat → List Str
  | 0 => ["lines", "at", "ups", "downs"]
  | 1 => ["coming", "standing", "watched", "last"]
  | 2 => ["sheet", "lines", "at", "known"]
  | _ => ["kept"]
def clA (K : PySem.W.Frag) (c : Nat) : Addr := match PySem.W.nsIn K mainGlobals (clNm c) with
  | some (some (.ref C)) => C
  | _ => 0
def ClK (K : PySem.W.Frag) (c : Nat) : Prop := Cls K (clA K c) ∧ ∀ f ∈ clFd c, NoAttr K (clA K c) f
abbrev Own? := Addr → Option (List Nat)
mutual
inductive Own (K : PySem.W.Frag) (G H : Hp) (W : Own?) : List Nat → O → V → Prop
  | val {p : List Nat} {d : D} {v : V} : Rep K G d v → Own K G H W p (.val d) v
  | lst {p : List Nat} {a : Addr} {vs : List V} {xs : List D} : W a = some p → H a = some (.lst vs) → Reps K G xs vs → Own K G H W p (.lst xs) (.ref a)
  | dicK {p : List Nat} {a : Addr} {ps : List (Key × V)} {kvs : List (D × D)} : W a = some p → H a = some (.dK ps) → RepsD K G keyOf kvs ps → Own K G H W p (.dic false kvs) (.ref a)
  | dicT {p : List Nat} {a : Addr} {ps : List (List Key × V)} {kvs : List (D × D)} : W a = some p → H a = some (.dT ps) → RepsD K G keysOf kvs ps → Own K G H W p (.dic true kvs) (.ref a)
  | tr {p : List Nat} {a : Addr} {vs : List V} {xs : List O} : W a = some p → H a = some (.lst vs) → OwnL K G H W p 0 xs vs → Own K G H W p (.tr xs) (.ref a)
  | tp {p : List Nat} {a : Addr} {vs : List V} {xs : List O} : W a = some p → H a = some (.tup vs) → OwnL K G H W p 0 xs vs → Own K G H W p (.tp xs) (.ref a)
  | ins {p : List Nat} {a dx : Addr} {c : Nat} {fs : List (Str × V)} {xs : List O} : W a = some p → H a = some (.ins (clA K c) dx fs) → ClK K c → fs.map (·.1) = (clFd c).take xs.length → OwnL K G H W p 0 xs (fs.map (·.2)) → Own K G H W p (.ins c xs) (.ref a)
inductive OwnL (K : PySem.W.Frag) (G H : Hp) (W : Own?) : List Nat → Nat → List O → List V → Prop
  | nil {p : List Nat} {i : Nat} : OwnL K G H W p i [] []
  | cons {p : List Nat} {i : Nat} {o : O} {v : V} {os : List O} {vs : List V} : Own K G H W (p ++ [i]) o v → OwnL K G H W p (i + 1) os vs → OwnL K G H W p i (o :: os) (v :: vs)
end
structure Sim (K : PySem.W.Frag) (G : Hp) (W : Own?) (H : Hp) (σ : Sg) (τ : LS) : Prop where
  gh : Same G H
  gw : ∀ a p, W a = some p → G a = none
  hw : ∀ a p, W a = some p → H a ≠ none
  sl : ∀ i o, getO σ i = some o → ∃ v, τ[i]? = some (some v) ∧ Own K G H W [i + 1] o v
  len : σ.length = τ.length
structure Ext (G : Hp) (W : Own?) (H : Hp) (G' : Hp) (W' : Own?) (H' : Hp) : Prop where
  g : Same G G'
  keep : ∀ a, H a ≠ none → W a = none → H' a = H a
  there : ∀ a, H a ≠ none → H' a ≠ none
  w : ∀ a, W' a ≠ none → W a ≠ none ∨ H a = none
  gn : ∀ a, G' a ≠ none → G a ≠ none ∨ W a ≠ none ∨ H a = none
theorem Ext.refl (G : Hp) (W : Own?) (H : Hp) : Ext G W H G W H := ⟨Same.refl _, fun _ _ _ => rfl, fun _ h => h, fun _ h => .inl h, fun _ h => .inl h⟩
theorem Ext.trans {G G1 G2 H H1 H2 : Hp} {W W1 W2 : Own?} (a : Ext G W H G1 W1 H1) (b : Ext G1 W1 H1 G2 W2 H2) : Ext G W H G2 W2 H2 := by
  have w1 : ∀ x, H x ≠ none → W x = none → W1 x = none := fun x hx wx => by
    cases e : W1 x with
    | none => rfl
    | some q =>
      rcases a.w x (by rw [e]; simp) with z | z
      · exact absurd wx z
      · exact absurd z hx
  refine ⟨a.g.trans b.g, fun x hx wx => ?_, fun x hx => b.there x (a.there x hx), fun x hx => ?_, fun x hx => ?_⟩
  · rw [b.keep x (a.there x hx) (w1 x hx wx), a.keep x hx wx]
  · rcases b.w x hx with z | z
    · exact a.w x z
    · refine .inr ?_
      cases e : H x with
      | none => rfl
      | some o => exact absurd z (a.there x (by rw [e]; simp))
  · have fr : H1 x = none → H x = none := fun z => by
      cases e : H x with
      | none => rfl
      | some o => exact absurd z (a.there x (by rw [e]; simp))
    rcases b.gn x hx with z | z | z
    · exact a.gn x z
    · rcases a.w x z with z | z
      · exact .inr (.inl z)
      · exact .inr (.inr z)
    · exact .inr (.inr (fr z))
structure Grow (G : Hp) (W : Own?) (H : Hp) (G' : Hp) (W' : Own?) (H' : Hp) : Prop where
  g : Same G G'
  gh : Same G' H'
  h : ∀ a, H a ≠ none → H' a = H a
  w : ∀ a p, W a = some p → W' a = some p
  wn : ∀ a, W' a ≠ none → W a ≠ none ∨ H a = none
  gn : ∀ a, G' a ≠ none → G a ≠ none ∨ H a = none
  gw : ∀ a p, W' a = some p → G' a = none
  hw : ∀ a p, W' a = some p → H' a ≠ none
theorem Grow.ext {G G' H H' : Hp} {W W' : Own?} (x : Grow G W H G' W' H') : Ext G W H G' W' H' :=
  ⟨x.g, fun a h _ => x.h a h, fun a h => by rw [x.h a h]; exact h, x.wn, fun a h => (x.gn a h).imp_right .inr⟩
section
variable {K : PySem.W.Frag} {G G' H H' : Hp} {W W' : Own?} {σ : Sg} {τ : LS} {p : List Nat} {o : O} {v : V}
mutual
theorem Own.ren {p p' : List Nat} (s : Same G G') (k : ∀ a q, W a = some (p ++ q) → W' a = some (p' ++ q) ∧ H' a = H a) : ∀ {o : O} {v : V}, Own K G H W p o v → Own K G' H' W' p' o v
  | _, _, .val r => .val (r.mono s)
  | _, _, .lst e h r => by
    obtain ⟨k1, k2⟩ := k _ [] (by simpa using e)
    exact .lst (by simpa using k1) (k2.trans h) (r.mono s)
  | _, _, .dicK e h r => by
    obtain ⟨k1, k2⟩ := k _ [] (by simpa using e)
    exact .dicK (by simpa using k1) (k2.trans h) (r.mono s)
  | _, _, .dicT e h r => by
    obtain ⟨k1, k2⟩ := k _ [] (by simpa using e)
    exact .dicT (by simpa using k1) (k2.trans h) (r.mono s)
  | _, _, .tr e h r => by
    obtain ⟨k1, k2⟩ := k _ [] (by simpa using e)
    exact .tr (by simpa using k1) (k2.trans h) (OwnL.ren s k r)
  | _, _, .tp e h r => by
    obtain ⟨k1, k2⟩ := k _ [] (by simpa using e)
    exact .tp (by simpa using k1) (k2.trans h) (OwnL.ren s k r)
  | _, _, .ins e h c n r => by
    obtain ⟨k1, k2⟩ := k _ [] (by simpa using e)
    exact .ins (by simpa using k1) (k2.trans h) c n (OwnL.ren s k r)
theorem OwnL.ren {p p' : List Nat} (s : Same G G') (k : ∀ a q, W a = some (p ++ q) → W' a = some (p' ++ q) ∧ H' a = H a) : ∀ {i : Nat} {o : List O} {v : List V}, OwnL K G H W p i o v → OwnL K G' H' W' p' i o v
  | _, _, _, .nil => .nil
  | _, _, _, .cons h r => .cons (Own.ren s (fun a q e => by
      rw [List.append_assoc] at e ⊢
      exact k a _ e) h) (OwnL.ren s k r)
end
theorem Own.move (s : Same G G') (k : ∀ a q, W a = some (p ++ q) → W' a = some (p ++ q) ∧ H' a = H a) : Own K G H W p o v → Own K G' H' W' p o v := Own.ren s k
theorem Sim.grow (S : Sim K G W H σ τ) (x : Grow G W H G' W' H') : Sim K G' W' H' σ τ :=
  ⟨x.gh, x.gw, x.hw, fun i o e => by
    obtain ⟨v, h1, h2⟩ := S.sl i o e
    exact ⟨v, h1, h2.move x.g fun a q e => ⟨x.w _ _ e, x.h a (S.hw _ _ e)⟩⟩, S.len⟩
theorem Grow.refl (S : Sim K G W H σ τ) : Grow G W H G W H := ⟨Same.refl _, S.gh, fun _ _ => rfl, fun _ _ h => h, fun _ h => .inl h, fun _ h => .inl h, S.gw, S.hw⟩
theorem same_upd {H : Hp} {p : Addr} (h : H p = none) (o : HO) : Same H (upd H p o) := fun b u q => by rw [upd_ne (ne_of_none q h)]; exact q
theorem Same.none {G H : Hp} (s : Same G H) {a : Addr} (h : H a = none) : G a = none := s.free h
theorem Grow.froz (S : Sim K G W H σ τ) {a : Addr} (hn : H a = none) (o : HO) : Grow G W H (upd G a o) W (upd H a o) := by
  have gn : G a = none := S.gh.free hn
  refine ⟨same_upd gn o, fun b u e => ?_, fun b hb => ?_, fun _ _ e => e, fun _ h => .inl h, fun b hb => ?_, fun b q e => ?_, fun b q e => ?_⟩
  · by_cases z : b = a
    · subst z; rw [upd_same] at e ⊢; exact e
    · rw [upd_ne z] at e ⊢; exact S.gh _ _ e
  · rw [upd_ne (fun z => hb (by rw [z]; exact hn))]
  · by_cases z : b = a
    · exact .inr (by rw [z]; exact hn)
    · rw [upd_ne z] at hb; exact .inl hb
  · rw [upd_ne (fun z => S.hw _ _ e (by rw [z]; exact hn))]; exact S.gw _ _ e
  · by_cases z : b = a
    · rw [z, upd_same]; simp
    · rw [upd_ne z]; exact S.hw _ _ e
def own (W : Own?) (a : Addr) (p : List Nat) : Own? := fun b => if b = a then some p else W b
theorem own_same {a : Addr} : own W a p a = some p := by unfold own; rw [if_pos rfl]
theorem own_ne {a b : Addr} (h : b ≠ a) : own W a p b = W b := by unfold own; rw [if_neg h]
theorem Grow.hand (S : Sim K G W H σ τ) {a : Addr} (hn : H a = none) (o : HO) : Grow G W H G (own W a [0]) (upd H a o) := by
  have gn : G a = none := S.gh.free hn
  refine ⟨Same.refl _, S.gh.trans (same_upd hn o), fun b hb => ?_, fun b q e => ?_, fun b hb => ?_, fun b hb => .inl hb, fun b q e => ?_, fun b q e => ?_⟩
  · rw [upd_ne (fun z => hb (by rw [z]; exact hn))]
  · rw [own_ne (fun z => S.hw _ _ e (by rw [z]; exact hn))]; exact e
  · by_cases z : b = a
    · exact .inr (by rw [z]; exact hn)
    · rw [own_ne z] at hb; exact .inl hb
  · by_cases z : b = a
    · rw [z]; exact gn
    · rw [own_ne z] at e; exact S.gw _ _ e
  · by_cases z : b = a
    · rw [z, upd_same]; simp
    · rw [upd_ne z]; rw [own_ne z] at e; exact S.hw _ _ e
def RepH (K : PySem.W.Frag) (G H : Hp) (d : D) (v : V) : Prop := match d with
  | .lst xs => ∃ a vs, v = .ref a ∧ SqL K H a vs ∧ Reps K G xs vs
  | .dic kvs => ∃ a ps, v = .ref a ∧ H a = some (.dK ps) ∧ RepsD K G keyOf kvs ps
  | d => Rep K G d v
theorem Rep.toH (s : Same G H) {d : D} (r : Rep K G d v) : RepH K G H d v := by
  cases r with
  | lst h q => exact ⟨_, _, rfl, s.seq h, q⟩
  | dic h e q => exact ⟨_, _, rfl, s _ _ h, .of_maps e q⟩
  | non => exact .non
  | bl b => exact .bl b
  | int i => exact .int i
  | str x => exact .str x
  | tup h q => exact .tup h q
theorem Own.toH (s : Same G H) {d : D} (r : Own K G H W p o v) (e : o.toD = some d) : RepH K G H d v := by
  cases r with
  | val r => cases e; exact r.toH s
  | lst w h q => cases e; exact ⟨_, _, rfl, .of h, q⟩
  | dicK w h q => cases e; exact ⟨_, _, rfl, h, q⟩
  | dicT => cases e
  | tr => cases e
  | tp => cases e
  | ins => cases e
def unown (W : Own?) (a : Addr) : Own? := fun b => if b = a then none else W b
theorem unown_ne {a b : Addr} (h : b ≠ a) : unown W a b = W b := by unfold unown; rw [if_neg h]
theorem unown_same {a : Addr} : unown W a a = none := by unfold unown; rw [if_pos rfl]
theorem Own.freeze (S : Sim K G W H σ τ) {d : D} (q0 : ∀ i q, p ≠ (i + 1) :: q ∨ getO σ i = none) (r : Own K G H W p o v) (e : o.toD = some d) :
    ∃ G' W', Sim K G' W' H σ τ ∧ Ext G W H G' W' H ∧ Rep K G' d v := by
  cases r with
  | val r => cases e; exact ⟨G, W, S, Ext.refl _ _ _, r⟩
  | @lst _ a vs xs w h q =>
    cases e
    have gn : G a = none := S.gw _ _ w
    refine ⟨upd G a (.lst vs), unown W a, ⟨fun b u e => ?_, fun b x e => ?_, fun b x e => ?_, fun i o' e => ?_, S.len⟩, ⟨same_upd gn _, fun _ _ _ => rfl, fun _ h => h, fun b hb => ?_, fun b hb => ?_⟩, .lst (.of upd_same) (q.mono (same_upd gn _))⟩
    · by_cases z : b = a
      · subst z; rw [upd_same] at e; cases e; exact h
      · rw [upd_ne z] at e; exact S.gh _ _ e
    · by_cases z : b = a
      · rw [z, unown_same] at e; cases e
      · rw [unown_ne z] at e; rw [upd_ne z]; exact S.gw _ _ e
    · by_cases z : b = a
      · rw [z, unown_same] at e; cases e
      · rw [unown_ne z] at e; exact S.hw _ _ e
    · obtain ⟨v', h1, h2⟩ := S.sl i o' e
      refine ⟨v', h1, h2.move (same_upd gn _) fun b x eb => ⟨?_, rfl⟩⟩
      rw [unown_ne (fun z => ?_)]
      · exact eb
      · subst z
        rw [w] at eb
        rcases q0 i x with n | n
        · exact n (by simpa using Option.some.inj eb)
        · rw [n] at e; cases e
    · by_cases z : b = a
      · rw [z, unown_same] at hb; exact absurd rfl hb
      · rw [unown_ne z] at hb; exact .inl hb
    · by_cases z : b = a
      · exact .inr (.inl (by rw [z, w]; simp))
      · rw [upd_ne z] at hb; exact .inl hb
  | @dicK _ a ps kvs w h q =>
    cases e
    have gn : G a = none := S.gw _ _ w
    refine ⟨upd G a (.dK ps), unown W a, ⟨fun b u e => ?_, fun b x e => ?_, fun b x e => ?_, fun i o' e => ?_, S.len⟩, ⟨same_upd gn _, fun _ _ _ => rfl, fun _ h => h, fun b hb => ?_, fun b hb => ?_⟩, .dic upd_same q.maps.1 (q.maps.2.mono (same_upd gn _))⟩
    · by_cases z : b = a
      · subst z; rw [upd_same] at e; cases e; exact h
      · rw [upd_ne z] at e; exact S.gh _ _ e
    · by_cases z : b = a
      · rw [z, unown_same] at e; cases e
      · rw [unown_ne z] at e; rw [upd_ne z]; exact S.gw _ _ e
    · by_cases z : b = a
      · rw [z, unown_same] at e; cases e
      · rw [unown_ne z] at e; exact S.hw _ _ e
    · obtain ⟨v', h1, h2⟩ := S.sl i o' e
      refine ⟨v', h1, h2.move (same_upd gn _) fun b x eb => ⟨?_, rfl⟩⟩
      rw [unown_ne (fun z => ?_)]
      · exact eb
      · subst z
        rw [w] at eb
        rcases q0 i x with n | n
        · exact n (by simpa using Option.some.inj eb)
        · rw [n] at e; cases e
    · by_cases z : b = a
      · rw [z, unown_same] at hb; exact absurd rfl hb
      · rw [unown_ne z] at hb; exact .inl hb
    · by_cases z : b = a
      · exact .inr (.inl (by rw [z, w]; simp))
      · rw [upd_ne z] at hb; exact .inl hb
  | dicT => cases e
  | tr => cases e
  | tp => cases e
  | ins => cases e
end
abbrev ExV := Nat → Value
def At (K : PySem.W.Frag) (xv : ExV) (Wx : WX) (τ : LS) (G : Hp) (W : Own?) (H : Hp) {α β : Type} (r : R α) (tr : (β → Hp → Prop) → Prop) (P : Hp → Own? → Hp → α → β → Prop) : Prop :=
  match r with
  | .ok a σ' => ∀ Q, (∀ G' W' H' v, Sim K G' W' H' σ' τ → Ext G W H G' W' H' → P G' W' H' a v → Q v H') → tr Q
  | .exc c σ' => ∀ Q, (∀ G' W' H', Sim K G' W' H' σ' τ → Ext G W H G' W' H' → Wx (xv c) none τ H') → tr Q
  | .bad => True
section
variable {K : PySem.W.Frag} {xv : ExV} {Wx : WX} {τ : LS} {G H : Hp} {W : Own?} {α β γ δ : Type}
theorem At.bind {r : R α} {tr : (β → Hp → Prop) → Prop} {P : Hp → Own? → Hp → α → β → Prop} {g : α → Sg → R γ} {tr2 : β → Hp → (δ → Hp → Prop) → Prop} {P2 : Hp → Own? → Hp → γ → δ → Prop}
    (h : At K xv Wx τ G W H r tr P) (h2 : ∀ a σ' G' W' H' v, Sim K G' W' H' σ' τ → Ext G W H G' W' H' → P G' W' H' a v → At K xv Wx τ G' W' H' (g a σ') (tr2 v H') P2) :
    At K xv Wx τ G W H (r.bind g) (fun Q => tr fun v H' => tr2 v H' Q) P2 := by
  cases r with
  | bad => exact trivial
  | exc c σ' => exact fun Q hx => h _ hx
  | ok a σ' =>
    show At K xv Wx τ G W H (g a σ') _ P2
    cases e : g a σ' with
    | bad => exact trivial
    | exc c σ2 =>
      intro Q hx
      refine h _ fun G' W' H' v S E p => ?_
      have q := h2 a σ' G' W' H' v S E p
      rw [e] at q
      exact q Q fun G2 W2 H2 S2 E2 => hx G2 W2 H2 S2 (E.trans E2)
    | ok b σ2 =>
      intro Q hx
      refine h _ fun G' W' H' v S E p => ?_
      have q := h2 a σ' G' W' H' v S E p
      rw [e] at q
      exact q Q fun G2 W2 H2 v2 S2 E2 p2 => hx G2 W2 H2 v2 S2 (E.trans E2) p2
theorem At.imp {r : R α} {tr : (β → Hp → Prop) → Prop} {P P' : Hp → Own? → Hp → α → β → Prop} (h : At K xv Wx τ G W H r tr P) (h2 : ∀ G' W' H' a v, P G' W' H' a v → P' G' W' H' a v) : At K xv Wx τ G W H r tr P' := by
  cases r with
  | bad => exact trivial
  | exc c σ' => exact h
  | ok a σ' => exact fun Q hx => h Q fun G' W' H' v S E p => hx G' W' H' v S E (h2 _ _ _ _ _ p)
theorem At.here {σ : Sg} {a : α} {v : β} {P : Hp → Own? → Hp → α → β → Prop} (S : Sim K G W H σ τ) (p : P G W H a v) : At K xv Wx τ G W H (.ok a σ) (fun Q => Q v H) P :=
  fun _ hx => hx G W H v S (Ext.refl _ _ _) p
theorem At.grows {σ : Sg} {a : α} {tr : (β → Hp → Prop) → Prop} {P : Hp → Own? → Hp → α → β → Prop} (S : Sim K G W H σ τ) (h : ∀ Q, (∀ G' W' H' v, Grow G W H G' W' H' → P G' W' H' a v → Q v H') → tr Q) : At K xv Wx τ G W H (.ok a σ) tr P :=
  fun Q hx => h Q fun G' W' H' v g p => hx G' W' H' v (S.grow g) g.ext p
end
def Opn (K : PySem.W.Frag) (G : Hp) (τ : LS) (b : Option Nat) (d : Option D) (v : V) : Prop := match b with
  | none => ∃ x, d = some x ∧ Rep K G x v
  | some i => τ[i]? = some (some v)
def Opns (K : PySem.W.Frag) (G : Hp) (τ : LS) : List (Option Nat) → List (Option D) → List V → Prop
  | [], [], [] => True
  | b :: bs, d :: ds, v :: vs => Opn K G τ b d v ∧ Opns K G τ bs ds vs
  | _, _, _ => False
def EndS (K : PySem.W.Frag) (xv : ExV) (Wx : WX) (fx : List Nat) (D : Ends) (G : Hp) (W : Own?) (H : Hp) (τ : LS) (r : R Fl) : Prop := match r with
  | .ok .nx σ' => ∀ G' W' H' τ', Sim K G' W' H' σ' τ' → Ext G W H G' W' H' → (∀ j ∈ fx, τ'[j]? = τ[j]?) → D.nx τ' H'
  | .ok (.ret o) σ' => ∀ G' W' H' τ' v, Sim K G' W' H' σ' τ' → Ext G W H G' W' H' → (∀ j ∈ fx, τ'[j]? = τ[j]?) → Own K G' H' W' [0] o v → D.rt v H'
  | .exc c σ' => ∀ G' W' H' τ', Sim K G' W' H' σ' τ' → Ext G W H G' W' H' → (∀ j ∈ fx, τ'[j]? = τ[j]?) → Wx (xv c) none τ' H'
  | .bad => False
theorem EndS.later {K : PySem.W.Frag} {xv : ExV} {Wx : WX} {fx : List Nat} {D : Ends} {G G1 H H1 : Hp} {W W1 : Own?} {τ τ1 : LS} {r : R Fl} (h : EndS K xv Wx fx D G W H τ r) (e : Ext G W H G1 W1 H1) (f : ∀ j ∈ fx, τ1[j]? = τ[j]?) : EndS K xv Wx fx D G1 W1 H1 τ1 r := by
  cases r with
  | bad => exact h
  | exc c σ' => exact fun G' W' H' τ' S E q => h G' W' H' τ' S (e.trans E) fun j hj => (q j hj).trans (f j hj)
  | ok fl σ' =>
    cases fl with
    | nx => exact fun G' W' H' τ' S E q => h G' W' H' τ' S (e.trans E) fun j hj => (q j hj).trans (f j hj)
    | ret o => exact fun G' W' H' τ' v S E q p => h G' W' H' τ' v S (e.trans E) (fun j hj => (q j hj).trans (f j hj)) p
theorem EndS.of_at {K : PySem.W.Frag} {xv : ExV} {Wx : WX} {fx : List Nat} {D : Ends} {G H : Hp} {W : Own?} {τ : LS} {α β : Type} {r : R α} {tr : (β → Hp → Prop) → Prop} {P : Hp → Own? → Hp → α → β → Prop} {g : α → Sg → R Fl} {Q : β → Hp → Prop}
    (h : At K xv Wx τ G W H r tr P) (e : EndS K xv Wx fx D G W H τ (r.bind g)) (h2 : ∀ a σ' G' W' H' v, r = .ok a σ' → Sim K G' W' H' σ' τ → Ext G W H G' W' H' → P G' W' H' a v → EndS K xv Wx fx D G' W' H' τ (g a σ') → Q v H') : tr Q := by
  cases r with
  | bad => exact e.elim
  | exc c σ' => exact h _ fun G' W' H' S E => e G' W' H' τ S E fun _ _ => rfl
  | ok a σ' => exact h _ fun G' W' H' v S E p => h2 a σ' G' W' H' v rfl S E p (EndS.later (show EndS K xv Wx fx D G W H τ (g a σ') from e) E fun _ _ => rfl)
section
variable (X : Cx) (xv : ExV) (Wx : WX)
def SemE (t : TE) (f : Sg → R O) : Prop := ∀ G W H σ τ, Sim X.K G W H σ τ → At X.K xv Wx τ G W H (f σ) (t τ H) fun G' W' H' o v => Own X.K G' H' W' [0] o v
def SemO (t : TE) (b : Option Nat) (f : Sg → R O) : Prop := ∀ G W H σ τ, Sim X.K G W H σ τ → At X.K xv Wx τ G W H (pre b (f σ) σ) (t τ H) fun G' _ _ d v => Opn X.K G' τ b d v
def SemT (t : TT) (f : Sg → R Bool) : Prop := ∀ G W H σ τ, Sim X.K G W H σ τ → At X.K xv Wx τ G W H (f σ) (t τ H) fun _ _ _ b c => b = c
def SemA (t : TA) (bs : List (Option Nat)) (f : Sg → R (List (Option D))) : Prop := ∀ G W H σ τ, Sim X.K G W H σ τ → At X.K xv Wx τ G W H (f σ) (t τ H) fun G' _ _ ds vs => Opns X.K G' τ bs ds vs
def SemL (t : TA) (f : Sg → R (List D)) : Prop := ∀ G W H σ τ, Sim X.K G W H σ τ → At X.K xv Wx τ G W H (f σ) (t τ H) fun G' _ _ ds vs => Reps X.K G' ds vs
def SemS (fx : List Nat) (t : TS) (f : Sg → R Fl) : Prop := ∀ G W H σ τ D, Sim X.K G W H σ τ → EndS X.K xv Wx fx D G W H τ (f σ) → t D τ H
end
section
variable {X : Cx} {xv : ExV} {Wx : WX} {t ta tb : TE} {f fa fb : Sg → R O} {ba bb : Option Nat}
theorem Opn.mono {K : PySem.W.Frag} {G G' : Hp} {τ : LS} {b : Option Nat} {d : Option D} {v : V} (s : Same G G') (h : Opn K G τ b d v) : Opn K G' τ b d v := by
  cases b with
  | none => obtain ⟨x, e, r⟩ := h; exact ⟨x, e, r.mono s⟩
  | some i => exact h
theorem Opns.mono {K : PySem.W.Frag} {G G' : Hp} {τ : LS} (s : Same G G') : ∀ {bs : List (Option Nat)} {ds : List (Option D)} {vs : List V}, Opns K G τ bs ds vs → Opns K G' τ bs ds vs
  | [], [], [], _ => trivial
  | _ :: _, _ :: _, _ :: _, ⟨h, r⟩ => ⟨h.mono s, Opns.mono s r⟩
  | [], [], _ :: _, h => h
  | [], _ :: _, _, h => h
  | _ :: _, [], _, h => h
  | _ :: _, _ :: _, [], h => h
theorem Opn.fin {K : PySem.W.Frag} {G H : Hp} {W : Own?} {σ : Sg} {τ : LS} {b : Option Nat} {d : Option D} {v : V} {x : D} (S : Sim K G W H σ τ) (h : Opn K G τ b d v) (e : fin b d σ = some x) : RepH K G H x v := by
  cases b with
  | none =>
    obtain ⟨y, e', r⟩ := h
    have : d = some x := e
    rw [e'] at this
    cases this
    exact r.toH S.gh
  | some i =>
    have e1 : (getO σ i).bind O.toD = some x := e
    obtain ⟨o, eo, ed⟩ := Option.bind_eq_some_iff.mp e1
    obtain ⟨v', h1, h2⟩ := S.sl i o eo
    have h' : τ[i]? = some (some v) := h
    rw [h1] at h'
    cases h'
    exact h2.toH S.gh ed
theorem Opns.fin {K : PySem.W.Frag} {G H : Hp} {W : Own?} {σ : Sg} {τ : LS} (S : Sim K G W H σ τ) : ∀ {bs : List (Option Nat)} {ds : List (Option D)} {vs : List V} {xs : List D}, Opns K G τ bs ds vs → fins bs ds σ = some xs → Paired (RepH K G H) xs vs
  | [], [], [], xs, _, e => by cases e; exact .nil
  | b :: bs, d :: ds, v :: vs, xs, ⟨h, r⟩, e => by
    unfold fins at e
    split at e
    · rename_i x ys e1 e2
      cases e
      exact .cons (h.fin S e1) (Opns.fin S r e2)
    · cases e
  | [], [], _ :: _, _, h, _ => h.elim
  | [], _ :: _, _, _, h, _ => h.elim
  | _ :: _, [], _, _, h, _ => h.elim
  | _ :: _, _ :: _, [], _, h, _ => h.elim
theorem SemE.opd (h : SemE X xv Wx t f) : SemO X xv Wx t none f := by
  intro G W H σ τ S
  refine At.bind (tr2 := fun v H' Q => Q v H') (h G W H σ τ S) fun o σ' G' W' H' v S' E' p => ?_
  show At X.K xv Wx τ G' W' H' (match o.toD with | some d => R.ok (some d) σ' | none => R.bad) _ _
  cases e : o.toD with
  | none => exact trivial
  | some d =>
    intro Q hx
    obtain ⟨G2, W2, S2, E2, r⟩ := p.freeze S' (fun i q => .inl (by intro z; cases z)) e
    exact hx G2 W2 H' v S2 E2 ⟨d, rfl, r⟩
theorem SemO.var {i : Nat} : SemO X xv Wx (tVar i) (some i) f := by
  intro G W H σ τ S
  show At X.K xv Wx τ G W H (match getO σ i with | some _ => R.ok none σ | none => R.bad) _ _
  cases e : getO σ i with
  | none => exact trivial
  | some o =>
    intro Q hx
    obtain ⟨v, h1, h2⟩ := S.sl i o e
    exact ⟨v, h1, hx G W H v S (Ext.refl _ _ _) h1⟩
end
end PV
set_option maxRecDepth 100000
set_option maxHeartbeats 4000000
namespace L2
open PySem PySem.Spec PyProof.Rows
theorem lexAt_shift (e r : Nat → Bool) (z : Bool) : ∀ (k i : Nat), Ob.lexAt e r z (i + 1) k = Ob.lexAt (fun j => e (j + 1)) (fun j => r (j + 1)) z i k
  | 0, i => rfl
  | k + 1, i => by
    rw [Ob.lexAt_succ, Ob.lexAt_succ, lexAt_shift e r z k (i + 1)]
theorem lexAt_ge : ∀ ns ms : List Int, Ob.lexAt (fun j => decide (ns.getD j 0 = ms.getD j 0)) (fun j => decide (ms.getD j 0 ≤ ns.getD j 0)) (decide (ns.length ≥ ms.length)) 0 (min ns.length ms.length) = !HT.lexLt ns ms
  | [], [] => rfl
  | [], _ :: _ => by simp [Ob.lexAt_zero, HT.lexLt]
  | _ :: _, [] => by simp [Ob.lexAt_zero, HT.lexLt]
  | x :: xs, y :: ys => by
    have ih := lexAt_ge xs ys
    have em : min (x :: xs).length (y :: ys).length = min xs.length ys.length + 1 := by simp only [List.length_cons]; omega
    have ez : decide ((x :: xs).length ≥ (y :: ys).length) = decide (xs.length ≥ ys.length) := by
      rw [decide_eq_decide]; simp only [List.length_cons]; omega
    rw [em, ez, Ob.lexAt_succ, lexAt_shift]
    show (if decide (x = y) = true then Ob.lexAt (fun j => decide (xs.getD j 0 = ys.getD j 0)) (fun j => decide (ys.getD j 0 ≤ xs.getD j 0)) (decide (xs.length ≥ ys.length)) 0 (min xs.length ys.length) else decide (y ≤ x)) = _
    rw [ih, HT.lexLt_cons]
    by_cases c : x = y
    · rw [if_pos (decide_eq_true c), if_pos c]
    · rw [if_neg (by simpa using c), if_neg c]
      by_cases d : y ≤ x
      · rw [decide_eq_true d, decide_eq_false (by omega)]; rfl
      · rw [decide_eq_false d, decide_eq_true (by omega)]; rfl
def rGeT (K : PySem.W.Frag) : R2 := fun x y H Q => ∃ (a b : Addr) (ns ms : List Int), x = .ref a ∧ y = .ref b ∧ SqT K H a (ns.map V.int) ∧ SqT K H b (ms.map V.int) ∧ Q (.bl (!HT.lexLt ns ms)) H
theorem op_geT {X : Cx} (hu : X.A.units < cLine) : OpR X (compareOp .GtE) (rGeT X.K) := by
  intro pins s σ H x y v u Q I rx ry h
  obtain ⟨a, b, ns, ms, rfl, rfl, ha, hb, q⟩ := h
  cases rx
  cases ry
  obtain ⟨its, r1, p1, _⟩ := I.tuple ha
  obtain ⟨its2, r2, p2, _⟩ := I.tuple hb
  have i1 : IntsAre its ns := Vals.ints r1
  have i2 : IntsAre its2 ms := Vals.ints r2
  have e1 : its.toArray.size = ns.length := by rw [List.size_toArray]; exact i1.length
  have e2 : its2.toArray.size = ms.length := by rw [List.size_toArray]; exact i2.length
  have at1 : ∀ j (h1 : j < its.toArray.size), ∃ t, its.toArray[j] = .int (ns.getD j 0) t := fun j h1 => PyProof.Rows.IntsAre.int_at i1 _ _ (by simp at h1; simp [h1])
  have at2 : ∀ j (h1 : j < its2.toArray.size), ∃ t, its2.toArray[j] = .int (ms.getD j 0) t := fun j h1 => PyProof.Rows.IntsAre.int_at i2 _ _ (by simp at h1; simp [h1])
  have R := Ob.RcOp.tuples_ge (A := X.A) (s := s) (e := fun j => decide (ns.getD j 0 = ms.getD j 0)) (r := fun j => decide (ms.getD j 0 ≤ ns.getD j 0)) p1 p2 hu (fun j h1 h2 => by
    obtain ⟨t, et⟩ := at1 j h1
    obtain ⟨t', et'⟩ := at2 j h2
    rw [et, et']
    have z : (ns.getD j 0 == ms.getD j 0) = decide (ns.getD j 0 = ms.getD j 0) := by
      by_cases q : ns.getD j 0 = ms.getD j 0
      · rw [decide_eq_true q]; exact beq_iff_eq.mpr q
      · rw [decide_eq_false q]; exact beq_eq_false_iff_ne.mpr q
    rw [← z]
    exact SeqAt.EqAt.int_int _ _ _ _) (fun j h1 h2 _ => by
    obtain ⟨t, et⟩ := at1 j h1
    obtain ⟨t', et'⟩ := at2 j h2
    rw [et, et']
    exact Ob.RcOp.ge_int _ _ _ _)
  rw [e1, e2, lexAt_ge] at R
  have z : wpAny (model X.prog X.w) X.A (compareOp .GtE (.ref a) (.ref b)) (EP X pins σ Q) X.xe s := R X.prog X.w X.xe (EP X pins σ Q) ⟨.bl _, H, I, rfl, q⟩
  exact z
theorem lexAt_le : ∀ ns ms : List Int, Ob.lexAt (fun j => decide (ns.getD j 0 = ms.getD j 0)) (fun j => decide (ns.getD j 0 ≤ ms.getD j 0)) (decide (ns.length ≤ ms.length)) 0 (min ns.length ms.length) = !HT.lexLt ms ns
  | [], [] => rfl
  | [], _ :: _ => by simp [Ob.lexAt_zero, HT.lexLt]
  | _ :: _, [] => by simp [Ob.lexAt_zero, HT.lexLt]
  | x :: xs, y :: ys => by
    have ih := lexAt_le xs ys
    have em : min (x :: xs).length (y :: ys).length = min xs.length ys.length + 1 := by simp only [List.length_cons]; omega
    have ez : decide ((x :: xs).length ≤ (y :: ys).length) = decide (xs.length ≤ ys.length) := by
      rw [decide_eq_decide]; simp only [List.length_cons]; omega
    rw [em, ez, Ob.lexAt_succ, lexAt_shift]
    show (if decide (x = y) = true then Ob.lexAt (fun j => decide (xs.getD j 0 = ys.getD j 0)) (fun j => decide (xs.getD j 0 ≤ ys.getD j 0)) (decide (xs.length ≤ ys.length)) 0 (min xs.length ys.length) else decide (x ≤ y)) = _
    rw [ih, HT.lexLt_cons]
    by_cases c : x = y
    · rw [if_pos (decide_eq_true c), if_pos c.symm]
    · rw [if_neg (by simpa using c), if_neg (fun z => c z.symm)]
      by_cases d : x ≤ y
      · rw [decide_eq_true d, decide_eq_false (by omega)]; rfl
      · rw [decide_eq_false d, decide_eq_true (by omega)]; rfl
def rLeTT (K : PySem.W.Frag) : R2 := fun x y H Q => ∃ (a b : Addr) (ns ms : List Int), x = .ref a ∧ y = .ref b ∧ SqT K H a (ns.map V.int) ∧ SqT K H b (ms.map V.int) ∧ Q (.bl (!HT.lexLt ms ns)) H
theorem op_leTT {X : Cx} (hu : X.A.units < cLine) : OpR X (compareOp .LtE) (rLeTT X.K) := by
  intro pins s σ H x y v u Q I rx ry h
  obtain ⟨a, b, ns, ms, rfl, rfl, ha, hb, q⟩ := h
  exact op_leT hu pins s σ H _ _ v u Q I rx ry ⟨a, b, ns, ms, rfl, rfl, ha, hb, by rw [lexAt_le]; exact q⟩
end L2
set_option maxRecDepth 100000
namespace PV
open PySem PySem.Spec PyProof.Rows L2
theorem szl : sizeLine = 16777216 := by decide
section
variable {K : PySem.W.Frag} {G H : Hp} {W : Own?} {σ : Sg} {τ : LS}
def OpS (K : PySem.W.Frag) (r : R2) (f : D → D → Option O) : Prop := ∀ (G : Hp) (W : Own?) (H : Hp) (σ : Sg) (τ : LS) (x y : D) (vx vy : V) (o : O) (Q : VK), Sim K G W H σ τ → RepH K G H x vx → RepH K G H y vy → f x y = some o →
  (∀ G' W' H' v, Grow G W H G' W' H' → Own K G' H' W' [0] o v → Q v H') → r vx vy H Q
def OpB (K : PySem.W.Frag) (r : R2) (f : D → D → Option Bool) : Prop := ∀ (G : Hp) (W : Own?) (H : Hp) (σ : Sg) (τ : LS) (x y : D) (vx vy : V) (b : Bool) (Q : VK), Sim K G W H σ τ → RepH K G H x vx → RepH K G H y vy → f x y = some b → Q (.bl b) H → r vx vy H Q
def Op1 (K : PySem.W.Frag) (r : V → Hp → VK → Prop) (f : D → Option O) : Prop := ∀ (G : Hp) (W : Own?) (H : Hp) (σ : Sg) (τ : LS) (x : D) (vx : V) (o : O) (Q : VK), Sim K G W H σ τ → RepH K G H x vx → f x = some o →
  (∀ G' W' H' v, Grow G W H G' W' H' → Own K G' H' W' [0] o v → Q v H') → r vx H Q
def orR (r s : R2) : R2 := fun x y H Q => r x y H Q ∨ s x y H Q
theorem OpR.orR {X : Cx} {f : Value → Value → Sem Value} {r s : R2} (h : OpR X f r) (h' : OpR X f s) : OpR X f (PV.orR r s) := by
  intro pins st σ H x y v u Q I rx ry q
  rcases q with q | q
  · exact h pins st σ H x y v u Q I rx ry q
  · exact h' pins st σ H x y v u Q I rx ry q
theorem RepH.int {i : Int} {v : V} (h : RepH K G H (.int i) v) : v = .int i := by cases (show Rep K G (.int i) v from h); rfl
theorem RepH.bl {i : Bool} {v : V} (h : RepH K G H (.bl i) v) : v = .bl i := by cases (show Rep K G (.bl i) v from h); rfl
theorem RepH.str {x : Tx} {v : V} (h : RepH K G H (.str x) v) : v = .str (sOf x) := by cases (show Rep K G (.str x) v from h); rfl
theorem RepH.non {v : V} (h : RepH K G H .non v) : v = .non := by cases (show Rep K G .non v from h); rfl
theorem RepH.tup {xs : List D} {v : V} (s : Same G H) (h : RepH K G H (.tup xs) v) : ∃ a vs, v = .ref a ∧ SqT K H a vs ∧ Reps K G xs vs := by
  cases (show Rep K G (.tup xs) v from h) with
  | tup q r => exact ⟨_, _, rfl, .of (s _ _ q), r⟩
theorem RepH.lst {xs : List D} {v : V} (h : RepH K G H (.lst xs) v) : ∃ a vs, v = .ref a ∧ SqL K H a vs ∧ Reps K G xs vs := h
theorem RepH.dic {kvs : List (D × D)} {v : V} (h : RepH K G H (.dic kvs) v) : ∃ a ps, v = .ref a ∧ H a = some (.dK ps) ∧ RepsD K G keyOf kvs ps := h
theorem sOf_len (x : Tx) : (sOf x).length = x.length := by
  show x.toArray.size = x.length
  simp
theorem sOf_app (x y : Tx) : sOf x ++ sOf y = sOf (x ++ y) := by
  show (⟨x.toArray ++ y.toArray⟩ : Str) = ⟨(x ++ y).toArray⟩
  simp
theorem sOf_tl (x : Tx) : (sOf x).cps.toList = x := by
  show x.toArray.toList = x
  simp
theorem sOf_inj {x y : Tx} (h : sOf x = sOf y) : x = y := by rw [← sOf_tl x, h, sOf_tl]
theorem toSOf (z : Str) : z = sOf z.cps.toList := by
  cases z with
  | mk c => show (⟨c⟩ : Str) = ⟨c.toList.toArray⟩; simp
theorem new_lst (S : Sim K G W H σ τ) {xs : List D} {vs : List V} (r : Reps K G xs vs) {Q : VK} (h : ∀ G' W' H' v, Grow G W H G' W' H' → Own K G' H' W' [0] (.lst xs) v → Q v H') :
    ∀ p, H p = none → Q (.ref p) (upd H p (.lst vs)) := fun p hp => h G (own W p [0]) (upd H p (.lst vs)) (.ref p) (Grow.hand S hp _) (.lst own_same upd_same r)
theorem new_tup (S : Sim K G W H σ τ) {xs : List D} {vs : List V} (r : Reps K G xs vs) {Q : VK} (h : ∀ G' W' H' v, Grow G W H G' W' H' → Own K G' H' W' [0] (.val (.tup xs)) v → Q v H') :
    ∀ p, H p = none → Q (.ref p) (upd H p (.tup vs)) := fun p hp => h (upd G p (.tup vs)) W (upd H p (.tup vs)) (.ref p) (Grow.froz S hp _) (.val (.tup upd_same (r.mono (same_upd (S.gh.free hp) _))))
theorem same_val (S : Sim K G W H σ τ) {d : D} {v : V} (r : Rep K G d v) {Q : VK} (h : ∀ G' W' H' v, Grow G W H G' W' H' → Own K G' H' W' [0] (.val d) v → Q v H') : Q v H := h G W H v (Grow.refl S) (.val r)
def rAddS : R2 := fun x y H Q => ∃ i j, x = .str i ∧ y = .str j ∧ i.length + j.length ≤ sizeLine ∧ Q (.str (i ++ j)) H
def rCatL (K : PySem.W.Frag) : R2 := fun x y H Q => ∃ l b xs zs, x = .ref l ∧ y = .ref b ∧ SqL K H l xs ∧ SqL K H b zs ∧ xs.length + zs.length ≤ sizeLine ∧ ∀ p, H p = none → Q (.ref p) (upd H p (.lst (xs ++ zs)))
theorem op_catL {X : Cx} : OpR X (binaryOp .Add) (rCatL X.K) := by
  intro pins s σ H x y v u Q I rx ry h
  obtain ⟨l, b, xs, zs, rfl, rfl, hH, hB, hz, q⟩ := h
  cases rx
  cases ry
  obtain ⟨its, r, ⟨⟨cls, dd, data, sl⟩, n, e, hc, _, hd⟩, _⟩ := I.list hH
  obtain ⟨its2, r2, ⟨⟨cls2, dd2, data2, sl2⟩, n2, e2, hc2, _, hd2⟩, _⟩ := I.list hB
  simp only at hc hd hc2 hd2
  subst hc hd hc2 hd2
  have h1 := r.length
  have h2 := r2.length
  have ea : its.toArray ++ its2.toArray = (its ++ its2).toArray := by simp
  refine concat_meets ⟨_, e, rfl⟩ ⟨_, e2, rfl⟩ noFill_list_add seq_list_add PySem.F.slot_list_add PySem.F.entry_list_add (PySem.F.args_list_add_2 _ _) (list_addW l b its.toArray its2.toArray n n2 dd dd2 sl sl2 (by simp; omega)) ⟨e, e2, ?_⟩
  rw [ea]
  exact ⟨.ref _, _, I.lnew (t' := s.toks) (r.append r2) (by rw [List.length_append]; omega), rfl, q _ I.fresh⟩
def rAdd (K : PySem.W.Frag) : R2 := orR (rI0 fun i j => .int (i + j)) (orR rAddS (orR (rCatL K) (rCatA K)))
theorem op_addR {X : Cx} : OpR X (binaryOp .Add) (rAdd X.K) := OpR.orR op_add (OpR.orR op_add_str (OpR.orR op_catL op_catA))
theorem ops_add : OpS K (rAdd K) (binD .add) := by
  intro G W H σ τ x y vx vy o Q S rx ry e h
  cases x <;> cases y <;> try (cases e; done)
  case int.int i j =>
    cases rx.int; cases ry.int; cases e
    exact .inl ⟨i, j, rfl, rfl, same_val S (.int _) h⟩
  case str.str i j =>
    cases rx.str; cases ry.str
    simp only [binD] at e
    split at e
    · rename_i hz
      cases e
      refine .inr (.inl ⟨_, _, rfl, rfl, by rw [sOf_len, sOf_len, szl]; exact hz, ?_⟩)
      rw [sOf_app]
      exact same_val S (.str _) h
    · cases e
  case lst.lst i j =>
    obtain ⟨a, vs, rfl, ha, ra⟩ := rx.lst
    obtain ⟨b, ws, rfl, hb, rb⟩ := ry.lst
    simp only [binD] at e
    split at e
    · rename_i hz
      cases e
      exact .inr (.inr (.inl ⟨_, _, _, _, rfl, rfl, ha, hb, by rw [← ra.len, ← rb.len, szl]; exact hz, new_lst S (ra.app rb) h⟩))
    · cases e
  case tup.tup i j =>
    obtain ⟨a, vs, rfl, ha, ra⟩ := rx.tup S.gh
    obtain ⟨b, ws, rfl, hb, rb⟩ := ry.tup S.gh
    simp only [binD] at e
    split at e
    · rename_i hz
      cases e
      refine .inr (.inr (.inr ⟨_, _, _, _, rfl, rfl, ha, hb, by rw [← ra.len, ← rb.len, szl]; exact hz, fun z => ?_, fun _ z => ?_, fun _ _ => new_tup S (ra.app rb) h⟩))
      · subst z
        cases ra
        exact same_val S (by cases ry with | tup p q => exact .tup p q) h
      · subst z
        cases rb
        rw [List.append_nil] at h
        exact same_val S (by cases rx with | tup p q => exact .tup p q) h
    · cases e
theorem ops_int {C : Int → Int → Prop} {g : Int → Int → Int} {f : D → D → Option O} (hf : ∀ x y o, f x y = some o → ∃ i j, x = .int i ∧ y = .int j ∧ C i j ∧ o = .val (.int (g i j))) : OpS K (rI C fun i j => .int (g i j)) f := by
  intro G W H σ τ x y vx vy o Q S rx ry e h
  obtain ⟨i, j, rfl, rfl, c, rfl⟩ := hf x y o e
  cases rx.int; cases ry.int
  exact ⟨i, j, rfl, rfl, c, same_val S (.int _) h⟩
theorem ops_sub : OpS K (rI0 fun i j => .int (i - j)) (binD .sub) := by
  intro G W H σ τ x y vx vy o Q S rx ry e h
  cases x <;> cases y <;> try (cases e; done)
  cases rx.int; cases ry.int; cases e
  exact ⟨_, _, rfl, rfl, same_val S (.int _) h⟩
theorem ops_xor : OpS K (rI0 fun i j => .int (Builtin.bitXor i j)) (binD .xor) := by
  intro G W H σ τ x y vx vy o Q S rx ry e h
  cases x <;> cases y <;> try (cases e; done)
  cases rx.int; cases ry.int; cases e
  exact ⟨_, _, rfl, rfl, same_val S (.int _) h⟩
theorem ops_mul : OpS K (rI CMul fun i j => .int (i * j)) (binD .mul) := ops_int fun x y o e => by
  cases x <;> cases y <;> try (cases e; done)
  simp only [binD] at e
  split at e
  · rename_i c; cases e; exact ⟨_, _, rfl, rfl, (by unfold CMul; omega), rfl⟩
  · cases e
theorem ops_mod : OpS K (rI (fun _ j => 0 < j) fun i j => .int (i % j)) (binD .mod) := ops_int fun x y o e => by
  cases x <;> cases y <;> try (cases e; done)
  simp only [binD] at e
  split at e
  · rename_i c; cases e; exact ⟨_, _, rfl, rfl, c, rfl⟩
  · cases e
theorem ops_div : OpS K (rI CDiv fun i j => .int (i / j)) (binD .div) := ops_int fun x y o e => by
  cases x <;> cases y <;> try (cases e; done)
  simp only [binD] at e
  split at e
  · rename_i c; cases e; exact ⟨_, _, rfl, rfl, (by unfold CDiv; omega), rfl⟩
  · cases e
theorem ops_pow : OpS K (rI CPow fun i j => .int (i ^ j.toNat)) (binD .pow) := ops_int fun x y o e => by
  cases x <;> cases y <;> try (cases e; done)
  simp only [binD] at e
  split at e
  · rename_i c; cases e; exact ⟨_, _, rfl, rfl, (by unfold CPow; omega), rfl⟩
  · cases e
theorem at_get {α : Type} {xs : List α} {i : Int} {x : α} (h : atI xs i = some x) : ∃ j, L2.ixN xs.length i = some j ∧ xs[j]? = some x := Option.bind_eq_some_iff.mp h
theorem at_rep {xs : List D} {vs : List V} {i : Int} {x : D} (r : Reps K G xs vs) (h : atI xs i = some x) : ∃ v, atI vs i = some v ∧ Rep K G x v := by
  obtain ⟨j, h1, h2⟩ := at_get h
  obtain ⟨v, h3, h4⟩ := r.get h2
  refine ⟨v, ?_, h4⟩
  show (L2.ixN vs.length i).bind _ = some v
  rw [← r.len, h1]
  exact h3
theorem ops_ix0 : OpS K (rIx K) (fun a b => (ixD0 a b).map .val) := by
  intro G W H σ τ x y vx vy o Q S rx ry e h
  cases x <;> cases y <;> try (cases e; done)
  case lst.int xs i =>
    obtain ⟨a, vs, rfl, ha, ra⟩ := rx.lst
    cases ry.int
    obtain ⟨d, e1, rfl⟩ := Option.map_eq_some_iff.mp e
    obtain ⟨v, h1, h2⟩ := at_rep ra e1
    exact .inl ⟨_, _, _, _, rfl, rfl, ha, h1, same_val S h2 h⟩
  case tup.int xs i =>
    obtain ⟨a, vs, rfl, ha, ra⟩ := rx.tup S.gh
    cases ry.int
    obtain ⟨d, e1, rfl⟩ := Option.map_eq_some_iff.mp e
    obtain ⟨v, h1, h2⟩ := at_rep ra e1
    exact .inr (.inl ⟨_, _, _, _, rfl, rfl, ha, h1, same_val S h2 h⟩)
  case str.int xs i =>
    cases rx.str
    cases ry.int
    obtain ⟨d, e1, rfl⟩ := Option.map_eq_some_iff.mp e
    simp only [ixD0] at e1
    split at e1
    · rename_i hz
      obtain ⟨c, h1, rfl⟩ := Option.map_eq_some_iff.mp e1
      exact .inr (.inr ⟨_, _, c, rfl, rfl, by rw [sOf_len, szl]; exact hz, by rw [sOf_tl]; exact h1, same_val S (.str [c]) h⟩)
    · cases e1
def SlS (K : PySem.W.Frag) (r : V → Option Int → Option Int → Hp → VK → Prop) (f : D → Option Int → Option Int → Option O) : Prop := ∀ (G : Hp) (W : Own?) (H : Hp) (σ : Sg) (τ : LS) (x : D) (vx : V) (lo hi : Option Int) (o : O) (Q : VK), Sim K G W H σ τ → RepH K G H x vx → f x lo hi = some o →
  (∀ G' W' H' v, Grow G W H G' W' H' → Own K G' H' W' [0] o v → Q v H') → r vx lo hi H Q
def rSl (K : PySem.W.Frag) : V → Option Int → Option Int → Hp → VK → Prop := fun x lo hi H Q => rSlL K x lo hi H Q ∨ (rSlA K x lo hi H Q ∨ rSlS x lo hi H Q)
theorem sl_R {X : Cx} : SlR X (rSl X.K) := SlR.or sl_list (SlR.or sl_tupA sl_str)
theorem cut_rep {xs : List D} {vs : List V} {lo hi : Option Int} (r : Reps K G xs vs) : Reps K G (cut xs lo hi) (cutV vs lo hi) := by
  unfold cut cutV
  rw [r.len]
  exact (r.drop _).take _
theorem cut_whole {xs : List D} {lo hi : Option Int} (h : HT.sIx xs.length 0 lo = 0 ∧ HT.sIx xs.length xs.length hi = xs.length) : cut xs lo hi = xs := by
  unfold cut
  rw [h.1, h.2]
  simp
theorem sls : SlS K (rSl K) slD := by
  intro G W H σ τ x vx lo hi o Q S rx e h
  cases x <;> try (cases e; done)
  case lst xs =>
    obtain ⟨a, vs, rfl, ha, ra⟩ := rx.lst
    cases e
    exact .inl ⟨_, _, rfl, ha, new_lst S (cut_rep ra) h⟩
  case tup xs =>
    obtain ⟨a, vs, rfl, ha, ra⟩ := rx.tup S.gh
    cases e
    refine .inr (.inl ⟨_, _, rfl, ha, fun hn => ?_, fun _ => new_tup S (cut_rep ra) h⟩)
    rw [← ra.len] at hn
    rw [cut_whole hn] at h
    exact same_val S (by cases rx with | tup p q => exact .tup p q) h
  case str xs =>
    cases rx.str
    simp only [slD] at e
    split at e
    · rename_i hz
      cases e
      refine .inr (.inr ⟨_, rfl, by rw [sOf_len, szl]; exact hz, ?_⟩)
      have q : cutS (sOf xs) lo hi = sOf (cut xs lo hi) := by
        unfold cutS cut
        rw [sOf_tl, sOf_len]
        rfl
      rw [q]
      exact same_val S (.str _) h
    · cases e
mutual
def toPy : D → PyData
  | .non => .none
  | .bl b => .bool b
  | .int i => .int i
  | .str x => .str (sOf x)
  | .tup xs => .tuple (toPys xs)
  | .lst xs => .list (toPys xs)
  | .dic _ => .dict []
def toPys : List D → List PyData
  | [] => []
  | x :: xs => toPy x :: toPys xs
end
mutual
theorem Rep.dp : ∀ {d : D} {v : V}, Rep K G d v → d.lay = true → Dp K G v (toPy d)
  | _, _, .non, _ => .non
  | _, _, .bl b, _ => .bl b
  | _, _, .int i, _ => .int i
  | _, _, .str x, _ => .str _
  | _, _, .tup h r, l => .tup (.of h) (Reps.dp r l)
  | _, _, .lst h r, l => .lst h (Reps.dp r l)
  | _, _, .dic _ _ _, l => by cases l
theorem Reps.dp : ∀ {d : List D} {v : List V}, Reps K G d v → D.lays d = true → DpAll K G v (toPys d)
  | _, _, .nil, _ => .nil
  | _, _, .cons h r, l => by
    have l' := Bool.and_eq_true_iff.mp (show (D.lay _ && D.lays _) = true from l)
    exact .cons (Rep.dp h l'.1) (Reps.dp r l'.2)
end
mutual
theorem Dp.same {H' : Hp} (s : Same H H') : ∀ {v : V} {d : PyData}, Dp K H v d → Dp K H' v d
  | _, _, .non => .non
  | _, _, .bl b => .bl b
  | _, _, .int i => .int i
  | _, _, .str x => .str _
  | _, _, .tup h r => .tup (seqT s h) (DpAll.same s r)
  | _, _, .lst h r => .lst (s.seq h) (DpAll.same s r)
theorem DpAll.same {H' : Hp} (s : Same H H') : ∀ {v : List V} {d : List PyData}, DpAll K H v d → DpAll K H' v d
  | _, _, .nil => .nil
  | _, _, .cons h r => .cons (Dp.same s h) (DpAll.same s r)
end
theorem RepH.dp' (s : Same G H) {d : D} {v : V} (r : RepH K G H d v) (l : d.lay = true) : Dp K H v (toPy d) := by
  cases d with
  | lst xs =>
    obtain ⟨a, vs, rfl, ha, ra⟩ := r.lst
    exact .lst ha (DpAll.same s (ra.dp l))
  | dic kvs => cases l
  | _ => exact Dp.same s (Rep.dp (show Rep K G _ v from r) l)
theorem shp_lay {d : D} (h : d.shp = true) : d.lay = true := (Bool.and_eq_true_iff.mp h).1
theorem RepH.dp (s : Same G H) {d : D} {v : V} (r : RepH K G H d v) (h : d.shp = true) : Dp K H v (toPy d) := r.dp' s (shp_lay h)
theorem str_eqv (x y : Tx) : (sOf x == sOf y) = (x == y) := by
  by_cases h : x = y
  · subst h; simp
  · have h2 : sOf x ≠ sOf y := fun z => h (sOf_inj z)
    rw [beq_eq_false_iff_ne.mpr h, beq_eq_false_iff_ne.mpr h2]
mutual
theorem eqv_toPy : ∀ (a b : D), PyData.eqv (toPy a) (toPy b) = D.eq a b
  | .non, b => by cases b <;> simp [toPy, PyData.eqv, D.eq]
  | .bl _, b => by cases b <;> simp [toPy, PyData.eqv, D.eq]
  | .int _, b => by cases b <;> simp [toPy, PyData.eqv, D.eq]
  | .str x, b => by cases b <;> simp [toPy, PyData.eqv, D.eq, str_eqv]
  | .tup xs, b => by cases b <;> simp [toPy, PyData.eqv, D.eq, eqv_toPys]
  | .lst xs, b => by cases b <;> simp [toPy, PyData.eqv, D.eq, eqv_toPys]
  | .dic _, b => by cases b <;> simp [toPy, PyData.eqv, D.eq]
theorem eqv_toPys : ∀ (a b : List D), PyData.eqvAll (toPys a) (toPys b) = D.eqs a b
  | [], [] => by simp [toPys, PyData.eqvAll, D.eqs]
  | [], _ :: _ => by simp [toPys, PyData.eqvAll, D.eqs]
  | _ :: _, [] => by simp [toPys, PyData.eqvAll, D.eqs]
  | x :: xs, y :: ys => by simp [toPys, PyData.eqvAll, D.eqs, eqv_toPy x y, eqv_toPys xs ys]
end
mutual
theorem lay_toPy : ∀ (a : D), (toPy a).canLay0 = a.lay
  | .non => by simp [toPy, PyData.canLay0, D.lay]
  | .bl _ => by simp [toPy, PyData.canLay0, D.lay]
  | .int _ => by simp [toPy, PyData.canLay0, D.lay]
  | .str x => by simp [toPy, PyData.canLay0, D.lay, PyData.strOk, sOf]
  | .tup xs => by simp [toPy, PyData.canLay0, D.lay, lay_toPys xs]
  | .lst xs => by simp [toPy, PyData.canLay0, D.lay, lay_toPys xs]
  | .dic _ => by simp [toPy, PyData.canLay0, D.lay]
theorem lay_toPys : ∀ (a : List D), PyData.canLayAll0 (toPys a) = D.lays a
  | [] => by simp [toPys, PyData.canLayAll0, D.lays]
  | x :: xs => by simp [toPys, PyData.canLayAll0, D.lays, lay_toPy x, lay_toPys xs]
end
mutual
theorem dep_toPy : ∀ (a : D), a.lay = true → (toPy a).depth = a.dep
  | .non, _ => by simp [toPy, PyData.depth, D.dep]
  | .bl _, _ => by simp [toPy, PyData.depth, D.dep]
  | .int _, _ => by simp [toPy, PyData.depth, D.dep]
  | .str x, _ => by simp [toPy, PyData.depth, D.dep]
  | .tup xs, h => by simp [toPy, PyData.depth, D.dep, dep_toPys xs (by simpa [D.lay] using h)]
  | .lst xs, h => by simp [toPy, PyData.depth, D.dep, dep_toPys xs (by simpa [D.lay] using h)]
  | .dic _, h => by simp [D.lay] at h
theorem dep_toPys : ∀ (a : List D), D.lays a = true → PyData.depthAll (toPys a) = D.deps a
  | [], _ => by simp [toPys, PyData.depthAll, D.deps]
  | x :: xs, h => by
    simp only [D.lays, Bool.and_eq_true] at h
    simp [toPys, PyData.depthAll, D.deps, dep_toPy x h.1, dep_toPys xs h.2]
end
theorem shp_toPy {d : D} (h : d.shp = true) : SeqAt.shaped (toPy d) = true := by
  unfold D.shp at h
  rw [Bool.and_eq_true, decide_eq_true_eq] at h
  show ((toPy d).canLay0 && decide ((toPy d).depth ≤ 64)) = true
  rw [lay_toPy, dep_toPy d h.1, h.1]
  simpa using h.2
def rEqA (K : PySem.W.Frag) : R2 := orR rEq (rEqD K)
def rNeA (K : PySem.W.Frag) : R2 := orR rNe (rNeD K)
theorem dec_sOf (x y : Tx) : decide (V.str (sOf x) = V.str (sOf y)) = (x == y) := by
  by_cases h : x = y
  · subst h; simp
  · rw [beq_eq_false_iff_ne.mpr h]
    exact decide_eq_false fun z => h (sOf_inj (V.str.inj z))
theorem scal_eq {x y : D} {vx vy : V} (hx : x.scal = true) (hy : y.scal = true) (rx : RepH K G H x vx) (ry : RepH K G H y vy) : (scal vx vy = true ∧ decide (vx = vy) = D.eq x y) ∨ (x.shp = true ∧ y.shp = true) := by
  cases x <;> try (cases hx; done)
  all_goals (cases y <;> try (cases hy; done))
  all_goals (first | (cases rx.non) | (cases rx.bl) | (cases rx.int) | (cases rx.str))
  all_goals (first | (cases ry.non) | (cases ry.bl) | (cases ry.int) | (cases ry.str))
  all_goals first
    | exact .inr ⟨rfl, rfl⟩
    | exact .inl ⟨rfl, (dec_sOf _ _).trans (by simp [D.eq]; done)⟩
    | exact .inl ⟨rfl, by simp [D.eq]; done⟩
    | (refine .inl ⟨rfl, ?_⟩
       simp [D.eq, Bool.beq_eq_decide_eq])
theorem ops_eq : OpB K (rEqA K) eqD := by
  intro G W H σ τ x y vx vy b Q S rx ry e h
  unfold eqD at e
  split at e
  · rename_i c
    cases e
    have deep : x.shp = true ∧ y.shp = true → rEqA K vx vy H Q := fun ⟨h1, h2⟩ => .inr ⟨_, _, rx.dp S.gh h1, ry.dp S.gh h2, shp_toPy h1, shp_toPy h2, by rw [eqv_toPy]; exact h⟩
    rw [Bool.or_eq_true, Bool.and_eq_true, Bool.and_eq_true] at c
    rcases c with ⟨c1, c2⟩ | c
    · rcases scal_eq c1 c2 rx ry with ⟨q1, q2⟩ | q
      · exact .inl ⟨q1, by rw [q2]; exact h⟩
      · exact deep q
    · exact deep c
  · cases e
theorem ops_ne : OpB K (rNeA K) (fun a b => (eqD a b).map (!·)) := by
  intro G W H σ τ x y vx vy b Q S rx ry e h
  obtain ⟨b', e', rfl⟩ := Option.map_eq_some_iff.mp e
  unfold eqD at e'
  split at e'
  · rename_i c
    cases e'
    have deep : x.shp = true ∧ y.shp = true → rNeA K vx vy H Q := fun ⟨h1, h2⟩ => .inr ⟨_, _, rx.dp S.gh h1, ry.dp S.gh h2, shp_toPy h1, shp_toPy h2, by rw [eqv_toPy]; exact h⟩
    rw [Bool.or_eq_true, Bool.and_eq_true, Bool.and_eq_true] at c
    rcases c with ⟨c1, c2⟩ | c
    · rcases scal_eq c1 c2 rx ry with ⟨q1, q2⟩ | q
      · exact .inl ⟨q1, by rw [q2]; exact h⟩
      · exact deep q
    · exact deep c
  · cases e'
theorem op_eqA {X : Cx} (hu : X.A.units + 64 < cLine) : OpR X (compareOp .Eq) (rEqA X.K) := OpR.orR op_eq (op_eqD hu)
theorem op_neA {X : Cx} (hu : X.A.units + 64 < cLine) : OpR X (compareOp .NotEq) (rNeA X.K) := OpR.orR op_ne (op_neD hu)
theorem any_toPys (d : D) : ∀ xs : List D, ((toPys xs).any fun z => PyData.eqv z (toPy d)) = xs.any fun z => D.eq z d
  | [] => rfl
  | x :: xs => by
    show (PyData.eqv (toPy x) (toPy d) || _) = (D.eq x d || _)
    rw [eqv_toPy, any_toPys d xs]
def rSign : R2 := fun x y H Q => ∃ (c : Nat) (z : Str), x = .str ⟨#[c]⟩ ∧ y = .str z ∧ Q (.bl (decide (c ∈ z.cps.toList))) H
def rNSign : R2 := fun x y H Q => ∃ (c : Nat) (z : Str), x = .str ⟨#[c]⟩ ∧ y = .str z ∧ Q (.bl (!decide (c ∈ z.cps.toList))) H
def rInTu (K : PySem.W.Frag) (g : Bool → Bool) : R2 := fun x y H Q => ∃ m ms, Dp K H x m ∧ Dp K H y (.tuple ms) ∧ SeqAt.shaped m = true ∧ SeqAt.shaped (.tuple ms) = true ∧ Q (.bl (g (ms.any fun z => PyData.eqv z m))) H
theorem op_inTu {X : Cx} (hu : X.A.units + 65 < cLine) : OpR X (compareOp .In) (rInTu X.K id) := by
  intro pins s σ H x y v u Q I rx ry ⟨m, ms, h1, h2, h3, h4, q⟩
  obtain ⟨p1, e1⟩ := Dp.reads I m x v h1 rx
  obtain ⟨p2, e2⟩ := Dp.reads I (.tuple ms) y u h2 ry
  exact SeqAt.in_tuple_reads e2 e1 (SeqAt.canLay_of_shaped h4) (SeqAt.canLay_of_shaped h3) (room_in_shaped h3 hu) ⟨.bl _, H, I, rfl, q⟩
theorem op_ninTu {X : Cx} (hu : X.A.units + 65 < cLine) : OpR X (compareOp .NotIn) (rInTu X.K (!·)) := by
  intro pins s σ H x y v u Q I rx ry ⟨m, ms, h1, h2, h3, h4, q⟩
  obtain ⟨p1, e1⟩ := Dp.reads I m x v h1 rx
  obtain ⟨p2, e2⟩ := Dp.reads I (.tuple ms) y u h2 ry
  exact SeqAt.notIn_tuple_reads e2 e1 (SeqAt.canLay_of_shaped h4) (SeqAt.canLay_of_shaped h3) (room_in_shaped h3 hu) ⟨.bl _, H, I, rfl, q⟩
def rInA (K : PySem.W.Frag) : R2 := orR (rInD K) (orR (rInTu K id) rSign)
def rNinA (K : PySem.W.Frag) : R2 := orR (rNotInD K) (orR (rInTu K (!·)) rNSign)
theorem inD_cases {a y : D} {b : Bool} (e : inD0 a y = some b) : (∃ xs, y = .lst xs ∧ a.shp = true ∧ D.shp (.lst xs) = true ∧ b = xs.any fun z => D.eq z a) ∨ (∃ xs, y = .tup xs ∧ a.shp = true ∧ D.shp (.tup xs) = true ∧ b = xs.any fun z => D.eq z a) ∨ ∃ c z, a = .str [c] ∧ y = .str z ∧ b = decide (c ∈ z) := by
  cases y <;> try (cases e; done)
  case lst xs =>
    simp only [inD0] at e
    split at e
    · rename_i c
      cases e
      rw [Bool.and_eq_true] at c
      exact .inl ⟨xs, rfl, c.1, c.2, rfl⟩
    · cases e
  case tup xs =>
    simp only [inD0] at e
    split at e
    · rename_i c
      cases e
      rw [Bool.and_eq_true] at c
      exact .inr (.inl ⟨xs, rfl, c.1, c.2, rfl⟩)
    · cases e
  case str z =>
    simp only [inD0] at e
    split at e
    · cases e
      exact .inr (.inr ⟨_, z, rfl, rfl, rfl⟩)
    · cases e
theorem ops_in0 : OpB K (rInA K) inD0 := by
  intro G W H σ τ x y vx vy b Q S rx ry e h
  rcases inD_cases e with ⟨xs, rfl, h1, h2, rfl⟩ | ⟨xs, rfl, h1, h2, rfl⟩ | ⟨c, z, rfl, rfl, rfl⟩
  · exact .inl ⟨_, _, rx.dp S.gh h1, ry.dp S.gh h2, shp_toPy h1, shp_toPy h2, by rw [any_toPys]; exact h⟩
  · exact .inr (.inl ⟨_, _, rx.dp S.gh h1, ry.dp S.gh h2, shp_toPy h1, shp_toPy h2, by rw [any_toPys]; exact h⟩)
  · cases rx.str; cases ry.str
    exact .inr (.inr ⟨c, _, rfl, rfl, by rw [sOf_tl]; exact h⟩)
theorem ops_nin0 : OpB K (rNinA K) (fun a b => (inD0 a b).map (!·)) := by
  intro G W H σ τ x y vx vy b Q S rx ry e h
  obtain ⟨b', e', rfl⟩ := Option.map_eq_some_iff.mp e
  rcases inD_cases e' with ⟨xs, rfl, h1, h2, rfl⟩ | ⟨xs, rfl, h1, h2, rfl⟩ | ⟨c, z, rfl, rfl, rfl⟩
  · exact .inl ⟨_, _, rx.dp S.gh h1, ry.dp S.gh h2, shp_toPy h1, shp_toPy h2, by rw [any_toPys]; exact h⟩
  · exact .inr (.inl ⟨_, _, rx.dp S.gh h1, ry.dp S.gh h2, shp_toPy h1, shp_toPy h2, by rw [any_toPys]; exact h⟩)
  · cases rx.str; cases ry.str
    exact .inr (.inr ⟨c, _, rfl, rfl, by rw [sOf_tl]; exact h⟩)
theorem op_inA {X : Cx} (hu : X.A.units + 65 < cLine) : OpR X (compareOp .In) (rInA X.K) := OpR.orR (op_inD hu) (OpR.orR (op_inTu hu) op_in_sign)
theorem op_ninA {X : Cx} (hu : X.A.units + 65 < cLine) : OpR X (compareOp .NotIn) (rNinA X.K) := OpR.orR (op_notInD hu) (OpR.orR (op_ninTu hu) op_notIn_sign)
def rStr2 (g : List Nat → List Nat → Bool) : R2 := fun x y H Q => ∃ i j, x = .str i ∧ y = .str j ∧ Q (.bl (g i.cps.toList j.cps.toList)) H
theorem ops_ord {op : Cp} {g : Int → Int → Bool} {k : List Nat → List Nat → Bool} (hf : ∀ x y b, cmpD op x y = some b → (∃ i j, x = .int i ∧ y = .int j ∧ b = g i j) ∨ ∃ i j, x = .str i ∧ y = .str j ∧ b = k i j) :
    OpB K (orR (rI0 fun i j => .bl (g i j)) (rStr2 k)) (cmpD op) := by
  intro G W H σ τ x y vx vy b Q S rx ry e h
  rcases hf x y b e with ⟨i, j, rfl, rfl, rfl⟩ | ⟨i, j, rfl, rfl, rfl⟩
  · cases rx.int; cases ry.int
    exact .inl ⟨i, j, rfl, rfl, h⟩
  · cases rx.str; cases ry.str
    exact .inr ⟨_, _, rfl, rfl, by rw [sOf_tl, sOf_tl]; exact h⟩
theorem cmp_cases {g : Int → Int → Bool} {k : List Nat → List Nat → Bool} {x y : D} {b : Bool} (e : cmpD .gt x y = some b) (h : (g = fun i j => decide (j < i)) ∧ k = fun i j => decide (j < i)) :
    (∃ i j, x = .int i ∧ y = .int j ∧ b = g i j) ∨ ∃ i j, x = .str i ∧ y = .str j ∧ b = k i j := by
  obtain ⟨rfl, rfl⟩ := h
  all_goals (cases x <;> cases y <;> try (cases e; done))
  all_goals (cases e)
  all_goals first
    | exact .inl ⟨_, _, rfl, rfl, rfl⟩
    | exact .inr ⟨_, _, rfl, rfl, rfl⟩
theorem ints_vals : ∀ {xs : List D} {ns : List Int} {vs : List V}, intsD xs = some ns → Reps K G xs vs → vs = ns.map V.int
  | [], _, _, h, .nil => by cases h; rfl
  | .int i :: r, ns, _, h, .cons a b => by
    obtain ⟨ms, h1, rfl⟩ := Option.map_eq_some_iff.mp (show (intsD r).map (i :: ·) = some ns from h)
    cases a
    rw [ints_vals h1 b]; rfl
  | .non :: _, _, _, h, _ => by cases h
  | .bl _ :: _, _, _, h, _ => by cases h
  | .str _ :: _, _, _, h, _ => by cases h
  | .tup _ :: _, _, _, h, _ => by cases h
  | .lst _ :: _, _, _, h, _ => by cases h
  | .dic _ :: _, _, _, h, _ => by cases h
abbrev rLtA (K : PySem.W.Frag) : R2 := orR (orR (rI0 fun i j => .bl (decide (i < j))) (rStr2 fun i j => decide (i < j))) (rLtT K)
theorem ops_lt : OpB K (rLtA K) (cmpD .lt) := by
  intro G W H σ τ x y vx vy b Q S rx ry e h
  cases x <;> cases y <;> try (cases e; done)
  · cases e
    cases rx.int; cases ry.int
    exact .inl (.inl ⟨_, _, rfl, rfl, h⟩)
  · cases e
    cases rx.str; cases ry.str
    exact .inl (.inr ⟨_, _, rfl, rfl, by rw [sOf_tl, sOf_tl]; exact h⟩)
  · rename_i xs ys
    obtain ⟨a, vs, rfl, ha, ra⟩ := rx.tup S.gh
    obtain ⟨c, ws, rfl, hc, rc⟩ := ry.tup S.gh
    have e' : (match intsD xs, intsD ys with
      | some a, some b => some (HT.lexLt a b)
      | _, _ => none) = some b := e
    cases e1 : intsD xs with
    | none => rw [e1] at e'; cases e'
    | some ns =>
      cases e2 : intsD ys with
      | none => rw [e1, e2] at e'; cases e'
      | some ms =>
        rw [e1, e2] at e'
        cases e'
        have q1 := ints_vals e1 ra
        have q2 := ints_vals e2 rc
        subst q1 q2
        exact .inr ⟨a, c, ns, ms, rfl, rfl, ha, hc, h⟩
abbrev rLeA (K : PySem.W.Frag) : R2 := orR (orR (rI0 fun i j => .bl (decide (i ≤ j))) (rStr2 fun i j => !decide (j < i))) (rLeTT K)
theorem ops_le : OpB K (rLeA K) (cmpD .le) := by
  intro G W H σ τ x y vx vy b Q S rx ry e h
  cases x <;> cases y <;> try (cases e; done)
  · cases e
    cases rx.int; cases ry.int
    exact .inl (.inl ⟨_, _, rfl, rfl, h⟩)
  · cases e
    cases rx.str; cases ry.str
    exact .inl (.inr ⟨_, _, rfl, rfl, by rw [sOf_tl, sOf_tl]; exact h⟩)
  · rename_i xs ys
    obtain ⟨a, vs, rfl, ha, ra⟩ := rx.tup S.gh
    obtain ⟨c, ws, rfl, hc, rc⟩ := ry.tup S.gh
    have e' : (match intsD xs, intsD ys with
      | some a, some b => some (!HT.lexLt b a)
      | _, _ => none) = some b := e
    cases e1 : intsD xs with
    | none => rw [e1] at e'; cases e'
    | some ns =>
      cases e2 : intsD ys with
      | none => rw [e1, e2] at e'; cases e'
      | some ms =>
        rw [e1, e2] at e'
        cases e'
        have q1 := ints_vals e1 ra
        have q2 := ints_vals e2 rc
        subst q1 q2
        exact .inr ⟨a, c, ns, ms, rfl, rfl, ha, hc, h⟩
theorem ops_gt : OpB K (orR (rI0 fun i j => .bl (decide (j < i))) (rStr2 fun i j => decide (j < i))) (cmpD .gt) := ops_ord fun _ _ _ e => cmp_cases e ⟨rfl, rfl⟩
abbrev rGeA (K : PySem.W.Frag) : R2 := orR (orR (rI0 fun i j => .bl (decide (j ≤ i))) (rStr2 fun i j => !decide (i < j))) (rGeT K)
theorem ops_ge : OpB K (rGeA K) (cmpD .ge) := by
  intro G W H σ τ x y vx vy b Q S rx ry e h
  cases x <;> cases y <;> try (cases e; done)
  · cases e
    cases rx.int; cases ry.int
    exact .inl (.inl ⟨_, _, rfl, rfl, h⟩)
  · cases e
    cases rx.str; cases ry.str
    exact .inl (.inr ⟨_, _, rfl, rfl, by rw [sOf_tl, sOf_tl]; exact h⟩)
  · rename_i xs ys
    obtain ⟨a, vs, rfl, ha, ra⟩ := rx.tup S.gh
    obtain ⟨c, ws, rfl, hc, rc⟩ := ry.tup S.gh
    have e' : (match intsD xs, intsD ys with
      | some a, some b => some (!HT.lexLt a b)
      | _, _ => none) = some b := e
    cases e1 : intsD xs with
    | none => rw [e1] at e'; cases e'
    | some ns =>
      cases e2 : intsD ys with
      | none => rw [e1, e2] at e'; cases e'
      | some ms =>
        rw [e1, e2] at e'
        cases e'
        have q1 := ints_vals e1 ra
        have q2 := ints_vals e2 rc
        subst q1 q2
        exact .inr ⟨a, c, ns, ms, rfl, rfl, ha, hc, h⟩
theorem op_ltA {X : Cx} (hu : X.A.units < cLine) : OpR X (compareOp .Lt) (rLtA X.K) := OpR.orR (OpR.orR op_lt op_lt_str) (op_ltT hu)
theorem op_leA {X : Cx} (hu : X.A.units < cLine) : OpR X (compareOp .LtE) (rLeA X.K) := OpR.orR (OpR.orR op_le op_le_str) (op_leTT hu)
theorem op_gtA {X : Cx} : OpR X (compareOp .Gt) (orR (rI0 fun i j => .bl (decide (j < i))) (rStr2 fun i j => decide (j < i))) := OpR.orR op_gt op_gt_str
theorem op_geA {X : Cx} (hu : X.A.units < cLine) : OpR X (compareOp .GtE) (rGeA X.K) := OpR.orR (OpR.orR op_ge op_ge_str) (op_geT hu)
def rIsN : R2 := fun x y H Q => y = .non ∧ Q (.bl (decide (x = .non))) H
def rNisN : R2 := fun x y H Q => y = .non ∧ Q (.bl (!decide (x = .non))) H
theorem isN_rep {x : D} {v : V} (s : Same G H) (r : RepH K G H x v) : decide (v = V.non) = (match x with | .non => true | _ => false) := by
  cases x with
  | non => cases r.non; rfl
  | bl b => cases r.bl; rfl
  | int b => cases r.int; rfl
  | str b => cases r.str; rfl
  | tup xs => obtain ⟨a, vs, rfl, _, _⟩ := r.tup s; rfl
  | lst xs => obtain ⟨a, vs, rfl, _, _⟩ := r.lst; rfl
  | dic kvs => obtain ⟨a, ps, rfl, _, _⟩ := r.dic; rfl
theorem ops_is : OpB K rIsN (cmpD .is) := by
  intro G W H σ τ x y vx vy b Q S rx ry e h
  cases y <;> try (cases x <;> cases e; done)
  cases ry.non
  refine ⟨rfl, ?_⟩
  rw [isN_rep S.gh rx]
  cases x <;> (cases e; exact h)
theorem ops_nis : OpB K rNisN (cmpD .nis) := by
  intro G W H σ τ x y vx vy b Q S rx ry e h
  cases y <;> try (cases x <;> cases e; done)
  cases ry.non
  refine ⟨rfl, ?_⟩
  rw [isN_rep S.gh rx]
  cases x <;> (cases e; exact h)
end
end PV
set_option maxRecDepth 100000
namespace PV
open PySem PySem.Spec PyProof.Rows L2
section
variable {X : Cx} {xv : ExV} {Wx : WX} {t ta tb tc : TE} {f fa fb fc : Sg → R O} {ba bb : Option Nat} {F : Fn}
theorem SemE.var {i : Nat} : SemE X xv Wx (tVar i) (ev F (.var i)) := by
  intro G W H σ τ S
  show At X.K xv Wx τ G W H (match getO σ i with | some (O.val d) => R.ok (O.val d) σ | _ => .bad) _ _
  cases e : getO σ i with
  | none => exact trivial
  | some o =>
    obtain ⟨v, h1, h2⟩ := S.sl i o e
    cases h2 with
    | val r => exact fun Q hx => ⟨v, h1, hx G W H v S (Ext.refl _ _ _) (.val r)⟩
    | lst _ _ _ => exact trivial
    | dicK _ _ _ => exact trivial
    | dicT _ _ _ => exact trivial
    | tr _ _ _ => exact trivial
    | tp _ _ _ => exact trivial
    | ins _ _ _ _ _ => exact trivial
theorem SemE.frz {i : Nat} : SemE X xv Wx (tVar i) (ev F (.frz i)) := by
  intro G W H σ τ S
  show At X.K xv Wx τ G W H (match (getO σ i).bind O.toD with | some d => R.ok (O.val d) (σ.set i (some (O.val d))) | none => .bad) _ _
  cases e : getO σ i with
  | none => exact trivial
  | some o =>
    cases ed : o.toD with
    | none =>
      show At X.K xv Wx τ G W H (match o.toD with | some d => R.ok (O.val d) (σ.set i (some (O.val d))) | none => .bad) _ _
      rw [ed]
      exact trivial
    | some d =>
      show At X.K xv Wx τ G W H (match o.toD with | some d => R.ok (O.val d) (σ.set i (some (O.val d))) | none => .bad) _ _
      rw [ed]
      obtain ⟨v, h1, h2⟩ := S.sl i o e
      have hi : i < σ.length := by
        unfold getO at e
        cases q : σ[i]? with
        | none => rw [q] at e; cases e
        | some z => exact (List.getElem?_eq_some_iff.mp q).1
      have S0 : Sim X.K G W H (σ.set i none) τ := ⟨S.gh, S.gw, S.hw, fun j o' ej => by
        by_cases z : i = j
        · subst z; unfold getO at ej; rw [List.getElem?_set_self hi] at ej; cases ej
        · unfold getO at ej; rw [List.getElem?_set_ne z] at ej; exact S.sl j o' ej, by rw [List.length_set]; exact S.len⟩
      intro Q hx
      obtain ⟨G', W', S', E', r'⟩ := Own.freeze S0 (p := [i + 1]) (fun j q => by
        by_cases z : j = i
        · subst z; right; unfold getO; rw [List.getElem?_set_self hi]; rfl
        · left; intro y; injection y with y1; omega) h2 ed
      refine ⟨v, h1, hx G' W' H v ⟨S'.gh, S'.gw, S'.hw, fun j o' ej => ?_, by rw [List.length_set]; exact S.len⟩ E' (.val r')⟩
      by_cases z : i = j
      · subst z
        unfold getO at ej; rw [List.getElem?_set_self hi] at ej; cases ej
        exact ⟨v, h1, .val r'⟩
      · refine S'.sl j o' ?_
        unfold getO at ej ⊢; rw [List.getElem?_set_ne z] at ej ⊢; exact ej
theorem SemE.con {d : D} {v : V} (h : ∀ G, Rep X.K G d v) : SemE X xv Wx (tC v) (fun σ => .ok (.val d) σ) := fun G W H σ τ S => At.here (P := fun G' W' H' o v => Own X.K G' H' W' [0] o v) S (.val (h G))
theorem sem_op2 {r : R2} {g : D → D → Option O} (hs : OpS X.K r g) (ha : SemO X xv Wx ta ba fa) (hb : SemO X xv Wx tb bb fb) : SemE X xv Wx (tOp r ta tb) (op2 g ba bb fa fb) := by
  intro G W H σ τ S
  refine At.bind (tr2 := fun x H1 Q => tb τ H1 fun y H2 => r x y H2 Q) (ha G W H σ τ S) fun da σ1 G1 W1 H1 vx S1 E1 p1 => ?_
  refine At.bind (tr2 := fun y H2 Q => r vx y H2 Q) (hb G1 W1 H1 σ1 τ S1) fun db σ2 G2 W2 H2 vy S2 E2 p2 => ?_
  cases e1 : fin ba da σ2 with
  | none => exact trivial
  | some a =>
    cases e2 : fin bb db σ2 with
    | none => exact trivial
    | some b =>
      show At X.K xv Wx τ G2 W2 H2 (lift σ2 (g a b)) _ _
      cases e3 : g a b with
      | none => exact trivial
      | some o => exact At.grows S2 fun Q hx => hs G2 W2 H2 σ2 τ a b vx vy o Q S2 ((p1.mono E2.g).fin S2 e1) (p2.fin S2 e2) e3 hx
theorem bind_assoc {α β γ : Type} (r : R α) (k : α → Sg → R β) (h : β → Sg → R γ) : (r.bind k).bind h = r.bind fun a σ => (k a σ).bind h := by cases r <;> rfl
theorem at_opB {r : R2} {g : D → D → Option Bool} (hs : OpB X.K r g) (ha : SemO X xv Wx ta ba fa) (hb : SemO X xv Wx tb bb fb) {G W H σ τ} (S : Sim X.K G W H σ τ) : At X.K xv Wx τ G W H (op2 g ba bb fa fb σ) (tOp r ta tb τ H) fun _ _ _ b v => v = V.bl b := by
  refine At.bind (tr2 := fun x H1 Q => tb τ H1 fun y H2 => r x y H2 Q) (ha G W H σ τ S) fun da σ1 G1 W1 H1 vx S1 E1 p1 => ?_
  refine At.bind (tr2 := fun y H2 Q => r vx y H2 Q) (hb G1 W1 H1 σ1 τ S1) fun db σ2 G2 W2 H2 vy S2 E2 p2 => ?_
  cases e1 : fin ba da σ2 with
  | none => exact trivial
  | some a =>
    cases e2 : fin bb db σ2 with
    | none => exact trivial
    | some b =>
      show At X.K xv Wx τ G2 W2 H2 (lift σ2 (g a b)) _ _
      cases e3 : g a b with
      | none => exact trivial
      | some c => exact fun Q hx => hs G2 W2 H2 σ2 τ a b vx vy c Q S2 ((p1.mono E2.g).fin S2 e1) (p2.fin S2 e2) e3 (hx G2 W2 H2 _ S2 (Ext.refl _ _ _) rfl)
theorem sem_opB {r : R2} {g : D → D → Option Bool} (hs : OpB X.K r g) (ha : SemO X xv Wx ta ba fa) (hb : SemO X xv Wx tb bb fb) : SemE X xv Wx (tOp r ta tb) (fun σ => vb (op2 g ba bb fa fb σ)) := by
  intro G W H σ τ S
  refine At.bind (tr2 := fun v H' Q => Q v H') (at_opB hs ha hb S) fun b σ1 G1 W1 H1 v S1 E1 p => ?_
  subst p
  exact At.here (P := fun G' W' H' o v => Own X.K G' H' W' [0] o v) S1 (.val (.bl b))
theorem sem_op1 {r : V → Hp → VK → Prop} {g : D → Option O} (hs : Op1 X.K r g) (ha : SemO X xv Wx ta ba fa) : SemE X xv Wx (tUn r ta) (op1 g ba fa) := by
  intro G W H σ τ S
  refine At.bind (tr2 := fun x H1 Q => r x H1 Q) (ha G W H σ τ S) fun da σ1 G1 W1 H1 vx S1 E1 p1 => ?_
  cases e1 : fin ba da σ1 with
  | none => exact trivial
  | some a =>
    show At X.K xv Wx τ G1 W1 H1 (lift σ1 (g a)) _ _
    cases e3 : g a with
    | none => exact trivial
    | some o => exact At.grows S1 fun Q hx => hs G1 W1 H1 σ1 τ a vx o Q S1 (p1.fin S1 e1) e3 hx
theorem SemE.test (h : SemE X xv Wx t f) : SemT X xv Wx (tB t) (fun σ => PV.tb (f σ)) := by
  intro G W H σ τ S
  refine At.bind (tr2 := fun x H1 Q => ∃ c, x = .bl c ∧ Q c H1) (h G W H σ τ S) fun o σ1 G1 W1 H1 v S1 E1 p => ?_
  cases p with
  | lst _ _ _ => exact trivial
  | dicK _ _ _ => exact trivial
  | dicT _ _ _ => exact trivial
  | tr _ _ _ => exact trivial
  | tp _ _ _ => exact trivial
  | ins _ _ _ _ _ => exact trivial
  | val r =>
    cases r with
    | bl b => exact fun Q hx => ⟨b, rfl, hx G1 W1 H1 b S1 (Ext.refl _ _ _) rfl⟩
    | _ => exact trivial
theorem SemT.not {t : TT} {f : Sg → R Bool} (h : SemT X xv Wx t f) : SemT X xv Wx (tNot t) (fun σ => (f σ).bind fun b σ' => .ok (!b) σ') := by
  intro G W H σ τ S
  refine At.bind (tr2 := fun c H1 Q => Q (!c) H1) (h G W H σ τ S) fun b σ1 G1 W1 H1 c S1 E1 p => ?_
  subst p
  exact At.here (P := fun _ _ _ b c => b = c) S1 rfl
theorem SemE.notV (h : SemE X xv Wx t f) : SemE X xv Wx (tNotV t) (fun σ => (PV.tb (f σ)).bind fun b σ' => .ok (.val (.bl (!b))) σ') := by
  intro G W H σ τ S
  show At X.K xv Wx τ G W H ((PV.tb (f σ)).bind _) _ _
  unfold PV.tb
  rw [bind_assoc]
  refine At.bind (tr2 := fun x H1 Q => ∃ c, x = V.bl c ∧ Q (V.bl (!c)) H1) (h G W H σ τ S) fun o σ1 G1 W1 H1 v S1 E1 p => ?_
  cases p with
  | lst _ _ _ => exact trivial
  | dicK _ _ _ => exact trivial
  | dicT _ _ _ => exact trivial
  | tr _ _ _ => exact trivial
  | tp _ _ _ => exact trivial
  | ins _ _ _ _ _ => exact trivial
  | val r =>
    cases r with
    | bl b => exact fun Q hx => ⟨b, rfl, hx G1 W1 H1 (.bl (!b)) S1 (Ext.refl _ _ _) (.val (.bl _))⟩
    | _ => exact trivial
theorem op1_neg : Op1 X.K (rU fun i => .int (-i)) (fun d => match d with | .int i => some (O.val (.int (-i))) | _ => none) := by
  intro G W H σ τ x vx o Q S rx e h
  cases x <;> try (cases e; done)
  cases rx.int; cases e
  exact ⟨_, rfl, same_val S (.int _) h⟩
theorem tb_vb (r : R Bool) : PV.tb (vb r) = r := by cases r <;> rfl
theorem SemT.and {t u : TT} {f g : Sg → R Bool} (h : SemT X xv Wx t f) (h2 : SemT X xv Wx u g) : SemT X xv Wx (tAnd t u) (fun σ => (f σ).bind fun b σ' => if b = true then g σ' else .ok false σ') := by
  intro G W H σ τ S
  refine At.bind (tr2 := fun c H1 Q => if c = true then u τ H1 Q else Q false H1) (h G W H σ τ S) fun b σ1 G1 W1 H1 c S1 E1 p => ?_
  subst p
  cases b with
  | true => exact h2 G1 W1 H1 σ1 τ S1
  | false => exact At.here (P := fun _ _ _ b c => b = c) S1 rfl
theorem SemT.or {t u : TT} {f g : Sg → R Bool} (h : SemT X xv Wx t f) (h2 : SemT X xv Wx u g) : SemT X xv Wx (tOr t u) (fun σ => (f σ).bind fun b σ' => if b = true then .ok true σ' else g σ') := by
  intro G W H σ τ S
  refine At.bind (tr2 := fun c H1 Q => if c = true then Q true H1 else u τ H1 Q) (h G W H σ τ S) fun b σ1 G1 W1 H1 c S1 E1 p => ?_
  subst p
  cases b with
  | false => exact h2 G1 W1 H1 σ1 τ S1
  | true => exact At.here (P := fun _ _ _ b c => b = c) S1 rfl
theorem SemE.and {g : Sg → R Bool} (h : SemE X xv Wx ta fa) (h2 : SemE X xv Wx tb (fun σ => vb (g σ))) : SemE X xv Wx (tAndV ta tb) (fun σ => vb ((PV.tb (fa σ)).bind fun b σ' => if b = true then g σ' else .ok false σ')) := by
  intro G W H σ τ S
  show At X.K xv Wx τ G W H (vb ((PV.tb (fa σ)).bind _)) _ _
  unfold vb PV.tb
  rw [bind_assoc, bind_assoc]
  refine At.bind (tr2 := fun x H1 Q => ∃ c, x = .bl c ∧ if c = true then tb τ H1 Q else Q (.bl false) H1) (h G W H σ τ S) fun o σ1 G1 W1 H1 v S1 E1 p => ?_
  cases p with
  | lst _ _ _ => exact trivial
  | dicK _ _ _ => exact trivial
  | dicT _ _ _ => exact trivial
  | tr _ _ _ => exact trivial
  | tp _ _ _ => exact trivial
  | ins _ _ _ _ _ => exact trivial
  | val r =>
    cases r with
    | bl b =>
      cases b with
      | true =>
        have q := h2 G1 W1 H1 σ1 τ S1
        show At X.K xv Wx τ G1 W1 H1 (vb (g σ1)) _ _
        revert q
        show At X.K xv Wx τ G1 W1 H1 (vb (g σ1)) _ _ → _
        intro q
        cases e : vb (g σ1) with
        | bad => exact trivial
        | exc c σ2 => rw [e] at q; exact fun Q hx => ⟨true, rfl, q Q hx⟩
        | ok o2 σ2 => rw [e] at q; exact fun Q hx => ⟨true, rfl, q Q hx⟩
      | false => exact fun Q hx => ⟨false, rfl, hx G1 W1 H1 (.bl false) S1 (Ext.refl _ _ _) (.val (.bl _))⟩
    | _ => exact trivial
theorem SemE.or {g : Sg → R Bool} (h : SemE X xv Wx ta fa) (h2 : SemE X xv Wx tb (fun σ => vb (g σ))) : SemE X xv Wx (tOrV ta tb) (fun σ => vb ((PV.tb (fa σ)).bind fun b σ' => if b = true then .ok true σ' else g σ')) := by
  intro G W H σ τ S
  show At X.K xv Wx τ G W H (vb ((PV.tb (fa σ)).bind _)) _ _
  unfold vb PV.tb
  rw [bind_assoc, bind_assoc]
  refine At.bind (tr2 := fun x H1 Q => ∃ c, x = .bl c ∧ if c = true then Q (.bl true) H1 else tb τ H1 Q) (h G W H σ τ S) fun o σ1 G1 W1 H1 v S1 E1 p => ?_
  cases p with
  | lst _ _ _ => exact trivial
  | dicK _ _ _ => exact trivial
  | dicT _ _ _ => exact trivial
  | tr _ _ _ => exact trivial
  | tp _ _ _ => exact trivial
  | ins _ _ _ _ _ => exact trivial
  | val r =>
    cases r with
    | bl b =>
      cases b with
      | false =>
        have q := h2 G1 W1 H1 σ1 τ S1
        show At X.K xv Wx τ G1 W1 H1 (vb (g σ1)) _ _
        revert q
        show At X.K xv Wx τ G1 W1 H1 (vb (g σ1)) _ _ → _
        intro q
        cases e : vb (g σ1) with
        | bad => exact trivial
        | exc c σ2 => rw [e] at q; exact fun Q hx => ⟨false, rfl, q Q hx⟩
        | ok o2 σ2 => rw [e] at q; exact fun Q hx => ⟨false, rfl, q Q hx⟩
      | true => exact fun Q hx => ⟨true, rfl, hx G1 W1 H1 (.bl true) S1 (Ext.refl _ _ _) (.val (.bl _))⟩
    | _ => exact trivial
theorem SemE.boolOnly (h : SemE X xv Wx t f) : SemE X xv Wx t (fun σ => vb (PV.tb (f σ))) := by
  intro G W H σ τ S
  show At X.K xv Wx τ G W H (vb (PV.tb (f σ))) _ _
  unfold vb PV.tb
  rw [bind_assoc]
  refine At.bind (tr2 := fun v H' Q => Q v H') (h G W H σ τ S) fun o σ1 G1 W1 H1 v S1 E1 p => ?_
  cases p with
  | lst _ _ _ => exact trivial
  | dicK _ _ _ => exact trivial
  | dicT _ _ _ => exact trivial
  | tr _ _ _ => exact trivial
  | tp _ _ _ => exact trivial
  | ins _ _ _ _ _ => exact trivial
  | val r =>
    cases r with
    | bl b => exact At.here (P := fun G' W' H' o v => Own X.K G' H' W' [0] o v) S1 (.val (.bl b))
    | _ => exact trivial
theorem sem_chain {r r' : R2} {g g' : D → D → Option Bool} (hs : OpB X.K r g) (hs' : OpB X.K r' g') (ha : SemO X xv Wx ta none fa) (hb : SemO X xv Wx tb none fb) (hc : SemO X xv Wx tc none fc) :
    SemE X xv Wx (tChain r r' ta tb tc) (fun σ => (pre none (fa σ) σ).bind fun da σ1 => (pre none (fb σ1) σ1).bind fun db σ2 => match da, db with
    | some x, some y => match g x y with
      | some true => (pre none (fc σ2) σ2).bind fun dc σ3 => match dc with
        | some z => (lift σ3 (g' y z)).bind fun b σ4 => .ok (.val (.bl b)) σ4
        | none => .bad
      | some false => .ok (.val (.bl false)) σ2
      | none => .bad
    | _, _ => .bad) := by
  intro G W H σ τ S
  refine At.bind (tr2 := fun x H1 Q => tb τ H1 fun y H2 => r x y H2 fun z H3 => ∃ k, z = .bl k ∧ (if k = true then tc τ H3 fun w' H4 => r' y w' H4 Q else Q (.bl false) H3)) (ha G W H σ τ S) fun da σ1 G1 W1 H1 vx S1 E1 p1 => ?_
  refine At.bind (tr2 := fun y H2 Q => r vx y H2 fun z H3 => ∃ k, z = .bl k ∧ (if k = true then tc τ H3 fun w' H4 => r' y w' H4 Q else Q (.bl false) H3)) (hb G1 W1 H1 σ1 τ S1) fun db σ2 G2 W2 H2 vy S2 E2 p2 => ?_
  obtain ⟨x, rfl, rx⟩ := p1
  obtain ⟨y, rfl, ry⟩ := p2
  have rx2 := (rx.mono E2.g).toH S2.gh
  have ry2 := ry.toH S2.gh
  show At X.K xv Wx τ G2 W2 H2 (match g x y with | some true => _ | some false => _ | none => _) _ _
  cases e : g x y with
  | none => exact trivial
  | some k =>
    cases k with
    | false => exact fun Q hx => hs G2 W2 H2 σ2 τ x y vx vy false _ S2 rx2 ry2 e ⟨false, rfl, hx G2 W2 H2 (.bl false) S2 (Ext.refl _ _ _) (.val (.bl _))⟩
    | true =>
      have q : At X.K xv Wx τ G2 W2 H2 ((pre none (fc σ2) σ2).bind fun dc σ3 => match dc with | some z => (lift σ3 (g' y z)).bind fun b σ4 => .ok (O.val (.bl b)) σ4 | none => .bad) (fun Q => tc τ H2 fun w' H4 => r' vy w' H4 Q) (fun G' W' H' o v => Own X.K G' H' W' [0] o v) := by
        refine At.bind (tr2 := fun w' H4 Q => r' vy w' H4 Q) (hc G2 W2 H2 σ2 τ S2) fun dc σ3 G3 W3 H3 vz S3 E3 p3 => ?_
        obtain ⟨z, rfl, rz⟩ := p3
        show At X.K xv Wx τ G3 W3 H3 ((lift σ3 (g' y z)).bind _) _ _
        cases e3 : g' y z with
        | none => exact trivial
        | some b => exact fun Q hx => hs' G3 W3 H3 σ3 τ y z vy vz b Q S3 ((ry.mono E3.g).toH S3.gh) (rz.toH S3.gh) e3 (hx G3 W3 H3 (.bl b) S3 (Ext.refl _ _ _) (.val (.bl _)))
      show At X.K xv Wx τ G2 W2 H2 ((pre none (fc σ2) σ2).bind fun dc σ3 => match dc with | some z => (lift σ3 (g' y z)).bind fun b σ4 => .ok (O.val (.bl b)) σ4 | none => .bad) _ _
      generalize hr : ((pre none (fc σ2) σ2).bind fun dc σ3 => match dc with | some z => (lift σ3 (g' y z)).bind fun b σ4 => .ok (O.val (.bl b)) σ4 | none => .bad) = rr at q ⊢
      cases rr with
      | bad => exact trivial
      | exc c σ3 => exact fun Q hx => hs G2 W2 H2 σ2 τ x y vx vy true _ S2 rx2 ry2 e ⟨true, rfl, q Q hx⟩
      | ok o σ3 => exact fun Q hx => hs G2 W2 H2 σ2 τ x y vx vy true _ S2 rx2 ry2 e ⟨true, rfl, q Q hx⟩
def tLast (r : R2) (tc : TE) (τ : LS) : V → Hp → VK → Prop := fun vy H Q => tc τ H fun w' H4 => r vy w' H4 Q
def tLink (r : R2) (tb : TE) (rest : LS → V → Hp → VK → Prop) (τ : LS) : V → Hp → VK → Prop := fun vx H Q => tb τ H fun y H2 => r vx y H2 fun z H3 => ∃ k, z = .bl k ∧ (if k = true then rest τ y H3 Q else Q (.bl false) H3)
def tChain3 (r r' r2 : R2) (ta tb tc td : TE) : TE := fun τ H Q => ta τ H fun x H1 => tLink r tb (tLink r' tc (tLast r2 td)) τ x H1 Q
theorem pe_chain3 {X : Cx} {a b c d : Expr} {pos : Pos} {td : TE} {op op' op2 : CmpOp} {r r' r2 : R2} (ho : OpR X (compareOp op) r) (ho' : OpR X (compareOp op') r') (ho2 : OpR X (compareOp op2) r2) (ha : PE X a ta) (hb : PE X b tb) (hc : PE X c tc) (hd : PE X d td)
    (hm : lastMarks [op, op', op2] [b, c, d] = false) : PE X (.Compare a [op, op', op2] [b, c, d] pos) (tChain3 r r' r2 ta tb tc td) := by
  refine ⟨fun pins s σ H Q I h => ?_⟩
  refine Compare_chain (thn (ha.run pins s σ H _ I h) fun v s1 ⟨x, H1, I1, r1, q1⟩ => chain_link (thn (hb.run pins s1 σ H1 _ I1 q1) fun u s2 ⟨y, H2, I2, r2', q2⟩ =>
    thn (ho pins s2 σ H2 x y v u _ I2 r1 r2' q2) fun d s3 ⟨z, H3, I3, r3, k, e, q3⟩ => ?_)) hm
  subst e
  cases r3
  refine wpAny_truthy_bool ?_
  cases k with
  | false => exact ite_ff ⟨.bl false, H3, I3, rfl, q3⟩
  | true =>
    refine ite_tt (chain_link (thn (hc.run pins s3 σ H3 _ I3 q3) fun u' s4 ⟨y', H4, I4, r4, q4⟩ => thn (ho' pins s4 σ H4 y y' u u' _ I4 r2' r4 q4) fun d' s5 ⟨z', H5, I5, r5, k', e', q5⟩ => ?_))
    subst e'
    cases r5
    refine wpAny_truthy_bool ?_
    cases k' with
    | false => exact ite_ff ⟨.bl false, H5, I5, rfl, q5⟩
    | true => exact ite_tt (chain_last (thn (hd.run pins s5 σ H5 _ I5 q5) fun w' s6 ⟨z', H6, I6, r6, q6⟩ => ho2 pins s6 σ H6 y' z' u' w' Q I6 r4 r6 q6))
theorem pt_chain3 {X : Cx} {a b c d : Expr} {pos : Pos} {td : TE} {op op' op2 : CmpOp} {r r' r2 : R2} (ho : OpR X (compareOp op) r) (ho' : OpR X (compareOp op') r') (ho2 : OpR X (compareOp op2) r2) (ha : PE X a ta) (hb : PE X b tb) (hc : PE X c tc) (hd : PE X d td)
    (hm : lastMarks [op, op', op2] [b, c, d] = false) : PT X (.Compare a [op, op', op2] [b, c, d] pos) (tTest (tChain3 r r' r2 ta tb tc td)) := by
  refine ⟨fun pins s σ H Q I h => ?_⟩
  refine isTrue_chain (thn (ha.run pins s σ H _ I h) fun v s1 ⟨x, H1, I1, r1, q1⟩ => test_link (thn (hb.run pins s1 σ H1 _ I1 q1) fun u s2 ⟨y, H2, I2, r2', q2⟩ =>
    thn (ho pins s2 σ H2 x y v u _ I2 r1 r2' q2) fun d s3 ⟨z, H3, I3, r3, k, e, q3⟩ => ?_)) hm
  subst e
  cases r3
  refine wpAny_truthy_bool ?_
  cases k with
  | false =>
    obtain ⟨k', e', q'⟩ := q3
    cases e'
    exact ite_ff ⟨H3, I3, q'⟩
  | true =>
    refine ite_tt (test_link (thn (hc.run pins s3 σ H3 _ I3 q3) fun u' s4 ⟨y', H4, I4, r4, q4⟩ => thn (ho' pins s4 σ H4 y y' u u' _ I4 r2' r4 q4) fun d' s5 ⟨z', H5, I5, r5, k', e', q5⟩ => ?_))
    subst e'
    cases r5
    refine wpAny_truthy_bool ?_
    cases k' with
    | false =>
      obtain ⟨k2, e2, q'⟩ := q5
      cases e2
      exact ite_ff ⟨H5, I5, q'⟩
    | true =>
      refine ite_tt (test_last (thn (hd.run pins s5 σ H5 _ I5 q5) fun w' s6 ⟨z', H6, I6, r6, q6⟩ => thn (ho2 pins s6 σ H6 y' z' u' w' _ I6 r4 r6 q6) fun d2 s7 ⟨z2, H7, I7, r7, k3, e3, q7⟩ => ?_))
      subst e3
      cases r7
      exact wpAny_truthy_bool ⟨H7, I7, q7⟩
theorem at_last {r : R2} {g : D → D → Option Bool} (hs : OpB X.K r g) (hc : SemO X xv Wx tc none fc) {G W H σ τ} (S : Sim X.K G W H σ τ) {y : D} {vy : V} (ry : Rep X.K G y vy) :
    At X.K xv Wx τ G W H (lastD g fc y σ) (fun Q => tLast r tc τ vy H Q) (fun G' W' H' o v => Own X.K G' H' W' [0] o v) := by
  refine At.bind (tr2 := fun w' H4 Q => r vy w' H4 Q) (hc G W H σ τ S) fun dc σ3 G3 W3 H3 vz S3 E3 p3 => ?_
  obtain ⟨z, rfl, rz⟩ := p3
  show At X.K xv Wx τ G3 W3 H3 ((lift σ3 (g y z)).bind _) _ _
  cases e3 : g y z with
  | none => exact trivial
  | some b => exact fun Q hx => hs G3 W3 H3 σ3 τ y z vy vz b Q S3 ((ry.mono E3.g).toH S3.gh) (rz.toH S3.gh) e3 (hx G3 W3 H3 (.bl b) S3 (Ext.refl _ _ _) (.val (.bl _)))
theorem at_link {r : R2} {g : D → D → Option Bool} {rest : D → Sg → R O} {tr : LS → V → Hp → VK → Prop} (hs : OpB X.K r g) (hb : SemO X xv Wx tb none fb) {G W H σ τ} (S : Sim X.K G W H σ τ) {x : D} {vx : V} (rx : Rep X.K G x vx)
    (h2 : ∀ y vy σ2 G2 W2 H2, Sim X.K G2 W2 H2 σ2 τ → Rep X.K G2 y vy → At X.K xv Wx τ G2 W2 H2 (rest y σ2) (fun Q => tr τ vy H2 Q) (fun G' W' H' o v => Own X.K G' H' W' [0] o v)) :
    At X.K xv Wx τ G W H (linkD g fb rest x σ) (fun Q => tLink r tb tr τ vx H Q) (fun G' W' H' o v => Own X.K G' H' W' [0] o v) := by
  refine At.bind (tr2 := fun y H2 Q => r vx y H2 fun z H3 => ∃ k, z = .bl k ∧ (if k = true then tr τ y H3 Q else Q (.bl false) H3)) (hb G W H σ τ S) fun db σ2 G2 W2 H2 vy S2 E2 p2 => ?_
  obtain ⟨y, rfl, ry⟩ := p2
  have rx2 := (rx.mono E2.g).toH S2.gh
  have ry2 := ry.toH S2.gh
  show At X.K xv Wx τ G2 W2 H2 (match g x y with | some true => rest y σ2 | some false => .ok (.val (.bl false)) σ2 | none => .bad) _ _
  cases e : g x y with
  | none => exact trivial
  | some k =>
    cases k with
    | false => exact fun Q hx => hs G2 W2 H2 σ2 τ x y vx vy false _ S2 rx2 ry2 e ⟨false, rfl, hx G2 W2 H2 (.bl false) S2 (Ext.refl _ _ _) (.val (.bl _))⟩
    | true =>
      have q := h2 y vy σ2 G2 W2 H2 S2 ry
      show At X.K xv Wx τ G2 W2 H2 (rest y σ2) _ _
      generalize hr : rest y σ2 = rr at q ⊢
      cases rr with
      | bad => exact trivial
      | exc c σ3 => exact fun Q hx => hs G2 W2 H2 σ2 τ x y vx vy true _ S2 rx2 ry2 e ⟨true, rfl, q Q hx⟩
      | ok o σ3 => exact fun Q hx => hs G2 W2 H2 σ2 τ x y vx vy true _ S2 rx2 ry2 e ⟨true, rfl, q Q hx⟩
theorem sem_chain3 {r r' r2 : R2} {td : TE} {fd : Sg → R O} {g g' g2 : D → D → Option Bool} (hs : OpB X.K r g) (hs' : OpB X.K r' g') (hs2 : OpB X.K r2 g2) (ha : SemO X xv Wx ta none fa) (hb : SemO X xv Wx tb none fb) (hc : SemO X xv Wx tc none fc) (hd : SemO X xv Wx td none fd) :
    SemE X xv Wx (tChain3 r r' r2 ta tb tc td) (fun σ => (pre none (fa σ) σ).bind fun da σ1 => match da with
    | some x => linkD g fb (fun y => linkD g' fc (fun z => lastD g2 fd z) y) x σ1
    | none => .bad) := by
  intro G W H σ τ S
  refine At.bind (tr2 := fun x H1 Q => tLink r tb (tLink r' tc (tLast r2 td)) τ x H1 Q) (ha G W H σ τ S) fun da σ1 G1 W1 H1 vx S1 E1 p1 => ?_
  obtain ⟨x, rfl, rx⟩ := p1
  exact at_link hs hb S1 rx fun y vy σ2 G2 W2 H2 S2 ry => at_link hs' hc S2 ry fun z vz σ3 G3 W3 H3 S3 rz => at_last hs2 hd S3 rz
theorem SemL.nil : SemL X xv Wx tNil (fun σ => .ok [] σ) := fun G W H σ τ S => At.here (P := fun G' _ _ ds vs => Reps X.K G' ds vs) S .nil
theorem SemL.cons {tr : TA} {fr : Sg → R (List D)} (h : SemO X xv Wx ta none fa) (h2 : SemL X xv Wx tr fr) : SemL X xv Wx (tCons ta tr) (fun σ => (pre none (fa σ) σ).bind fun d σ1 => match d with
    | some x => (fr σ1).bind fun xs σ2 => .ok (x :: xs) σ2
    | none => .bad) := by
  intro G W H σ τ S
  refine At.bind (tr2 := fun x H1 Q => tr τ H1 fun xs H2 => Q (x :: xs) H2) (h G W H σ τ S) fun d σ1 G1 W1 H1 v S1 E1 p => ?_
  obtain ⟨x, rfl, r⟩ := p
  refine At.bind (tr2 := fun xs H2 Q => Q (v :: xs) H2) (h2 G1 W1 H1 σ1 τ S1) fun ds σ2 G2 W2 H2 vs S2 E2 p2 => ?_
  exact At.here (P := fun G' _ _ ds vs => Reps X.K G' ds vs) S2 (.cons (r.mono E2.g) p2)
theorem SemA.nil : SemA X xv Wx tNil [] (fun σ => .ok [] σ) := fun G W H σ τ S => At.here (P := fun G' _ _ ds vs => Opns X.K G' τ [] ds vs) S trivial
theorem SemA.cons {tr : TA} {bs : List (Option Nat)} {fr : Sg → R (List (Option D))} (h : SemO X xv Wx ta ba fa) (h2 : SemA X xv Wx tr bs fr) : SemA X xv Wx (tCons ta tr) (ba :: bs) (fun σ => (pre ba (fa σ) σ).bind fun d σ1 => (fr σ1).bind fun ds σ2 => .ok (d :: ds) σ2) := by
  intro G W H σ τ S
  refine At.bind (tr2 := fun x H1 Q => tr τ H1 fun xs H2 => Q (x :: xs) H2) (h G W H σ τ S) fun d σ1 G1 W1 H1 v S1 E1 p => ?_
  refine At.bind (tr2 := fun xs H2 Q => Q (v :: xs) H2) (h2 G1 W1 H1 σ1 τ S1) fun ds σ2 G2 W2 H2 vs S2 E2 p2 => ?_
  exact At.here (P := fun G' _ _ ds vs => Opns X.K G' τ (ba :: bs) ds vs) S2 ⟨p.mono E2.g, p2⟩
theorem SemL.tup {tr : TA} {fr : Sg → R (List D)} (h : SemL X xv Wx tr fr) : SemE X xv Wx (tTup tr) (fun σ => (fr σ).bind fun ds σ' => if ds.length ≤ SZ then .ok (.val (.tup ds)) σ' else .bad) := by
  intro G W H σ τ S
  refine At.bind (tr2 := fun xs H1 Q => xs.length ≤ sizeLine ∧ ∀ p, H1 p = none → Q (V.ref p) (upd H1 p (.tup xs))) (h G W H σ τ S) fun ds σ1 G1 W1 H1 vs S1 E1 r => ?_
  by_cases hz : ds.length ≤ SZ
  · rw [if_pos hz]
    exact At.grows S1 fun Q hx => ⟨by rw [← r.len, szl]; exact hz, new_tup S1 r hx⟩
  · rw [if_neg hz]
    exact trivial
theorem SemL.lst {tr : TA} {fr : Sg → R (List D)} (h : SemL X xv Wx tr fr) : SemE X xv Wx (tLst tr) (fun σ => (fr σ).bind fun ds σ' => if ds.length ≤ SZ then .ok (.lst ds) σ' else .bad) := by
  intro G W H σ τ S
  refine At.bind (tr2 := fun xs H1 Q => xs.length ≤ sizeLine ∧ ∀ p, H1 p = none → Q (V.ref p) (upd H1 p (.lst xs))) (h G W H σ τ S) fun ds σ1 G1 W1 H1 vs S1 E1 r => ?_
  by_cases hz : ds.length ≤ SZ
  · rw [if_pos hz]
    exact At.grows S1 fun Q hx => ⟨by rw [← r.len, szl]; exact hz, new_lst S1 r hx⟩
  · rw [if_neg hz]
    exact trivial
def SemB (X : Cx) (xv : ExV) (Wx : WX) (t : TO) (f : Sg → R (Option Int)) : Prop := ∀ G W H σ τ, Sim X.K G W H σ τ → At X.K xv Wx τ G W H (f σ) (t τ H) fun _ _ _ a b => a = b
theorem SemB.no {r : Sg → R O} : SemB X xv Wx tNoPart (fun σ => bnd true (r σ) σ) := fun _ _ _ _ _ S => At.here (P := fun _ _ _ a b => a = b) S rfl
theorem SemB.some (h : SemE X xv Wx t f) : SemB X xv Wx (tPart t) (fun σ => bnd false (f σ) σ) := by
  intro G W H σ τ S
  refine At.bind (tr2 := fun x H1 Q => ∃ i, x = V.int i ∧ Q (Option.some i) H1) (h G W H σ τ S) fun o σ1 G1 W1 H1 v S1 E1 p => ?_
  cases p with
  | lst _ _ _ => exact trivial
  | dicK _ _ _ => exact trivial
  | dicT _ _ _ => exact trivial
  | tr _ _ _ => exact trivial
  | tp _ _ _ => exact trivial
  | ins _ _ _ _ _ => exact trivial
  | val r =>
    cases r with
    | int i => exact fun Q hx => ⟨i, rfl, hx G1 W1 H1 (.some i) S1 (Ext.refl _ _ _) rfl⟩
    | _ => exact trivial
theorem sem_slice {r : V → Option Int → Option Int → Hp → VK → Prop} {g : D → Option Int → Option Int → Option O} {tl th : TO} {fl fh : Sg → R (Option Int)} (hs : SlS X.K r g) (ha : SemO X xv Wx ta ba fa) (hl : SemB X xv Wx tl fl) (hh : SemB X xv Wx th fh) :
    SemE X xv Wx (tSl r ta tl th) (fun σ => (pre ba (fa σ) σ).bind fun da σ1 => (fl σ1).bind fun l σ2 => (fh σ2).bind fun h σ3 => match fin ba da σ3 with
    | .some x => lift σ3 (g x l h)
    | none => .bad) := by
  intro G W H σ τ S
  refine At.bind (tr2 := fun x H1 Q => tl τ H1 fun l H2 => th τ H2 fun u H3 => r x l u H3 Q) (ha G W H σ τ S) fun da σ1 G1 W1 H1 vx S1 E1 p1 => ?_
  refine At.bind (tr2 := fun l H2 Q => th τ H2 fun u H3 => r vx l u H3 Q) (hl G1 W1 H1 σ1 τ S1) fun l σ2 G2 W2 H2 l' S2 E2 p2 => ?_
  subst p2
  refine At.bind (tr2 := fun u H3 Q => r vx l u H3 Q) (hh G2 W2 H2 σ2 τ S2) fun u σ3 G3 W3 H3 u' S3 E3 p3 => ?_
  subst p3
  cases e1 : fin ba da σ3 with
  | none => exact trivial
  | some a =>
    show At X.K xv Wx τ G3 W3 H3 (lift σ3 (g a l u)) _ _
    cases e3 : g a l u with
    | none => exact trivial
    | some o => exact At.grows S3 fun Q hx => hs G3 W3 H3 σ3 τ a vx l u o Q S3 (((p1.mono E2.g).mono E3.g).fin S3 e1) e3 hx
def CaS (K : PySem.W.Frag) (r : List V → Hp → VK → Prop) (f : List D → Option O) : Prop := ∀ (G : Hp) (W : Own?) (H : Hp) (σ : Sg) (τ : LS) (xs : List D) (vs : List V) (o : O) (Q : VK), Sim K G W H σ τ → Paired (RepH K G H) xs vs → f xs = some o →
  (∀ G' W' H' v, Grow G W H G' W' H' → Own K G' H' W' [0] o v → Q v H') → r vs H Q
theorem sem_cb {r : List V → Hp → VK → Prop} {g : List D → Option O} {tr : TA} {bs : List (Option Nat)} {fr : Sg → R (List (Option D))} (hs : CaS X.K r g) (h : SemA X xv Wx tr bs fr) : SemE X xv Wx (tCB r tr) (fun σ => (fr σ).bind fun ds σ' => match fins bs ds σ' with
    | some xs => lift σ' (g xs)
    | none => .bad) := by
  intro G W H σ τ S
  refine At.bind (tr2 := fun vs H1 Q => r vs H1 Q) (h G W H σ τ S) fun ds σ1 G1 W1 H1 vs S1 E1 p => ?_
  cases e1 : fins bs ds σ1 with
  | none => exact trivial
  | some xs =>
    show At X.K xv Wx τ G1 W1 H1 (lift σ1 (g xs)) _ _
    cases e3 : g xs with
    | none => exact trivial
    | some o => exact At.grows S1 fun Q hx => hs G1 W1 H1 σ1 τ xs vs o Q S1 (p.fin S1 e1) e3 hx
end
end PV
set_option maxRecDepth 100000
namespace PV
open PySem PySem.Spec PyProof.Rows L2
def orC (r s : List V → Hp → VK → Prop) : List V → Hp → VK → Prop := fun vs H Q => r vs H Q ∨ s vs H Q
theorem CallR.orC {X : Cx} {f : Value} {r s : List V → Hp → VK → Prop} (h : CallR X f r) (h' : CallR X f s) : CallR X f (PV.orC r s) := by
  intro pins st σ H xs us Q I rx q
  rcases q with q | q
  · exact h pins st σ H xs us Q I rx q
  · exact h' pins st σ H xs us Q I rx q
section
variable {K : PySem.W.Frag} {G H : Hp} {W : Own?} {σ : Sg} {τ : LS}
theorem pr1 {P : D → V → Prop} {x : D} {vs : List V} (h : Paired P [x] vs) : ∃ v, vs = [v] ∧ P x v := by
  cases h with | cons a b => cases b; exact ⟨_, rfl, a⟩
theorem pr2 {P : D → V → Prop} {x y : D} {vs : List V} (h : Paired P [x, y] vs) : ∃ v w, vs = [v, w] ∧ P x v ∧ P y w := by
  cases h with | cons a b => cases b with | cons c d => cases d; exact ⟨_, _, rfl, a, c⟩
theorem intsD_rep : ∀ {xs : List D} {ns : List Int} {vs : List V}, intsD xs = some ns → Reps K G xs vs → vs = ns.map V.int ∧ xs.length = ns.length
  | [], ns, vs, e, r => by cases r; cases e; exact ⟨rfl, rfl⟩
  | .int i :: xs, ns, vs, e, r => by
    obtain ⟨ms, e1, rfl⟩ := Option.map_eq_some_iff.mp (show (intsD xs).map (i :: ·) = some ns from e)
    cases r with
    | cons h r =>
      cases h
      obtain ⟨q1, q2⟩ := intsD_rep e1 r
      exact ⟨by rw [q1]; rfl, by simp [q2]⟩
  | .non :: _, _, _, e, _ => by cases e
  | .bl _ :: _, _, _, e, _ => by cases e
  | .str _ :: _, _, _, e, _ => by cases e
  | .tup _ :: _, _, _, e, _ => by cases e
  | .lst _ :: _, _, _, e, _ => by cases e
  | .dic _ :: _, _, _, e, _ => by cases e
theorem boolsD_rep : ∀ {xs : List D} {ns : List Bool} {vs : List V}, boolsD xs = some ns → Reps K G xs vs → vs = ns.map V.bl
  | [], ns, vs, e, r => by cases r; cases e; rfl
  | .bl i :: xs, ns, vs, e, r => by
    obtain ⟨ms, e1, rfl⟩ := Option.map_eq_some_iff.mp (show (boolsD xs).map (i :: ·) = some ns from e)
    cases r with
    | cons h r => cases h; rw [boolsD_rep e1 r]; rfl
  | .non :: _, _, _, e, _ => by cases e
  | .int _ :: _, _, _, e, _ => by cases e
  | .str _ :: _, _, _, e, _ => by cases e
  | .tup _ :: _, _, _, e, _ => by cases e
  | .lst _ :: _, _, _, e, _ => by cases e
  | .dic _ :: _, _, _, e, _ => by cases e
theorem txsD_rep : ∀ {xs : List D} {ns : List Tx} {vs : List V}, txsD xs = some ns → Reps K G xs vs → vs = (ns.map sOf).map V.str
  | [], ns, vs, e, r => by cases r; cases e; rfl
  | .str i :: xs, ns, vs, e, r => by
    obtain ⟨ms, e1, rfl⟩ := Option.map_eq_some_iff.mp (show (txsD xs).map (i :: ·) = some ns from e)
    cases r with
    | cons h r => cases h; rw [txsD_rep e1 r]; rfl
  | .non :: _, _, _, e, _ => by cases e
  | .int _ :: _, _, _, e, _ => by cases e
  | .bl _ :: _, _, _, e, _ => by cases e
  | .tup _ :: _, _, _, e, _ => by cases e
  | .lst _ :: _, _, _, e, _ => by cases e
  | .dic _ :: _, _, _, e, _ => by cases e
def rLenQ (K : PySem.W.Frag) : List V → Hp → VK → Prop := fun xs H Q => ∃ p ys, xs = [.ref p] ∧ (SqL K H p ys ∨ SqT K H p ys) ∧ Q (.int ys.length) H
def rLenS : List V → Hp → VK → Prop := fun xs H Q => ∃ z, xs = [.str z] ∧ z.length ≤ sizeLine ∧ Q (.int z.length) H
theorem ca_len : CaS K (orC (rLenQ K) rLenS) (bfD .len) := by
  intro G W H σ τ xs vs o Q S r e h
  obtain _ | ⟨x, _ | ⟨y, ys⟩⟩ := xs
  · cases e
  · obtain ⟨v, rfl, rx⟩ := pr1 r
    obtain ⟨n, e1, rfl⟩ := Option.map_eq_some_iff.mp (show (lenD x).map (fun n => O.val (.int n)) = some o from e)
    have hq := same_val S (.int n) h
    cases x <;> try (cases e1; done)
    case lst xs =>
      obtain ⟨a, ws, rfl, ha, ra⟩ := rx.lst
      cases e1
      exact .inl ⟨_, _, rfl, .inl ha, by rw [← ra.len]; exact hq⟩
    case tup xs =>
      obtain ⟨a, ws, rfl, ha, ra⟩ := rx.tup S.gh
      cases e1
      exact .inl ⟨_, _, rfl, .inr ha, by rw [← ra.len]; exact hq⟩
    case str z =>
      cases rx.str
      simp only [lenD] at e1
      split at e1
      · rename_i hz
        cases e1
        exact .inr ⟨_, rfl, by rw [sOf_len, szl]; exact hz, by rw [sOf_len]; exact hq⟩
      · cases e1
  · cases e
theorem ca_list : CaS K (fun xs H Q => ∃ p ys, xs = [.ref p] ∧ (SqL K H p ys ∨ SqT K H p ys) ∧ ∀ l, H l = none → Q (.ref l) (upd H l (.lst ys))) (bfD .list) := by
  intro G W H σ τ xs vs o Q S r e h
  obtain _ | ⟨x, _ | ⟨y, ys⟩⟩ := xs
  · cases e
  · obtain ⟨v, rfl, rx⟩ := pr1 r
    cases x <;> try (cases e; done)
    case lst xs =>
      obtain ⟨a, ws, rfl, ha, ra⟩ := rx.lst
      cases e
      exact ⟨_, _, rfl, .inl ha, new_lst S ra h⟩
    case tup xs =>
      obtain ⟨a, ws, rfl, ha, ra⟩ := rx.tup S.gh
      cases e
      exact ⟨_, _, rfl, .inr ha, new_lst S ra h⟩
  · cases x <;> cases e
theorem ca_tuple : CaS K (fun xs H Q => ∃ p ys, xs = [.ref p] ∧ ((SqL K H p ys ∧ ∀ l, H l = none → Q (.ref l) (upd H l (.tup ys))) ∨ (SqT K H p ys ∧ Q (.ref p) H))) (bfD .tuple) := by
  intro G W H σ τ xs vs o Q S r e h
  obtain _ | ⟨x, _ | ⟨y, ys⟩⟩ := xs
  · cases e
  · obtain ⟨v, rfl, rx⟩ := pr1 r
    cases x <;> try (cases e; done)
    case lst xs =>
      obtain ⟨a, ws, rfl, ha, ra⟩ := rx.lst
      cases e
      exact ⟨_, _, rfl, .inl ⟨ha, new_tup S ra h⟩⟩
    case tup xs =>
      cases (show Rep K G (.tup xs) v from rx) with
      | tup h1 h2 =>
        cases e
        exact ⟨_, _, rfl, .inr ⟨.of (S.gh _ _ h1), same_val S (.tup h1 h2) h⟩⟩
  · cases x <;> cases e
theorem ca_int : CaS K (fun xs H Q => (∃ i, xs = [.int i] ∧ Q (.int i) H) ∨ ∃ k, xs = [.bl k] ∧ Q (.int (if k then 1 else 0)) H) (bfD .int) := by
  intro G W H σ τ xs vs o Q S r e h
  obtain _ | ⟨x, _ | ⟨y, ys⟩⟩ := xs
  · cases e
  · obtain ⟨v, rfl, rx⟩ := pr1 r
    cases x <;> try (cases e; done)
    case int i => cases rx.int; cases e; exact .inl ⟨i, rfl, same_val S (.int _) h⟩
    case bl i => cases rx.bl; cases e; exact .inr ⟨i, rfl, same_val S (.int _) h⟩
  · cases x <;> cases e
def rMax2 : List V → Hp → VK → Prop := fun xs H Q => ∃ i j, xs = [.int i, .int j] ∧ Q (.int (if j > i then j else i)) H
def rMin2 : List V → Hp → VK → Prop := fun xs H Q => ∃ i j, xs = [.int i, .int j] ∧ Q (.int (if j < i then j else i)) H
theorem maxI_of : ∀ {ns : List Int} {m : Int}, m ∈ ns → (∀ y ∈ ns, y ≤ m) → m = maxI ns
  | [x], m, h, _ => (List.mem_singleton.mp h).trans rfl
  | x :: y :: r, m, h, k => by
    show m = max x (maxI (y :: r))
    rcases List.mem_cons.mp h with e | h
    · subst e
      have : ∀ (l : List Int), l ≠ [] → (∀ y ∈ l, y ≤ m) → maxI l ≤ m := by
        intro l
        induction l with
        | nil => intro z; exact absurd rfl z
        | cons a l ih =>
          intro _ q
          cases l with
          | nil => exact q a (by simp)
          | cons b l => show max a (maxI (b :: l)) ≤ m; have := ih (by simp) fun y hy => q y (List.mem_cons_of_mem _ hy); have := q a (by simp); omega
      have := this (y :: r) (by simp) fun z hz => k z (List.mem_cons_of_mem _ hz)
      omega
    · have e := maxI_of h fun z hz => k z (List.mem_cons_of_mem _ hz)
      have := k x (by simp)
      omega
theorem minI_of : ∀ {ns : List Int} {m : Int}, m ∈ ns → (∀ y ∈ ns, m ≤ y) → m = minI ns
  | [x], m, h, _ => (List.mem_singleton.mp h).trans rfl
  | x :: y :: r, m, h, k => by
    show m = min x (minI (y :: r))
    rcases List.mem_cons.mp h with e | h
    · subst e
      have : ∀ (l : List Int), l ≠ [] → (∀ y ∈ l, m ≤ y) → m ≤ minI l := by
        intro l
        induction l with
        | nil => intro z; exact absurd rfl z
        | cons a l ih =>
          intro _ q
          cases l with
          | nil => exact q a (by simp)
          | cons b l => show m ≤ min a (minI (b :: l)); have := ih (by simp) fun y hy => q y (List.mem_cons_of_mem _ hy); have := q a (by simp); omega
      have := this (y :: r) (by simp) fun z hz => k z (List.mem_cons_of_mem _ hz)
      omega
    · have e := minI_of h fun z hz => k z (List.mem_cons_of_mem _ hz)
      have := k x (by simp)
      omega
theorem maxD_one {xs : List D} {o : O} (e : bfD .max [.lst xs] = some o) : ∃ ns, intsD xs = some ns ∧ ns ≠ [] ∧ o = .val (.int (maxI ns)) := by
  simp only [bfD] at e
  split at e
  · rename_i ns q
    split at e
    · cases e
    · rename_i hn
      cases e
      exact ⟨ns, q, fun z => hn (by rw [z]; rfl), rfl⟩
  · cases e
theorem minD_one {xs : List D} {o : O} (e : bfD .min [.lst xs] = some o) : ∃ ns, intsD xs = some ns ∧ ns ≠ [] ∧ o = .val (.int (minI ns)) := by
  simp only [bfD] at e
  split at e
  · rename_i ns q
    split at e
    · cases e
    · rename_i hn
      cases e
      exact ⟨ns, q, fun z => hn (by rw [z]; rfl), rfl⟩
  · cases e
theorem ca_max : CaS K (orC rMax2 (rMax K)) (bfD .max) := by
  intro G W H σ τ xs vs o Q S r e h
  obtain _ | ⟨x, _ | ⟨y, _ | ⟨z, zs⟩⟩⟩ := xs
  · cases e
  · obtain ⟨v, rfl, rx⟩ := pr1 r
    cases x <;> try (cases e; done)
    obtain ⟨a, ws, rfl, ha, ra⟩ := rx.lst
    obtain ⟨ns, e1, hne, rfl⟩ := maxD_one e
    obtain ⟨q1, _⟩ := intsD_rep e1 ra
    subst q1
    exact .inr ⟨a, ns, rfl, ha, List.length_pos_iff.mpr hne, fun m hm hk => by rw [maxI_of hm hk]; exact same_val S (.int _) h⟩
  · obtain ⟨v, w, rfl, rx, ry⟩ := pr2 r
    cases x <;> cases y <;> try (cases e; done)
    cases rx.int; cases ry.int; cases e
    exact .inl ⟨_, _, rfl, same_val S (.int _) h⟩
  · cases x <;> cases y <;> cases e
theorem ca_min : CaS K (orC rMin2 (rMin K)) (bfD .min) := by
  intro G W H σ τ xs vs o Q S r e h
  obtain _ | ⟨x, _ | ⟨y, _ | ⟨z, zs⟩⟩⟩ := xs
  · cases e
  · obtain ⟨v, rfl, rx⟩ := pr1 r
    cases x <;> try (cases e; done)
    obtain ⟨a, ws, rfl, ha, ra⟩ := rx.lst
    obtain ⟨ns, e1, hne, rfl⟩ := minD_one e
    obtain ⟨q1, _⟩ := intsD_rep e1 ra
    subst q1
    exact .inr ⟨a, ns, rfl, ha, List.length_pos_iff.mpr hne, fun m hm hk => by rw [minI_of hm hk]; exact same_val S (.int _) h⟩
  · obtain ⟨v, w, rfl, rx, ry⟩ := pr2 r
    cases x <;> cases y <;> try (cases e; done)
    cases rx.int; cases ry.int; cases e
    exact .inl ⟨_, _, rfl, same_val S (.int _) h⟩
  · cases x <;> cases y <;> cases e
theorem ca_sum : CaS K (rSum K) (bfD .sum) := by
  intro G W H σ τ xs vs o Q S r e h
  obtain _ | ⟨x, _ | ⟨y, ys⟩⟩ := xs
  · cases e
  · obtain ⟨v, rfl, rx⟩ := pr1 r
    cases x <;> try (cases e; done)
    obtain ⟨a, ws, rfl, ha, ra⟩ := rx.lst
    obtain ⟨ns, e1, rfl⟩ := Option.map_eq_some_iff.mp (show (intsD _).map (fun ns => O.val (.int ns.sum)) = some o from e)
    obtain ⟨q1, _⟩ := intsD_rep e1 ra
    subst q1
    exact ⟨a, ns, rfl, ha, same_val S (.int _) h⟩
  · cases x <;> cases e
theorem ca_any : CaS K (rAny K) (bfD .any) := by
  intro G W H σ τ xs vs o Q S r e h
  obtain _ | ⟨x, _ | ⟨y, ys⟩⟩ := xs
  · cases e
  · obtain ⟨v, rfl, rx⟩ := pr1 r
    cases x <;> try (cases e; done)
    obtain ⟨a, ws, rfl, ha, ra⟩ := rx.lst
    obtain ⟨ns, e1, rfl⟩ := Option.map_eq_some_iff.mp (show (boolsD _).map (fun ns => O.val (.bl (ns.any id))) = some o from e)
    cases boolsD_rep e1 ra
    exact ⟨a, ns, rfl, ha, same_val S (.bl _) h⟩
  · cases x <;> cases e
theorem ca_all : CaS K (rAll K) (bfD .all) := by
  intro G W H σ τ xs vs o Q S r e h
  obtain _ | ⟨x, _ | ⟨y, ys⟩⟩ := xs
  · cases e
  · obtain ⟨v, rfl, rx⟩ := pr1 r
    cases x <;> try (cases e; done)
    obtain ⟨a, ws, rfl, ha, ra⟩ := rx.lst
    obtain ⟨ns, e1, rfl⟩ := Option.map_eq_some_iff.mp (show (boolsD _).map (fun ns => O.val (.bl (ns.all id))) = some o from e)
    cases boolsD_rep e1 ra
    exact ⟨a, ns, rfl, ha, same_val S (.bl _) h⟩
  · cases x <;> cases e
def tyName : Ty → String
  | .bool => "bool" | .int => "int" | .str => "str" | .list => "list" | .tuple => "tuple"
theorem tyx_lst {a : Addr} {vs : List V} (h : SqL K H a vs) : TyX K H (.ref a) (.type "list") := by
  rcases h with (h | ⟨o, h⟩) | ⟨o, its, n, hk, hc, _⟩
  · exact .base (.lst h)
  · exact .base (.frz h)
  · exact .kList hk hc
theorem tyx_tup {a : Addr} {vs : List V} (h : SqT K H a vs) : TyX K H (.ref a) (.type "tuple") := by
  rcases h with (h | ⟨o, h⟩) | ⟨o, its, n, hk, hc, _⟩
  · exact .base (.tup h)
  · exact .fTuple h
  · exact .kTuple hk hc
theorem tyx_of {d : D} {v : V} {n : String} (s : Same G H) (r : RepH K G H d v) (e : dTy d = some n) : TyX K H v (.type n) := by
  cases d with
  | non => cases r.non; cases e; exact .base .non
  | bl b => cases r.bl; cases e; exact .base (.bl b)
  | int b => cases r.int; cases e; exact .base (.int b)
  | str b => cases r.str; cases e; exact .base (.str _)
  | tup xs => obtain ⟨a, vs, rfl, h, _⟩ := r.tup s; cases e; exact tyx_tup h
  | lst xs => obtain ⟨a, vs, rfl, h, _⟩ := r.lst; cases e; exact tyx_lst h
  | dic kvs => cases e
def tyTab : Ty → String → Bool
  | .bool, n => n == "bool"
  | .int, n => n == "bool" || n == "int"
  | .str, n => n == "str"
  | .list, n => n == "list"
  | .tuple, n => n == "tuple"
theorem kit_tab : ∀ n ∈ ["NoneType", "bool", "int", "str", "tuple", "list"], kitB n "bool" = some (tyTab .bool n) ∧ kitB n "int" = some (tyTab .int n) ∧ kitB n "str" = some (tyTab .str n) ∧ kitB n "list" = some (tyTab .list n) ∧ kitB n "tuple" = some (tyTab .tuple n) := by decide +kernel
theorem isTy_tab (t : Ty) (d : D) (n : String) (e : dTy d = some n) : isTy t d = tyTab t n ∧ n ∈ ["NoneType", "bool", "int", "str", "tuple", "list"] := by
  cases d <;> (cases e; try exact ⟨by cases t <;> simp [isTy, tyTab], by decide⟩)
theorem kits (t : Ty) (d : D) (n : String) (e : dTy d = some n) : kitB n (tyName t) = some (isTy t d) := by
  obtain ⟨h1, h2⟩ := isTy_tab t d n e
  obtain ⟨q1, q2, q3, q4, q5⟩ := kit_tab n h2
  rw [h1]
  cases t
  · exact q1
  · exact q2
  · exact q3
  · exact q4
  · exact q5
def rIsiB (K : PySem.W.Frag) (t : Ty) : List V → Hp → VK → Prop := fun xs H Q => ∃ x n b, xs = [x, .ty (tyName t)] ∧ TyX K H x (.type n) ∧ kitB n (tyName t) = some b ∧ Q (.bl b) H
theorem call_isiB {X : Cx} (t : Ty) : CallR X (.builtin "isinstance") (rIsiB X.K t) := by
  intro pins s σ H xs us Q I r h
  obtain ⟨x, n, b, rfl, ty, e, q⟩ := h
  exact call_isi pins s σ H _ us Q I r ⟨x, .ty (tyName t), _, _, b, rfl, .ty _, ty, kit_ty e, q⟩
end
section
variable {X : Cx} {xv : ExV} {Wx : WX} {ta : TE} {fa : Sg → R O} {ba : Option Nat}
theorem sem_isi {t : Ty} (ha : SemO X xv Wx ta ba fa) : SemE X xv Wx (tCB (rIsiB X.K t) (tCons ta (tCons (tC (.ty (tyName t))) tNil))) (op1 (fun d => if (dTy d).isSome then some (O.val (.bl (isTy t d))) else none) ba fa) := by
  intro G W H σ τ S
  refine At.bind (tr2 := fun x H1 Q => rIsiB X.K t [x, .ty (tyName t)] H1 Q) (ha G W H σ τ S) fun da σ1 G1 W1 H1 vx S1 E1 p1 => ?_
  cases e1 : fin ba da σ1 with
  | none => exact trivial
  | some a =>
    show At X.K xv Wx τ G1 W1 H1 (lift σ1 (if (dTy a).isSome = true then some (O.val (.bl (isTy t a))) else none)) _ _
    cases e : dTy a with
    | none => exact trivial
    | some n => exact fun Q hx => ⟨vx, n, isTy t a, rfl, tyx_of S1.gh (p1.fin S1 e1) e, kits t a n e, hx G1 W1 H1 (.bl _) S1 (Ext.refl _ _ _) (.val (.bl _))⟩
end
end PV
set_option maxRecDepth 100000
namespace PV
open PySem PySem.Spec PyProof.Rows L2
section
variable {K : PySem.W.Frag} {G H : Hp} {W : Own?} {σ : Sg} {τ : LS}
theorem getO_lt {i : Nat} {o : O} (e : getO σ i = some o) : i < σ.length := by
  unfold getO at e
  cases q : σ[i]? with
  | none => rw [q] at e; cases e
  | some z => exact (List.getElem?_eq_some_iff.mp q).1
theorem getO_set {i : Nat} {o : Option O} (hi : i < σ.length) : getO (σ.set i o) i = o := by
  unfold getO; rw [List.getElem?_set_self hi]; rfl
theorem getO_set_ne {i j : Nat} {o : Option O} (h : i ≠ j) : getO (σ.set i o) j = getO σ j := by
  unfold getO; rw [List.getElem?_set_ne h]
theorem Sim.mut (S : Sim K G W H σ τ) {i : Nat} {xs ys : List D} {a : Addr} {ws : List V} (e : getO σ i = some (.lst xs)) (w : W a = some [i + 1]) (r : Reps K G ys ws) (hv : τ[i]? = some (some (.ref a))) :
    Sim K G W (upd H a (.lst ws)) (σ.set i (some (.lst ys))) τ ∧ Ext G W H G W (upd H a (.lst ws)) := by
  have gn := S.gw _ _ w
  have hn := S.hw _ _ w
  refine ⟨⟨fun b u q => ?_, S.gw, fun b p q => ?_, fun j o ej => ?_, by rw [List.length_set]; exact S.len⟩, Same.refl _, fun b h1 h2 => ?_, fun b h1 => ?_, fun b h => .inl h, fun b h => .inl h⟩
  · rw [upd_ne (ne_of_none q gn)]; exact S.gh _ _ q
  · by_cases z : b = a
    · rw [z, upd_same]; simp
    · rw [upd_ne z]; exact S.hw _ _ q
  · by_cases z : i = j
    · subst z
      rw [getO_set (getO_lt e)] at ej
      cases ej
      exact ⟨_, hv, .lst w upd_same r⟩
    · rw [getO_set_ne z] at ej
      obtain ⟨v, h1, h2⟩ := S.sl j o ej
      refine ⟨v, h1, h2.move (Same.refl _) fun b q eb => ⟨eb, upd_ne fun y => ?_⟩⟩
      subst y
      rw [w] at eb
      injection eb with e1
      injection e1 with e2
      omega
  · rw [upd_ne fun z => ?_]
    subst z; rw [w] at h2; cases h2
  · by_cases z : b = a
    · rw [z, upd_same]; simp
    · rw [upd_ne z]; exact h1
theorem Sim.slot (S : Sim K G W H σ τ) {i : Nat} {xs : List D} (e : getO σ i = some (.lst xs)) : ∃ a vs, τ[i]? = some (some (.ref a)) ∧ W a = some [i + 1] ∧ H a = some (.lst vs) ∧ Reps K G xs vs := by
  obtain ⟨v, h1, h2⟩ := S.sl i _ e
  cases h2 with
  | lst w h r => exact ⟨_, _, h1, w, h, r⟩
end
section
variable {X : Cx} {xv : ExV} {Wx : WX} {ta tb : TE} {fa fb : Sg → R O} {ba bb : Option Nat} {F : Fn}
theorem sem_pop {i : Nat} : SemE X xv Wx (tBM0 X.K "list" rPop (tVar i)) (fun σ => popO i σ) := by
  intro G W H σ τ S
  show At X.K xv Wx τ G W H (popO i σ) _ _
  unfold popO
  cases e : getO σ i with
  | none => exact trivial
  | some o =>
    cases o with
    | lst xs =>
      show At X.K xv Wx τ G W H (match xs.getLast? with | some x => R.ok (O.val x) (σ.set i (some (O.lst xs.dropLast))) | none => .bad) _ _
      cases el : xs.getLast? with
      | none => exact trivial
      | some x =>
        obtain ⟨a, vs, h1, w, h, r⟩ := S.slot e
        have hx : xs[xs.length - 1]? = some x := by rw [← List.getLast?_eq_getElem?]; exact el
        obtain ⟨v, hv, rv⟩ := r.get hx
        obtain ⟨S', E'⟩ := S.mut e w r.dropLast h1
        exact fun Q hq => ⟨_, h1, .inl ⟨rfl, _, .of h⟩, a, vs, v, rfl, rfl, h, by rw [← r.len]; exact hv, hq G W _ v S' E' (.val rv)⟩
    | _ => exact trivial
theorem sem_app {i : Nat} {fx : List Nat} (h : SemO X xv Wx ta none fa) : SemS X xv Wx fx (tDrop (tBM X.K "list" rAppend (tVar i) (tCons ta tNil))) (fun σ => match getO σ i with
    | some (.lst _) => (pre none (fa σ) σ).bind fun d σ' => match d, getO σ' i with
      | some x, some (.lst xs) => if xs.length < SZ then .ok .nx (σ'.set i (some (.lst (xs ++ [x])))) else .bad
      | _, _ => .bad
    | _ => .bad) := by
  intro G W H σ τ D S en
  dsimp only at en
  cases e0 : getO σ i with
  | none => rw [e0] at en; exact en.elim
  | some o =>
    rw [e0] at en
    cases o with
    | lst xs0 =>
      obtain ⟨a0, vs0, h1, w0, h0, r0⟩ := S.slot e0
      refine ⟨_, h1, .inl ⟨rfl, _, .of h0⟩, ?_⟩
      show ta τ H (fun x H1 => rAppend (V.ref a0) [x] H1 fun _ H2 => D.nx τ H2)
      refine EndS.of_at (h G W H σ τ S) en fun d σ' G' W' H' v _ S' _ p en' => ?_
      obtain ⟨x, rfl, rx⟩ := p
      cases e : getO σ' i with
      | none => rw [e] at en'; exact en'.elim
      | some o' =>
        rw [e] at en'
        cases o' with
        | lst xs =>
          obtain ⟨a, vs, h1', w, hh, r⟩ := S'.slot e
          rw [h1] at h1'
          cases h1'
          have en2 : EndS X.K xv Wx fx D G' W' H' τ (if xs.length < SZ then .ok .nx (σ'.set i (some (.lst (xs ++ [x])))) else .bad) := en'
          by_cases hz : xs.length < SZ
          · rw [if_pos hz] at en2
            obtain ⟨S2, E2⟩ := S'.mut e w (r.app (.cons rx .nil)) h1
            exact ⟨a0, vs, v, rfl, rfl, hh, by rw [← r.len, szl]; exact hz, en2 _ _ _ _ S2 E2 fun _ _ => rfl⟩
          · rw [if_neg hz] at en2
            exact en2.elim
        | _ => exact en'.elim
    | _ => exact en.elim
theorem sem_setIx {i : Nat} {fx : List Nat} (hv : SemO X xv Wx ta none fa) (hk : SemO X xv Wx tb none fb) : SemS X xv Wx fx (tAsg ta (gSub (tVar i) tb rSetL)) (fun σ => (pre none (fa σ) σ).bind fun dv σ1 => match getO σ1 i with
    | some _ => (pre none (fb σ1) σ1).bind fun dk σ2 => match dv, dk, getO σ2 i with
      | some y, some (.int j), some (.lst xs) => match L2.ixN xs.length j with
        | some n => .ok .nx (σ2.set i (some (.lst (xs.set n y))))
        | none => .bad
      | _, _, _ => .bad
    | none => .bad) := by
  intro G W H σ τ D S en
  refine EndS.of_at (hv G W H σ τ S) en fun dv σ1 G1 W1 H1 v _ S1 _ p1 en1 => ?_
  obtain ⟨y, rfl, ry⟩ := p1
  cases e0 : getO σ1 i with
  | none => rw [e0] at en1; exact en1.elim
  | some o =>
    rw [e0] at en1
    obtain ⟨v0, h1, _⟩ := S1.sl i o e0
    refine ⟨v0, h1, ?_⟩
    have q : EndS X.K xv Wx fx D G1 W1 H1 τ ((pre none (fb σ1) σ1).bind fun dk σ2 => match some y, dk, getO σ2 i with
      | some y, some (.int j), some (.lst xs) => match L2.ixN xs.length j with
        | some n => .ok .nx (σ2.set i (some (.lst (xs.set n y))))
        | none => .bad
      | _, _, _ => .bad) := en1
    have hb := hk G1 W1 H1 σ1 τ S1
    generalize hr : pre none (fb σ1) σ1 = rr at q hb
    cases rr with
    | bad => exact q.elim
    | exc c σ2 => exact hb _ fun G' W' H' S' E' => q G' W' H' τ S' E' fun _ _ => rfl
    | ok dk σ2 =>
      refine hb _ fun G2 W2 H2 vk S2 E2 p2 => ?_
      obtain ⟨k, rfl, rk⟩ := p2
      have q2 : EndS X.K xv Wx fx D G2 W2 H2 τ (match some y, some k, getO σ2 i with
        | some y, some (.int j), some (.lst xs) => match L2.ixN xs.length j with
          | some n => .ok .nx (σ2.set i (some (.lst (xs.set n y))))
          | none => .bad
        | _, _, _ => .bad) := EndS.later q E2 fun _ _ => rfl
      cases k with
      | int j =>
        cases rk
        cases e : getO σ2 i with
        | none => rw [e] at q2; exact q2.elim
        | some o2 =>
          rw [e] at q2
          cases o2 with
          | lst xs =>
            obtain ⟨a, vs, h2, w, hh, r⟩ := S2.slot e
            rw [h1] at h2
            cases h2
            have q3 : EndS X.K xv Wx fx D G2 W2 H2 τ (match L2.ixN xs.length j with | some n => .ok .nx (σ2.set i (some (.lst (xs.set n y)))) | none => .bad) := q2
            cases en3 : L2.ixN xs.length j with
            | none => rw [en3] at q3; exact q3.elim
            | some n =>
              rw [en3] at q3
              obtain ⟨S3, E3⟩ := S2.mut e w (r.set (ry.mono E2.g) n) h1
              exact ⟨a, vs, j, n, rfl, rfl, hh, by rw [← r.len]; exact en3, q3 _ _ _ _ S3 E3 fun _ _ => rfl⟩
          | _ => exact q2.elim
      | _ => exact q2.elim
def MtS (K : PySem.W.Frag) (r : V → List V → Hp → VK → Prop) (f : D → List D → Option O) : Prop := ∀ (G : Hp) (W : Own?) (H : Hp) (σ : Sg) (τ : LS) (x : D) (vx : V) (xs : List D) (vs : List V) (o : O) (Q : VK), Sim K G W H σ τ → RepH K G H x vx → Paired (RepH K G H) xs vs → f x xs = some o →
  (∀ G' W' H' v, Grow G W H G' W' H' → Own K G' H' W' [0] o v → Q v H') → r vx vs H Q
theorem sem_mt {r : V → List V → Hp → VK → Prop} {T : String} {m : Mt} {tr : TA} {bs : List (Option Nat)} {fr : Sg → R (List (Option D))} (hs : MtS X.K r (mtD m)) (ha : SemO X xv Wx ta ba fa) (h : SemA X xv Wx tr bs fr)
    (hT : ∀ G H x vx, Same G H → RepH X.K G H x vx → recvOk m x = true → tyV X.K T vx H) :
    SemE X xv Wx (tBM X.K T r ta tr) (fun σ => (pre ba (fa σ) σ).bind fun da σ1 => match fin ba da σ1 with
    | some z => if recvOk m z = true then (fr σ1).bind fun ds σ2 => match fin ba da σ2, fins bs ds σ2 with
      | some x, some xs => lift σ2 (mtD m x xs)
      | _, _ => .bad
      else .bad
    | none => .bad) := by
  intro G W H σ τ S
  refine At.bind (tr2 := fun x H1 Q => tyV X.K T x H1 ∧ tr τ H1 fun xs H2 => r x xs H2 Q) (ha G W H σ τ S) fun da σ1 G1 W1 H1 vx S1 E1 p1 => ?_
  cases e0 : fin ba da σ1 with
  | none => exact trivial
  | some z =>
    show At X.K xv Wx τ G1 W1 H1 (if recvOk m z = true then _ else _) _ _
    by_cases hk : recvOk m z = true
    · rw [if_pos hk]
      have ty := hT G1 H1 z vx S1.gh (p1.fin S1 e0) hk
      have q : At X.K xv Wx τ G1 W1 H1 ((fr σ1).bind fun ds σ2 => match fin ba da σ2, fins bs ds σ2 with
        | some x, some xs => lift σ2 (mtD m x xs)
        | _, _ => .bad) (fun Q => tr τ H1 fun xs H2 => r vx xs H2 Q) (fun G' W' H' o v => Own X.K G' H' W' [0] o v) := by
        refine At.bind (tr2 := fun xs H2 Q => r vx xs H2 Q) (h G1 W1 H1 σ1 τ S1) fun ds σ2 G2 W2 H2 vs S2 E2 p2 => ?_
        cases e1 : fin ba da σ2 with
        | none => exact trivial
        | some x =>
          cases e2 : fins bs ds σ2 with
          | none => exact trivial
          | some xs =>
            show At X.K xv Wx τ G2 W2 H2 (lift σ2 (mtD m x xs)) _ _
            cases e3 : mtD m x xs with
            | none => exact trivial
            | some o => exact At.grows S2 fun Q hx => hs G2 W2 H2 σ2 τ x vx xs vs o Q S2 ((p1.mono E2.g).fin S2 e1) (p2.fin S2 e2) e3 hx
      generalize hr : ((fr σ1).bind fun ds σ2 => match fin ba da σ2, fins bs ds σ2 with
        | some x, some xs => lift σ2 (mtD m x xs)
        | _, _ => .bad) = rr at q ⊢
      cases rr with
      | bad => exact trivial
      | exc c σ3 => exact fun Q hx => ⟨ty, q Q hx⟩
      | ok o σ3 => exact fun Q hx => ⟨ty, q Q hx⟩
    · rw [if_neg hk]
      exact trivial
end
section
variable {K : PySem.W.Frag}
def rJoin (K : PySem.W.Frag) : V → List V → Hp → VK → Prop := fun x xs H Q => ∃ a p, ∃ ys : List Str, x = .str a ∧ xs = [.ref p] ∧ (SqL K H p (ys.map V.str) ∨ SqT K H p (ys.map V.str)) ∧
    (ys.map (·.length)).sum + ys.length * a.length ≤ 16777216 ∧ Q (.str (Txt.join a ys)) H
theorem tl_sOf (x : Tx) : TL.tl (sOf x) = x := sOf_tl x
theorem map_tl (ys : List Tx) : (ys.map sOf).map TL.tl = ys := by
  rw [List.map_map]
  induction ys with
  | nil => rfl
  | cons y ys ih => rw [List.map_cons, ih]; exact congrArg (· :: ys) (tl_sOf y)
theorem join_sOf (s : Tx) (ys : List Tx) : Txt.join (sOf s) (ys.map sOf) = sOf (TL.joinL s ys) := by
  have h : TL.tl (Txt.join (sOf s) (ys.map sOf)) = TL.joinL s ys := by rw [TL.join_eq, TL.tl_join, map_tl, tl_sOf]
  rw [toSOf (Txt.join (sOf s) (ys.map sOf))]
  exact congrArg sOf h
theorem mt_s_join : MtS K (rJoin K) (mtD .join) := by
  intro G W H σ τ x vx xs vs o Q S rx r e h
  cases x <;> try (cases e; done)
  obtain _ | ⟨y, _ | ⟨y2, ys⟩⟩ := xs
  · cases e
  · obtain ⟨v, rfl, ry⟩ := pr1 r
    cases y <;> try (cases e; done)
    obtain ⟨a, ws, rfl, ha, ra⟩ := ry.lst
    simp only [mtD] at e
    split at e
    · rename_i ys e1
      split at e
      · rename_i hz
        cases e
        cases rx.str
        have e2 := txsD_rep e1 ra
        subst e2
        refine ⟨_, a, ys.map sOf, rfl, rfl, .inl ha, ?_, ?_⟩
        · rw [List.map_map, List.length_map, sOf_len, Nat.mul_comm]
          have : (ys.map ((fun x : Str => x.length) ∘ sOf)) = ys.map List.length := List.map_congr_left fun y _ => sOf_len y
          rw [show List.map ((fun x => x.length) ∘ sOf) ys = List.map List.length ys from this]
          exact hz
        · rw [join_sOf]
          exact same_val S (.str _) h
      · cases e
    · cases e
  · cases y <;> cases e
theorem findIdx_toPys (d : D) : ∀ (xs : List D) (n : Nat), (xs.findIdx? fun z => D.eq z d) = some n → (∃ z, (toPys xs)[n]? = some z ∧ PyData.eqv z (toPy d) = true) ∧ ∀ (m : Nat) (z' : PyData), m < n → (toPys xs)[m]? = some z' → PyData.eqv z' (toPy d) = false
  | [], n, e => by cases e
  | x :: xs, n, e => by
    rw [List.findIdx?_cons] at e
    by_cases hx : D.eq x d = true
    · rw [if_pos hx] at e
      cases e
      exact ⟨⟨toPy x, rfl, by rw [eqv_toPy]; exact hx⟩, fun m z' hm _ => absurd hm (by omega)⟩
    · rw [if_neg hx] at e
      obtain ⟨k, e1, rfl⟩ := Option.map_eq_some_iff.mp e
      obtain ⟨⟨z, h1, h2⟩, h3⟩ := findIdx_toPys d xs k e1
      refine ⟨⟨z, h1, h2⟩, fun m z' hm hz => ?_⟩
      cases m with
      | zero =>
        cases (show some (toPy x) = some z' from hz)
        rw [eqv_toPy]
        simpa using hx
      | succ m => exact h3 m z' (by omega) hz
theorem mt_s_index : MtS K (rIndexD K) (mtD .index) := by
  intro G W H σ τ x vx xs vs o Q S rx r e h
  cases x <;> try (cases e; done)
  rename_i ds
  obtain _ | ⟨y, _ | ⟨y2, ys⟩⟩ := xs
  · cases e
  · obtain ⟨v, rfl, ry⟩ := pr1 r
    simp only [mtD] at e
    split at e
    · rename_i c
      rw [Bool.and_eq_true] at c
      obtain ⟨n, e1, rfl⟩ := Option.map_eq_some_iff.mp e
      obtain ⟨⟨z, h1, h2⟩, h3⟩ := findIdx_toPys y ds n e1
      have hd := rx.dp S.gh c.2
      obtain ⟨a, ws, rfl, ha, ra⟩ := rx.lst
      exact ⟨a, v, toPy y, toPys ds, n, z, rfl, rfl, hd, ry.dp S.gh c.1, shp_toPy c.2, shp_toPy c.1, h1, h2, h3, same_val S (.int _) h⟩
    · cases e
  · cases e
def rSplit : V → List V → Hp → VK → Prop := fun x xs H Q => ∃ a b, x = .str a ∧ xs = [.str b] ∧ (b.length == 0) = false ∧ a.length + 2 ≤ sizeLine ∧ rNewStrs (Txt.split a b) H Q
def rPart : V → List V → Hp → VK → Prop := fun x xs H Q => ∃ a b, x = .str a ∧ xs = [.str b] ∧ (b.length == 0) = false ∧ a.length ≤ sizeLine ∧
    ∀ p, H p = none → Q (.ref p) (upd H p (.tup [.str (Txt.partition a b).1, .str (Txt.partition a b).2.1, .str (Txt.partition a b).2.2]))
theorem reps_strs {G : Hp} : ∀ ys : List Tx, Reps K G (ys.map D.str) (ys.map fun y => V.str (sOf y))
  | [] => .nil
  | y :: ys => .cons (.str y) (reps_strs ys)
theorem split_sOf (x y : Tx) (h : y.isEmpty = false) (h2 : y.all (· < 256) = true) : Txt.split (sOf x) (sOf y) = (TL.spl y 0 [] x).map sOf := by
  have hy : TL.tl (sOf y) ≠ [] := by rw [tl_sOf]; intro z; rw [z] at h; cases h
  have hk : (sOf y).cps.all (· < 256) = true := by show y.toArray.all (· < 256) = true; simpa using h2
  have e := TL.split_spl (sOf x) (sOf y) hy (TL.kind_ok hk)
  rw [tl_sOf, tl_sOf] at e
  rw [← e, List.map_map]
  conv => lhs; rw [← List.map_id (Txt.split (sOf x) (sOf y))]
  exact List.map_congr_left fun z _ => toSOf z
theorem slen0 {y : Tx} (h : y.isEmpty = false) : ((sOf y).length == 0) = false := by
  rw [sOf_len]
  cases y with
  | nil => cases h
  | cons _ _ => rfl
theorem mt_s_split : MtS K rSplit (mtD .split) := by
  intro G W H σ τ x vx xs vs o Q S rx r e h
  cases x <;> try (cases e; done)
  rename_i tx
  obtain _ | ⟨y, _ | ⟨y2, ys⟩⟩ := xs
  · cases e
  · obtain ⟨v, rfl, ry⟩ := pr1 r
    cases y <;> try (cases e; done)
    rename_i ty
    simp only [mtD] at e
    split at e
    · rename_i c
      cases e
      cases rx.str
      cases ry.str
      refine ⟨_, _, rfl, rfl, slen0 c.1, by rw [sOf_len, szl]; exact c.2.2, ?_⟩
      rw [split_sOf tx ty c.1 c.2.1]
      intro p hp
      rw [List.map_map]
      exact new_lst S (reps_strs _) h p hp
    · cases e
  · cases y <;> cases e
theorem mt_s_part : MtS K rPart (mtD .part) := by
  intro G W H σ τ x vx xs vs o Q S rx r e h
  cases x <;> try (cases e; done)
  rename_i tx
  obtain _ | ⟨y, _ | ⟨y2, ys⟩⟩ := xs
  · cases e
  · obtain ⟨v, rfl, ry⟩ := pr1 r
    cases y <;> try (cases e; done)
    rename_i ty
    simp only [mtD] at e
    split at e
    · rename_i c
      cases rx.str
      cases ry.str
      refine ⟨_, _, rfl, rfl, slen0 c.1, by rw [sOf_len, szl]; exact c.2, ?_⟩
      have hy : TL.tl (sOf ty) ≠ [] := by rw [tl_sOf]; intro z; rw [z] at c; cases c.1
      have e1 := TL.partition_par (sOf tx) (sOf ty) hy
      rw [tl_sOf, tl_sOf] at e1
      rw [e1]
      cases hp : TL.par ty [] tx with
      | none =>
        rw [hp] at e
        cases e
        exact new_tup S (.cons (.str tx) (.cons (.str []) (.cons (.str []) .nil))) h
      | some q =>
        rw [hp] at e
        obtain ⟨a, b⟩ := q
        cases e
        exact new_tup S (.cons (.str a) (.cons (.str ty) (.cons (.str b) .nil))) h
    · cases e
  · cases y <;> cases e
theorem ty_split {G H : Hp} {x : D} {vx : V} (s : Same G H) (r : RepH K G H x vx) (h : recvOk .split x = true) : tyV K "str" vx H := by
  cases x <;> try (cases h; done)
  cases r.str
  rfl
theorem ty_part {G H : Hp} {x : D} {vx : V} (s : Same G H) (r : RepH K G H x vx) (h : recvOk .part x = true) : tyV K "str" vx H := by
  cases x <;> try (cases h; done)
  cases r.str
  rfl
theorem ty_join {G H : Hp} {x : D} {vx : V} (s : Same G H) (r : RepH K G H x vx) (h : recvOk .join x = true) : tyV K "str" vx H := by
  cases x <;> try (cases h; done)
  cases r.str
  rfl
theorem ty_index {G H : Hp} {x : D} {vx : V} (s : Same G H) (r : RepH K G H x vx) (h : recvOk .index x = true) : tyV K "list" vx H := by
  cases x <;> try (cases h; done)
  obtain ⟨a, vs, rfl, ha, _⟩ := r.lst
  exact .inl ⟨rfl, _, ha⟩
def Owns (K : PySem.W.Frag) (G H : Hp) (W : Own?) : Nat → List O → List V → Prop
  | _, [], [] => True
  | j, o :: os, v :: vs => Own K G H W [j + 1] o v ∧ Owns K G H W (j + 1) os vs
  | _, _, _ => False
def IoOwn (K : PySem.W.Frag) (G H : Hp) (W : Own?) (vs : List V) : List Nat → List O → Prop
  | [], [] => True
  | j :: js, o :: os => (∃ v, vs[j]? = some v ∧ Own K G H W [j + 1] o v) ∧ IoOwn K G H W vs js os
  | _, _ => False
structure Fine (G : Hp) (W : Own?) (H : Hp) : Prop where
  gh : Same G H
  gw : ∀ a p, W a = some p → G a = none
  hw : ∀ a p, W a = some p → H a ≠ none
def spOf (K : PySem.W.Frag) (xv : ExV) (ar : Nat) (io : List Nat) (g : List O → FR) : Sp := fun vs H Q E => vs.length = ar ∧ ∃ (G : Hp) (W : Own?) (as : List O), Fine G W H ∧ Owns K G H W 0 as vs ∧ match g as with
  | .ok r os => ∀ G' W' H' v, Ext G W H G' W' H' → Fine G' W' H' → Own K G' H' W' [0] r v → IoOwn K G' H' W' vs io os → Q v H'
  | .exc c os => ∀ G' W' H', Ext G W H G' W' H' → Fine G' W' H' → IoOwn K G' H' W' vs io os → E (xv c) none H'
  | .bad => False
theorem Owns.vals {G H : Hp} {W : Own?} : ∀ {ds : List D} {vs : List V} {j : Nat}, Reps K G ds vs → Owns K G H W j (ds.map O.val) vs
  | _, _, _, .nil => trivial
  | _, _, _, .cons h r => ⟨.val h, Owns.vals r⟩
theorem Owns.get {G H : Hp} {W : Own?} : ∀ {os : List O} {vs : List V} {j i : Nat} {o : O}, Owns K G H W j os vs → os[i]? = some o → ∃ v, vs[i]? = some v ∧ Own K G H W [j + i + 1] o v
  | [], [], _, _, _, _, e => by simp at e
  | o :: os, v :: vs, j, 0, o', ⟨h, _⟩, e => by simp at e; subst e; exact ⟨v, rfl, h⟩
  | o :: os, v :: vs, j, i + 1, o', ⟨_, h⟩, e => by
    obtain ⟨v', h1, h2⟩ := Owns.get (i := i) (o := o') h (by simpa using e)
    refine ⟨v', by simpa using h1, ?_⟩
    have : j + 1 + i + 1 = j + (i + 1) + 1 := by omega
    rw [this] at h2
    exact h2
  | [], _ :: _, _, _, _, h, _ => h.elim
  | _ :: _, [], _, _, _, h, _ => h.elim
theorem Owns.len {G H : Hp} {W : Own?} : ∀ {os : List O} {vs : List V} {j : Nat}, Owns K G H W j os vs → os.length = vs.length
  | [], [], _, _ => rfl
  | _ :: _, _ :: _, _, ⟨_, h⟩ => congrArg (· + 1) (Owns.len h)
  | [], _ :: _, _, h => h.elim
  | _ :: _, [], _, h => h.elim
theorem ioOut_own {G H : Hp} {W : Own?} {σ : Sg} {τ : LS} {vs : List V} (S : Sim K G W H σ τ) : ∀ {io : List Nat} {os : List O}, (∀ j ∈ io, ∃ v, vs[j]? = some v ∧ τ[j]? = some (some v)) → ioOut io σ = some os → IoOwn K G H W vs io os
  | [], os, _, e => by cases e; exact trivial
  | j :: js, os, h, e => by
    unfold ioOut at e
    split at e
    · rename_i o os' e1 e2
      cases e
      obtain ⟨v, h1, h2⟩ := h j (by simp)
      obtain ⟨v', h3, h4⟩ := S.sl j o e1
      rw [h2] at h3
      cases h3
      exact ⟨⟨v, h1, h4⟩, ioOut_own S (fun k hk => h k (List.mem_cons_of_mem _ hk)) e2⟩
    · cases e
def joinW (W W' : Own?) : Own? := fun a => match W a with
  | some p => some p
  | none => match W' a with
    | some (0 :: r) => some (0 :: r)
    | _ => none
theorem joinW_new {W W' : Own?} {a : Addr} {p : List Nat} (h : W a = none) (e : joinW W W' a = some p) : W' a = some p := by
  unfold joinW at e
  rw [h] at e
  simp only at e
  split at e
  · rename_i r q; cases e; exact q
  · cases e
theorem joinW_ne {W W' : Own?} {a : Addr} (e : joinW W W' a ≠ none) : W a ≠ none ∨ W' a ≠ none := by
  cases h : W a with
  | some p => exact .inl (by simp)
  | none =>
    right
    obtain ⟨p, q⟩ := Option.ne_none_iff_exists'.mp e
    rw [joinW_new h q]
    simp
theorem call_grow {G G' H H' : Hp} {W W' : Own?} {σ : Sg} {τ : LS} (S : Sim K G W H σ τ) (E : Ext G (fun _ => none) H G' W' H') (f : Fine G' W' H') : Grow G W H G' (joinW W W') H' := by
  have wnone : ∀ a, W' a ≠ none → W a = none := fun a h => by
    rcases E.w a h with z | z
    · exact absurd rfl z
    · cases e : W a with
      | none => rfl
      | some p => exact absurd z (S.hw _ _ e)
  refine ⟨E.g, f.gh, fun a h => E.keep a h rfl, fun a p e => by unfold joinW; rw [e], fun a h => ?_, fun a h => ?_, fun a p e => ?_, fun a p e => ?_⟩
  · rcases joinW_ne h with z | z
    · exact .inl z
    · rcases E.w a z with y | y
      · exact absurd rfl y
      · exact .inr y
  · rcases E.gn a h with z | z | z
    · exact .inl z
    · exact absurd rfl z
    · exact .inr z
  · cases h : W a with
    | none => exact f.gw a p (joinW_new h e)
    | some q =>
      cases g : G' a with
      | none => rfl
      | some u =>
        rcases E.gn a (by rw [g]; simp) with z | z | z
        · exact absurd (S.gw _ _ h) z
        · exact absurd rfl z
        · exact absurd z (S.hw _ _ h)
  · cases h : W a with
    | none => exact f.hw a p (joinW_new h e)
    | some q =>
      rw [E.keep a (S.hw _ _ h) rfl]
      exact S.hw _ _ h
theorem call_own {G G' H H' : Hp} {W W' : Own?} {σ : Sg} {τ : LS} {o : O} {v : V} (S : Sim K G W H σ τ) (E : Ext G (fun _ => none) H G' W' H') (h : Own K G' H' W' [0] o v) : Own K G' H' (joinW W W') [0] o v :=
  h.move (Same.refl _) fun a q e => by
    refine ⟨?_, rfl⟩
    have : W a = none := by
      rcases E.w a (by rw [e]; simp) with z | z
      · exact absurd rfl z
      · cases ew : W a with
        | none => rfl
        | some p => exact absurd z (S.hw _ _ ew)
    unfold joinW
    rw [this]
    simp only
    rw [e]
    rfl
end
section
variable {X : Cx} {xv : ExV} {Wx : WX} {F : Fn}
theorem sem_call {tr : TA} {fr : Sg → R (List D)} {ar : Nat} {io : List Nat} {g : List O → FR} (h : SemL X xv Wx tr fr) (har : ∀ (ds : List D) r os, g (ds.map O.val) = .ok r os → ds.length = ar) (har2 : ∀ (ds : List D) c os, g (ds.map O.val) = .exc c os → ds.length = ar) :
    SemE X xv Wx (tCallS (spOf X.K xv ar io g) (WE Wx) tr) (fun σ => (fr σ).bind fun ds σ' => match g (ds.map O.val) with
    | .ok r _ => .ok r σ'
    | .exc c _ => .exc c σ'
    | .bad => .bad) := by
  intro G W H σ τ S
  refine At.bind (tr2 := fun vs H1 Q => spOf X.K xv ar io g vs H1 Q (WE Wx τ)) (h G W H σ τ S) fun ds σ1 G1 W1 H1 vs S1 E1 r => ?_
  have fi : Fine G1 (fun _ => none) H1 := ⟨S1.gh, fun _ _ e => (by cases e), fun _ _ e => (by cases e)⟩
  cases e : g (ds.map O.val) with
  | bad => exact trivial
  | exc c os =>
    intro Q hx
    refine ⟨by rw [← r.len]; exact har2 ds c os e, G1, fun _ => none, ds.map O.val, fi, Owns.vals r, ?_⟩
    rw [e]
    intro G' W' H' E f _
    have gr := call_grow S1 E f
    exact hx G' _ H' (S1.grow gr) gr.ext
  | ok o os =>
    intro Q hx
    refine ⟨by rw [← r.len]; exact har ds o os e, G1, fun _ => none, ds.map O.val, fi, Owns.vals r, ?_⟩
    rw [e]
    intro G' W' H' v E f ow _
    have gr := call_grow S1 E f
    exact hx G' _ H' v (S1.grow gr) gr.ext (call_own S1 E ow)
end
end PV
set_option maxRecDepth 100000
namespace PV
open PySem PySem.Spec PyProof.Rows L2
section
variable {K : PySem.W.Frag} {G H G0 : Hp} {W : Own?} {σ : Sg} {τ : LS}
def WalkS (K : PySem.W.Frag) (G0 : Hp) (J : It) (xs : List D) : Prop := ∀ (i : Nat) (G : Hp) (W : Own?) (H : Hp) (σ : Sg) (τ : LS), Same G0 G → Sim K G W H σ τ →
  (∀ x, xs[i]? = some x → J.go i H ∧ ∀ v H', J.yld i H v H' → ∃ G', Grow G W H G' W H' ∧ Rep K G' x v) ∧ (xs.length ≤ i → J.stop i H)
theorem walk_lst {a : Addr} {vs : List V} {xs : List D} (h : SqL K G0 a vs) (r : Reps K G0 xs vs) : WalkS K G0 (Itl K a) xs := by
  intro i G W H σ τ s S
  have hq : SqL K H a vs := S.gh.seq (s.seq h)
  refine ⟨fun x hx => ?_, fun hi => ⟨vs, hq, by rw [← r.len]; exact hi⟩⟩
  obtain ⟨v, hv, rv⟩ := r.get hx
  refine ⟨⟨vs, v, hq, hv⟩, fun y H' hy => ?_⟩
  obtain ⟨rfl, hy⟩ := hy
  have := hy vs hq
  rw [hv] at this
  cases this
  exact ⟨G, Grow.refl S, rv.mono s⟩
theorem walk_tup {a : Addr} {vs : List V} {xs : List D} (h : SqT K G0 a vs) (r : Reps K G0 xs vs) : WalkS K G0 (Itt K a) xs := by
  intro i G W H σ τ s S
  have hq : SqT K H a vs := seqT S.gh (seqT s h)
  refine ⟨fun x hx => ?_, fun hi => ⟨vs, hq, by rw [← r.len]; exact hi⟩⟩
  obtain ⟨v, hv, rv⟩ := r.get hx
  refine ⟨⟨vs, v, hq, hv⟩, fun y H' hy => ?_⟩
  obtain ⟨rfl, hy⟩ := hy
  have := hy vs hq
  rw [hv] at this
  cases this
  exact ⟨G, Grow.refl S, rv.mono s⟩
theorem walk_str {x : Tx} : WalkS K G0 (Its (sOf x)) (x.map fun c => .str [c]) := by
  intro i G W H σ τ s S
  refine ⟨fun d hd => ?_, fun hi => ?_⟩
  · rw [List.getElem?_map] at hd
    obtain ⟨c, hc, rfl⟩ := Option.map_eq_some_iff.mp hd
    have hl : i < x.length := (List.getElem?_eq_some_iff.mp hc).1
    refine ⟨by show i < (sOf x).cps.size; unfold sOf; simpa using hl, fun v H' hy => ?_⟩
    obtain ⟨rfl, c', h1, rfl⟩ := hy
    have h2 : (sOf x).cps[i]? = x[i]? := by unfold sOf; simp
    rw [h2, hc] at h1
    cases h1
    exact ⟨G, Grow.refl S, .str [c]⟩
  · show (sOf x).cps.size ≤ i
    unfold sOf
    simpa using hi
theorem rangeD_get : ∀ (n : Nat) (lo : Int) (i : Nat) (d : D), (rangeD lo n)[i]? = some d → i < n ∧ d = .int (lo + i)
  | 0, lo, i, d, h => by simp [rangeD] at h
  | n + 1, lo, 0, d, h => by
    simp [rangeD] at h
    exact ⟨by omega, by rw [← h]; simp⟩
  | n + 1, lo, i + 1, d, h => by
    have h' : (rangeD (lo + 1) n)[i]? = some d := by simpa [rangeD] using h
    obtain ⟨h1, h2⟩ := rangeD_get n (lo + 1) i d h'
    exact ⟨by omega, by rw [h2]; congr 1; push_cast; omega⟩
theorem rangeD_len : ∀ (n : Nat) (lo : Int), (rangeD lo n).length = n
  | 0, _ => rfl
  | n + 1, lo => by show (rangeD (lo + 1) n).length + 1 = n + 1; rw [rangeD_len n]
theorem rangeC_get : ∀ (n : Nat) (lo c : Int) (i : Nat) (d : D), (rangeC lo c n)[i]? = some d → i < n ∧ d = .int (lo + (i : Nat) * c)
  | 0, lo, c, i, d, h => by simp [rangeC] at h
  | n + 1, lo, c, 0, d, h => by
    simp [rangeC] at h
    exact ⟨by omega, by rw [← h]; simp⟩
  | n + 1, lo, c, i + 1, d, h => by
    have h' : (rangeC (lo + c) c n)[i]? = some d := by simpa [rangeC] using h
    obtain ⟨h1, h2⟩ := rangeC_get n (lo + c) c i d h'
    refine ⟨by omega, ?_⟩
    rw [h2]
    congr 1
    push_cast
    rw [Int.add_mul, Int.one_mul]
    omega
theorem rangeC_len : ∀ (n : Nat) (lo c : Int), (rangeC lo c n).length = n
  | 0, _, _ => rfl
  | n + 1, lo, c => by show (rangeC (lo + c) c n).length + 1 = n + 1; rw [rangeC_len n]
theorem walk_rngC {lo c : Int} {n : Nat} : WalkS K G0 (Itc lo c n) (rangeC lo c n) := by
  intro i G W H σ τ s S
  refine ⟨fun d hd => ?_, fun hi => by rw [rangeC_len] at hi; exact hi⟩
  obtain ⟨h1, rfl⟩ := rangeC_get n lo c i d hd
  refine ⟨h1, fun v H' hy => ?_⟩
  obtain ⟨rfl, rfl⟩ := hy
  exact ⟨G, Grow.refl S, .int _⟩
theorem walk_range {lo : Int} {n : Nat} : WalkS K G0 (Itr lo n) (rangeD lo n) := by
  intro i G W H σ τ s S
  refine ⟨fun d hd => ?_, fun hi => by rw [rangeD_len] at hi; exact hi⟩
  obtain ⟨h1, rfl⟩ := rangeD_get n lo i d hd
  refine ⟨h1, fun v H' hy => ?_⟩
  obtain ⟨rfl, rfl⟩ := hy
  exact ⟨G, Grow.refl S, .int _⟩
theorem enumD_get : ∀ (xs : List D) (k i : Nat) (d : D), (enumD k xs)[i]? = some d → ∃ x, xs[i]? = some x ∧ d = .tup [.int ((k + i : Nat) : Int), x]
  | [], k, i, d, h => by simp [enumD] at h
  | x :: xs, k, 0, d, h => by simp [enumD] at h; exact ⟨x, rfl, by rw [← h]; simp⟩
  | x :: xs, k, i + 1, d, h => by
    have h' : (enumD (k + 1) xs)[i]? = some d := by simpa [enumD] using h
    obtain ⟨y, h1, h2⟩ := enumD_get xs (k + 1) i d h'
    exact ⟨y, by simpa using h1, by rw [h2]; have : k + 1 + i = k + (i + 1) := by omega
                                    rw [this]⟩
theorem enumD_len : ∀ (xs : List D) (k : Nat), (enumD k xs).length = xs.length
  | [], _ => rfl
  | _ :: xs, k => by show (enumD (k + 1) xs).length + 1 = xs.length + 1; rw [enumD_len xs]
theorem walk_enum {a : Addr} {vs : List V} {xs : List D} (h : SqL K G0 a vs) (r : Reps K G0 xs vs) : WalkS K G0 (Ite K a) (enumD 0 xs) := by
  intro i G W H σ τ s S
  have hq : SqL K H a vs := S.gh.seq (s.seq h)
  refine ⟨fun d hd => ?_, fun hi => ⟨vs, hq, by rw [enumD_len] at hi; rw [← r.len]; exact hi⟩⟩
  obtain ⟨x, hx, rfl⟩ := enumD_get xs 0 i d hd
  obtain ⟨v, hv, rv⟩ := r.get hx
  refine ⟨⟨vs, v, hq, hv⟩, fun y H' hy => ?_⟩
  obtain ⟨T, y', rfl, hT, rfl, hy⟩ := hy
  have := hy vs hq
  rw [hv] at this
  cases this
  refine ⟨_, Grow.froz S hT _, .tup upd_same ?_⟩
  have e0 : 0 + i = i := by omega
  rw [e0]
  exact .cons (.int _) (.cons ((rv.mono s).mono (same_upd (S.gh.free hT) _)) .nil)
theorem zipD_get : ∀ (xs ys : List D) (i : Nat) (d : D), (zipD xs ys)[i]? = some d → ∃ x y, xs[i]? = some x ∧ ys[i]? = some y ∧ d = .tup [x, y]
  | x :: xs, y :: ys, 0, d, h => by simp [zipD] at h; exact ⟨x, y, rfl, rfl, h.symm⟩
  | x :: xs, y :: ys, i + 1, d, h => by
    obtain ⟨a, b, h1, h2, h3⟩ := zipD_get xs ys i d (by simpa [zipD] using h)
    exact ⟨a, b, by simpa using h1, by simpa using h2, h3⟩
  | [], _, i, d, h => by simp [zipD] at h
  | _ :: _, [], i, d, h => by simp [zipD] at h
theorem zipD_len : ∀ (xs ys : List D), (zipD xs ys).length = min xs.length ys.length
  | x :: xs, y :: ys => by show (zipD xs ys).length + 1 = min (xs.length + 1) (ys.length + 1); rw [zipD_len xs ys]; omega
  | [], _ => by simp [zipD]
  | _ :: _, [] => by simp [zipD]
theorem walk_zip {a b : Addr} {vs ws : List V} {xs ys : List D} (h : SqL K G0 a vs) (r : Reps K G0 xs vs) (h' : SqL K G0 b ws) (r' : Reps K G0 ys ws) : WalkS K G0 (Itz K a b) (zipD xs ys) := by
  intro i G W H σ τ s S
  have hq : SqL K H a vs := S.gh.seq (s.seq h)
  have hq' : SqL K H b ws := S.gh.seq (s.seq h')
  refine ⟨fun d hd => ?_, fun hi => ⟨vs, ws, hq, hq', by rw [zipD_len] at hi; rw [← r.len, ← r'.len]; omega⟩⟩
  obtain ⟨x, y, hx, hy, rfl⟩ := zipD_get xs ys i d hd
  obtain ⟨v, hv, rv⟩ := r.get hx
  obtain ⟨w, hw, rw'⟩ := r'.get hy
  refine ⟨⟨vs, ws, v, w, hq, hq', hv, hw⟩, fun z H' hz => ?_⟩
  obtain ⟨T, x', y', rfl, hT, rfl, h1, h2⟩ := hz
  have e1 := h1 vs hq
  have e2 := h2 ws hq'
  rw [hv] at e1
  rw [hw] at e2
  cases e1
  cases e2
  have g := same_upd (H := G) (S.gh.free hT) (.tup [v, w])
  exact ⟨_, Grow.froz S hT _, .tup upd_same (.cons ((rv.mono s).mono g) (.cons ((rw'.mono s).mono g) .nil))⟩
theorem walk_rev {a : Addr} {vs : List V} {xs : List D} (h : SqL K G0 a vs) (r : Reps K G0 xs vs) : WalkS K G0 (Itv K a vs.length) xs.reverse := by
  intro i G W H σ τ s S
  have hq : SqL K H a vs := S.gh.seq (s.seq h)
  have hl := r.len
  refine ⟨fun d hd => ?_, fun hi => by rw [List.length_reverse] at hi; show vs.length ≤ i; omega⟩
  have hi : i < xs.length := by have := (List.getElem?_eq_some_iff.mp hd).1; simpa using this
  rw [List.getElem?_reverse hi] at hd
  obtain ⟨v, hv, rv⟩ := r.get hd
  rw [hl] at hv
  refine ⟨⟨by omega, vs, v, hq, hv⟩, fun y H' hy => ?_⟩
  obtain ⟨rfl, hy⟩ := hy
  have := hy vs hq
  rw [hv] at this
  cases this
  exact ⟨G, Grow.refl S, rv.mono s⟩
theorem Sim.setVal (S : Sim K G W H σ τ) {i : Nat} {d : D} {v : V} (r : Rep K G d v) : Sim K G W H (σ.set i (some (.val d))) (τ.set i (some v)) := by
  by_cases hi : i < σ.length
  · refine ⟨S.gh, S.gw, S.hw, fun j o e => ?_, by rw [List.length_set, List.length_set]; exact S.len⟩
    by_cases z : i = j
    · subst z
      rw [getO_set hi] at e
      cases e
      exact ⟨v, by rw [List.getElem?_set_self (by rw [← S.len]; exact hi)], .val r⟩
    · rw [getO_set_ne z] at e
      obtain ⟨v', h1, h2⟩ := S.sl j o e
      exact ⟨v', by rw [List.getElem?_set_ne z]; exact h1, h2⟩
  · rw [List.set_eq_of_length_le (by omega), List.set_eq_of_length_le (by rw [← S.len]; omega)]
    exact S
theorem Sim.setNone (S : Sim K G W H σ τ) (i : Nat) (x : Option V) : Sim K G W H (σ.set i none) (τ.set i x) := by
  refine ⟨S.gh, S.gw, S.hw, fun j o e => ?_, by rw [List.length_set, List.length_set]; exact S.len⟩
  by_cases z : i = j
  · subst z
    by_cases hi : i < σ.length
    · rw [getO_set hi] at e; cases e
    · rw [List.set_eq_of_length_le (by omega)] at e
      exact absurd (getO_lt e) hi
  · rw [getO_set_ne z] at e
    obtain ⟨v', h1, h2⟩ := S.sl j o e
    exact ⟨v', by rw [List.getElem?_set_ne z]; exact h1, h2⟩
theorem Sim.wipes (S : Sim K G W H σ τ) : ∀ tg : List Nat, Sim K G W H (wipes tg σ) (wipe τ tg)
  | [] => S
  | v :: vs => (Sim.wipes S vs).setNone v none
theorem wipe_mem {i : Nat} {x : Option V} : ∀ {vs : List Nat} {τ : LS}, i ∈ vs → wipe (τ.set i x) vs = wipe τ vs
  | v :: vs, τ, h => by
    show (wipe (τ.set i x) vs).set v none = (wipe τ vs).set v none
    by_cases hm : i ∈ vs
    · rw [wipe_mem hm]
    · have e : i = v := by
        rcases List.mem_cons.mp h with e | e
        · exact e
        · exact absurd e hm
      subst e
      have c : ∀ (ws : List Nat) (τ : LS), i ∉ ws → wipe (τ.set i x) ws = (wipe τ ws).set i x := by
        intro ws
        induction ws with
        | nil => intro τ _; rfl
        | cons w ws ih =>
          intro τ hn
          rw [List.mem_cons, not_or] at hn
          show (wipe (τ.set i x) ws).set w none = ((wipe τ ws).set w none).set i x
          rw [ih τ hn.2, List.set_comm _ _ hn.1]
      rw [c vs τ hm, List.set_set]
theorem wipe_wipe : ∀ {vs : List Nat} {τ : LS}, wipe (wipe τ vs) vs = wipe τ vs := by
  have key : ∀ (ws vs : List Nat) (τ : LS), (∀ w ∈ ws, w ∈ vs) → wipe (wipe τ ws) vs = wipe τ vs := by
    intro ws
    induction ws with
    | nil => intro vs τ _; rfl
    | cons w ws ih =>
      intro vs τ h
      show wipe ((wipe τ ws).set w none) vs = wipe τ vs
      rw [wipe_mem (h w (by simp)), ih vs τ fun z hz => h z (List.mem_cons_of_mem _ hz)]
  intro vs τ
  exact key vs vs τ fun _ h => h
end
section
variable {X : Cx} {xv : ExV} {Wx : WX}
def SemG (X : Cx) (tg : List Nat) (one : Bool) (g : TG) : Prop := ∀ G W H σ τ x v σ2 (Q : LS → Hp → Prop), Sim X.K G W H σ τ → Rep X.K G x v → store tg one x σ = some σ2 →
  (∀ τ2, Sim X.K G W H σ2 τ2 → (∀ j, j ∉ tg → τ2[j]? = τ[j]?) → wipe τ2 tg = wipe τ tg → Q τ2 H) → g v τ H Q
theorem semG_one {i : Nat} : SemG X [i] true (gName i) := by
  intro G W H σ τ x v σ2 Q S r e h
  cases e
  exact h _ (S.setVal r) (fun j hj => List.getElem?_set_ne (by simpa using Ne.symm (fun z => hj (by simp [z])))) (wipe_mem (by simp))
def gNames : List Nat → TGs
  | [] => gNil
  | i :: is => gCons (gName i) (gNames is)
theorem gNames_ok {K : PySem.W.Frag} {G : Hp} {W : Own?} {H : Hp} {tg : List Nat} {τ0 : LS} : ∀ {is : List Nat} {xs : List D} {vs : List V} {σ : Sg} {τ : LS} {Q : LS → Hp → Prop}, (∀ i ∈ is, i ∈ tg) → Sim K G W H σ τ → Reps K G xs vs → is.length = xs.length →
    (∀ j, j ∉ tg → τ[j]? = τ0[j]?) → wipe τ tg = wipe τ0 tg →
    (∀ τ2, Sim K G W H ((is.zip xs).foldl (fun σ p => σ.set p.1 (some (.val p.2))) σ) τ2 → (∀ j, j ∉ tg → τ2[j]? = τ0[j]?) → wipe τ2 tg = wipe τ0 tg → Q τ2 H) → gNames is vs τ H Q
  | [], [], _, σ, τ, Q, _, S, .nil, _, f, w, h => ⟨rfl, h τ S f w⟩
  | i :: is, x :: xs, _, σ, τ, Q, hm, S, .cons rx r, hl, f, w, h => by
    refine ⟨_, _, rfl, ?_⟩
    have hi := hm i (by simp)
    refine gNames_ok (fun j hj => hm j (List.mem_cons_of_mem _ hj)) (S.setVal rx) r (by simpa using hl) (fun j hj => ?_) ?_ h
    · rw [List.getElem?_set_ne fun z => hj (by rw [← z]; exact hi)]
      exact f j hj
    · rw [wipe_mem hi, w]
theorem semG_tup {is : List Nat} : SemG X is false (gTup X.K is.length (gNames is)) := by
  intro G W H σ τ x v σ2 Q S r e h
  cases x <;> try (cases e; done)
  rename_i xs
  have e' : (if is.length = xs.length then some ((is.zip xs).foldl (fun σ p => σ.set p.1 (some (O.val p.2))) σ) else none) = some σ2 := e
  split at e'
  · rename_i hl
    cases e'
    cases r with
    | tup h1 h2 => exact ⟨_, _, rfl, .of (S.gh _ _ h1), by rw [← h2.len]; exact hl.symm, gNames_ok (fun _ h => h) S h2 hl (fun _ _ => rfl) rfl h⟩
  · cases e'
def SemI (X : Cx) (xv : ExV) (Wx : WX) (wi : TI) (f : Sg → R (List D)) : Prop := ∀ G W H σ τ, Sim X.K G W H σ τ → At X.K xv Wx τ G W H (f σ) (wi τ H) fun G' _ _ xs J => WalkS X.K G' J xs
theorem drop_cons {α : Type} {xs : List α} {i : Nat} (h : i < xs.length) : xs.drop i = xs[i] :: xs.drop (i + 1) := List.drop_eq_getElem_cons h
theorem sem_for {wi : TI} {fi : Sg → R (List D)} {g : TG} {tg : List Nat} {one : Bool} {tb : TS} {fb : Sg → R Fl} {fx : List Nat} (hi : SemI X xv Wx wi fi) (hg : SemG X tg one g) (hfx : ∀ j ∈ fx, j ∉ tg) (hb : SemS X xv Wx fx tb fb) :
    SemS X xv Wx fx (tFor wi g tb) (fun σ => (fi σ).bind fun xs σ1 => forLoop (fun x σ => match store tg one x σ with
      | some σ2 => fb σ2
      | none => .bad) xs σ1) := by
  intro G W H σ τ D S en
  refine EndS.of_at (hi G W H σ τ S) en fun xs σ1 G1 W1 H1 J _ S1 _ wk en1 => ?_
  generalize hr : forLoop (fun x σ => match store tg one x σ with | some σ2 => fb σ2 | none => R.bad) xs σ1 = r at en1
  refine ⟨fun i m τ' H' => m = xs.length - i ∧ i ≤ xs.length ∧ ∃ G' W' σ', Sim X.K G' W' H' σ' τ' ∧ Ext G1 W1 H1 G' W' H' ∧ (∀ j ∈ fx, τ'[j]? = τ[j]?) ∧ forLoop (fun x σ => match store tg one x σ with | some σ2 => fb σ2 | none => R.bad) (xs.drop i) σ' = r,
    ⟨xs.length, by simp, Nat.zero_le _, G1, W1, σ1, S1, Ext.refl _ _ _, fun _ _ => rfl, by simpa using hr⟩, ?_⟩
  rintro i m τ' H' ⟨rfl, hle, G', W', σ', S', E', f', er⟩
  have en' : EndS X.K xv Wx fx D G' W' H' τ' r := EndS.later en1 E' f'
  obtain ⟨w1, w2⟩ := wk i G' W' H' σ' τ' E'.g S'
  by_cases hlt : i < xs.length
  · right
    obtain ⟨go, yl⟩ := w1 _ (List.getElem?_eq_getElem hlt)
    refine ⟨go, fun τ2 H2 => ∃ G2 W2 σ2, Sim X.K G2 W2 H2 σ2 τ2 ∧ Ext G1 W1 H1 G2 W2 H2 ∧ (∀ j ∈ fx, τ2[j]? = τ[j]?) ∧ forLoop (fun x σ => match store tg one x σ with | some σ2 => fb σ2 | none => R.bad) (xs.drop (i + 1)) σ2 = r,
      fun τ2 H2 ⟨G2, W2, σ2, h⟩ => ⟨xs.length - (i + 1), by omega, rfl, hlt, G2, W2, σ2, h⟩, fun v H2 hy => ?_⟩
    obtain ⟨G2, gr, rx⟩ := yl v H2 hy
    rw [drop_cons hlt] at er
    have er2 : ((match store tg one xs[i] σ' with | some σ2 => fb σ2 | none => R.bad).bind fun o σ1 => match o with
      | .nx => forLoop (fun x σ => match store tg one x σ with | some σ2 => fb σ2 | none => R.bad) (xs.drop (i + 1)) σ1
      | .ret v => .ok (.ret v) σ1) = r := er
    have S2 := S'.grow gr
    cases es : store tg one xs[i] σ' with
    | none =>
      rw [es] at er2
      have : R.bad = r := er2
      rw [← this] at en'
      exact en'.elim
    | some σ2 =>
      rw [es] at er2
      replace er2 : ((fb σ2).bind fun o σ1 => match o with
        | .nx => forLoop (fun x σ => match store tg one x σ with | some σ2 => fb σ2 | none => R.bad) (xs.drop (i + 1)) σ1
        | .ret v => .ok (.ret v) σ1) = r := er2
      refine hg G2 W' H2 σ' τ' xs[i] v σ2 _ S2 rx es fun τ2 S3 f3 _ => ?_
      have f4 : ∀ j ∈ fx, τ2[j]? = τ'[j]? := fun j hj => f3 j (hfx j hj)
      have E2 : Ext G' W' H' G2 W' H2 := gr.ext
      have en2 : EndS X.K xv Wx fx D G2 W' H2 τ2 r := EndS.later en' E2 f4
      refine hb G2 W' H2 σ2 τ2 _ S3 ?_
      cases ef : fb σ2 with
      | bad =>
        rw [ef] at er2
        have : R.bad = r := er2
        rw [← this] at en'
        exact en'.elim
      | exc c σ3 =>
        rw [ef] at er2
        have : R.exc c σ3 = r := er2
        rw [← this] at en2
        exact en2
      | ok fl σ3 =>
        rw [ef] at er2
        cases fl with
        | ret o =>
          have : R.ok (Fl.ret o) σ3 = r := er2
          rw [← this] at en2
          exact en2
        | nx =>
          exact fun G3 W3 H3 τ3 S4 E4 f5 => ⟨G3, W3, σ3, S4, E'.trans (E2.trans E4), fun j hj => (f5 j hj).trans ((f4 j hj).trans (f' j hj)), er2⟩
  · left
    refine ⟨w2 (by omega), ?_⟩
    rw [List.drop_eq_nil_of_le (by omega)] at er
    have : R.ok Fl.nx σ' = r := er
    rw [← this] at en'
    exact en' G' W' H' τ' S' (Ext.refl _ _ _) fun _ _ => rfl
theorem sem_while {tc : TT} {tb : TS} {fc : Sg → R Bool} {fb : Sg → R Fl} {fx : List Nat} {n : Nat} (hc : SemT X xv Wx tc fc) (hb : SemS X xv Wx fx tb fb) : SemS X xv Wx fx (tWhile tc tb) (fun σ => whLoop fc fb n σ) := by
  intro G W H σ τ D S en
  dsimp only at en
  generalize hr : whLoop fc fb n σ = r at en
  refine ⟨fun m τ' H' => ∃ G' W' σ', Sim X.K G' W' H' σ' τ' ∧ Ext G W H G' W' H' ∧ (∀ j ∈ fx, τ'[j]? = τ[j]?) ∧ whLoop fc fb m σ' = r, ⟨n, G, W, σ, S, Ext.refl _ _ _, fun _ _ => rfl, hr⟩, ?_⟩
  rintro m τ' H' ⟨G', W', σ', S', E', f', er⟩
  have en' : EndS X.K xv Wx fx D G' W' H' τ' r := EndS.later en E' f'
  cases m with
  | zero =>
    have : R.bad = r := er
    rw [← this] at en'
    exact en'.elim
  | succ m =>
    have er2 : ((fc σ').bind fun b σ1 => if b = true then (fb σ1).bind fun o σ2 => match o with
      | .nx => whLoop fc fb m σ2
      | .ret v => .ok (.ret v) σ2
      else .ok .nx σ1) = r := er
    rw [← er2] at en'
    refine EndS.of_at (hc G' W' H' σ' τ' S') en' fun b σ1 G1 W1 H1 c eb S1 E1 p en1 => ?_
    subst p
    cases b with
    | false => exact en1 G1 W1 H1 τ' S1 (Ext.refl _ _ _) fun _ _ => rfl
    | true =>
      refine ⟨fun τ2 H2 => ∃ G2 W2 σ2, Sim X.K G2 W2 H2 σ2 τ2 ∧ Ext G W H G2 W2 H2 ∧ (∀ j ∈ fx, τ2[j]? = τ[j]?) ∧ whLoop fc fb m σ2 = r, fun τ2 H2 ⟨G2, W2, σ2, h⟩ => ⟨m, by omega, G2, W2, σ2, h⟩, ?_⟩
      rw [eb] at er2
      replace er2 : ((fb σ1).bind fun o σ2 => match o with
        | .nx => whLoop fc fb m σ2
        | .ret v => .ok (.ret v) σ2) = r := er2
      replace en1 : EndS X.K xv Wx fx D G1 W1 H1 τ' ((fb σ1).bind fun o σ2 => match o with
        | .nx => whLoop fc fb m σ2
        | .ret v => .ok (.ret v) σ2) := en1
      refine hb G1 W1 H1 σ1 τ' _ S1 ?_
      cases ef : fb σ1 with
      | bad => rw [ef] at en1; exact en1.elim
      | exc c σ3 => rw [ef] at en1; exact en1
      | ok fl σ3 =>
        rw [ef] at en1 er2
        cases fl with
        | ret o => exact en1
        | nx => exact fun G3 W3 H3 τ3 S4 E4 f5 => ⟨G3, W3, σ3, S4, E'.trans (E1.trans E4), fun j hj => (f5 j hj).trans (f' j hj), er2⟩
theorem Ext.updNew {G H G' H' : Hp} {W W' : Own?} {A : Addr} {o : HO} (E : Ext G W H G' W' H') (hA : H A = none) : Ext G W H G' W' (upd H' A o) := by
  refine ⟨E.g, fun b h1 h2 => ?_, fun b h1 => ?_, E.w, E.gn⟩
  · rw [upd_ne fun z => h1 (by rw [z]; exact hA)]; exact E.keep b h1 h2
  · rw [upd_ne fun z => h1 (by rw [z]; exact hA)]; exact E.there b h1
theorem Sim.other {K : PySem.W.Frag} {G H : Hp} {W : Own?} {σ : Sg} {τ : LS} (S : Sim K G W H σ τ) {a : Addr} {o : HO} (hg : G a = none) (hw : W a = none) : Sim K G W (upd H a o) σ τ := by
  refine ⟨fun b u e => ?_, S.gw, fun b p e => ?_, fun i o' e => ?_, S.len⟩
  · rw [upd_ne (ne_of_none e hg)]; exact S.gh _ _ e
  · by_cases z : b = a
    · rw [z, upd_same]; simp
    · rw [upd_ne z]; exact S.hw _ _ e
  · obtain ⟨v, h1, h2⟩ := S.sl i o' e
    exact ⟨v, h1, h2.move (Same.refl _) fun b q eb => ⟨eb, upd_ne fun z => by rw [z, hw] at eb; cases eb⟩⟩
theorem unwipe_sim {K : PySem.W.Frag} {G H G1 H1 : Hp} {W W1 : Own?} {σ σ1 σ4 : Sg} {τ : LS} (S1 : Sim K G1 W1 H1 σ1 τ) (s : Same G1 G) : ∀ {tg tg0 : List Nat}, Sim K G W H σ (wipe τ tg0) → (∀ i ∈ tg, getO σ i = none) → (∀ i ∈ tg, i ∈ tg0) → unwipe tg σ1 σ = some σ4 →
    (∀ i o, getO σ4 i = some o → ∃ v, τ[i]? = some (some v) ∧ Own K G H W [i + 1] o v) ∧ σ4.length = σ.length
  | [], tg0, S, _, _, e => by
    cases e
    refine ⟨fun i o eo => ?_, rfl⟩
    obtain ⟨v, h1, h2⟩ := S.sl i o eo
    exact ⟨v, (wipe_some h1).1, h2⟩
  | t :: tg, tg0, S, hn, hm, e => by
    unfold unwipe at e
    split at e
    · rename_i eg
      obtain ⟨s4, es, rfl⟩ := Option.map_eq_some_iff.mp e
      obtain ⟨h1, h2⟩ := unwipe_sim S1 s (tg := tg) S (fun i hi => hn i (List.mem_cons_of_mem _ hi)) (fun i hi => hm i (List.mem_cons_of_mem _ hi)) es
      refine ⟨fun i o eo => ?_, by rw [List.length_set]; exact h2⟩
      by_cases z : t = i
      · subst z
        by_cases hl : t < s4.length
        · rw [getO_set hl] at eo; cases eo
        · rw [List.set_eq_of_length_le (by omega)] at eo; exact absurd (getO_lt eo) hl
      · rw [getO_set_ne z] at eo; exact h1 i o eo
    · rename_i d eg
      obtain ⟨s4, es, rfl⟩ := Option.map_eq_some_iff.mp e
      obtain ⟨h1, h2⟩ := unwipe_sim S1 s (tg := tg) S (fun i hi => hn i (List.mem_cons_of_mem _ hi)) (fun i hi => hm i (List.mem_cons_of_mem _ hi)) es
      refine ⟨fun i o eo => ?_, by rw [List.length_set]; exact h2⟩
      by_cases z : t = i
      · subst z
        by_cases hl : t < s4.length
        · rw [getO_set hl] at eo
          cases eo
          obtain ⟨v, q1, q2⟩ := S1.sl t _ eg
          cases q2 with
          | val r => exact ⟨v, q1, .val (r.mono s)⟩
        · rw [List.set_eq_of_length_le (by omega)] at eo; exact absurd (getO_lt eo) hl
      · rw [getO_set_ne z] at eo; exact h1 i o eo
    · cases e
theorem wipes_none : ∀ {tg : List Nat} {σ : Sg} {i : Nat}, i ∈ tg → getO (wipes tg σ) i = none
  | t :: tg, σ, i, h => by
    show getO ((wipes tg σ).set t none) i = none
    by_cases z : t = i
    · subst z
      by_cases hl : t < (wipes tg σ).length
      · exact getO_set hl
      · rw [List.set_eq_of_length_le (by omega)]
        cases e : getO (wipes tg σ) t with
        | none => rfl
        | some o => exact absurd (getO_lt e) hl
    · rw [getO_set_ne z]
      rcases List.mem_cons.mp h with e | e
      · exact absurd e.symm z
      · exact wipes_none e
def WalkE (K : PySem.W.Frag) (G0 : Hp) (W0 : Own?) (H0 : Hp) (J : It) (xs : List D) : Prop := ∀ (i : Nat) (G : Hp) (W : Own?) (H : Hp) (σ : Sg) (τ : LS), Ext G0 W0 H0 G W H → Sim K G W H σ τ →
  (∀ x, xs[i]? = some x → J.go i H ∧ ∀ v H', J.yld i H v H' → ∃ G', Grow G W H G' W H' ∧ Rep K G' x v) ∧ (xs.length ≤ i → J.stop i H)
theorem WalkS.ext {K : PySem.W.Frag} {G0 : Hp} {W0 : Own?} {H0 : Hp} {J : It} {xs : List D} (h : WalkS K G0 J xs) : WalkE K G0 W0 H0 J xs := fun i G W H σ τ E S => h i G W H σ τ E.g S
theorem comp_core {Xb : Cx} (hKb : Xb.K = X.K) {g : TG} {tg : List Nat} {one : Bool} {tt : TT} {te : TE} {ft : Sg → R Bool} {fe : Sg → R O} (hg : SemG Xb tg one g)
    (ht : SemT Xb xv (fun _ _ _ _ => False) tt ft) (he : SemO Xb xv (fun _ _ _ _ => False) te none fe) {f : D → Sg → R (Option D)} (hf : (fun x σ => match store tg one x (PV.wipes tg σ) with
      | some σ2 => (ft σ2).bind fun b σ3 => if b = true then (pre none (fe σ3) σ3).bind fun d σ4 => R.ok d σ4 else R.ok none σ3
      | none => R.bad) = f) {G1 : Hp} {W1 : Own?} {H1 : Hp} {σ1 σ2 σ4 : Sg} {τ : LS} {xs ys : List D} {J : It} (S1 : Sim X.K G1 W1 H1 σ1 τ) (wk : WalkE X.K G1 W1 H1 J xs)
    (hr : compLoop f xs σ1 = .ok ys σ2) (hu : unwipe tg σ1 (PV.wipes tg σ2) = some σ4) (hz : ys.length ≤ SZ) {Q : V → Hp → Prop} (hx : ∀ G' W' H' v, Sim X.K G' W' H' σ4 τ → Ext G1 W1 H1 G' W' H' → Own X.K G' H' W' [0] (.lst ys) v → Q v H') :
    ∀ D, H1 D = none → ∃ W : Nat → Nat → Hp → Prop, (∃ m, W 0 m (upd H1 D (.lst []))) ∧ ∀ i m H, W i m H →
    (J.stop i H ∧ Q (V.ref D) H) ∨ (J.go i H ∧ ∃ Nx : Hp → Prop, (∀ H', Nx H' → ∃ m', m' < m ∧ W (i + 1) m' H') ∧ ∀ x H', J.yld i H x H' → g x (wipe τ tg) H' fun σ2 H2 => wipe σ2 tg = wipe τ tg ∧ tt σ2 H2 fun b H3 =>
      if b = true then te σ2 H3 fun y H4 => ∃ acc, H4 D = some (.lst acc) ∧ acc.length < sizeLine ∧ Nx (upd H4 D (.lst (acc ++ [y]))) else Nx H3) := by
  intro A hA
  have gA : G1 A = none := S1.gh.free hA
  have wA : W1 A = none := by
    cases e : W1 A with
    | none => rfl
    | some p => exact absurd hA (S1.hw _ _ e)
  refine ⟨fun i m H' => m = xs.length - i ∧ i ≤ xs.length ∧ ∃ (G' : Hp) (W' : Own?) (σ' : Sg) (as : List D) (vs : List V) (yr : List D), Sim X.K G' W' H' (PV.wipes tg σ') (wipe τ tg) ∧ Ext G1 W1 H1 G' W' H' ∧ H' A = some (.lst vs) ∧ G' A = none ∧ W' A = none ∧ Reps X.K G' as vs ∧
    compLoop f (xs.drop i) σ' = .ok yr σ2 ∧ as ++ yr = ys, ⟨xs.length, by simp, Nat.zero_le _, G1, W1, σ1, [], [], ys, (S1.other gA wA).wipes tg, ?_, upd_same, gA, wA, .nil, by simpa using hr, rfl⟩, ?_⟩
  · exact (Ext.refl _ _ _).updNew hA
  rintro i m H' ⟨rfl, hle, G', W', σ', as, vs, yr, S', E', hA', gA', wA', ra, er, ey⟩
  obtain ⟨w1, w2⟩ := wk i G' W' H' _ _ E' S'
  by_cases hlt : i < xs.length
  · right
    obtain ⟨go, yl⟩ := w1 _ (List.getElem?_eq_getElem hlt)
    refine ⟨go, fun H2 => ∃ (G' : Hp) (W' : Own?) (σ' : Sg) (as : List D) (vs : List V) (yr : List D), Sim X.K G' W' H2 (PV.wipes tg σ') (wipe τ tg) ∧ Ext G1 W1 H1 G' W' H2 ∧ H2 A = some (.lst vs) ∧ G' A = none ∧ W' A = none ∧ Reps X.K G' as vs ∧
      compLoop f (xs.drop (i + 1)) σ' = .ok yr σ2 ∧ as ++ yr = ys, fun H2 h => ⟨xs.length - (i + 1), by omega, rfl, hlt, h⟩, fun v H2 hy => ?_⟩
    obtain ⟨G2, gr, rx⟩ := yl v H2 hy
    rw [drop_cons hlt] at er
    have er2 : ((f xs[i] σ').bind fun o σ1 => (compLoop f (xs.drop (i + 1)) σ1).bind fun ys σ2 => R.ok (match o with | some y => y :: ys | none => ys) σ2) = .ok yr σ2 := er
    have S2 := S'.grow gr
    have keepA : ∀ {G3 H3 : Hp} {W3 : Own?}, Ext G' W' H' G3 W3 H3 → H3 A = some (.lst vs) ∧ G3 A = none ∧ W3 A = none := fun {G3 H3 W3} E => by
      have nA : H' A ≠ none := by rw [hA']; simp
      refine ⟨by rw [E.keep A nA wA']; exact hA', ?_, ?_⟩
      · cases e : G3 A with
        | none => rfl
        | some u =>
          rcases E.gn A (by rw [e]; simp) with z | z | z
          · exact absurd gA' z
          · exact absurd wA' z
          · exact absurd z nA
      · cases e : W3 A with
        | none => rfl
        | some u =>
          rcases E.w A (by rw [e]; simp) with z | z
          · exact absurd wA' z
          · exact absurd z nA
    rw [← hf] at er2
    dsimp only at er2
    rw [hf] at er2
    cases es : store tg one xs[i] (PV.wipes tg σ') with
    | none => rw [es] at er2; cases er2
    | some σa =>
      rw [es] at er2
      replace er2 : (((ft σa).bind fun b σ3 => if b = true then (pre none (fe σ3) σ3).bind fun d σ4 => R.ok d σ4 else R.ok none σ3).bind fun o σ1 => (compLoop f (xs.drop (i + 1)) σ1).bind fun ys σ2 => R.ok (match o with | some y => y :: ys | none => ys) σ2) = .ok yr σ2 := er2
      refine hg G2 W' H2 _ _ xs[i] v σa _ (by rw [hKb]; exact S2) (by rw [hKb]; exact rx) es fun τ2 S3 f3 wp => ?_
      refine ⟨by rw [wp, wipe_wipe], ?_⟩
      have ht' := ht G2 W' H2 σa τ2 S3
      cases eft : ft σa with
      | bad => rw [eft] at er2; cases er2
      | exc c σ3 => rw [eft] at er2; cases er2
      | ok b σ3 =>
        rw [eft] at er2 ht'
        refine ht' _ fun G3 W3 H3 c S4 E4 ebc => ?_
        subst ebc
        have E34 : Ext G' W' H' G3 W3 H3 := gr.ext.trans E4
        cases b with
        | false =>
          rw [if_neg Bool.false_ne_true]
          replace er2 : ((compLoop f (xs.drop (i + 1)) σ3).bind fun ys σ2 => R.ok ys σ2) = .ok yr σ2 := er2
          obtain ⟨q1, q2, q3⟩ := keepA E34
          refine ⟨G3, W3, σ3, as, vs, yr, ?_, E'.trans E34, q1, q2, q3, ra.mono E34.g, ?_, ey⟩
          · have := Sim.wipes S4 tg
            rw [wp, wipe_wipe, hKb] at this
            exact this
          · cases ec : compLoop f (xs.drop (i + 1)) σ3 with
            | bad => rw [ec] at er2; cases er2
            | exc c σ5 => rw [ec] at er2; cases er2
            | ok y5 σ5 => rw [ec] at er2; exact er2
        | true =>
          rw [if_pos rfl]
          replace er2 : (((pre none (fe σ3) σ3).bind fun d σ4 => R.ok d σ4).bind fun o σ1 => (compLoop f (xs.drop (i + 1)) σ1).bind fun ys σ2 => R.ok (match o with | some y => y :: ys | none => ys) σ2) = .ok yr σ2 := er2
          have he' := he G3 W3 H3 σ3 τ2 S4
          cases epf : pre none (fe σ3) σ3 with
          | bad => rw [epf] at er2; cases er2
          | exc c σ5 => rw [epf] at er2; cases er2
          | ok d σ5 =>
            rw [epf] at er2 he'
            refine he' _ fun G5 W5 H5 y S5 E5 p5 => ?_
            obtain ⟨z, rfl, rz⟩ := p5
            replace er2 : ((compLoop f (xs.drop (i + 1)) σ5).bind fun ys σ2 => R.ok (z :: ys) σ2) = .ok yr σ2 := er2
            have E35 : Ext G' W' H' G5 W5 H5 := E34.trans E5
            obtain ⟨q1, q2, q3⟩ := keepA E35
            cases ec : compLoop f (xs.drop (i + 1)) σ5 with
            | bad => rw [ec] at er2; cases er2
            | exc c σ6 => rw [ec] at er2; cases er2
            | ok y6 σ6 =>
              rw [ec] at er2
              cases er2
              have hl : vs.length < sizeLine := by
                rw [← ra.len, szl]
                have : ys.length = as.length + (y6.length + 1) := by rw [← ey, List.length_append, List.length_cons]
                have hz' : ys.length ≤ 16777216 := hz
                omega
              refine ⟨vs, q1, hl, G5, W5, σ5, as ++ [z], vs ++ [y], y6, ?_, ?_, upd_same, q2, q3, ?_, ec, by rw [← ey, List.append_assoc]; rfl⟩
              · have := Sim.wipes S5 tg
                rw [wp, wipe_wipe, hKb] at this
                exact this.other q2 q3
              · exact (E'.trans E35).updNew hA
              · rw [hKb] at rz
                exact (ra.mono E35.g).app (.cons rz .nil)
  · left
    refine ⟨w2 (by omega), ?_⟩
    rw [List.drop_eq_nil_of_le (by omega)] at er
    cases er
    rw [List.append_nil] at ey
    subst ey
    obtain ⟨u1, u2⟩ := unwipe_sim S1 E'.g S' (fun i hi => wipes_none hi) (fun _ h => h) hu
    have S4 : Sim X.K G' W' H' σ4 τ := ⟨S'.gh, S'.gw, S'.hw, u1, by rw [u2, S'.len, wipe_length]⟩
    refine hx G' (own W' A [0]) H' (.ref A) ⟨S4.gh, fun b p e => ?_, fun b p e => ?_, fun j o e => ?_, S4.len⟩ ⟨E'.g, E'.keep, E'.there, fun b hb => ?_, E'.gn⟩ (.lst own_same hA' ra)
    · by_cases z : b = A
      · rw [z]; exact gA'
      · rw [own_ne z] at e; exact S4.gw _ _ e
    · by_cases z : b = A
      · rw [z, hA']; simp
      · rw [own_ne z] at e; exact S4.hw _ _ e
    · obtain ⟨v, h1, h2⟩ := S4.sl j o e
      exact ⟨v, h1, h2.move (Same.refl _) fun b q eb => ⟨(own_ne fun z => by rw [z, wA'] at eb; cases eb).trans eb, rfl⟩⟩
    · by_cases z : b = A
      · exact .inr (by rw [z]; exact hA)
      · rw [own_ne z] at hb; exact E'.w b hb
theorem sem_comp {Xb : Cx} (hKb : Xb.K = X.K) {wi : TI} {fi : Sg → R (List D)} {g : TG} {tg : List Nat} {one : Bool} {tt : TT} {te : TE} {ft : Sg → R Bool} {fe : Sg → R O} (hi : SemI X xv Wx wi fi) (hg : SemG Xb tg one g)
    (ht : SemT Xb xv (fun _ _ _ _ => False) tt ft) (he : SemO Xb xv (fun _ _ _ _ => False) te none fe) :
    SemE X xv Wx (tLc wi g tt te tg) (fun σ => (fi σ).bind fun xs σ1 => noExc ((compLoop (fun x σ => match store tg one x (wipes tg σ) with
      | some σ2 => (ft σ2).bind fun b σ3 => if b = true then (pre none (fe σ3) σ3).bind fun d σ4 => .ok d σ4 else .ok none σ3
      | none => .bad) xs σ1).bind fun ys σ2 => match unwipe tg σ1 (wipes tg σ2) with
      | some σ4 => if ys.length ≤ SZ then .ok (.lst ys) σ4 else .bad
      | none => .bad)) := by
  intro G W H σ τ S
  generalize hf : (fun x σ => match store tg one x (PV.wipes tg σ) with
      | some σ2 => (ft σ2).bind fun b σ3 => if b = true then (pre none (fe σ3) σ3).bind fun d σ4 => R.ok d σ4 else R.ok none σ3
      | none => R.bad) = f
  refine At.bind (tr2 := fun J H1 Q => ∀ D, H1 D = none → ∃ W : Nat → Nat → Hp → Prop, (∃ m, W 0 m (upd H1 D (.lst []))) ∧ ∀ i m H, W i m H →
    (J.stop i H ∧ Q (V.ref D) H) ∨ (J.go i H ∧ ∃ Nx : Hp → Prop, (∀ H', Nx H' → ∃ m', m' < m ∧ W (i + 1) m' H') ∧ ∀ x H', J.yld i H x H' → g x (wipe τ tg) H' fun σ2 H2 => wipe σ2 tg = wipe τ tg ∧ tt σ2 H2 fun b H3 =>
      if b = true then te σ2 H3 fun y H4 => ∃ acc, H4 D = some (.lst acc) ∧ acc.length < sizeLine ∧ Nx (upd H4 D (.lst (acc ++ [y]))) else Nx H3)) (hi G W H σ τ S) fun xs σ1 G1 W1 H1 J S1 E1 wk => ?_
  cases hr : compLoop f xs σ1 with
  | bad => exact trivial
  | exc c σ2 => exact trivial
  | ok ys σ2 =>
    show At X.K xv Wx τ G1 W1 H1 (noExc (match unwipe tg σ1 (PV.wipes tg σ2) with | some σ4 => if ys.length ≤ SZ then R.ok (O.lst ys) σ4 else .bad | none => .bad)) _ _
    cases hu : unwipe tg σ1 (PV.wipes tg σ2) with
    | none => exact trivial
    | some σ4 =>
      show At X.K xv Wx τ G1 W1 H1 (noExc (if ys.length ≤ SZ then R.ok (O.lst ys) σ4 else .bad)) _ _
      by_cases hz : ys.length ≤ SZ
      · rw [if_pos hz]
        exact fun Q hx => comp_core hKb hg ht he hf S1 wk.ext hr hu hz hx
      · rw [if_neg hz]
        exact trivial
end
end PV
set_option maxRecDepth 100000
set_option maxHeartbeats 1000000
namespace PV
open PySem RZ
open PySem.Sem (wp)
section
variable {prog : Program} {w : World} {A : Around} {E : Value → Shared → Prop} {s : Shared}
structure ZSt (h : Heap) (z P O u v t l : Addr) (k : Nat) (a b : Value) : Prop where
  z : IsZip h z P O .none
  p : IsPair h P (.ref u) (.ref v)
  o : IsPair h O a b
  u : h.IsTupleIter u t k
  v : h.IsListIter v l k
theorem mz_item {z P O u v t l : Addr} {k : Nat} {xs ys : Array Value} {x y a b : Value} {Q : Value → Shared → Prop} (D : ZipApart z P O u v t l) (S : ZSt s.heap z P O u v t l k a b)
    (ht : s.heap.IsTuple t xs) (hl : s.heap.IsList l ys) (ex : xs[k]? = some x) (ey : ys[k]? = some y)
    (hQ : ∀ g, IsZip g z P O (rawInt s.heap.objs.size) → IsPair g O x y → g.IsTupleIter u t (k + 1) → g.IsListIter v l (k + 1) → IsPair g s.heap.objs.size x y → g.objs.size = s.heap.objs.size + 1 → (∀ c ob, c ≠ z → c ≠ O → c ≠ u → c ≠ v → s.heap.get? c = some ob → g.get? c = some ob) → Q (.ref s.heap.objs.size) { s with heap := g }) :
    wpAny (model prog w) A (Builtin.«zip.__next__» ⟨[.ref z], []⟩) (fun f s' => ∃ r, f = .done (.ret r) ∧ Q r s') E s := by
  obtain ⟨hz, hP, hO, hu, hv⟩ := S
  show wpAny _ _ (field (.ref z) 2 >>= _) _ _ _; refine wpAny_bind (wpAny_field hz rfl (x := .bool false) rfl ?_); show wpAny _ _ (field (.ref z) 3 >>= _) _ _ _
  refine wpAny_bind (wpAny_field hz rfl (x := .ref P) rfl ?_); refine wpAny_bind (wpAny_seqItems hP rfl ?_); show wpAny _ _ (Builtin.SmallTypes.ownedTupleIsFree (.ref z) >>= _) _ _ _
  refine wpAny_bind ?_; unfold Builtin.SmallTypes.ownedTupleIsFree; refine wpAny_bind (wpAny_field hz rfl (x := .none) rfl (wpAny_pure ?_)); simp only [if_true]
  refine wpAny_bind (wpAny_rule ?_); refine wpAny_bind (wpAny_field hz rfl (x := .ref O) rfl ?_); refine wpAny_bind (wpAny_setField_rec hz (by simp) fun g1 z1 k1 => ?_)
  replace z1 : IsZip g1 z P O .ellipsis := z1
  refine wpAny_bind ?_; simp only [List.zipIdx_cons, List.zipIdx_nil, List.forIn_cons, List.forIn_nil]
  refine wpAny_bind (wpAny_bind (wpAny_onRaise ?_)); show wpAny _ _ (Builtin.SmallTypes.nextOf (.ref u) >>= _) _ _ _
  refine wpAny_bind (nextOf_tuple_item (hu.extBut k1.extBut D.i1z) (ht.extBut k1.extBut D.l1z) ex fun g2 u2 k2 => wpAny_pure ?_)
  have o2 : IsPair g2 O a b := k2.extBut _ _ D.TOi1 (k1.extBut _ _ D.TOz hO)
  refine wpAny_bind (wpAny_seqItems o2 rfl ?_); refine wpAny_bind (wpAny_updateSeq_pair o2 fun g3 o3 k3 => ?_)
  replace o3 : IsPair g3 O x b := o3
  refine wpAny_bind (wpAny_letGo (wpAny_pure ?_)); refine wpAny_bind (wpAny_bind (wpAny_onRaise ?_)); show wpAny _ _ (Builtin.SmallTypes.nextOf (.ref v) >>= _) _ _ _
  refine wpAny_bind (wpAny_nextOf_list_item (((hv.extBut k1.extBut D.i2z).extBut k2.extBut D.i12.symm).extBut k3.extBut D.TOi2.symm) (((hl.extBut k1.extBut D.l2z).extBut k2.extBut D.l2i1).extBut k3.extBut D.l2TO) ey fun g4 v4 k4 => wpAny_pure ?_)
  have o4 : IsPair g4 O x b := k4.extBut _ _ D.TOi2 o3
  refine wpAny_bind (wpAny_seqItems o4 rfl ?_); refine wpAny_bind (wpAny_updateSeq_pair o4 fun g5 o5 k5 => ?_)
  replace o5 : IsPair g5 O x y := o5
  refine wpAny_bind (wpAny_letGo (wpAny_pure (wpAny_pure ?_))); refine wpAny_bind (wpAny_seqItems o5 rfl ?_); refine wpAny_bind (wpAny_newTuple ?_)
  have sz : g5.objs.size = s.heap.objs.size := by rw [k5.1, k4.1, k3.1, k2.1, k1.1]
  have z5 : IsZip g5 z P O .ellipsis := k5.extBut _ _ D.TOz.symm (k4.extBut _ _ D.i2z.symm (k3.extBut _ _ D.TOz.symm (k2.extBut _ _ D.i1z.symm z1)))
  have kk : ∀ c ob, c ≠ z → c ≠ O → c ≠ u → c ≠ v → s.heap.get? c = some ob → g5.get? c = some ob := fun c ob c1 c2 c3 c4 e => k5.extBut _ _ c2 (k4.extBut _ _ c4 (k3.extBut _ _ c2 (k2.extBut _ _ c3 (k1.extBut _ _ c1 e))))
  have u5 : g5.IsTupleIter u t (k + 1) := ((u2.extBut k3.extBut D.TOi1.symm).extBut k4.extBut D.i12).extBut k5.extBut D.TOi1.symm
  have v5 : g5.IsListIter v l (k + 1) := v4.extBut k5.extBut D.TOi2.symm
  have lz : z < g5.objs.size := Heap.lt_size z5
  show wpAny _ _ (Builtin.SmallTypes.ownedTupleHandOut (.ref z) (.ref g5.objs.size) >>= _) _ _ _; refine wpAny_bind ?_; unfold Builtin.SmallTypes.ownedTupleHandOut
  have z6 : IsZip (g5.push { cls := .type "tuple", data := .seq #[x, y] }) z P O .ellipsis := Heap.get?_push_of_some _ z5
  refine wpAny_bind (wpAny_setField_rec z6 (by simp) fun g7 z7 k7 => ?_); replace z7 : IsZip g7 z P O (rawInt g5.objs.size) := z7
  refine wpAny_setField_rec z7 (by simp) fun g8 z8 k8 => ?_; replace z8 : IsZip g8 z P O (rawInt g5.objs.size) := z8
  have up : ∀ c ob, c ≠ z → g5.get? c = some ob → g8.get? c = some ob := fun c ob c1 e => k8.extBut _ _ c1 (k7.extBut _ _ c1 (Heap.get?_push_of_some _ e))
  have n8 : IsPair g8 g5.objs.size x y := k8.extBut _ _ (Nat.ne_of_gt lz) (k7.extBut _ _ (Nat.ne_of_gt lz) (Heap.get?_push_size _ rfl))
  have s8 : g8.objs.size = g5.objs.size + 1 := by rw [k8.1, k7.1, Heap.size_push]
  rw [sz] at z8 n8 s8
  refine wpAny_pure ⟨_, rfl, ?_⟩; show Q (.ref g5.objs.size) _; rw [sz]
  exact hQ g8 z8 (up _ _ D.TOz o5) (u5.at fun ob e => up _ ob D.i1z e) (v5.at fun ob e => up _ ob D.i2z e) n8 s8 fun c ob c1 c2 c3 c4 e => up c ob c1 (kk c ob c1 c2 c3 c4 e)
theorem mz_end {z P O u v t l : Addr} {k : Nat} {xs ys : Array Value} {a b : Value} {Q : Fin → Shared → Prop} (hh : A.handled = none) (D : ZipApart z P O u v t l) (S : ZSt s.heap z P O u v t l k a b)
    (ht : s.heap.IsTuple t xs) (hl : s.heap.IsList l ys) (end_ : xs[k]? = none ∨ ys[k]? = none)
    (hE : ∀ g e, (∀ c ob, c ≠ z → c ≠ O → c ≠ u → c ≠ v → s.heap.get? c = some ob → g.get? c = some ob) → (∃ ob, g.get? e = some ob ∧ ob.cls = .type "StopIteration") → E (.ref e) { s with heap := g }) :
    wpAny (model prog w) A (Builtin.«zip.__next__» ⟨[.ref z], []⟩) Q E s := by
  obtain ⟨hz, hP, hO, hu, hv⟩ := S
  show wpAny _ _ (field (.ref z) 2 >>= _) _ _ _; refine wpAny_bind (wpAny_field hz rfl (x := .bool false) rfl ?_); show wpAny _ _ (field (.ref z) 3 >>= _) _ _ _
  refine wpAny_bind (wpAny_field hz rfl (x := .ref P) rfl ?_); refine wpAny_bind (wpAny_seqItems hP rfl ?_); show wpAny _ _ (Builtin.SmallTypes.ownedTupleIsFree (.ref z) >>= _) _ _ _
  refine wpAny_bind ?_; unfold Builtin.SmallTypes.ownedTupleIsFree; refine wpAny_bind (wpAny_field hz rfl (x := .none) rfl (wpAny_pure ?_)); simp only [if_true]
  refine wpAny_bind (wpAny_rule ?_); refine wpAny_bind (wpAny_field hz rfl (x := .ref O) rfl ?_); refine wpAny_bind (wpAny_setField_rec hz (by simp) fun g1 z1 k1 => ?_)
  replace z1 : IsZip g1 z P O .ellipsis := z1
  refine wpAny_bind ?_; simp only [List.zipIdx_cons, List.zipIdx_nil, List.forIn_cons, List.forIn_nil]
  refine wpAny_bind (wpAny_bind (wpAny_onRaise ?_)); show wpAny _ _ (Builtin.SmallTypes.nextOf (.ref u) >>= _) _ _ _
  cases ex : xs[k]? with
  | none =>
    refine wpAny_bind (nextOf_tuple_end hh (hu.extBut k1.extBut D.i1z) (ht.extBut k1.extBut D.l1z) ex fun g2 e k2 he => ?_); obtain ⟨oe, hoe, hce⟩ := he
    have z2 : IsZip g2 z P O .ellipsis := k2 _ _ D.i1z.symm z1
    have ne : e ≠ z := fun x => by subst x; rw [z2] at hoe; cases hoe; simp at hce
    refine wpAny_setField_rec z2 (by simp) fun g3 _ k3 => hE g3 e (fun c ob c1 _ c3 _ x => k3.extBut _ _ c1 (k2 _ _ c3 (k1.extBut _ _ c1 x))) ⟨oe, k3.extBut _ _ ne hoe, hce⟩
  | some x =>
    have ey : ys[k]? = none := end_.resolve_left (by rw [ex]; exact fun q => nomatch q)
    refine wpAny_bind (nextOf_tuple_item (hu.extBut k1.extBut D.i1z) (ht.extBut k1.extBut D.l1z) ex fun g2 u2 k2 => wpAny_pure ?_)
    have o2 : IsPair g2 O a b := k2.extBut _ _ D.TOi1 (k1.extBut _ _ D.TOz hO)
    refine wpAny_bind (wpAny_seqItems o2 rfl ?_); refine wpAny_bind (wpAny_updateSeq_pair o2 fun g3 o3 k3 => ?_); refine wpAny_bind (wpAny_letGo (wpAny_pure ?_))
    refine wpAny_bind (wpAny_bind (wpAny_onRaise ?_)); show wpAny _ _ (Builtin.SmallTypes.nextOf (.ref v) >>= _) _ _ _
    refine wpAny_bind (wpAny_nextOf_list_end hh (((hv.extBut k1.extBut D.i2z).extBut k2.extBut D.i12.symm).extBut k3.extBut D.TOi2.symm) (((hl.extBut k1.extBut D.l2z).extBut k2.extBut D.l2i1).extBut k3.extBut D.l2TO) ey fun g4 e k4 he => ?_); obtain ⟨oe, hoe, hce⟩ := he
    have z4 : IsZip g4 z P O .ellipsis := k4 _ _ D.i2z.symm (k3.extBut _ _ D.TOz.symm (k2.extBut _ _ D.i1z.symm z1))
    have ne : e ≠ z := fun x => by subst x; rw [z4] at hoe; cases hoe; simp at hce
    refine wpAny_setField_rec z4 (by simp) fun g5 _ k5 => hE g5 e (fun c ob c1 c2 c3 c4 x => k5.extBut _ _ c1 (k4 _ _ c4 (k3.extBut _ _ c2 (k2.extBut _ _ c3 (k1.extBut _ _ c1 x))))) ⟨oe, k5.extBut _ _ ne hoe, hce⟩
theorem mz_next {z P O u v t l : Addr} {k : Nat} {xs ys : Array Value} {x y a b : Value} {Q : Option Value → Shared → Prop} (D : ZipApart z P O u v t l) (S : ZSt s.heap z P O u v t l k a b)
    (ht : s.heap.IsTuple t xs) (hl : s.heap.IsList l ys) (ex : xs[k]? = some x) (ey : ys[k]? = some y)
    (hQ : ∀ g, IsZip g z P O (rawInt s.heap.objs.size) → IsPair g O x y → g.IsTupleIter u t (k + 1) → g.IsListIter v l (k + 1) → IsPair g s.heap.objs.size x y → g.objs.size = s.heap.objs.size + 1 → (∀ c ob, c ≠ z → c ≠ O → c ≠ u → c ≠ v → s.heap.get? c = some ob → g.get? c = some ob) → Q (some (.ref s.heap.objs.size)) { s with heap := g }) :
    wpAny (model prog w) A (pyNext (.ref z)) Q E s := by
  have ty : s.TypeIs (.ref z) "zip" := ⟨_, S.z, rfl⟩
  unfold pyNext
  exact wpAny_bind (wpAny_attempt (wpAny_callSpecial?_slot (name := Str.ofString "__next__") ty F.slot_zip_next (wpAny_call_entry F.slot_zip_next ty F.entry_zip_next (mz_item D S ht hl ex ey fun g a1 a2 a3 a4 a5 a6 a7 => wpAny_pure (hQ g a1 a2 a3 a4 a5 a6 a7)) (F.args_zip_next_1 _))))
theorem mz_stop {z P O u v t l : Addr} {k : Nat} {xs ys : Array Value} {a b : Value} {Q : Option Value → Shared → Prop} (hh : A.handled = none) (D : ZipApart z P O u v t l) (S : ZSt s.heap z P O u v t l k a b)
    (ht : s.heap.IsTuple t xs) (hl : s.heap.IsList l ys) (end_ : xs[k]? = none ∨ ys[k]? = none)
    (hQ : ∀ g, (∀ c ob, c ≠ z → c ≠ O → c ≠ u → c ≠ v → s.heap.get? c = some ob → g.get? c = some ob) → Q none { s with heap := g }) : wpAny (model prog w) A (pyNext (.ref z)) Q E s := by
  have ty : s.TypeIs (.ref z) "zip" := ⟨_, S.z, rfl⟩
  unfold pyNext
  refine wpAny_bind (wpAny_attempt (wpAny_callSpecial?_slot (name := Str.ofString "__next__") ty F.slot_zip_next (wpAny_call_entry F.slot_zip_next ty F.entry_zip_next (mz_end hh D S ht hl end_ fun g e kp he => ?_) (F.args_zip_next_1 _))))
  obtain ⟨ob, ho, hc⟩ := he
  refine wpAny_bind (wpAny_isInstance (T := "StopIteration") (b := true) ⟨ob, ho, hc⟩ isSubtype_stop ?_); exact wpAny_pure (hQ _ kp)
end
abbrev mzA (h : Heap) (t : Addr) : Heap := h.push { cls := .type "tuple_iterator", data := .fields #[.ref t, .int 0 0] }
abbrev mzB (h : Heap) (t l : Addr) : Heap := (mzA h t).push { cls := .type "list_iterator", data := .fields #[.ref l, .int 0 0] }
abbrev mzC (h : Heap) (t l : Addr) : Heap := (mzB h t l).push { cls := .type "tuple", data := .seq #[.ref h.objs.size, .ref (mzA h t).objs.size] }
abbrev mzD (h : Heap) (t l : Addr) : Heap := (mzC h t l).push { cls := .type "tuple", data := .seq #[.none, .none] }
abbrev mzE (h : Heap) (t l : Addr) : Heap := (mzD h t l).push { cls := .type "zip", data := .fields #[.none, .bool false, .bool false, .ref (mzB h t l).objs.size, .ref (mzC h t l).objs.size] }
theorem mz_new (t l : Addr) (xs ys : Array Value) : Meets (Builtin.«zip.__new__» ⟨[.type "zip", .ref t, .ref l], []⟩) (fun _ R s => s.heap.IsTuple t xs ∧ s.heap.IsList l ys ∧ R (.ok (.ret (.ref (mzD s.heap t l).objs.size))) { s with heap := mzE s.heap t l }) :=
  .of_wp fun prog w A R s q => by
    obtain ⟨hp, g, d, tk, os⟩ := s; obtain ⟨ht, hl, q⟩ := q
    have hsub := sub_zip
    have h1 : Heap.IsTuple (Shared.heap ⟨hp, g, d, tk, os⟩) t xs := ht
    have h2 : Heap.IsList (Shared.heap ⟨hp.push { cls := .type "tuple_iterator", data := .fields #[.ref t, .int 0 0] }, g, d, tk, os⟩) l ys := Heap.IsList.push hl _
    wp_walk using wpAny_pyIter_tuple h1, wpAny_pyIter_list h2
    exact ⟨_, rfl, q⟩
section
variable {prog : Program} {w : World} {A : Around} {E : Value → Shared → Prop} {s : Shared}
theorem mz_call {t l : Addr} {xs ys : Array Value} {Q : Value → Shared → Prop} (ht : s.heap.IsTuple t xs) (hl : s.heap.IsList l ys)
    (h : ∀ g, ZSt g (s.heap.objs.size + 4) (s.heap.objs.size + 2) (s.heap.objs.size + 3) s.heap.objs.size (s.heap.objs.size + 1) t l 0 .none .none → (∀ c ob, s.heap.get? c = some ob → g.get? c = some ob) → Q (.ref (s.heap.objs.size + 4)) { s with heap := g }) :
    wpAny (model prog w) A (call (.type "zip") [.ref t, .ref l]) Q E s := by
  refine callType_new F.called_zip (by decide) (F.typeCall_zip_2 _ _) (F.newCall_zip_2 _ _) (fun obj => F.args_object_init_3 obj _ _) F.entry_zip_new (mz_new t l xs ys) ⟨ht, hl, ?_⟩
  have a1 : (mzA s.heap t).objs.size = s.heap.objs.size + 1 := Heap.size_push ..
  have a2 : (mzB s.heap t l).objs.size = s.heap.objs.size + 2 := by rw [Heap.size_push, a1]
  have a3 : (mzC s.heap t l).objs.size = s.heap.objs.size + 3 := by rw [Heap.size_push, a2]
  have a4 : (mzD s.heap t l).objs.size = s.heap.objs.size + 4 := by rw [Heap.size_push, a3]
  have b5 : (mzE s.heap t l).get? (mzD s.heap t l).objs.size = some _ := Heap.get?_push_size _ rfl
  have b4 : (mzE s.heap t l).get? (mzC s.heap t l).objs.size = some _ := Heap.get?_push_of_some _ (Heap.get?_push_size _ rfl)
  have b3 : (mzE s.heap t l).get? (mzB s.heap t l).objs.size = some _ := Heap.get?_push_of_some _ (Heap.get?_push_of_some _ (Heap.get?_push_size _ rfl))
  have b2 : (mzE s.heap t l).get? (mzA s.heap t).objs.size = some _ := Heap.get?_push_of_some _ (Heap.get?_push_of_some _ (Heap.get?_push_of_some _ (Heap.get?_push_size _ rfl)))
  have b1 : (mzE s.heap t l).get? s.heap.objs.size = some _ := Heap.get?_push_of_some _ (Heap.get?_push_of_some _ (Heap.get?_push_of_some _ (Heap.get?_push_of_some _ (Heap.get?_push_size _ rfl))))
  show _ ∧ _
  rw [a2, a3, a4] at b5; rw [a1, a2] at b3; rw [a3] at b4; rw [a1] at b2; rw [a4]
  exact ⟨⟨_, b5, rfl⟩, h _ ⟨b5, b3, b4, ⟨_, b1, rfl, rfl⟩, ⟨_, b2, rfl, rfl⟩⟩ fun c ob x => Heap.get?_push_of_some _ (Heap.get?_push_of_some _ (Heap.get?_push_of_some _ (Heap.get?_push_of_some _ (Heap.get?_push_of_some _ x))))⟩
end
open PySem.Spec PyProof.Rows L2
def Itm (K : PySem.W.Frag) (a b : Addr) : It :=
  ⟨fun i H => ∃ (xs ys : List V) (x y : V), SqT K H a xs ∧ SqL K H b ys ∧ xs[i]? = some x ∧ ys[i]? = some y, fun i H v H' => ∃ T x y, v = .ref T ∧ H T = none ∧ H' = upd H T (.tup [x, y]) ∧ (∀ xs, SqT K H a xs → xs[i]? = some x) ∧ ∀ ys, SqL K H b ys → ys[i]? = some y, fun i H => ∃ xs ys : List V, SqT K H a xs ∧ SqL K H b ys ∧ (xs.length ≤ i ∨ ys.length ≤ i)⟩
theorem turn_mz {P : Program} {w : World} {K : PySem.W.Frag} {elts : List Expr} {kk : Nat} {tpos : Pos} {a b z TI TO i1 i2 : Addr} (D : ZipApart z TI TO i1 i2 a b) :
    Turn P w K (.Tuple elts kk tpos) (Itm K a b) [z, TI, TO, i1, i2] z (fun i h => ∃ x y, ZSt h z TI TO i1 i2 a b i x y) where
  mem := by simp
  obj := fun i h st c hc => by
    obtain ⟨x, y, hz, hTI, hTO, ⟨o1, e1, _, d1⟩, ⟨o2, e2, _, d2⟩⟩ := st
    have e' : c = z ∨ c = TI ∨ c = TO ∨ c = i1 ∨ c = i2 := by simpa using hc
    rcases e' with rfl | rfl | rfl | rfl | rfl
    · exact ⟨_, hz, fun v q => nomatch q⟩
    · exact ⟨_, hTI, fun v q => nomatch q⟩
    · exact ⟨_, hTO, fun v q => nomatch q⟩
    · exact ⟨o1, e1, fun v q => by rw [d1] at q; cases q⟩
    · exact ⟨o2, e2, fun v q => by rw [d2] at q; cases q⟩
  keep := fun i h h' st kp => by
    obtain ⟨x, y, hz, hTI, hTO, hu, hv⟩ := st
    exact ⟨x, y, kp z (by simp) _ hz, kp TI (by simp) _ hTI, kp TO (by simp) _ hTO, hu.at fun o q => kp i1 (by simp) o q, hv.at fun o q => kp i2 (by simp) o q⟩
  item := by
    intro X hP hw hK hc i pins s σ H E I hf st hg
    subst hP hw hK
    obtain ⟨x0, y0, S⟩ := st
    obtain ⟨xs, ys, x, y, hqx, hqy, hx, hy⟩ := hg
    obtain ⟨its, rv, p, _⟩ := I.tuple hqx
    obtain ⟨its2, rv2, p2, _⟩ := I.list hqy
    obtain ⟨m, hm, rm⟩ := rv.get hx
    obtain ⟨m2, hm2, rm2⟩ := rv2.get hy
    have lz : z < s.heap.objs.size := Heap.lt_size S.z
    refine mz_next D S p p2.isList (x := m) (y := m2) (by simpa using hm) (by simpa using hm2) fun g z' o' u' v' hT hsz hk => ?_
    refine ⟨_, rfl, wpAny_letOwnedTupleGo_zip (s := { s with heap := g }) z' fun g2 z2 sb => ?_⟩
    have hT2 : g2.get? s.heap.objs.size = some { cls := .type "tuple", data := .seq #[m, m2] } := (sb.2 _ (Nat.ne_of_gt lz)).trans hT
    have new : ObjOk X.prog X.w (upd H s.heap.objs.size (.tup [x, y])) g2 s.heap.objs.size (.tup [x, y]) := ⟨by show 2 ≤ sizeLine; decide, [m, m2], .cons rm (.cons rm2 .nil), ⟨_, hT2, rfl, _, rfl⟩⟩
    have I1 : Inv X pins σ (upd H s.heap.objs.size (.tup [x, y])) { s with heap := g2 } := I.turnedNew (t' := s.toks) (ch := [z, TI, TO, i1, i2]) (fun c o hb q => (sb.2 c (fun q' => hb (by simp [q']))).trans (hk c o (fun q' => hb (by simp [q'])) (fun q' => hb (by simp [q'])) (fun q' => hb (by simp [q'])) (fun q' => hb (by simp [q'])) q)) hf (Nat.le_refl _) new
    refine ⟨.ref s.heap.objs.size, _, I1, rfl, ⟨_, x, y, rfl, I.hok.fresh (Nat.le_refl _), rfl, fun l hl => by rw [I.tuple_inj hl hqx]; exact hx, fun l hl => by rw [I.list_inj hl hqy]; exact hy⟩, ⟨m, m2, z2, ?_, ?_, ?_, ?_⟩, fun c hcm => ?_⟩
    · exact (sb.2 _ D.TIz).trans (hk _ _ D.TIz D.TITO D.TIi1 D.TIi2 S.p)
    · exact (sb.2 _ D.TOz).trans o'
    · exact u'.at fun o q => (sb.2 _ D.i1z).trans q
    · exact v'.at fun o q => (sb.2 _ D.i2z).trans q
    · have lt : c < s.heap.objs.size := by
        have e' : c = z ∨ c = TI ∨ c = TO ∨ c = i1 ∨ c = i2 := by simpa using hcm
        obtain ⟨_, _, _, ⟨_, e1, _⟩, ⟨_, e2, _⟩⟩ := S
        rcases e' with rfl | rfl | rfl | rfl | rfl
        · exact lz
        · exact Heap.lt_size ‹_›
        · exact Heap.lt_size ‹_›
        · exact Heap.lt_size e1
        · exact Heap.lt_size e2
      rw [upd_ne (Nat.ne_of_lt lt)]; exact (hf c hcm).1
  done := by
    intro X hP hw hK hc i pins s σ H E I hf st hg
    subst hP hw hK
    obtain ⟨x0, y0, S⟩ := st
    obtain ⟨xs, ys, hqx, hqy, hend⟩ := hg
    obtain ⟨its, rv, p, _⟩ := I.tuple hqx
    obtain ⟨its2, rv2, p2, _⟩ := I.list hqy
    have n1 := rv.length
    have n2 := rv2.length
    have he : its.toArray[i]? = none ∨ its2.toArray[i]? = none := hend.imp (fun q => by simp; omega) fun q => by simp; omega
    exact mz_stop (I.ok.hd hc) D S p p2.isList he fun g hk => ⟨rfl, I.turnedL (t' := s.toks) (ch := [z, TI, TO, i1, i2]) (fun c o hb q => hk c o (fun q' => hb (by simp [q'])) (fun q' => hb (by simp [q'])) (fun q' => hb (by simp [q'])) (fun q' => hb (by simp [q'])) q) hf⟩
  self := fun A i s Q E st h => by
    obtain ⟨_, _, S⟩ := st
    exact wpAny_pyIter_zip S.z h
def iZipM (K : PySem.W.Frag) (ta : TA) : TI := fun σ H R => ta σ H fun vs H1 => ∃ a b xs ys, vs = [.ref a, .ref b] ∧ ((SqL K H1 a xs ∧ SqL K H1 b ys ∧ R (Itz K a b) H1) ∨ (SqT K H1 a xs ∧ SqL K H1 b ys ∧ R (Itm K a b) H1))
theorem pi_zipM {X : Cx} {e e2 : Expr} {ta : TA} {p pos tpos : Pos} {elts : List Expr} {kk : Nat} (hg : Gl X "zip") (hm : X.mg "zip" = none) (ha : PA X [e, e2] ta)
    (hs : starEach [e, e2] X.env = (false, eval e X.env) :: starEach [e2] X.env := by rfl) (hpl : (backTo pos (starEach [e2] X.env)).any (·.1) = false := by rfl) :
    PI X (.Tuple elts kk tpos) (.Call (.Name "zip" p) [e, e2] [] pos) (iZipM X.K ta) := by
  refine ⟨fun pins s σ H R I h => ?_⟩
  refine Call_ (ld_blt I hg hm PyProof.Rows.boot_zip (PyProof.Rows.callWith_type1 (thn (ha.run pos pins s σ H _ I h) fun us s1 ⟨vs, H1, I1, r1, q1⟩ => ?_) hs hpl))
  obtain ⟨a, b, xs, ys, ex, q1⟩ := q1
  subst ex
  cases r1 with
  | cons r rr =>
    cases rr with
    | cons r' rr =>
      cases rr
      cases r
      cases r'
      have fresh5 : ∀ c, c ∈ [s1.heap.objs.size + 4, s1.heap.objs.size + 2, s1.heap.objs.size + 3, s1.heap.objs.size, s1.heap.objs.size + 1] → FpOk X pins H1 c := fun c hcm => by
        have le : s1.heap.objs.size ≤ c := by
          simp only [List.mem_cons, List.not_mem_nil, or_false] at hcm
          omega
        exact I1.fpOk le (I1.hok.fresh le)
      rcases q1 with ⟨hqx, hqy, q⟩ | ⟨hqx, hqy, q⟩
      · obtain ⟨its, rv, p1, _⟩ := I1.list hqx
        obtain ⟨its2, rv2, p2, _⟩ := I1.list hqy
        refine call_zip_2 p1.isList p2.isList fun g hz hTI hTO h1 h2 hsz hk => wpAny_pyIter_zip hz ?_
        exact ⟨s1.heap.objs.size + 4, [s1.heap.objs.size + 4, s1.heap.objs.size + 2, s1.heap.objs.size + 3, s1.heap.objs.size, s1.heap.objs.size + 1], _, _, H1, rfl, I1.kept (t' := s1.toks) hk, turn_zip (PySem.W.ktu_apart s1.heap.objs.size a b p1.lt p2.lt), ⟨hz, hTI, ⟨_, _, hTO⟩, h1, h2⟩, fresh5, q⟩
      · obtain ⟨its, rv, p1, _⟩ := I1.tuple hqx
        obtain ⟨its2, rv2, p2, _⟩ := I1.list hqy
        obtain ⟨o1, ho1, _⟩ := id p1
        refine mz_call (show s1.heap.IsTuple a its.toArray from p1) p2.isList fun g S hk => wpAny_pyIter_zip S.z ?_
        exact ⟨s1.heap.objs.size + 4, [s1.heap.objs.size + 4, s1.heap.objs.size + 2, s1.heap.objs.size + 3, s1.heap.objs.size, s1.heap.objs.size + 1], _, _, H1, rfl, I1.kept (t' := s1.toks) hk, turn_mz (PySem.W.ktu_apart s1.heap.objs.size a b (Heap.lt_size ho1) p2.lt), ⟨_, _, S⟩, fresh5, q⟩
section
variable {K : PySem.W.Frag} {G H G0 : Hp} {W : Own?} {σ : Sg} {τ : LS}
theorem walk_mz {a b : Addr} {vs ws : List V} {xs ys : List D} (h : SqT K G0 a vs) (r : Reps K G0 xs vs) (h' : SqL K G0 b ws) (r' : Reps K G0 ys ws) : WalkS K G0 (Itm K a b) (zipD xs ys) := by
  intro i G W H σ τ s S
  have hq : SqT K H a vs := seqT S.gh (seqT s h)
  have hq' : SqL K H b ws := S.gh.seq (s.seq h')
  refine ⟨fun d hd => ?_, fun hi => ⟨vs, ws, hq, hq', by rw [zipD_len] at hi; rw [← r.len, ← r'.len]; omega⟩⟩
  obtain ⟨x, y, hx, hy, rfl⟩ := zipD_get xs ys i d hd
  obtain ⟨v, hv, rv⟩ := r.get hx
  obtain ⟨w, hw, rw'⟩ := r'.get hy
  refine ⟨⟨vs, ws, v, w, hq, hq', hv, hw⟩, fun z H' hz => ?_⟩
  obtain ⟨T, x', y', rfl, hT, rfl, h1, h2⟩ := hz
  have e1 := h1 vs hq
  have e2 := h2 ws hq'
  rw [hv] at e1
  rw [hw] at e2
  cases e1
  cases e2
  have g := same_upd (H := G) (S.gh.free hT) (.tup [v, w])
  exact ⟨_, Grow.froz S hT _, .tup upd_same (.cons ((rv.mono s).mono g) (.cons ((rw'.mono s).mono g) .nil))⟩
end
end PV
set_option maxRecDepth 100000
namespace PV
open PySem PySem.Spec PyProof.Rows L2
def Can (K : PySem.W.Frag) (xv : ExV) (Wx : WX) (τ : LS) (G : Hp) (W : Own?) (H : Hp) {α β : Type} (r : R α) (P : Hp → Own? → Hp → α → β → Prop) (Q : β → Hp → Prop) : Prop := match r with
  | .ok a σ' => ∀ G' W' H' v, Sim K G' W' H' σ' τ → Ext G W H G' W' H' → P G' W' H' a v → Q v H'
  | .exc c σ' => ∀ G' W' H', Sim K G' W' H' σ' τ → Ext G W H G' W' H' → Wx (xv c) none τ H'
  | .bad => False
theorem At.use {K : PySem.W.Frag} {xv : ExV} {Wx : WX} {τ : LS} {G : Hp} {W : Own?} {H : Hp} {α β : Type} {r : R α} {tr : (β → Hp → Prop) → Prop} {P : Hp → Own? → Hp → α → β → Prop} {Q : β → Hp → Prop} (h : At K xv Wx τ G W H r tr P) (c : Can K xv Wx τ G W H r P Q) : tr Q := by
  cases r with
  | bad => exact c.elim
  | exc _ _ => exact h Q c
  | ok _ _ => exact h Q c
section
variable (K : PySem.W.Frag) (xv : ExV) (Wx : WX)
def tE (f : Sg → R O) : TE := fun τ H Q => ∃ G W σ, Sim K G W H σ τ ∧ Can K xv Wx τ G W H (f σ) (fun G' W' H' o v => Own K G' H' W' [0] o v) Q
def tO (b : Option Nat) (f : Sg → R O) : TE := fun τ H Q => ∃ G W σ, Sim K G W H σ τ ∧ Can K xv Wx τ G W H (pre b (f σ) σ) (fun G' _ _ d v => Opn K G' τ b d v) Q
def tT (f : Sg → R Bool) : TT := fun τ H Q => ∃ G W σ, Sim K G W H σ τ ∧ Can K xv Wx τ G W H (f σ) (fun _ _ _ b c => b = c) Q
def tL (f : Sg → R (List D)) : TA := fun τ H Q => ∃ G W σ, Sim K G W H σ τ ∧ Can K xv Wx τ G W H (f σ) (fun G' _ _ ds vs => Reps K G' ds vs) Q
def tA (bs : List (Option Nat)) (f : Sg → R (List (Option D))) : TA := fun τ H Q => ∃ G W σ, Sim K G W H σ τ ∧ Can K xv Wx τ G W H (f σ) (fun G' _ _ ds vs => Opns K G' τ bs ds vs) Q
def tI (f : Sg → R (List D)) : TI := fun τ H Q => ∃ G W σ, Sim K G W H σ τ ∧ Can K xv Wx τ G W H (f σ) (fun G' _ _ xs J => WalkS K G' J xs) Q
def tS (fx : List Nat) (f : Sg → R Fl) : TS := fun D τ H => ∃ G W σ, Sim K G W H σ τ ∧ EndS K xv Wx fx D G W H τ (f σ)
end
section
variable {X : Cx} {xv : ExV} {Wx : WX} {e : Expr}
theorem At.of_can {K : PySem.W.Frag} {τ : LS} {G : Hp} {W : Own?} {H : Hp} {α β : Type} {r : R α} {tr : (β → Hp → Prop) → Prop} {P : Hp → Own? → Hp → α → β → Prop} (h : ∀ Q, Can K xv Wx τ G W H r P Q → tr Q) : At K xv Wx τ G W H r tr P := by
  cases r with
  | bad => exact trivial
  | exc _ _ => exact fun Q c => h Q c
  | ok _ _ => exact fun Q c => h Q c
theorem tE.sem {f : Sg → R O} : SemE X xv Wx (tE X.K xv Wx f) f := fun G W H σ τ S => At.of_can fun Q c => ⟨G, W, σ, S, c⟩
theorem tO.sem {b : Option Nat} {f : Sg → R O} : SemO X xv Wx (tO X.K xv Wx b f) b f := fun G W H σ τ S => At.of_can fun Q c => ⟨G, W, σ, S, c⟩
theorem tT.sem {f : Sg → R Bool} : SemT X xv Wx (tT X.K xv Wx f) f := fun G W H σ τ S => At.of_can fun Q c => ⟨G, W, σ, S, c⟩
theorem tL.sem {f : Sg → R (List D)} : SemL X xv Wx (tL X.K xv Wx f) f := fun G W H σ τ S => At.of_can fun Q c => ⟨G, W, σ, S, c⟩
theorem tA.sem {bs : List (Option Nat)} {f : Sg → R (List (Option D))} : SemA X xv Wx (tA X.K xv Wx bs f) bs f := fun G W H σ τ S => At.of_can fun Q c => ⟨G, W, σ, S, c⟩
theorem tI.sem {f : Sg → R (List D)} : SemI X xv Wx (tI X.K xv Wx f) f := fun G W H σ τ S => At.of_can fun Q c => ⟨G, W, σ, S, c⟩
theorem tS.sem {fx : List Nat} {f : Sg → R Fl} : SemS X xv Wx fx (tS X.K xv Wx fx f) f := fun G W H σ τ D S c => ⟨G, W, σ, S, c⟩
theorem PE.can {t : TE} {f : Sg → R O} (h : PE X e t) (s : SemE X xv Wx t f) : PE X e (tE X.K xv Wx f) := ⟨fun pins st τ H Q I ⟨G, W, σ, S, c⟩ => h.run pins st τ H Q I ((s G W H σ τ S).use c)⟩
theorem PE.canO {t : TE} {b : Option Nat} {f : Sg → R O} (h : PE X e t) (s : SemO X xv Wx t b f) : PE X e (tO X.K xv Wx b f) := ⟨fun pins st τ H Q I ⟨G, W, σ, S, c⟩ => h.run pins st τ H Q I ((s G W H σ τ S).use c)⟩
theorem PT.can {t : TT} {f : Sg → R Bool} (h : PT X e t) (s : SemT X xv Wx t f) : PT X e (tT X.K xv Wx f) := ⟨fun pins st τ H Q I ⟨G, W, σ, S, c⟩ => h.run pins st τ H Q I ((s G W H σ τ S).use c)⟩
theorem PW.can {t : TT} {f : Sg → R Bool} (h : PW X e t) (s : SemT X xv Wx t f) : PW X e (tT X.K xv Wx f) := ⟨fun wh pins st τ H Q I ⟨G, W, σ, S, c⟩ => h.run wh pins st τ H Q I ((s G W H σ τ S).use c)⟩
theorem PA.canL {es : List Expr} {t : TA} {f : Sg → R (List D)} (h : PA X es t) (s : SemL X xv Wx t f) : PA X es (tL X.K xv Wx f) := ⟨fun pos pins st τ H Q I ⟨G, W, σ, S, c⟩ => h.run pos pins st τ H Q I ((s G W H σ τ S).use c)⟩
theorem PA.canA {es : List Expr} {t : TA} {bs : List (Option Nat)} {f : Sg → R (List (Option D))} (h : PA X es t) (s : SemA X xv Wx t bs f) : PA X es (tA X.K xv Wx bs f) := ⟨fun pos pins st τ H Q I ⟨G, W, σ, S, c⟩ => h.run pos pins st τ H Q I ((s G W H σ τ S).use c)⟩
theorem PI.can {tg : Expr} {t : TI} {f : Sg → R (List D)} (h : PI X tg e t) (s : SemI X xv Wx t f) : PI X tg e (tI X.K xv Wx f) := ⟨fun pins st τ H Q I ⟨G, W, σ, S, c⟩ => h.run pins st τ H Q I ((s G W H σ τ S).use c)⟩
theorem PS.can {st : Stmt} {fx : List Nat} {t : TS} {f : Sg → R Fl} (h : PS X st t) (s : SemS X xv Wx fx t f) : PS X st (tS X.K xv Wx fx f) := ⟨fun pins s0 τ H D I ⟨G, W, σ, S, c⟩ => h.run pins s0 τ H D I (s G W H σ τ D S c)⟩
theorem PSs.can {st : List Stmt} {fx : List Nat} {t : TS} {f : Sg → R Fl} (h : PSs X st t) (s : SemS X xv Wx fx t f) : PSs X st (tS X.K xv Wx fx f) := ⟨fun pins s0 τ H D I ⟨G, W, σ, S, c⟩ => h.run pins s0 τ H D I (s G W H σ τ D S c)⟩
end
def iSeq (K : PySem.W.Frag) (tl : TE) : TI := fun σ H R => tl σ H fun x H1 => (∃ a, x = .ref a ∧ (∃ xs, SqL K H1 a xs) ∧ R (Itl K a) H1) ∨ (∃ a, x = .ref a ∧ (∃ xs, SqT K H1 a xs) ∧ R (Itt K a) H1) ∨ ∃ z, x = .str z ∧ R (Its z) H1
theorem pi_seq {X : Cx} {tg l : Expr} {tl : TE} (hl : PE X l tl) : PI X tg l (iSeq X.K tl) := by
  refine ⟨fun pins s σ H R I h => ?_⟩
  refine thn (hl.run pins s σ H _ I h) fun v s1 ⟨x, H1, I1, r1, q1⟩ => ?_
  rcases q1 with ⟨a, e, ⟨xs, hq⟩, q⟩ | ⟨a, e, ⟨xs, hq⟩, q⟩ | ⟨z, e, q⟩
  · subst e
    cases r1
    obtain ⟨its, rv, p, hz⟩ := I1.list hq
    refine wpAny_pyIter_list p.isList ?_
    refine ⟨s1.heap.objs.size, [s1.heap.objs.size], _, _, H1, rfl, I1.kept (t' := s1.toks) fun b o e => Heap.get?_push_of_some _ e, turn_list a _, ⟨_, Heap.get?_push_size _ rfl, rfl, rfl⟩, fun b hb => ?_, q⟩
    have e : b = s1.heap.objs.size := by simpa using hb
    subst e
    exact I1.fpOk (Nat.le_refl _) (I1.hok.fresh (Nat.le_refl _))
  · subst e
    cases r1
    obtain ⟨its, rv, p, hz⟩ := I1.tuple hq
    refine wpAny_pyIter_tuple (show s1.heap.IsTuple a its.toArray from p) ?_
    refine ⟨s1.heap.objs.size, [s1.heap.objs.size], _, _, H1, rfl, I1.kept (t' := s1.toks) fun b o e => Heap.get?_push_of_some _ e, turn_tuple a _, ⟨_, Heap.get?_push_size _ rfl, rfl, rfl⟩, fun b hb => ?_, q⟩
    have e : b = s1.heap.objs.size := by simpa using hb
    subst e
    exact I1.fpOk (Nat.le_refl _) (I1.hok.fresh (Nat.le_refl _))
  · subst e
    obtain ⟨t, rfl⟩ := r1
    cases ha : z.cps.all (· < 128)
    · exact wpAny_pyIter_wide ha (pi_one (tk := s1.toks) I1 _ (turn_str _ z t "str_iterator" (.inr rfl)) ⟨_, Heap.get?_push_size _ rfl, rfl, rfl⟩ q)
    · exact wpAny_pyIter_ascii ha (pi_one (tk := s1.toks) I1 _ (turn_str _ z t "str_ascii_iterator" (.inl rfl)) ⟨_, Heap.get?_push_size _ rfl, rfl, rfl⟩ q)
section
variable {X : Cx} {xv : ExV} {Wx : WX} {t ta tb : TE} {f fa fb : Sg → R O}
theorem semI_seq (h : SemO X xv Wx t none f) : SemI X xv Wx (iSeq X.K t) (fun σ => op1 seqD none f σ) := by
  intro G W H σ τ S
  refine At.bind (tr2 := fun x H1 (R : It → Hp → Prop) => (∃ a, x = V.ref a ∧ (∃ xs, SqL X.K H1 a xs) ∧ R (Itl X.K a) H1) ∨ (∃ a, x = V.ref a ∧ (∃ xs, SqT X.K H1 a xs) ∧ R (Itt X.K a) H1) ∨ ∃ z, x = V.str z ∧ R (Its z) H1) (h G W H σ τ S) fun d σ1 G1 W1 H1 v S1 E1 p => ?_
  obtain ⟨x, rfl, rx⟩ := p
  show At X.K xv Wx τ G1 W1 H1 (lift σ1 (seqD x)) _ _
  cases rx with
  | lst h r => exact fun Q hx => .inl ⟨_, rfl, ⟨_, S1.gh.seq h⟩, hx G1 W1 H1 _ S1 (Ext.refl _ _ _) (walk_lst h r)⟩
  | tup h r => exact fun Q hx => .inr (.inl ⟨_, rfl, ⟨_, .of (S1.gh _ _ h)⟩, hx G1 W1 H1 _ S1 (Ext.refl _ _ _) (walk_tup (.of h) r)⟩)
  | str x => exact fun Q hx => .inr (.inr ⟨_, rfl, hx G1 W1 H1 _ S1 (Ext.refl _ _ _) walk_str⟩)
  | _ => exact trivial
theorem semI_rng1 {tr : TA} {fr : Sg → R (List D)} (h : SemL X xv Wx tr fr) : SemI X xv Wx (iRng1 tr) (fun σ => (fr σ).bind fun ds σ' => lift σ' (match ds with | [.int j] => rngD [.int j] | _ => none)) := by
  intro G W H σ τ S
  refine At.bind (tr2 := fun vs H1 (R : It → Hp → Prop) => ∃ j : Int, vs = [V.int j] ∧ -(2 ^ 62) ≤ j ∧ j < 2 ^ 62 ∧ R (Itr 0 j.toNat) H1) (h G W H σ τ S) fun ds σ1 G1 W1 H1 vs S1 E1 p => ?_
  cases p with
  | nil => exact trivial
  | cons a b =>
    cases b with
    | cons _ _ => cases a <;> exact trivial
    | nil =>
      cases a with
      | int j =>
        show At X.K xv Wx τ G1 W1 H1 (lift σ1 (if j.natAbs < 2 ^ 62 then some (rangeD 0 j.toNat) else none)) _ _
        by_cases c : j.natAbs < 2 ^ 62
        · rw [if_pos c]
          exact fun Q hx => ⟨j, rfl, by omega, by omega, hx G1 W1 H1 _ S1 (Ext.refl _ _ _) walk_range⟩
        · rw [if_neg c]; exact trivial
      | _ => exact trivial
theorem semI_rng3 {tr : TA} {fr : Sg → R (List D)} (h : SemL X xv Wx tr fr) : SemI X xv Wx (iRng3 tr) (fun σ => (fr σ).bind fun ds σ' => lift σ' (match ds with | [.int i, .int j, .int c] => rngD [.int i, .int j, .int c] | _ => none)) := by
  intro G W H σ τ S
  refine At.bind (tr2 := fun vs H1 (R : It → Hp → Prop) => ∃ (i j c : Int) (n : Nat), vs = [V.int i, V.int j, V.int c] ∧ RgC i j c n ∧ R (Itc i c n) H1) (h G W H σ τ S) fun ds σ1 G1 W1 H1 vs S1 E1 p => ?_
  cases p with
  | nil => exact trivial
  | cons a b =>
    cases b with
    | nil => cases a <;> exact trivial
    | cons a2 b2 =>
      cases b2 with
      | nil => cases a <;> cases a2 <;> exact trivial
      | cons a3 b3 =>
        cases b3 with
        | cons _ _ => cases a <;> cases a2 <;> cases a3 <;> exact trivial
        | nil =>
          cases a with
          | int i =>
            cases a2 with
            | int j =>
              cases a3 with
              | int c =>
                show At X.K xv Wx τ G1 W1 H1 (lift σ1 (if okStep i j c then some (rangeC i c (Builtin.Range.rangeSize i j c).toNat) else none)) _ _
                by_cases q : okStep i j c
                · rw [if_pos q]
                  exact fun Q hx => ⟨i, j, c, _, rfl, ⟨q.1, q.2.1, q.2.2.1, (Int.toNat_of_nonneg q.2.2.2).symm⟩, hx G1 W1 H1 _ S1 (Ext.refl _ _ _) walk_rngC⟩
                · rw [if_neg q]; exact trivial
              | _ => exact trivial
            | _ => cases a3 <;> exact trivial
          | _ => cases a2 <;> cases a3 <;> exact trivial
theorem semI_rng2 {tr : TA} {fr : Sg → R (List D)} (h : SemL X xv Wx tr fr) : SemI X xv Wx (iRng2 tr) (fun σ => (fr σ).bind fun ds σ' => lift σ' (match ds with | [.int i, .int j] => rngD [.int i, .int j] | _ => none)) := by
  intro G W H σ τ S
  refine At.bind (tr2 := fun vs H1 (R : It → Hp → Prop) => ∃ i j : Int, vs = [V.int i, V.int j] ∧ (-(2 ^ 62) ≤ i ∧ i < 2 ^ 62 ∧ -(2 ^ 62) ≤ j ∧ j < 2 ^ 62) ∧ R (Itr i (j - i).toNat) H1) (h G W H σ τ S) fun ds σ1 G1 W1 H1 vs S1 E1 p => ?_
  cases p with
  | nil => exact trivial
  | cons a b =>
    cases b with
    | nil => cases a <;> exact trivial
    | cons a2 b2 =>
      cases b2 with
      | cons _ _ => cases a <;> cases a2 <;> exact trivial
      | nil =>
        cases a with
        | int i =>
          cases a2 with
          | int j =>
            show At X.K xv Wx τ G1 W1 H1 (lift σ1 (if i.natAbs < 2 ^ 62 ∧ j.natAbs < 2 ^ 62 then some (rangeD i (j - i).toNat) else none)) _ _
            by_cases c : i.natAbs < 2 ^ 62 ∧ j.natAbs < 2 ^ 62
            · rw [if_pos c]
              exact fun Q hx => ⟨i, j, rfl, ⟨by omega, by omega, by omega, by omega⟩, hx G1 W1 H1 _ S1 (Ext.refl _ _ _) walk_range⟩
            · rw [if_neg c]; exact trivial
          | _ => exact trivial
        | _ => cases a2 <;> exact trivial
theorem semI_enum (h : SemO X xv Wx t none f) : SemI X xv Wx (iEnum X.K (tCons t tNil)) (fun σ => op1 (lstOnly (enumD 0)) none f σ) := by
  intro G W H σ τ S
  refine At.bind (tr2 := fun x H1 (R : It → Hp → Prop) => ∃ a xs, [x] = [V.ref a] ∧ SqL X.K H1 a xs ∧ R (Ite X.K a) H1) (h G W H σ τ S) fun d σ1 G1 W1 H1 v S1 E1 p => ?_
  obtain ⟨x, rfl, rx⟩ := p
  show At X.K xv Wx τ G1 W1 H1 (lift σ1 (lstOnly (enumD 0) x)) _ _
  cases rx with
  | lst h r => exact fun Q hx => ⟨_, _, rfl, S1.gh.seq h, hx G1 W1 H1 _ S1 (Ext.refl _ _ _) (walk_enum h r)⟩
  | _ => exact trivial
theorem semI_rev (h : SemO X xv Wx t none f) : SemI X xv Wx (iRev X.K (tCons t tNil)) (fun σ => op1 (lstOnly List.reverse) none f σ) := by
  intro G W H σ τ S
  refine At.bind (tr2 := fun x H1 (R : It → Hp → Prop) => ∃ (a : Addr) (xs : List V), [x] = [V.ref a] ∧ SqL X.K H1 a xs ∧ R (Itv X.K a xs.length) H1) (h G W H σ τ S) fun d σ1 G1 W1 H1 v S1 E1 p => ?_
  obtain ⟨x, rfl, rx⟩ := p
  show At X.K xv Wx τ G1 W1 H1 (lift σ1 (lstOnly List.reverse x)) _ _
  cases rx with
  | lst h r => exact fun Q hx => ⟨_, _, rfl, S1.gh.seq h, hx G1 W1 H1 _ S1 (Ext.refl _ _ _) (walk_rev h r)⟩
  | _ => exact trivial
theorem semI_zip (h : SemO X xv Wx ta none fa) (h' : SemO X xv Wx tb none fb) : SemI X xv Wx (iZipM X.K (tCons ta (tCons tb tNil))) (fun σ => op2 zipOnly none none fa fb σ) := by
  intro G W H σ τ S
  refine At.bind (tr2 := fun x H1 (R : It → Hp → Prop) => tb τ H1 fun y H2 => ∃ a b xs ys, [x, y] = [V.ref a, V.ref b] ∧ ((SqL X.K H2 a xs ∧ SqL X.K H2 b ys ∧ R (Itz X.K a b) H2) ∨ (SqT X.K H2 a xs ∧ SqL X.K H2 b ys ∧ R (Itm X.K a b) H2))) (h G W H σ τ S) fun d σ1 G1 W1 H1 v S1 E1 p => ?_
  refine At.bind (tr2 := fun y H2 (R : It → Hp → Prop) => ∃ a b xs ys, [v, y] = [V.ref a, V.ref b] ∧ ((SqL X.K H2 a xs ∧ SqL X.K H2 b ys ∧ R (Itz X.K a b) H2) ∨ (SqT X.K H2 a xs ∧ SqL X.K H2 b ys ∧ R (Itm X.K a b) H2))) (h' G1 W1 H1 σ1 τ S1) fun d2 σ2 G2 W2 H2 v2 S2 E2 p2 => ?_
  obtain ⟨x, rfl, rx⟩ := p
  obtain ⟨y, rfl, ry⟩ := p2
  have rx2 := rx.mono E2.g
  show At X.K xv Wx τ G2 W2 H2 (lift σ2 (zipOnly x y)) _ _
  cases x <;> try exact trivial
  · cases y <;> try exact trivial
    cases ry with
    | lst h' r' =>
      cases rx2 with
      | tup q r => exact fun Q hx => ⟨_, _, _, _, rfl, .inr ⟨.of (S2.gh _ _ q), S2.gh.seq h', hx G2 W2 H2 _ S2 (Ext.refl _ _ _) (walk_mz (.of q) r h' r')⟩⟩
  · cases y <;> try exact trivial
    cases rx2 with
    | lst h r =>
      cases ry with
      | lst h' r' => exact fun Q hx => ⟨_, _, _, _, rfl, .inl ⟨S2.gh.seq h, S2.gh.seq h', hx G2 W2 H2 _ S2 (Ext.refl _ _ _) (walk_zip h r h' r')⟩⟩
end
end PV
set_option maxRecDepth 100000
set_option maxHeartbeats 4000000
namespace PV
open PySem PySem.Spec PyProof.Rows L2
def bors : List Ex → List Nat
  | [] => []
  | .bor i :: es => i :: bors es
  | _ :: es => bors es
def ownPos : List Ex → Nat → List Nat
  | [], _ => []
  | .own _ :: es, j => j :: ownPos es (j + 1)
  | _ :: es, j => ownPos es (j + 1)
def isOwn (i : Nat) : Ex → Bool
  | .own j => i == j
  | _ => false
def posOf (es : List Ex) (i : Nat) : Option Nat := es.findIdx? (isOwn i)
theorem isOwn_iff {i : Nat} {e : Ex} : isOwn i e = true ↔ e = .own i := by
  cases e <;> simp [isOwn]
  exact eq_comm
theorem posOf_some {es : List Ex} {i j : Nat} (h : posOf es i = some j) : es[j]? = some (Ex.own i) := by
  unfold posOf at h
  obtain ⟨hlt, hp, _⟩ := List.findIdx?_eq_some_iff_getElem.mp h
  rw [List.getElem?_eq_getElem hlt, isOwn_iff.mp hp]
def ownUniq : List Ex → Bool
  | [] => true
  | .own i :: es => !(es.any (isOwn i)) && ownUniq es
  | _ :: es => ownUniq es
theorem ownUniq_tail {x : Ex} {es : List Ex} (h : ownUniq (x :: es) = true) : ownUniq es = true ∧ ∀ i, x = .own i → es.any (isOwn i) = false := by
  cases x <;> first
    | exact ⟨h, fun i z => by cases z⟩
    | (obtain ⟨h1, h2⟩ := Bool.and_eq_true_iff.mp (show (!(es.any (isOwn _)) && ownUniq es) = true from h)
       exact ⟨h2, fun i z => by cases z; simpa using h1⟩)
theorem uniq_pos : ∀ {es : List Ex}, ownUniq es = true → ∀ (j i : Nat), es[j]? = some (Ex.own i) → posOf es i = some j
  | [], _, j, i, e => by simp at e
  | x :: es, h, j, i, e => by
    obtain ⟨h1, h2⟩ := ownUniq_tail h
    unfold posOf
    rw [List.findIdx?_cons]
    cases j with
    | zero =>
      have : x = .own i := by simpa using e
      subst this
      rw [if_pos (isOwn_iff.mpr rfl)]
    | succ j =>
      have e' : es[j]? = some (Ex.own i) := by simpa using e
      have ih := uniq_pos h1 j i e'
      rw [if_neg]
      · show (posOf es i).map _ = _
        rw [ih]; rfl
      · intro z
        have := h2 i (isOwn_iff.mp z)
        rw [List.any_eq_false] at this
        exact this _ (List.mem_of_getElem? e') (isOwn_iff.mpr rfl)
theorem lent_bors : ∀ {es : List Ex}, lent es = false → bors es = []
  | [], _ => rfl
  | e :: es, h => by
    cases e <;> first | (cases h; done) | exact lent_bors (es := es) h
section
variable {K : PySem.W.Frag} {G G' H H' : Hp} {W W' : Own?} {σ : Sg} {τ : LS} {es : List Ex} {vs : List V}
def seeG (es : List Ex) (G : Hp) (W : Own?) (H : Hp) : Hp := fun a => match W a with
  | some ((i + 1) :: _) => if i ∈ bors es then (match H a with | some (.lst vs) => some (.lst vs) | _ => G a) else G a
  | _ => G a
def seeW (es : List Ex) (W : Own?) : Own? := fun a => match W a with
  | some ((i + 1) :: r) => (posOf es i).map fun j => (j + 1) :: r
  | _ => none
def backP (es : List Ex) : Option (List Nat) → Option (List Nat)
  | some (0 :: r) => some (0 :: r)
  | some ((j + 1) :: r) => match es[j]? with
    | some (.own i) => some ((i + 1) :: r)
    | _ => none
  | _ => none
def lends (es : List Ex) : Option (List Nat) → Bool
  | some ((i + 1) :: _) => (posOf es i).isSome
  | some _ => false
  | none => true
def backW (es : List Ex) (W W' : Own?) : Own? := fun a => if lends es (W a) = true then backP es (W' a) else W a
def hidden (es : List Ex) : Option (List Nat) → Bool
  | some ((i + 1) :: _) => decide (i ∈ bors es)
  | _ => false
def backG (es : List Ex) (W : Own?) (G' : Hp) : Hp := fun a => if hidden es (W a) = true then none else G' a
theorem see_same (S : Sim K G W H σ τ) : Same G (seeG es G W H) := fun a u e => by
  unfold seeG
  split
  · rename_i h; rw [S.gw _ _ h] at e; cases e
  · exact e
theorem seeW_none {a : Addr} (h : seeW es W a ≠ none) : W a ≠ none ∧ lends es (W a) = true := by
  unfold seeW at h
  split at h
  · rename_i i r e
    rw [e]
    refine ⟨by simp, ?_⟩
    show (posOf es i).isSome = true
    cases q : posOf es i with
    | none => rw [q] at h; exact absurd rfl h
    | some j => rfl
  · exact absurd rfl h
theorem see_fine (S : Sim K G W H σ τ) (hd : ∀ i, posOf es i ≠ none → i ∉ bors es) : Fine (seeG es G W H) (seeW es W) H := by
  refine ⟨fun a u e => ?_, fun a p e => ?_, fun a p e => ?_⟩
  · unfold seeG at e
    split at e
    · split at e
      · split at e
        · rename_i h; cases e; exact h
        · exact S.gh _ _ e
      · exact S.gh _ _ e
    · exact S.gh _ _ e
  · unfold seeW at e
    split at e
    · rename_i i r h
      unfold seeG
      rw [h]
      show (if i ∈ bors es then _ else _) = _
      rw [if_neg (hd i fun z => by rw [z] at e; cases e)]
      exact S.gw _ _ h
    · cases e
  · obtain ⟨h1, _⟩ := seeW_none (a := a) (W := W) (es := es) (by rw [e]; simp)
    obtain ⟨q, h⟩ := Option.ne_none_iff_exists'.mp h1
    exact S.hw _ _ h
theorem lent_kept (S : Sim K G W H σ τ) (E : Ext (seeG es G W H) (seeW es W) H G' W' H') {a : Addr} (h1 : W a ≠ none) (h2 : lends es (W a) = false) : H' a = H a ∧ W' a = none ∧ (hidden es (W a) = false → G' a = none) := by
  obtain ⟨p, hp⟩ := Option.ne_none_iff_exists'.mp h1
  have hn := S.hw _ _ hp
  have sw : seeW es W a = none := by
    cases e : seeW es W a with
    | none => rfl
    | some q =>
      have := (seeW_none (a := a) (W := W) (es := es) (by rw [e]; simp)).2
      rw [h2] at this; cases this
  refine ⟨E.keep a hn sw, ?_, fun hh => ?_⟩
  · cases e : W' a with
    | none => rfl
    | some q =>
      rcases E.w a (by rw [e]; simp) with z | z
      · exact absurd sw z
      · exact absurd z hn
  · cases e : G' a with
    | none => rfl
    | some q =>
      rcases E.gn a (by rw [e]; simp) with z | z | z
      · exfalso
        apply z
        unfold seeG
        rw [hp]
        rw [hp] at hh
        split
        · rename_i i r q
          cases q
          have : i ∉ bors es := of_decide_eq_false hh
          rw [if_neg this]
          exact S.gw _ _ hp
        · exact S.gw _ _ hp
      · exact absurd sw z
      · exact absurd z hn
theorem hid_not_lends (hd : ∀ i, posOf es i ≠ none → i ∉ bors es) {p : Option (List Nat)} (h : hidden es p = true) : lends es p = false := by
  unfold hidden at h
  split at h
  · rename_i i r
    have hi := of_decide_eq_true h
    show (posOf es i).isSome = false
    cases q : posOf es i with
    | none => rfl
    | some j => exact absurd hi (hd i (by rw [q]; simp))
  · cases h
theorem back_tup (S : Sim K G W H σ τ) (hd : ∀ i, posOf es i ≠ none → i ∉ bors es) (E : Ext (seeG es G W H) (seeW es W) H G' W' H') {a : Addr} {u : List V} (e : G' a = some (.tup u)) : backG es W G' a = some (.tup u) := by
  unfold backG
  by_cases hh : hidden es (W a) = true
  · exfalso
    have hl := hid_not_lends hd hh
    have hh' := hh
    unfold hidden at hh
    split at hh
    · rename_i i r q
      have hi := of_decide_eq_true hh
      have hn := S.hw _ _ q
      have see : seeG es G W H a = none ∨ ∃ vs, seeG es G W H a = some (.lst vs) := by
        unfold seeG
        rw [q]
        dsimp only
        rw [if_pos hi]
        split
        · exact .inr ⟨_, rfl⟩
        · exact .inl (S.gw _ _ q)
      rcases see with z | ⟨vs, z⟩
      · rcases E.gn a (by rw [e]; simp) with y | y | y
        · exact y z
        · have := (seeW_none y).2
          rw [hl] at this; cases this
        · exact hn y
      · rw [E.g _ _ z] at e
        cases e
    · cases hh
  · rw [if_neg hh]
    exact e
mutual
theorem Rep.thin {G2 : Hp} (t : ∀ a u, G a = some (.tup u) → G2 a = some (.tup u)) : ∀ {d : D} {v : V}, Rep K G d v → d.flat = true → Rep K G2 d v
  | _, _, .non, _ => .non
  | _, _, .bl b, _ => .bl b
  | _, _, .int i, _ => .int i
  | _, _, .str x, _ => .str x
  | _, _, .tup h r, f => .tup (t _ _ h) (Reps.thin t r f)
  | _, _, .lst _ _, f => by cases f
  | _, _, .dic _ _ _, f => by cases f
theorem Reps.thin {G2 : Hp} (t : ∀ a u, G a = some (.tup u) → G2 a = some (.tup u)) : ∀ {d : List D} {v : List V}, Reps K G d v → D.flats d = true → Reps K G2 d v
  | _, _, .nil, _ => .nil
  | _, _, .cons h r, f => by
    have f' := Bool.and_eq_true_iff.mp (show (D.flat _ && D.flats _) = true from f)
    exact .cons (Rep.thin t h f'.1) (Reps.thin t r f'.2)
end
theorem Own.thin {G2 : Hp} {W2 : Own?} {p p' : List Nat} {o : O} {v : V} (t : ∀ a u, G a = some (.tup u) → G2 a = some (.tup u)) (s : Same G G2 ∨ o.flat = true) (k : ∀ a q, W a = some (p ++ q) → W2 a = some (p' ++ q)) (h : Own K G H W p o v) : Own K G2 H W2 p' o v := by
  rcases s with s | f
  · exact h.ren s fun a q e => ⟨k a q e, rfl⟩
  · cases h with
    | val r => exact .val (r.thin t f)
    | lst e h r => exact .lst (by simpa using k _ [] (by simpa using e)) h (r.thin t f)
    | dicK => cases f
    | dicT => cases f
    | tr => cases f
    | tp => cases f
    | ins => cases f
theorem io_get : ∀ {es' : List Ex} {off : Nat} {os : List O} {σ σ2 : Sg}, (∀ (k : Nat) (i : Nat), es'[k]? = some (Ex.own i) → i < σ.length) → outO es' os σ = some σ2 → IoOwn K G H W vs (ownPos es' off) os → σ2.length = σ.length ∧ ∀ j,
    (∃ (k : Nat) (o : O) (v : V), es'[k]? = some (Ex.own j) ∧ getO σ2 j = some o ∧ o ∈ os ∧ vs[off + k]? = some v ∧ Own K G H W [off + k + 1] o v) ∨ ((∀ k : Nat, es'[k]? ≠ some (Ex.own j)) ∧ getO σ2 j = getO σ j)
  | [], off, [], σ, σ2, _, e, _ => by
    cases e
    exact ⟨rfl, fun j => .inr ⟨fun k => by simp, rfl⟩⟩
  | [], off, _ :: _, σ, σ2, _, e, _ => by cases e
  | x :: es', off, os, σ, σ2, hl, e, io => by
    have plain : outO es' os σ = some σ2 → IoOwn K G H W vs (ownPos es' (off + 1)) os → (∀ j, x ≠ .own j) → σ2.length = σ.length ∧ ∀ j,
        (∃ (k : Nat) (o : O) (v : V), (x :: es')[k]? = some (Ex.own j) ∧ getO σ2 j = some o ∧ o ∈ os ∧ vs[off + k]? = some v ∧ Own K G H W [off + k + 1] o v) ∨ ((∀ k : Nat, (x :: es')[k]? ≠ some (Ex.own j)) ∧ getO σ2 j = getO σ j) := fun e io hx => by
      obtain ⟨h1, h2⟩ := io_get (fun k i h => hl (k + 1) i (by simpa using h)) e io
      refine ⟨h1, fun j => ?_⟩
      rcases h2 j with ⟨k, o, v, a, b, b', c, d⟩ | ⟨a, b⟩
      · exact .inl ⟨k + 1, o, v, by simpa using a, b, b', by rw [show off + (k + 1) = off + 1 + k by omega]; exact c, by rw [show off + (k + 1) + 1 = off + 1 + k + 1 by omega]; exact d⟩
      · refine .inr ⟨fun k => ?_, b⟩
        cases k with
        | zero => intro z; exact hx j (by simpa using z)
        | succ k => simpa using a k
    cases x with
    | own i =>
      cases os with
      | nil => cases e
      | cons o os =>
        obtain ⟨⟨v, hv, ho⟩, io'⟩ := io
        have hi := hl 0 i rfl
        obtain ⟨h1, h2⟩ := io_get (es' := es') (off := off + 1) (os := os) (σ := σ.set i (some o)) (σ2 := σ2) (fun k i' h => by rw [List.length_set]; exact hl (k + 1) i' (by simpa using h)) e io'
        refine ⟨by rw [h1, List.length_set], fun j => ?_⟩
        rcases h2 j with ⟨k, o', v', a, b, b', c, d⟩ | ⟨a, b⟩
        · exact .inl ⟨k + 1, o', v', by simpa using a, b, List.mem_cons_of_mem _ b', by rw [show off + (k + 1) = off + 1 + k by omega]; exact c, by rw [show off + (k + 1) + 1 = off + 1 + k + 1 by omega]; exact d⟩
        · by_cases z : j = i
          · subst z
            exact .inl ⟨0, o, v, rfl, by rw [b, getO_set hi], by simp, by simpa using hv, by simpa using ho⟩
          · refine .inr ⟨fun k => ?_, by rw [b, getO_set_ne (fun y => z y.symm)]⟩
            cases k with
            | zero => intro y; simp at y; exact z y.symm
            | succ k => simpa using a k
    | _ => exact plain e io (fun j z => by cases z)
theorem args_own (S : Sim K G W H σ τ) (hd : ∀ i, posOf es i ≠ none → i ∉ bors es) (hu : ∀ (j i : Nat), es[j]? = some (Ex.own i) → posOf es i = some j) : ∀ {es' : List Ex} {ds : List (Option D)} {ws : List V} {as : List O} {j : Nat}, (∀ k : Nat, es'[k]? = es[j + k]?) → (∀ i, i ∈ bors es' → i ∈ bors es) →
    Opns K G τ (es'.map Ex.bo) ds ws → argsO es' ds σ = some as → Owns K (seeG es G W H) H (seeW es W) j as ws ∧ ∀ (k : Nat) (i : Nat), es'[k]? = some (Ex.own i) → i < σ.length ∧ ∃ v, ws[k]? = some v ∧ τ[i]? = some (some v)
  | [], [], [], as, j, _, _, _, e => by cases e; exact ⟨trivial, fun k i h => by simp at h⟩
  | x :: es', d :: ds, w :: ws, as, j, hx, hb, ⟨op, ops⟩, e => by
    unfold argsO at e
    split at e
    · rename_i o os e1 e2
      cases e
      obtain ⟨r1, r2⟩ := args_own S hd hu (es' := es') (ds := ds) (ws := ws) (as := os) (j := j + 1) (fun k => by
        have := hx (k + 1)
        rw [show j + 1 + k = j + (k + 1) by omega, ← this]; rfl) (fun i hi => hb i (by cases x <;> first | exact hi | exact List.mem_cons_of_mem _ hi)) ops e2
      have main : Own K (seeG es G W H) H (seeW es W) [j + 1] o w ∧ ∀ i, x = .own i → i < σ.length ∧ τ[i]? = some (some w) := by
        have hj : es[j]? = some x := by have := hx 0; rw [Nat.add_zero] at this; rw [← this]; rfl
        cases x with
        | own i =>
          have e1' : getO σ i = some o := e1
          obtain ⟨v, h1, h2⟩ := S.sl i o e1'
          have op' : τ[i]? = some (some w) := op
          rw [h1] at op'
          cases op'
          refine ⟨h2.ren (see_same S) fun a q eq => ⟨?_, rfl⟩, fun i' z => by cases z; exact ⟨getO_lt e1', h1⟩⟩
          unfold seeW
          rw [eq]
          show (posOf es i).map _ = _
          rw [hu j i hj]
          rfl
        | bor i =>
          have e1' : ((getO σ i).bind O.toL).map O.val = some o := e1
          obtain ⟨x, ex, rfl⟩ := Option.map_eq_some_iff.mp e1'
          obtain ⟨o', eo, ed⟩ := Option.bind_eq_some_iff.mp ex
          obtain ⟨v, h1, h2⟩ := S.sl i o' eo
          have op' : τ[i]? = some (some w) := op
          rw [h1] at op'
          cases op'
          refine ⟨.val ?_, fun i' z => by cases z⟩
          cases h2 with
          | val r => cases ed; exact r.mono (see_same S)
          | lst q h r =>
            cases ed
            refine .lst (.of ?_) (r.mono (see_same S))
            unfold seeG
            rw [q]
            show (if i ∈ bors es then _ else _) = _
            rw [if_pos (hb i List.mem_cons_self), h]
          | dicK => cases ed
          | dicT => cases ed
          | tr => cases ed
          | tp => cases ed
          | ins => cases ed
        | _ =>
          obtain ⟨x, e0, r⟩ := op
          subst e0
          cases e1
          exact ⟨.val (r.mono (see_same S)), fun i' z => by cases z⟩
      refine ⟨⟨main.1, r1⟩, fun k i h => ?_⟩
      cases k with
      | zero =>
        obtain ⟨m1, m2⟩ := main.2 i (by simpa using h)
        exact ⟨m1, w, rfl, m2⟩
      | succ k =>
        obtain ⟨m1, v, m2, m3⟩ := r2 k i (by simpa using h)
        exact ⟨m1, v, by simpa using m2, m3⟩
    · cases e
  | [], _ :: _, _, _, _, _, _, h, _ => h.elim
  | [], [], _ :: _, _, _, _, _, h, _ => h.elim
  | _ :: _, [], _, _, _, _, _, h, _ => h.elim
  | _ :: _, _ :: _, [], _, _, _, _, h, _ => h.elim
theorem lent_back (S : Sim K G W H σ τ) (hd : ∀ i, posOf es i ≠ none → i ∉ bors es) (E : Ext (seeG es G W H) (seeW es W) H G' W' H') (f : Fine G' W' H') {os : List O} {σ2 : Sg} (hl : ∀ (k : Nat) i, es[k]? = some (Ex.own i) → i < σ.length ∧ ∃ v, vs[k]? = some v ∧ τ[i]? = some (some v)) (e : outO es os σ = some σ2)
    (io : IoOwn K G' H' W' vs (ownPos es 0) os) (hf : lent es = false ∨ os.all O.flat = true) : Sim K (backG es W G') (backW es W W') H' σ2 τ ∧ Ext G W H (backG es W G') (backW es W W') H' ∧
      ∀ o v, (lent es = false ∨ o.flat = true) → Own K G' H' W' [0] o v → Own K (backG es W G') H' (backW es W W') [0] o v := by
  have thinS : lent es = false → Same G' (backG es W G') := fun z a u q => by
    unfold backG
    rw [if_neg, q]
    unfold hidden
    split
    · rw [lent_bors z]; simp
    · simp
  have back1 : ∀ a, W' a ≠ none → lends es (W a) = true := fun a h => by
    cases q : lends es (W a) with
    | true => rfl
    | false =>
      have wn : W a ≠ none := fun z => by rw [z] at q; cases q
      exact absurd (lent_kept S E wn q).2.1 h
  have ofOwn : ∀ (p p' : List Nat) o v, (lent es = false ∨ o.flat = true) → (∀ q, backP es (some (p ++ q)) = some (p' ++ q)) → Own K G' H' W' p o v → Own K (backG es W G') H' (backW es W W') p' o v := fun p p' o v hf hp h =>
    h.thin (fun a u q => back_tup S hd E q) (hf.imp_left thinS) fun a q eq => by
      unfold backW
      rw [if_pos (back1 a (by rw [eq]; simp)), eq]
      exact hp q
  obtain ⟨hlen, hio⟩ := io_get (fun k i h => (hl k i h).1) e io
  refine ⟨⟨fun a u q => ?_, fun a p q => ?_, fun a p q => ?_, fun j o ej => ?_, by rw [hlen]; exact S.len⟩, ⟨fun a u q => ?_, fun a h1 h2 => ?_, E.there, fun a h => ?_, fun a h => ?_⟩, fun o v hf h => ofOwn [0] [0] o v hf (fun q => rfl) h⟩
  · unfold backG at q
    split at q
    · cases q
    · exact f.gh _ _ q
  · unfold backW at q
    unfold backG
    by_cases hh : hidden es (W a) = true
    · rw [if_pos hh]
    · rw [if_neg hh]
      split at q
      · cases e' : W' a with
        | none => rw [e'] at q; cases q
        | some p' => exact f.gw _ _ e'
      · rename_i hn
        exact (lent_kept S E (by rw [q]; simp) (by simpa using hn)).2.2 (by simpa using hh)
  · unfold backW at q
    split at q
    · cases e' : W' a with
      | none => rw [e'] at q; cases q
      | some p' => exact f.hw _ _ e'
    · exact E.there a (S.hw _ _ q)
  · rcases hio j with ⟨k, o', v, a, b, b', c, d⟩ | ⟨a, b⟩
    · rw [b] at ej
      cases ej
      obtain ⟨_, v2, hv2, ht⟩ := hl k j a
      rw [Nat.zero_add] at c d
      rw [c] at hv2
      cases hv2
      refine ⟨v, ht, ofOwn [k + 1] [j + 1] o v ?_ (fun q => ?_) d⟩
      · rcases hf with z | z
        · exact .inl z
        · exact .inr (List.all_eq_true.mp z o b')
      · show (match es[k]? with | some (.own i) => some ((i + 1) :: q) | _ => none) = _
        rw [a]
        rfl
    · rw [b] at ej
      obtain ⟨v, h1, h2⟩ := S.sl j o ej
      refine ⟨v, h1, h2.ren (fun x u q => ?_) fun x q eq => ?_⟩
      · unfold backG
        have wn : W x = none := by
          cases z : W x with
          | none => rfl
          | some p => rw [S.gw _ _ z] at q; cases q
        rw [wn, if_neg (by simp [hidden])]
        exact E.g _ _ (see_same S _ _ q)
      · have hn : lends es (W x) = false := by
          rw [eq]
          show (posOf es j).isSome = false
          cases z : posOf es j with
          | none => rfl
          | some k => exact absurd (posOf_some z) (a k)
        refine ⟨?_, (lent_kept S E (by rw [eq]; simp) hn).1⟩
        unfold backW
        rw [if_neg (by rw [hn]; simp), eq]
  · unfold backG
    have wn : W a = none := by
      cases z : W a with
      | none => rfl
      | some p => rw [S.gw _ _ z] at q; cases q
    rw [wn, if_neg (by simp [hidden])]
    exact E.g _ _ (see_same S _ _ q)
  · refine E.keep a h1 ?_
    unfold seeW
    rw [h2]
  · cases z : W a with
    | some p => exact .inl (by simp)
    | none =>
      unfold backW at h
      rw [z, if_pos (show lends es none = true from rfl)] at h
      have wn : W' a ≠ none := fun y => by rw [y] at h; exact h rfl
      rcases E.w a wn with y | y
      · exact absurd z (seeW_none y).1
      · exact .inr y
  · have gn : G' a ≠ none := fun y => by
      unfold backG at h
      split at h
      · exact h rfl
      · exact h y
    rcases E.gn a gn with y | y | y
    · unfold seeG at y
      split at y
      · rename_i q; exact .inr (.inl (by rw [q]; simp))
      · exact .inl y
    · exact .inr (.inl (seeW_none y).1)
    · exact .inr (.inr y)
end
section
variable {X : Cx} {xv : ExV} {Wx : WX} {F : Fn}
theorem sem_callO {tr : TA} {fr : Sg → R (List (Option D))} {ar : Nat} {io : List Nat} {g : List O → FR} {es : List Ex} (h : SemA X xv Wx tr (es.map Ex.bo) fr) (har : ∀ (as : List O), (∀ r os, g as = .ok r os → as.length = ar) ∧ ∀ c os, g as = .exc c os → as.length = ar)
    (hd : ∀ i, posOf es i ≠ none → i ∉ bors es) (hu : ∀ (j i : Nat), es[j]? = some (Ex.own i) → posOf es i = some j) (hio : io = ownPos es 0) :
    SemE X xv Wx (tCallS (spOf X.K xv ar io g) (WE Wx) tr) (fun σ => (fr σ).bind fun ds σ' => match argsO es ds σ' with
    | some as => match g as with
      | .ok r os => match outO es os σ' with
        | some σ2 => if (!lent es || (r.flat && os.all O.flat)) = true then .ok r σ2 else .bad
        | none => .bad
      | .exc c os => match outO es os σ' with
        | some σ2 => if (!lent es || os.all O.flat) = true then .exc c σ2 else .bad
        | none => .bad
      | .bad => .bad
    | none => .bad) := by
  subst hio
  intro G W H σ τ S
  refine At.bind (tr2 := fun vs H1 Q => spOf X.K xv ar (ownPos es 0) g vs H1 Q (WE Wx τ)) (h G W H σ τ S) fun ds σ1 G1 W1 H1 vs S1 E1 r => ?_
  cases ea : argsO es ds σ1 with
  | none => exact trivial
  | some as =>
    obtain ⟨ow, hl⟩ := args_own (es := es) S1 hd hu (es' := es) (j := 0) (fun k => by rw [Nat.zero_add]) (fun i h => h) r ea
    have fi := see_fine (es := es) S1 hd
    dsimp only
    cases e : g as with
    | bad => exact trivial
    | exc c os =>
      dsimp only
      cases eo : outO es os σ1 with
      | none => exact trivial
      | some σ2 =>
        dsimp only
        by_cases hf : (!lent es || os.all O.flat) = true
        · rw [if_pos hf]
          have hf1 : lent es = false ∨ os.all O.flat = true := by
            rcases Bool.or_eq_true_iff.mp hf with z | z
            · exact .inl (by simpa using z)
            · exact .inr z
          intro Q hx
          refine ⟨ow.len.symm.trans ((har as).2 c os e), _, _, as, fi, ow, ?_⟩
          rw [e]
          intro G' W' H' E f io
          obtain ⟨s, x, _⟩ := lent_back S1 hd E f hl eo io hf1
          exact hx _ _ H' s x
        · rw [if_neg hf]; exact trivial
    | ok o os =>
      dsimp only
      cases eo : outO es os σ1 with
      | none => exact trivial
      | some σ2 =>
        dsimp only
        by_cases hf : (!lent es || (o.flat && os.all O.flat)) = true
        · rw [if_pos hf]
          have hf1 : lent es = false ∨ (o.flat = true ∧ os.all O.flat = true) := by
            rcases Bool.or_eq_true_iff.mp hf with z | z
            · exact .inl (by simpa using z)
            · exact .inr (Bool.and_eq_true_iff.mp z)
          intro Q hx
          refine ⟨ow.len.symm.trans ((har as).1 o os e), _, _, as, fi, ow, ?_⟩
          rw [e]
          intro G' W' H' v E f ow' io
          obtain ⟨s, x, y⟩ := lent_back S1 hd E f hl eo io (hf1.imp_right And.right)
          exact hx _ _ H' v s x (y o v (hf1.imp_right And.left) ow')
        · rw [if_neg hf]; exact trivial
end
end PV
set_option maxRecDepth 100000
set_option maxHeartbeats 4000000
namespace PV
open PySem PySem.Spec PyProof.Rows L2
section
variable {K : PySem.W.Frag} {G G' H H' : Hp} {W W' : Own?} {σ : Sg} {τ : LS}
theorem Sim.mutO (S : Sim K G W H σ τ) {i : Nat} {o o' : O} {a : Addr} {ho : HO} (e : getO σ i = some o) (w : W a = some [i + 1]) (hv : τ[i]? = some (some (.ref a))) (r : Own K G (upd H a ho) W [i + 1] o' (.ref a)) :
    Sim K G W (upd H a ho) (σ.set i (some o')) τ ∧ Ext G W H G W (upd H a ho) := by
  have gn := S.gw _ _ w
  have hn := S.hw _ _ w
  refine ⟨⟨fun b u q => ?_, S.gw, fun b p q => ?_, fun j o ej => ?_, by rw [List.length_set]; exact S.len⟩, Same.refl _, fun b h1 h2 => ?_, fun b h1 => ?_, fun b h => .inl h, fun b h => .inl h⟩
  · rw [upd_ne (ne_of_none q gn)]; exact S.gh _ _ q
  · by_cases z : b = a
    · rw [z, upd_same]; simp
    · rw [upd_ne z]; exact S.hw _ _ q
  · by_cases z : i = j
    · subst z
      rw [getO_set (getO_lt e)] at ej
      cases ej
      exact ⟨_, hv, r⟩
    · rw [getO_set_ne z] at ej
      obtain ⟨v, h1, h2⟩ := S.sl j o ej
      refine ⟨v, h1, h2.move (Same.refl _) fun b q eb => ⟨eb, upd_ne fun y => ?_⟩⟩
      subst y
      rw [w] at eb
      injection eb with e1
      injection e1 with e2
      omega
  · rw [upd_ne fun z => ?_]
    subst z; rw [w] at h2; cases h2
  · by_cases z : b = a
    · rw [z, upd_same]; simp
    · rw [upd_ne z]; exact h1
theorem key1_rep {k : D} {v : V} (h : isKey1 k = true) (r : Rep K G k v) : ∃ k', keyOf k = some k' ∧ v = kV k' := by
  cases r with
  | int i => exact ⟨_, rfl, rfl⟩
  | str x => exact ⟨_, rfl, rfl⟩
  | _ => cases h
theorem keysL_rep : ∀ {ks : List D} {vs : List V}, ks.all isKey1 = true → Reps K G ks vs → ∃ ks', keysL ks = some ks' ∧ vs = ks'.map kV
  | _, _, _, .nil => ⟨[], rfl, rfl⟩
  | _, _, h, .cons r rs => by
    obtain ⟨h1, h2⟩ := Bool.and_eq_true_iff.mp (show (isKey1 _ && List.all _ isKey1) = true from h)
    obtain ⟨k', e1, rfl⟩ := key1_rep h1 r
    obtain ⟨ks', e2, rfl⟩ := keysL_rep h2 rs
    exact ⟨k' :: ks', by unfold keysL; rw [e1, e2], rfl⟩
theorem keyOf_eq {a b : D} {a' b' : Key} (ha : keyOf a = some a') (hb : keyOf b = some b') : D.eq a b = true ↔ a' = b' := by
  cases a <;> cases b <;> cases ha <;> cases hb <;> simp [D.eq]
  constructor
  · intro h; rw [h]
  · intro h; exact sOf_inj h
theorem keysL_eq : ∀ {a b : List D} {a' b' : List Key}, keysL a = some a' → keysL b = some b' → (D.eqs a b = true ↔ a' = b')
  | [], [], _, _, ha, hb => by cases ha; cases hb; simp [D.eqs]
  | [], y :: b, _, _, ha, hb => by
    cases ha
    unfold keysL at hb
    split at hb
    · cases hb; simp [D.eqs]
    · cases hb
  | x :: a, [], _, _, ha, hb => by
    cases hb
    unfold keysL at ha
    split at ha
    · cases ha; simp [D.eqs]
    · cases ha
  | x :: a, y :: b, _, _, ha, hb => by
    unfold keysL at ha hb
    split at ha
    · split at hb
      · rename_i _ _ _ _ h1 h2 _ _ _ _ h3 h4
        cases ha; cases hb
        simp [D.eqs, keyOf_eq h1 h3, keysL_eq h2 h4]
      · cases hb
    · cases ha
theorem keysOf_eq {a b : D} {a' b' : List Key} (ha : keysOf a = some a') (hb : keysOf b = some b') : D.eq a b = true ↔ a' = b' := by
  cases a <;> try (cases ha; done)
  cases b <;> try (cases hb; done)
  simp only [D.eq]
  exact keysL_eq ha hb
section
variable {κ : Type} [DecidableEq κ] {f : D → Option κ}
theorem look_rep (hf : ∀ {a b : D} {a' b' : κ}, f a = some a' → f b = some b' → (D.eq a b = true ↔ a' = b')) {k : D} {k' : κ} (hk : f k = some k') : ∀ {kvs : List (D × D)} {ps : List (κ × V)}, RepsD K G f kvs ps →
    match lookD kvs k with | some d => ∃ v, valV ps k' = some v ∧ Rep K G d v | none => valV ps k' = none
  | _, _, .nil => rfl
  | _, _, @RepsD.cons _ _ _ _ x x' d v r r' h1 h2 h3 => by
    have ih := look_rep hf hk h3
    unfold lookD
    rw [List.find?_cons]
    by_cases e : D.eq x k = true
    · rw [e]
      exact ⟨v, valV_pos ((hf h1 hk).mp e), h2⟩
    · have e' : D.eq x k = false := by simpa using e
      rw [e']
      rw [valV_neg (fun z => e ((hf h1 hk).mpr z))]
      exact ih
theorem has_rep (hf : ∀ {a b : D} {a' b' : κ}, f a = some a' → f b = some b' → (D.eq a b = true ↔ a' = b')) {k : D} {k' : κ} (hk : f k = some k') : ∀ {kvs : List (D × D)} {ps : List (κ × V)}, RepsD K G f kvs ps → hasD kvs k = (valV ps k').isSome ∧ hasD kvs k = ps.any fun kv => decide (kv.1 = k')
  | _, _, .nil => ⟨rfl, rfl⟩
  | _, _, @RepsD.cons _ _ _ _ x x' d v r r' h1 h2 h3 => by
    obtain ⟨i1, i2⟩ := has_rep hf hk h3
    unfold hasD at i1 i2 ⊢
    rw [List.any_cons, List.any_cons]
    by_cases e : D.eq x k = true
    · have e2 := (hf h1 hk).mp e
      rw [e, valV_pos e2, e2]
      simp
    · have e' : D.eq x k = false := by simpa using e
      have e2 : ¬ x' = k' := fun z => e ((hf h1 hk).mpr z)
      rw [e', valV_neg e2]
      simp only [Bool.false_or, decide_eq_false e2]
      exact ⟨i1, i2⟩
theorem repl_rep (hf : ∀ {a b : D} {a' b' : κ}, f a = some a' → f b = some b' → (D.eq a b = true ↔ a' = b')) {k : D} {k' : κ} (hk : f k = some k') {y : D} {w : V} (ry : Rep K G y w) : ∀ {kvs : List (D × D)} {ps : List (κ × V)}, RepsD K G f kvs ps →
    RepsD K G f (kvs.map fun p => if D.eq p.1 k = true then (p.1, y) else p) (ps.map fun kv => if kv.1 = k' then (kv.1, w) else kv)
  | _, _, .nil => .nil
  | _, _, @RepsD.cons _ _ _ _ x x' d v r r' h1 h2 h3 => by
    rw [List.map_cons, List.map_cons]
    by_cases e : D.eq x k = true
    · rw [if_pos e, if_pos ((hf h1 hk).mp e)]
      exact .cons h1 ry (repl_rep hf hk ry h3)
    · rw [if_neg e, if_neg (fun z => e ((hf h1 hk).mpr z))]
      exact .cons h1 h2 (repl_rep hf hk ry h3)
theorem snoc_rep {k : D} {k' : κ} (hk : f k = some k') {y : D} {w : V} (ry : Rep K G y w) : ∀ {kvs : List (D × D)} {ps : List (κ × V)}, RepsD K G f kvs ps → RepsD K G f (kvs ++ [(k, y)]) (ps ++ [(k', w)])
  | _, _, .nil => .cons hk ry .nil
  | _, _, .cons h1 h2 h3 => .cons h1 h2 (snoc_rep hk ry h3)
theorem put_rep (hf : ∀ {a b : D} {a' b' : κ}, f a = some a' → f b = some b' → (D.eq a b = true ↔ a' = b')) {k : D} {k' : κ} (hk : f k = some k') {y : D} {w : V} (ry : Rep K G y w) {kvs : List (D × D)} {ps : List (κ × V)} (h : RepsD K G f kvs ps) : RepsD K G f (putD kvs k y) (putK ps k' w) := by
  unfold putD putK
  rw [(has_rep hf hk h).2]
  split
  · exact repl_rep hf hk ry h
  · exact snoc_rep hk ry h
end
theorem Sim.dict (S : Sim K G W H σ τ) {i : Nat} {t : Bool} {kvs : List (D × D)} (e : slotD σ i = some (t, kvs)) : getO σ i = some (.dic t kvs) ∧ ∃ a, τ[i]? = some (some (.ref a)) ∧ W a = some [i + 1] ∧
    ∀ {k : D} {vk : V}, isKey t k = true → Rep K G k vk → (∃ r, DGet H a vk r ∧ (match lookD kvs k with | some d => ∃ v, r = some v ∧ Rep K G d v | none => r = none) ∧ r.isSome = hasD kvs k) ∧
      ∀ {y : D} {vy : V}, kvs.length < SZ → Rep K G y vy → ∃ ho, DPut H a vk vy (upd H a ho) ∧ Own K G (upd H a ho) W [i + 1] (.dic t (putD kvs k y)) (.ref a) := by
  unfold slotD at e
  split at e
  · rename_i t' kvs' e0
    cases e
    refine ⟨e0, ?_⟩
    obtain ⟨v, h1, h2⟩ := S.sl i _ e0
    cases h2 with
    | @dicK _ a ps _ w h r =>
      refine ⟨a, h1, w, fun {k vk} hk rk => ?_⟩
      obtain ⟨k', e1, rfl⟩ := key1_rep (K := K) (G := G) hk rk
      have lk := look_rep (fun h1 h2 => keyOf_eq h1 h2) e1 r
      have hs := (has_rep (fun h1 h2 => keyOf_eq h1 h2) e1 r).1
      refine ⟨⟨valV ps k', .k h, ?_, hs.symm⟩, fun {y vy} hz ry => ⟨_, .k h (by rw [← r.len, szl]; exact hz), .dicK w upd_same (put_rep (fun h1 h2 => keyOf_eq h1 h2) e1 ry r)⟩⟩
      cases q : lookD kvs k with
      | none => rw [q] at lk; exact lk
      | some d => rw [q] at lk; exact lk
    | @dicT _ a ps _ w h r =>
      refine ⟨a, h1, w, fun {k vk} hk rk => ?_⟩
      cases k <;> try (cases hk; done)
      rename_i ks
      cases rk with
      | @tup b vs _ hb rb =>
        obtain ⟨ks', e1, rfl⟩ := keysL_rep (show ks.all isKey1 = true from hk) rb
        have e1' : keysOf (.tup ks) = some ks' := e1
        have lk := look_rep (fun h1 h2 => keysOf_eq h1 h2) e1' r
        have hs := (has_rep (fun h1 h2 => keysOf_eq h1 h2) e1' r).1
        have hb' := S.gh _ _ hb
        refine ⟨⟨valV ps ks', .t h hb', ?_, hs.symm⟩, fun {y vy} hz ry => ⟨_, .t h hb' (by rw [← r.len, szl]; exact hz), .dicT w upd_same (put_rep (fun h1 h2 => keysOf_eq h1 h2) e1' ry r)⟩⟩
        cases q : lookD kvs (.tup ks) with
        | none => rw [q] at lk; exact lk
        | some d => rw [q] at lk; exact lk
  · cases e
end
section
variable {K : PySem.W.Frag} {G H : Hp} {W : Own?}
theorem RepH.dget (s : Same G H) {kvs : List (D × D)} {v : V} (r : RepH K G H (.dic kvs) v) {k : D} {vk : V} (hk : isKey1 k = true) (rk : RepH K G H k vk) : ∃ a o, v = .ref a ∧ DGet H a vk o ∧ (match lookD kvs k with | some d => ∃ w, o = some w ∧ Rep K G d w | none => o = none) ∧ o.isSome = hasD kvs k := by
  obtain ⟨a, ps, rfl, ha, rd⟩ := r.dic
  have rk' : Rep K G k vk := by
    cases k <;> try (cases hk; done)
    · exact rk
    · exact rk
  obtain ⟨k', e1, rfl⟩ := key1_rep (K := K) (G := G) hk rk'
  have lk := look_rep (fun h1 h2 => keyOf_eq h1 h2) e1 rd
  have hs := (has_rep (fun h1 h2 => keyOf_eq h1 h2) e1 rd).1
  refine ⟨a, valV ps k', rfl, .k ha, ?_, hs.symm⟩
  cases q : lookD kvs k with
  | none => rw [q] at lk; exact lk
  | some d => rw [q] at lk; exact lk
def rIxDg : R2 := fun x y H Q => ∃ a v, x = .ref a ∧ DGet H a y (some v) ∧ Q v H
def rInDg : R2 := fun y x H Q => ∃ a o, x = .ref a ∧ DGet H a y o ∧ Q (.bl o.isSome) H
def rNinDg : R2 := fun y x H Q => ∃ a o, x = .ref a ∧ DGet H a y o ∧ Q (.bl (!o.isSome)) H
theorem ix_dg {X : Cx} (hu : X.A.units + 1 < cLine) : IxR X rIxDg := by
  intro value slice pins s σ H x y v u Q I rx ry h hs
  obtain ⟨a, w, rfl, g, q⟩ := h
  obtain rfl : v = Value.ref a := rx
  exact tail_any (dict_typeIs I g) PySem.F.slot_dict_getitem.lookup (d_getItem hu I g ry fun w' s3 I3 rw' => ⟨w, H, I3, rw', q⟩) hs
theorem op_inDg {X : Cx} (hu : X.A.units + 1 < cLine) : OpR X (compareOp .In) rInDg := by
  intro pins s σ H y x v u Q I ry rx h
  obtain ⟨a, o, rfl, g, q⟩ := h
  obtain rfl : u = Value.ref a := rx
  exact d_in hu I g ry fun s3 I3 => ⟨.bl o.isSome, H, I3, rfl, q⟩
theorem op_ninDg {X : Cx} (hu : X.A.units + 1 < cLine) : OpR X (compareOp .NotIn) rNinDg := by
  intro pins s σ H y x v u Q I ry rx h
  obtain ⟨a, o, rfl, g, q⟩ := h
  obtain rfl : u = Value.ref a := rx
  exact d_notIn hu I g ry fun s3 I3 => ⟨.bl (!o.isSome), H, I3, rfl, q⟩
def rIxA (K : PySem.W.Frag) : R2 := fun x y H Q => rIx K x y H Q ∨ rIxDg x y H Q
theorem ix_all {X : Cx} (hu : X.A.units + 1 < cLine) : IxR X (rIxA X.K) := IxR.or ix_seq (ix_dg hu)
theorem ops_ix : OpS K (rIxA K) (fun a b => (ixD a b).map .val) := by
  intro G W H σ τ x y vx vy o Q S rx ry e h
  by_cases c : ∃ kvs, x = .dic kvs
  · obtain ⟨kvs, rfl⟩ := c
    have e' : (if isKey1 y = true then lookD kvs y else none).map O.val = some o := e
    by_cases hk : isKey1 y = true
    · rw [if_pos hk] at e'
      obtain ⟨d, e1, rfl⟩ := Option.map_eq_some_iff.mp e'
      obtain ⟨a, ov, rfl, g, m, _⟩ := rx.dget S.gh hk ry
      rw [e1] at m
      obtain ⟨w, rfl, rw_⟩ := m
      exact .inr ⟨a, w, rfl, g, same_val S rw_ h⟩
    · rw [if_neg hk] at e'; cases e'
  · have e0 : ixD x y = ixD0 x y := by
      cases x <;> first | rfl | exact absurd ⟨_, rfl⟩ c
    exact .inl (ops_ix0 G W H σ τ x y vx vy o Q S rx ry (by show (ixD0 x y).map O.val = some o; rw [← e0]; exact e) h)
def rInB (K : PySem.W.Frag) : R2 := orR (rInA K) rInDg
def rNinB (K : PySem.W.Frag) : R2 := orR (rNinA K) rNinDg
theorem ops_in : OpB K (rInB K) inD := by
  intro G W H σ τ x y vx vy b Q S rx ry e h
  by_cases c : ∃ kvs, y = .dic kvs
  · obtain ⟨kvs, rfl⟩ := c
    have e' : (if isKey1 x = true then some (hasD kvs x) else none) = some b := e
    by_cases hk : isKey1 x = true
    · rw [if_pos hk] at e'
      cases e'
      obtain ⟨a, ov, rfl, g, _, m⟩ := ry.dget S.gh hk rx
      exact .inr ⟨a, ov, rfl, g, by rw [m]; exact h⟩
    · rw [if_neg hk] at e'; cases e'
  · have e0 : inD x y = inD0 x y := by
      cases y <;> first | rfl | exact absurd ⟨_, rfl⟩ c
    exact .inl (ops_in0 G W H σ τ x y vx vy b Q S rx ry (by rw [← e0]; exact e) h)
theorem ops_nin : OpB K (rNinB K) (fun a b => (inD a b).map (!·)) := by
  intro G W H σ τ x y vx vy b Q S rx ry e h
  by_cases c : ∃ kvs, y = .dic kvs
  · obtain ⟨kvs, rfl⟩ := c
    have e' : ((if isKey1 x = true then some (hasD kvs x) else none) : Option Bool).map (!·) = some b := e
    by_cases hk : isKey1 x = true
    · rw [if_pos hk] at e'
      cases e'
      obtain ⟨a, ov, rfl, g, _, m⟩ := ry.dget S.gh hk rx
      exact .inr ⟨a, ov, rfl, g, by rw [m]; exact h⟩
    · rw [if_neg hk] at e'; cases e'
  · have e0 : inD x y = inD0 x y := by
      cases y <;> first | rfl | exact absurd ⟨_, rfl⟩ c
    exact .inl (ops_nin0 G W H σ τ x y vx vy b Q S rx ry (by show (inD0 x y).map (!·) = some b; rw [← e0]; exact e) h)
theorem op_inB {X : Cx} (hu : X.A.units + 65 < cLine) : OpR X (compareOp .In) (rInB X.K) := OpR.orR (op_inA hu) (op_inDg (by omega))
theorem op_ninB {X : Cx} (hu : X.A.units + 65 < cLine) : OpR X (compareOp .NotIn) (rNinB X.K) := OpR.orR (op_ninA hu) (op_ninDg (by omega))
end
section
variable {X : Cx} {xv : ExV} {Wx : WX} {t ta tb : TE} {f fa fb : Sg → R O}
theorem At.mapT {K : PySem.W.Frag} {xv : ExV} {Wx : WX} {τ : LS} {G : Hp} {W : Own?} {H : Hp} {α β : Type} {r : R α} {tr tr2 : (β → Hp → Prop) → Prop} {P : Hp → Own? → Hp → α → β → Prop} (h : At K xv Wx τ G W H r tr P) (m : ∀ Q, tr Q → tr2 Q) : At K xv Wx τ G W H r tr2 P := by
  cases r with
  | bad => exact trivial
  | exc c s => exact fun Q hx => m Q (h Q hx)
  | ok o s => exact fun Q hx => m Q (h Q hx)
theorem sem_fz (h : SemE X xv Wx t f) : SemE X xv Wx t (fun σ => (pre none (f σ) σ).bind fun d σ' => match d with
    | some d => .ok (.val d) σ'
    | none => .bad) := by
  intro G W H σ τ S
  refine At.bind (tr2 := fun v H' Q => Q v H') (h.opd G W H σ τ S) fun d σ' G' W' H' v S' E' p => ?_
  obtain ⟨x, rfl, r⟩ := p
  exact At.here (P := fun G' W' H' o v => Own X.K G' H' W' [0] o v) S' (.val r)
def toHand (W : Own?) (i : Nat) : Own? := fun b => match W b with
  | some (j :: r) => if j = i + 1 then some (0 :: r) else some (j :: r)
  | x => x
theorem toHand_some {W : Own?} {i : Nat} {a : Addr} {p : List Nat} (e : toHand W i a = some p) : ∃ q, W a = some q := by
  unfold toHand at e
  split at e
  · rename_i h; exact ⟨_, h⟩
  · exact ⟨_, e⟩
theorem sem_mv {i : Nat} : SemE X xv Wx (tVar i) (fun σ => match getO σ i with
    | some o => .ok o (σ.set i none)
    | none => .bad) := by
  intro G W H σ τ S
  dsimp only
  cases e : getO σ i with
  | none => exact trivial
  | some o =>
    obtain ⟨v, h1, h2⟩ := S.sl i o e
    have S' : Sim X.K G (toHand W i) H (σ.set i none) τ := by
      refine ⟨S.gh, fun b p q => ?_, fun b p q => ?_, fun j o' ej => ?_, by rw [List.length_set]; exact S.len⟩
      · obtain ⟨q', h⟩ := toHand_some q; exact S.gw _ _ h
      · obtain ⟨q', h⟩ := toHand_some q; exact S.hw _ _ h
      · by_cases z : i = j
        · subst z
          rw [getO_set (getO_lt e)] at ej
          cases ej
        · rw [getO_set_ne z] at ej
          obtain ⟨v', h1, h2⟩ := S.sl j o' ej
          refine ⟨v', h1, h2.ren (Same.refl _) fun a q eq => ⟨?_, rfl⟩⟩
          unfold toHand
          rw [eq]
          show (if j + 1 = i + 1 then _ else _) = _
          rw [if_neg (by omega)]
          rfl
    refine fun Q hx => ⟨v, h1, hx G (toHand W i) H v S' ⟨Same.refl _, fun _ _ _ => rfl, fun _ h => h, fun b hb => .inl fun z => hb (by unfold toHand; rw [z]), fun b hb => .inl hb⟩ (h2.ren (Same.refl _) fun a q eq => ⟨?_, rfl⟩)⟩
    unfold toHand
    rw [eq]
    show (if i + 1 = i + 1 then _ else _) = _
    rw [if_pos rfl]
    rfl
theorem sem_dnewK : SemE X xv Wx tDNewK (fun σ => .ok (.dic false []) σ) := fun G W H σ τ S => At.grows S fun Q hx p hp => hx G (own W p [0]) (upd H p (.dK [])) (.ref p) (Grow.hand S hp _) (.dicK own_same upd_same .nil)
theorem sem_dnewT : SemE X xv Wx tDNewT (fun σ => .ok (.dic true []) σ) := fun G W H σ τ S => At.grows S fun Q hx p hp => hx G (own W p [0]) (upd H p (.dT [])) (.ref p) (Grow.hand S hp _) (.dicT own_same upd_same .nil)
theorem sem_dget {i : Nat} (h : SemO X xv Wx t none f) : SemE X xv Wx (tDGet (tVar i) t) (fun σ => (atD i lookD f σ).bind fun d σ' => .ok (.val d) σ') := by
  intro G W H σ τ S
  show At X.K xv Wx τ G W H ((match slotD σ i with
    | some _ => (pre none (f σ) σ).bind fun dk σ1 => match dk, slotD σ1 i with
      | some k, some (t, kvs) => if isKey t k = true then lift σ1 (lookD kvs k) else .bad
      | _, _ => .bad
    | none => .bad).bind fun d σ' => R.ok (O.val d) σ') _ _
  cases e0 : slotD σ i with
  | none => exact trivial
  | some q =>
    obtain ⟨t0, kvs0⟩ := q
    obtain ⟨_, a, hv, _, _⟩ := S.dict e0
    have key : At X.K xv Wx τ G W H (((pre none (f σ) σ).bind fun dk σ1 => match dk, slotD σ1 i with
      | some k, some (t, kvs) => if isKey t k = true then lift σ1 (lookD kvs k) else .bad
      | _, _ => .bad).bind fun d σ' => R.ok (O.val d) σ') (fun Q => t τ H fun y H2 => ∃ a' v, V.ref a = .ref a' ∧ DGet H2 a' y (some v) ∧ Q v H2) (fun G' W' H' o v => Own X.K G' H' W' [0] o v) := by
      rw [bind_assoc]
      refine At.bind (tr2 := fun y H2 Q => ∃ a' v, V.ref a = .ref a' ∧ DGet H2 a' y (some v) ∧ Q v H2) (h G W H σ τ S) fun dk σ1 G1 W1 H1 vk S1 E1 p => ?_
      obtain ⟨k, rfl, rk⟩ := p
      cases e1 : slotD σ1 i with
      | none => exact trivial
      | some q =>
        obtain ⟨t1, kvs⟩ := q
        obtain ⟨_, a', hv', _, g⟩ := S1.dict e1
        rw [hv] at hv'
        cases hv'
        show At X.K xv Wx τ G1 W1 H1 ((if isKey t1 k = true then lift σ1 (lookD kvs k) else .bad).bind _) _ _
        by_cases hk : isKey t1 k = true
        · rw [if_pos hk]
          obtain ⟨⟨r, hg, hr, _⟩, _⟩ := g hk rk
          cases el : lookD kvs k with
          | none => exact trivial
          | some d =>
            rw [el] at hr
            obtain ⟨v, rfl, rv⟩ := hr
            exact fun Q hx => ⟨a, v, rfl, hg, hx G1 W1 H1 v S1 (Ext.refl _ _ _) (.val rv)⟩
        · rw [if_neg hk]; exact trivial
    exact At.mapT key fun Q q => ⟨_, hv, q⟩
theorem at_inD {i : Nat} (h : SemO X xv Wx t none f) {G : Hp} {W : Own?} {H : Hp} {σ : Sg} {τ : LS} (S : Sim X.K G W H σ τ) (n : Bool) : At X.K xv Wx τ G W H (inDk i f σ) (fun Q => t τ H fun y H1 => tVar i τ H1 fun x H2 => ∃ a o, x = .ref a ∧ DGet H2 a y o ∧ Q (.bl (n ^^ o.isSome)) H2) (fun _ _ _ b v => v = V.bl (n ^^ b)) := by
  refine At.bind (tr2 := fun y H1 Q => tVar i τ H1 fun x H2 => ∃ a o, x = .ref a ∧ DGet H2 a y o ∧ Q (V.bl (n ^^ o.isSome)) H2) (h G W H σ τ S) fun dk σ1 G1 W1 H1 vk S1 E1 p => ?_
  obtain ⟨k, rfl, rk⟩ := p
  cases e1 : slotD σ1 i with
  | none => exact trivial
  | some q =>
    obtain ⟨t1, kvs⟩ := q
    obtain ⟨_, a, hv, _, g⟩ := S1.dict e1
    show At X.K xv Wx τ G1 W1 H1 (if isKey t1 k = true then .ok (hasD kvs k) σ1 else .bad) _ _
    by_cases hk : isKey t1 k = true
    · rw [if_pos hk]
      obtain ⟨⟨r, hg, _, hs⟩, _⟩ := g hk rk
      exact fun Q hx => ⟨_, hv, a, r, rfl, hg, hx G1 W1 H1 _ S1 (Ext.refl _ _ _) (by rw [hs])⟩
    · rw [if_neg hk]; exact trivial
theorem sem_din {i : Nat} (h : SemO X xv Wx t none f) : SemE X xv Wx (tDIn t (tVar i)) (fun σ => vb (inDk i f σ)) := by
  intro G W H σ τ S
  have q := at_inD (i := i) h S false
  simp only [Bool.false_xor] at q
  refine At.bind (tr2 := fun v H' Q => Q v H') q fun b σ' G' W' H' v S' E' p => ?_
  subst p
  exact At.here (P := fun G' W' H' o v => Own X.K G' H' W' [0] o v) S' (.val (.bl b))
theorem sem_dnin {i : Nat} (h : SemO X xv Wx t none f) : SemE X xv Wx (tDNotIn t (tVar i)) (fun σ => (inDk i f σ).bind fun b σ' => .ok (.val (.bl (!b))) σ') := by
  intro G W H σ τ S
  have q := at_inD (i := i) h S true
  simp only [Bool.true_xor] at q
  refine At.bind (tr2 := fun v H' Q => Q v H') q fun b σ' G' W' H' v S' E' p => ?_
  subst p
  exact At.here (P := fun G' W' H' o v => Own X.K G' H' W' [0] o v) S' (.val (.bl (!b)))
theorem sem_dset {i : Nat} {fx : List Nat} (hv : SemO X xv Wx ta none fa) (hk : SemO X xv Wx tb none fb) : SemS X xv Wx fx (sDPut (tVar i) tb ta) (fun σ => (pre none (fa σ) σ).bind fun dv σ1 => match slotD σ1 i with
    | some _ => (pre none (fb σ1) σ1).bind fun dk σ2 => match dv, dk, slotD σ2 i with
      | some y, some k, some (t, kvs) => if isKey t k = true ∧ kvs.length < SZ then .ok .nx (σ2.set i (some (.dic t (putD kvs k y)))) else .bad
      | _, _, _ => .bad
    | none => .bad) := by
  intro G W H σ τ D S en
  refine EndS.of_at (hv G W H σ τ S) en fun dv σ1 G1 W1 H1 v _ S1 _ p1 en1 => ?_
  obtain ⟨y, rfl, ry⟩ := p1
  cases e0 : slotD σ1 i with
  | none => rw [e0] at en1; exact en1.elim
  | some q =>
    rw [e0] at en1
    obtain ⟨t0, kvs0⟩ := q
    obtain ⟨_, a, h1, _, _⟩ := S1.dict e0
    refine ⟨_, h1, ?_⟩
    replace en1 : EndS X.K xv Wx fx D G1 W1 H1 τ ((pre none (fb σ1) σ1).bind fun dk σ2 => match some y, dk, slotD σ2 i with
      | some y, some k, some (t, kvs) => if isKey t k = true ∧ kvs.length < SZ then .ok .nx (σ2.set i (some (.dic t (putD kvs k y)))) else .bad
      | _, _, _ => .bad) := en1
    have hb := hk G1 W1 H1 σ1 τ S1
    generalize hr : pre none (fb σ1) σ1 = rr at en1 hb
    cases rr with
    | bad => exact en1.elim
    | exc c σ2 => exact hb _ fun G' W' H' S' E' => en1 G' W' H' τ S' E' fun _ _ => rfl
    | ok dk σ2 =>
      refine hb _ fun G2 W2 H2 vk S2 E2 p2 => ?_
      obtain ⟨k, rfl, rk⟩ := p2
      have q2 : EndS X.K xv Wx fx D G2 W2 H2 τ (match some y, some k, slotD σ2 i with
        | some y, some k, some (t, kvs) => if isKey t k = true ∧ kvs.length < SZ then .ok .nx (σ2.set i (some (.dic t (putD kvs k y)))) else .bad
        | _, _, _ => .bad) := EndS.later en1 E2 (τ1 := τ) fun _ _ => rfl
      cases e1 : slotD σ2 i with
      | none => rw [e1] at q2; exact q2.elim
      | some q =>
        rw [e1] at q2
        obtain ⟨t1, kvs⟩ := q
        obtain ⟨eo, a', h2, w, g⟩ := S2.dict e1
        rw [h1] at h2
        cases h2
        replace q2 : EndS X.K xv Wx fx D G2 W2 H2 τ (if isKey t1 k = true ∧ kvs.length < SZ then .ok .nx (σ2.set i (some (.dic t1 (putD kvs k y)))) else .bad) := q2
        by_cases c : isKey t1 k = true ∧ kvs.length < SZ
        · rw [if_pos c] at q2
          obtain ⟨ho, hp, hw⟩ := (g c.1 rk).2 c.2 (ry.mono E2.g)
          obtain ⟨S3, E3⟩ := S2.mutO eo w h1 hw
          exact ⟨a, _, rfl, hp, q2 _ _ _ _ S3 E3 fun _ _ => rfl⟩
        · rw [if_neg c] at q2; exact q2.elim
end
end PV
set_option maxRecDepth 100000
set_option maxHeartbeats 4000000
namespace PV
open PySem PySem.Spec PyProof.Rows L2
def trsOf (kvs : List (Tx × Tx)) : List (TE × TE) := kvs.map fun p => (tC (.str (sOf p.1)), tC (.str (sOf p.2)))
def kvsOf (kvs : List (Tx × Tx)) : List (Key × V) := kvs.map fun p => (.inr (sOf p.1), .str (sOf p.2))
theorem pairs_lit {τ : LS} {H : Hp} {Q : List (V × V) → Hp → Prop} : ∀ {kvs : List (Tx × Tx)}, Q ((kvsOf kvs).map fun kv => (kV kv.1, kv.2)) H → tPairs (trsOf kvs) τ H Q
  | [], h => h
  | p :: r, h => pairs_lit (kvs := r) (Q := fun ps H3 => Q ((V.str (sOf p.1), V.str (sOf p.2)) :: ps) H3) h
theorem merge_look {x : Tx} : ∀ (kvs : List (Tx × Tx)) (acc : List (Key × V)), valV (mergeK acc (kvsOf kvs)) (.inr (sOf x)) = match kvs.reverse.find? (fun p => p.1 == x) with
    | some p => some (V.str (sOf p.2))
    | none => valV acc (.inr (sOf x))
  | [], acc => rfl
  | p :: r, acc => by
    show valV (mergeK (putK acc (.inr (sOf p.1)) (.str (sOf p.2))) (kvsOf r)) _ = _
    rw [merge_look r, List.reverse_cons, List.find?_append]
    cases e : r.reverse.find? (fun p => p.1 == x) with
    | some q => rfl
    | none =>
      simp only [Option.none_or, List.find?_cons, List.find?_nil]
      by_cases c : p.1 = x
      · rw [c]
        simp only [beq_self_eq_true]
        rw [valV_put, if_pos rfl]
      · rw [beq_eq_false_iff_ne.mpr c]
        rw [valV_put, if_neg (fun z => c (sOf_inj (by injection z with z; exact z.symm)))]
section
variable {X : Cx} {xv : ExV} {Wx : WX} {t ta tb : TE} {f fa fb : Sg → R O}
theorem sem_dix {kvs : List (Tx × Tx)} (hl : kvs.length ≤ 15) (h : SemO X xv Wx t none f) : SemE X xv Wx (tDGet (tDisp (trsOf kvs)) t) (fun σ => (pre none (f σ) σ).bind fun dk σ' => match dk with
    | some (.str x) => match (kvs.reverse.find? fun p => p.1 == x) with
      | some p => .ok (.val (.str p.2)) σ'
      | none => .bad
    | _ => .bad) := by
  intro G W H σ τ S
  have main : ∀ p, H p = none → ∃ H1, H1 = upd (upd H p (.dK [])) p (.dK (mergeK [] (kvsOf kvs))) ∧ Ext G W H G W H1 ∧ At X.K xv Wx τ G W H1 ((pre none (f σ) σ).bind fun dk σ' => match dk with
    | some (.str x) => match (kvs.reverse.find? fun p => p.1 == x) with
      | some p => R.ok (O.val (.str p.2)) σ'
      | none => .bad
    | _ => .bad) (fun Q => t τ H1 fun y H2 => ∃ a v, V.ref p = .ref a ∧ DGet H2 a y (some v) ∧ Q v H2) (fun G' W' H' o v => Own X.K G' H' W' [0] o v) := by
    intro p hp
    refine ⟨_, rfl, ?_⟩
    have wn : W p = none := by
      cases e : W p with
      | none => rfl
      | some q => exact absurd hp (S.hw _ _ e)
    have ne : ∀ b, H b ≠ none → b ≠ p := fun b hb z => hb (by rw [z]; exact hp)
    have g : Grow G W H G W (upd (upd H p (.dK [])) p (.dK (mergeK [] (kvsOf kvs)))) := by
      refine ⟨Same.refl _, fun b u e => ?_, fun b hb => ?_, fun _ _ e => e, fun _ hb => .inl hb, fun _ hb => .inl hb, S.gw, fun b q e => ?_⟩
      · rw [upd_ne (ne b (by rw [S.gh _ _ e]; simp)), upd_ne (ne b (by rw [S.gh _ _ e]; simp))]
        exact S.gh _ _ e
      · rw [upd_ne (ne b hb), upd_ne (ne b hb)]
      · rw [upd_ne (ne b (S.hw _ _ e)), upd_ne (ne b (S.hw _ _ e))]
        exact S.hw _ _ e
    refine ⟨g.ext, ?_⟩
    refine At.bind (tr2 := fun y H2 Q => ∃ a v, V.ref p = .ref a ∧ DGet H2 a y (some v) ∧ Q v H2) (h G W _ σ τ (S.grow g)) fun dk σ1 G1 W1 H1 vk S1 E1 q => ?_
    obtain ⟨k, rfl, rk⟩ := q
    cases k with
    | str x =>
      cases rk
      show At X.K xv Wx τ G1 W1 H1 (match (kvs.reverse.find? fun p => p.1 == x) with | some p => R.ok (O.val (.str p.2)) σ1 | none => .bad) _ _
      cases e : kvs.reverse.find? fun p => p.1 == x with
      | none => exact trivial
      | some q =>
        have hd : H1 p = some (.dK (mergeK [] (kvsOf kvs))) := by
          rw [E1.keep p (by rw [upd_same]; simp) wn, upd_same]
        have el := merge_look (x := x) kvs []
        rw [e] at el
        refine fun Q hx => ⟨p, V.str (sOf q.2), rfl, ?_, hx G1 W1 H1 _ S1 (Ext.refl _ _ _) (.val (.str _))⟩
        have := DGet.k (k := .inr (sOf x)) hd
        rw [el] at this
        exact this
    | _ => exact trivial
  have tail : ∀ {R' : R O}, (∀ p, H p = none → ∃ H1, H1 = upd (upd H p (.dK [])) p (.dK (mergeK [] (kvsOf kvs))) ∧ Ext G W H G W H1 ∧ At X.K xv Wx τ G W H1 R' (fun Q => t τ H1 fun y H2 => ∃ a v, V.ref p = .ref a ∧ DGet H2 a y (some v) ∧ Q v H2) (fun G' W' H' o v => Own X.K G' H' W' [0] o v)) →
      At X.K xv Wx τ G W H R' (tDGet (tDisp (trsOf kvs)) t τ H) (fun G' W' H' o v => Own X.K G' H' W' [0] o v) := by
    intro R' m
    have go : ∀ Q : VK, (∀ p, H p = none → t τ (upd (upd H p (.dK [])) p (.dK (mergeK [] (kvsOf kvs)))) fun y H2 => ∃ a v, V.ref p = .ref a ∧ DGet H2 a y (some v) ∧ Q v H2) → tDGet (tDisp (trsOf kvs)) t τ H Q := fun Q hq p hp =>
      pairs_lit ⟨upd_same, kvsOf kvs, rfl, by unfold kvsOf; rw [List.length_map]; exact hl, hq p hp⟩
    cases R' with
    | bad => exact trivial
    | exc c s =>
      refine fun Q hx => go Q fun p hp => ?_
      obtain ⟨H1, rfl, E, q⟩ := m p hp
      exact q Q fun G' W' H' S' E' => hx G' W' H' S' (E.trans E')
    | ok o s =>
      refine fun Q hx => go Q fun p hp => ?_
      obtain ⟨H1, rfl, E, q⟩ := m p hp
      exact q Q fun G' W' H' v S' E' => hx G' W' H' v S' (E.trans E')
  exact tail main
def rIns : V → List V → Hp → VK → Prop := fun x vs H Q => ∃ (l : Addr) (xs : List V) (i : Int) (y : V), x = .ref l ∧ vs = [.int i, y] ∧ H l = some (.lst xs) ∧ xs.length < sizeLine ∧ 0 ≤ i ∧ i < 2 ^ 63 ∧
    Q .non (upd H l (.lst (xs.take i.toNat ++ [y] ++ xs.drop i.toNat)))
theorem sem_ins {i : Nat} {fx : List Nat} (hk : SemO X xv Wx ta none fa) (hv : SemO X xv Wx tb none fb) : SemS X xv Wx fx (tDrop (tBM X.K "list" rIns (tVar i) (tCons ta (tCons tb tNil)))) (fun σ => match getO σ i with
    | some (.lst _) => (pre none (fa σ) σ).bind fun dk σ1 => (pre none (fb σ1) σ1).bind fun dv σ2 => match dk, dv, getO σ2 i with
      | some (.int j), some y, some (.lst xs) => if xs.length < SZ ∧ 0 ≤ j ∧ j ≤ xs.length then .ok .nx (σ2.set i (some (.lst (xs.take j.toNat ++ y :: xs.drop j.toNat)))) else .bad
      | _, _, _ => .bad
    | _ => .bad) := by
  intro G W H σ τ D S en
  dsimp only at en
  cases e0 : getO σ i with
  | none => rw [e0] at en; exact en.elim
  | some o =>
    rw [e0] at en
    cases o with
    | lst xs0 =>
      obtain ⟨a0, vs0, h1, w0, h0, r0⟩ := S.slot e0
      refine ⟨_, h1, .inl ⟨rfl, _, .of h0⟩, ?_⟩
      show ta τ H (fun x H1 => tb τ H1 fun y H2 => rIns (V.ref a0) [x, y] H2 fun _ H3 => D.nx τ H3)
      refine EndS.of_at (h := hk G W H σ τ S) (e := en) fun dk σ1 G1 W1 H1 vk _ S1 _ p1 en1 => ?_
      obtain ⟨k, rfl, rk⟩ := p1
      refine EndS.of_at (h := hv G1 W1 H1 σ1 τ S1) (e := en1) fun dv σ2 G2 W2 H2 vy _ S2 E2 p2 en2 => ?_
      obtain ⟨y, rfl, ry⟩ := p2
      cases k with
      | int j =>
        cases rk
        cases e : getO σ2 i with
        | none => rw [e] at en2; exact en2.elim
        | some o' =>
          rw [e] at en2
          cases o' with
          | lst xs =>
            obtain ⟨a, vs, h1', w, hh, r⟩ := S2.slot e
            rw [h1] at h1'
            cases h1'
            have en3 : EndS X.K xv Wx fx D G2 W2 H2 τ (if xs.length < SZ ∧ 0 ≤ j ∧ j ≤ xs.length then .ok .nx (σ2.set i (some (.lst (xs.take j.toNat ++ y :: xs.drop j.toNat)))) else .bad) := en2
            by_cases hz : xs.length < SZ ∧ 0 ≤ j ∧ j ≤ xs.length
            · rw [if_pos hz] at en3
              have rr : Reps X.K G2 (xs.take j.toNat ++ y :: xs.drop j.toNat) (vs.take j.toNat ++ [vy] ++ vs.drop j.toNat) := by
                rw [List.append_assoc]
                exact (r.take _).app (.cons ry (r.drop _))
              obtain ⟨S3, E3⟩ := S2.mut e w rr h1
              have hz1 : xs.length < 16777216 := hz.1
              have hz2 := hz.2.2
              exact ⟨a0, vs, j, vy, rfl, rfl, hh, by rw [← r.len, szl]; exact hz.1, hz.2.1, by omega, en3 _ _ _ _ S3 E3 fun _ _ => rfl⟩
            · rw [if_neg hz] at en3
              exact en3.elim
          | _ => exact en2.elim
      | _ => exact en2.elim
    | _ => exact en.elim
end
end PV
set_option maxRecDepth 100000
set_option maxHeartbeats 4000000
namespace PV
open PySem PySem.Spec PyProof.Rows L2
def inT (i : Nat) : Option (List Nat) → Bool
  | some (j :: _) => decide (j = i + 1)
  | _ => false
def minusW (W : Own?) (i : Nat) : Own? := fun b => if inT i (W b) = true then none else W b
def plusW (W W1 : Own?) (i : Nat) : Own? := fun b => if inT i (W b) = true then W b else W1 b
theorem inT_pre {i : Nat} {q : List Nat} : inT i (some ([i + 1] ++ q)) = true := by
  show decide (i + 1 = i + 1) = true
  simp
theorem inT_ne {i j : Nat} {q : List Nat} (h : j ≠ i) : inT i (some ([j + 1] ++ q)) = false := by
  show decide (j + 1 = i + 1) = false
  exact decide_eq_false (by omega)
theorem inT_some {i : Nat} {p : Option (List Nat)} (h : inT i p = true) : ∃ r, p = some ((i + 1) :: r) := by
  unfold inT at h
  split at h
  · rename_i j r
    exact ⟨r, by rw [of_decide_eq_true h]⟩
  · cases h
section
variable {K : PySem.W.Frag} {G G' H H' : Hp} {W W1 : Own?} {σ σ1 : Sg} {τ : LS} {i : Nat} {o : O}
theorem minus_some {a : Addr} {p : List Nat} (e : minusW W i a = some p) : W a = some p ∧ inT i (W a) = false := by
  unfold minusW at e
  split at e
  · cases e
  · rename_i h; exact ⟨e, by simpa using h⟩
theorem Sim.hold (S : Sim K G W H σ τ) : Sim K G (minusW W i) H (σ.set i none) τ := by
  refine ⟨S.gh, fun b p q => S.gw _ _ (minus_some q).1, fun b p q => S.hw _ _ (minus_some q).1, fun j o' ej => ?_, by rw [List.length_set]; exact S.len⟩
  by_cases z : i = j
  · subst z
    by_cases hi : i < σ.length
    · rw [getO_set hi] at ej; cases ej
    · rw [List.set_eq_of_length_le (by omega)] at ej
      exact absurd (getO_lt ej) hi
  · rw [getO_set_ne z] at ej
    obtain ⟨v, h1, h2⟩ := S.sl j o' ej
    refine ⟨v, h1, h2.ren (Same.refl _) fun a q eq => ⟨?_, rfl⟩⟩
    unfold minusW
    rw [eq, inT_ne (fun y => z y.symm)]
    rfl
theorem held_same (S : Sim K G W H σ τ) (E : Ext G (minusW W i) H G' W1 H') {a : Addr} (h : inT i (W a) = true) : H' a = H a ∧ W1 a = none ∧ G' a = none := by
  obtain ⟨r, hr⟩ := inT_some h
  have hn := S.hw _ _ hr
  have mn : minusW W i a = none := by unfold minusW; rw [if_pos h]
  refine ⟨E.keep a hn mn, ?_, ?_⟩
  · cases e : W1 a with
    | none => rfl
    | some q =>
      rcases E.w a (by rw [e]; simp) with z | z
      · exact absurd mn z
      · exact absurd z hn
  · cases e : G' a with
    | none => rfl
    | some q =>
      rcases E.gn a (by rw [e]; simp) with z | z | z
      · exact absurd (S.gw _ _ hr) z
      · exact absurd mn z
      · exact absurd z hn
theorem Sim.unhold (S : Sim K G W H σ τ) (e : getO σ i = some o) (S1 : Sim K G' W1 H' σ1 τ) (E : Ext G (minusW W i) H G' W1 H') (e1 : getO σ1 i = none) : Sim K G' (plusW W W1 i) H' (σ1.set i (some o)) τ ∧ Ext G W H G' (plusW W W1 i) H' := by
  have hi : i < σ1.length := by rw [S1.len, ← S.len]; exact getO_lt e
  refine ⟨⟨S1.gh, fun b p q => ?_, fun b p q => ?_, fun j o' ej => ?_, by rw [List.length_set]; exact S1.len⟩, ⟨E.g, fun b h1 h2 => ?_, E.there, fun b h => ?_, fun b h => ?_⟩⟩
  · unfold plusW at q
    by_cases h : inT i (W b) = true
    · exact (held_same S E h).2.2
    · rw [if_neg h] at q; exact S1.gw _ _ q
  · unfold plusW at q
    by_cases h : inT i (W b) = true
    · rw [(held_same S E h).1]
      obtain ⟨r, hr⟩ := inT_some h
      exact S.hw _ _ hr
    · rw [if_neg h] at q; exact S1.hw _ _ q
  · by_cases z : i = j
    · subst z
      rw [getO_set hi] at ej
      cases ej
      obtain ⟨v, h1, h2⟩ := S.sl i o e
      refine ⟨v, h1, h2.ren E.g fun a q eq => ⟨?_, (held_same S E (by rw [eq]; exact inT_pre)).1⟩⟩
      unfold plusW
      rw [eq, inT_pre]
      rfl
    · rw [getO_set_ne z] at ej
      obtain ⟨v, h1, h2⟩ := S1.sl j o' ej
      refine ⟨v, h1, h2.ren (Same.refl _) fun a q eq => ⟨?_, rfl⟩⟩
      unfold plusW
      by_cases h : inT i (W a) = true
      · rw [(held_same S E h).2.1] at eq; cases eq
      · rw [if_neg h]; exact eq
  · refine E.keep b h1 ?_
    unfold minusW
    rw [h2]
    split <;> rfl
  · unfold plusW at h
    by_cases c : inT i (W b) = true
    · obtain ⟨r, hr⟩ := inT_some c
      exact .inl (by rw [hr]; simp)
    · rw [if_neg c] at h
      rcases E.w b h with z | z
      · obtain ⟨p, hp⟩ := Option.ne_none_iff_exists'.mp z
        exact .inl (by rw [(minus_some hp).1]; simp)
      · exact .inr z
  · rcases E.gn b h with z | z | z
    · exact .inl z
    · obtain ⟨p, hp⟩ := Option.ne_none_iff_exists'.mp z
      exact .inr (.inl (by rw [(minus_some hp).1]; simp))
    · exact .inr (.inr z)
def frozG (G : Hp) (W : Own?) (H : Hp) (i : Nat) : Hp := fun b => if inT i (W b) = true then H b else G b
theorem frozG_same (S : Sim K G W H σ τ) : Same G (frozG G W H i) := fun a u e => by
  unfold frozG
  split
  · rename_i h
    obtain ⟨r, hr⟩ := inT_some h
    rw [S.gw _ _ hr] at e; cases e
  · exact e
mutual
theorem Own.deep (S : Sim K G W H σ τ) {p : List Nat} (hp : ∀ q, inT i (some (p ++ q)) = true) : ∀ {o : O} {v : V} {d : D}, Own K G H W p o v → deepD o = some d → Rep K (frozG G W H i) d v
  | _, _, _, .val r, e => by cases e; exact r.mono (frozG_same S)
  | _, _, _, .lst w h r, e => by
    cases e
    refine .lst (.of ?_) (r.mono (frozG_same S))
    unfold frozG
    rw [w, if_pos (by have := hp []; simpa using this)]
    exact h
  | _, _, _, .dicK .., e => by cases e
  | _, _, _, .dicT .., e => by cases e
  | _, _, _, .ins .., e => by cases e
  | _, _, _, .tr w h r, e => by
    unfold deepD at e
    obtain ⟨ds, e1, rfl⟩ := Option.map_eq_some_iff.mp e
    refine .lst (.of ?_) (OwnL.deep S hp r e1)
    unfold frozG
    rw [w, if_pos (by have := hp []; simpa using this)]
    exact h
  | _, _, _, .tp w h r, e => by
    unfold deepD at e
    obtain ⟨ds, e1, rfl⟩ := Option.map_eq_some_iff.mp e
    refine .tup ?_ (OwnL.deep S hp r e1)
    unfold frozG
    rw [w, if_pos (by have := hp []; simpa using this)]
    exact h
theorem OwnL.deep (S : Sim K G W H σ τ) {p : List Nat} (hp : ∀ q, inT i (some (p ++ q)) = true) : ∀ {k : Nat} {os : List O} {vs : List V} {ds : List D}, OwnL K G H W p k os vs → deepsD os = some ds → Reps K (frozG G W H i) ds vs
  | _, _, _, _, .nil, e => by cases e; exact .nil
  | _, _, _, _, .cons h r, e => by
    unfold deepsD at e
    split at e
    · rename_i d ds e1 e2
      cases e
      exact .cons (Own.deep S (fun q => by rw [List.append_assoc]; exact hp _) h e1) (OwnL.deep S hp r e2)
    · cases e
end
theorem Sim.frzT (S : Sim K G W H σ τ) (e : getO σ i = some o) {d : D} (ed : deepD o = some d) : ∃ v, τ[i]? = some (some v) ∧ Rep K (frozG G W H i) d v ∧ Sim K (frozG G W H i) (minusW W i) H (σ.set i (some (.val d))) τ ∧ Ext G W H (frozG G W H i) (minusW W i) H := by
  obtain ⟨v, h1, h2⟩ := S.sl i o e
  have r := h2.deep S (i := i) (fun q => inT_pre) ed
  refine ⟨v, h1, r, ⟨fun a u q => ?_, fun a p q => ?_, fun a p q => S.hw _ _ (minus_some q).1, fun j o' ej => ?_, by rw [List.length_set]; exact S.len⟩, ⟨frozG_same S, fun _ _ _ => rfl, fun _ h => h, fun a h => ?_, fun a h => ?_⟩⟩
  · unfold frozG at q
    split at q
    · exact q
    · exact S.gh _ _ q
  · obtain ⟨q1, q2⟩ := minus_some q
    unfold frozG
    rw [q2]
    exact S.gw _ _ q1
  · by_cases z : i = j
    · subst z
      rw [getO_set (getO_lt e)] at ej
      cases ej
      exact ⟨v, h1, .val r⟩
    · rw [getO_set_ne z] at ej
      obtain ⟨v', h3, h4⟩ := S.sl j o' ej
      refine ⟨v', h3, h4.ren (frozG_same S) fun a q eq => ⟨?_, rfl⟩⟩
      unfold minusW
      rw [eq, inT_ne (fun y => z y.symm)]
      rfl
  · obtain ⟨p, hp⟩ := Option.ne_none_iff_exists'.mp h
    exact .inl (by rw [(minus_some hp).1]; simp)
  · unfold frozG at h
    split at h
    · rename_i c
      obtain ⟨r, hr⟩ := inT_some c
      exact .inr (.inl (by rw [hr]; simp))
    · exact .inl h
theorem OwnL.get {p : List Nat} : ∀ {j : Nat} {os : List O} {vs : List V} {k : Nat} {o : O}, OwnL K G H W p j os vs → os[k]? = some o → ∃ v, vs[k]? = some v ∧ Own K G H W (p ++ [j + k]) o v
  | _, _, _, _, _, .nil, e => by simp at e
  | j, _, _, 0, o, .cons h _, e => by simp at e; subst e; exact ⟨_, rfl, h⟩
  | j, _, _, k + 1, o, .cons _ r, e => by
    obtain ⟨v, h1, h2⟩ := OwnL.get (k := k) (o := o) r (by simpa using e)
    exact ⟨v, by simpa using h1, by rw [show j + (k + 1) = j + 1 + k by omega]; exact h2⟩
theorem OwnL.set {p : List Nat} : ∀ {j : Nat} {os : List O} {vs : List V} {k : Nat} {o : O} {v : V}, OwnL K G H W p j os vs → vs[k]? = some v → Own K G H W (p ++ [j + k]) o v → OwnL K G H W p j (os.set k o) vs
  | _, _, _, _, _, _, .nil, _, _ => .nil
  | j, _, _, 0, o, v, .cons _ r, e, h => by simp at e; subst e; exact .cons h r
  | j, _, _, k + 1, o, v, .cons a r, e, h => .cons a (OwnL.set r (by simpa using e) (by rw [show j + 1 + k = j + (k + 1) by omega]; exact h))
end
end PV
set_option maxRecDepth 100000
set_option maxHeartbeats 4000000
namespace PV
open PySem PySem.Spec PyProof.Rows L2
section
variable {K : PySem.W.Frag} {G G' H H' : Hp} {W W1 : Own?} {σ σ1 : Sg} {τ : LS} {i : Nat} {o : O}
theorem path_ne {p : List Nat} {k k' : Nat} {q r : List Nat} (h : k ≠ k') : p ++ [k] ++ q ≠ p ++ [k'] ++ r := fun z => by
  rw [List.append_assoc, List.append_assoc] at z
  have := List.append_cancel_left z
  injection this with h1 h2
  exact h h1
theorem OwnL.upd {p : List Nat} {a : Addr} {ho : HO} {k : Nat} {ks : List Nat} (wa : W a = some (p ++ [k] ++ ks)) {n : O} {w : V} (hn : Own K G (upd H a ho) W (p ++ [k]) n w) : ∀ {j : Nat} {os : List O} {vs : List V}, OwnL K G H W p j os vs → (∀ i, k = j + i → vs[i]? = some w) →
    OwnL K G (L2.upd H a ho) W p j (if j ≤ k then os.set (k - j) n else os) vs
  | j, [], _, .nil, _ => by
    split
    · exact .nil
    · exact .nil
  | j, o :: os, v :: vs, .cons h r, hw => by
    have ih := OwnL.upd wa hn r (fun i e => by
      have := hw (i + 1) (by omega)
      simpa using this)
    by_cases c : j = k
    · subst c
      have e : v = w := by have := hw 0 (by omega); simpa using this
      subst e
      rw [if_pos (Nat.le_refl _), Nat.sub_self]
      rw [if_neg (by omega)] at ih
      exact .cons hn ih
    · have hk : Own K G (L2.upd H a ho) W (p ++ [j]) o v := h.ren (Same.refl _) fun b q e => ⟨e, upd_ne fun z => by
        subst z
        rw [wa] at e
        exact path_ne (fun y => c y.symm) (Option.some.inj e)⟩
      by_cases l : j ≤ k
      · rw [if_pos l]
        rw [if_pos (by omega)] at ih
        rw [show k - j = (k - (j + 1)) + 1 by omega]
        exact .cons hk ih
      · rw [if_neg l]
        rw [if_neg (by omega)] at ih
        exact .cons hk ih
def kidsV : Option HO → Option (List V)
  | some (.lst vs) => some vs
  | some (.tup vs) => some vs
  | some (.ins _ _ fs) => some (fs.map (·.2))
  | _ => none
def walkV (H : Hp) : V → List Nat → Option V
  | v, [] => some v
  | .ref a, k :: ks => match kidsV (H a) with
    | some vs => match vs[k]? with
      | some w => walkV H w ks
      | none => none
    | _ => none
  | _, _ => none
theorem walkV_snoc {H : Hp} {a : Addr} {vs : List V} {n : Nat} {x : V} (ha : kidsV (H a) = some vs) (hx : vs[n]? = some x) : ∀ {ns : List Nat} {v : V}, walkV H v ns = some (.ref a) → walkV H v (ns ++ [n]) = some x
  | [], v, e => by
    cases v <;> simp [walkV] at e
    subst e
    simp [walkV, ha, hx]
  | k :: ks, v, e => by
    cases v <;> try (simp [walkV] at e; done)
    rename_i b
    have e' : (match kidsV (H b) with
      | some vs => match vs[k]? with
        | some w => walkV H w ks
        | none => none
      | _ => none) = some (.ref a) := e
    show (match kidsV (H b) with
      | some vs => match vs[k]? with
        | some w => walkV H w (ks ++ [n])
        | none => none
      | _ => none) = some x
    split at e'
    · rename_i us hb
      split at e'
      · rename_i w hw
        exact walkV_snoc ha hx e'
      · cases e'
    · cases e'
theorem path_get : ∀ (ns : List Nat) {p : List Nat} {o sub : O} {v : V}, Own K G H W p o v → atO o ns = some sub → ∃ w, Own K G H W (p ++ ns) sub w ∧ walkV H v ns = some w ∧ (∀ H2 : Hp, (∀ b q, W b = some (p ++ q) → H2 b = H b) → walkV H2 v ns = some w) ∧
    ∀ (a : Addr) (ho : HO) (o' : O), w = .ref a → W a = some (p ++ ns) → Own K G (upd H a ho) W (p ++ ns) o' w → Own K G (upd H a ho) W p (putO o ns o') v
  | [], p, o, sub, v, h, e => by
    unfold atO at e
    cases e
    refine ⟨v, by rw [List.append_nil]; exact h, by cases v <;> rfl, fun H2 _ => by cases v <;> rfl, fun a ho o' _ _ h' => ?_⟩
    rw [List.append_nil] at h'
    unfold putO
    exact h'
  | k :: ks, p, o, sub, v, h, e => by
    cases h with
    | @tr _ b vs xs w hb r =>
      unfold atO at e
      cases ex : xs[k]? with
      | none => rw [ex] at e; cases e
      | some x =>
        rw [ex] at e
        obtain ⟨vk, hk, ok⟩ := r.get ex
        rw [Nat.zero_add] at ok
        obtain ⟨w2, h1, hw1, hw2, h2⟩ := path_get ks ok e
        have pe : p ++ [k] ++ ks = p ++ (k :: ks) := by rw [List.append_assoc]; rfl
        refine ⟨w2, by rw [← pe]; exact h1, by simp only [walkV, kidsV, hb, hk]; exact hw1, fun H2 hh => ?_, fun a ho o' wa ww h' => ?_⟩
        · have hb2 := (hh b [] (by simpa using w)).trans hb
          simp only [walkV, kidsV, hb2, hk]
          exact hw2 H2 fun c q e => hh c (k :: q) (by rw [e, List.append_assoc]; rfl)
        have hn := h2 a ho o' wa (by rw [pe]; exact ww) (by rw [pe]; exact h')
        have ne : b ≠ a := fun z => by
          subst z
          rw [w] at ww
          have := congrArg List.length (Option.some.inj ww)
          simp at this
        unfold putO
        rw [ex]
        refine .tr w (by rw [upd_ne ne]; exact hb) ?_
        have q := OwnL.upd (k := k) (ks := ks) (by rw [pe]; exact ww) hn r (fun i e => by
          rw [Nat.zero_add] at e
          subst e
          exact hk)
        rw [if_pos (Nat.zero_le _), Nat.sub_zero] at q
        exact q
    | @tp _ b vs xs w hb r =>
      unfold atO at e
      cases ex : xs[k]? with
      | none => rw [ex] at e; cases e
      | some x =>
        rw [ex] at e
        obtain ⟨vk, hk, ok⟩ := r.get ex
        rw [Nat.zero_add] at ok
        obtain ⟨w2, h1, hw1, hw2, h2⟩ := path_get ks ok e
        have pe : p ++ [k] ++ ks = p ++ (k :: ks) := by rw [List.append_assoc]; rfl
        refine ⟨w2, by rw [← pe]; exact h1, by simp only [walkV, kidsV, hb, hk]; exact hw1, fun H2 hh => ?_, fun a ho o' wa ww h' => ?_⟩
        · have hb2 := (hh b [] (by simpa using w)).trans hb
          simp only [walkV, kidsV, hb2, hk]
          exact hw2 H2 fun c q e => hh c (k :: q) (by rw [e, List.append_assoc]; rfl)
        have hn := h2 a ho o' wa (by rw [pe]; exact ww) (by rw [pe]; exact h')
        have ne : b ≠ a := fun z => by
          subst z
          rw [w] at ww
          have := congrArg List.length (Option.some.inj ww)
          simp at this
        unfold putO
        rw [ex]
        refine .tp w (by rw [upd_ne ne]; exact hb) ?_
        have q := OwnL.upd (k := k) (ks := ks) (by rw [pe]; exact ww) hn r (fun i e => by
          rw [Nat.zero_add] at e
          subst e
          exact hk)
        rw [if_pos (Nat.zero_le _), Nat.sub_zero] at q
        exact q
    | @ins _ b dx c fs xs w hb hc hn r =>
      unfold atO at e
      cases ex : xs[k]? with
      | none => rw [ex] at e; cases e
      | some x =>
        rw [ex] at e
        obtain ⟨vk, hk, ok⟩ := r.get ex
        rw [Nat.zero_add] at ok
        obtain ⟨w2, h1, hw1, hw2, h2⟩ := path_get ks ok e
        have pe : p ++ [k] ++ ks = p ++ (k :: ks) := by rw [List.append_assoc]; rfl
        refine ⟨w2, by rw [← pe]; exact h1, by simp only [walkV, kidsV, hb, hk]; exact hw1, fun H2 hh => ?_, fun a ho o' wa ww h' => ?_⟩
        · have hb2 := (hh b [] (by simpa using w)).trans hb
          simp only [walkV, kidsV, hb2, hk]
          exact hw2 H2 fun c q e => hh c (k :: q) (by rw [e, List.append_assoc]; rfl)
        have hn2 := h2 a ho o' wa (by rw [pe]; exact ww) (by rw [pe]; exact h')
        have ne : b ≠ a := fun z => by
          subst z
          rw [w] at ww
          have := congrArg List.length (Option.some.inj ww)
          simp at this
        unfold putO
        rw [ex]
        have q := OwnL.upd (k := k) (ks := ks) (by rw [pe]; exact ww) hn2 r (fun i e => by
          rw [Nat.zero_add] at e
          subst e
          exact hk)
        rw [if_pos (Nat.zero_le _), Nat.sub_zero] at q
        refine .ins w (by rw [upd_ne ne]; exact hb) hc ?_ q
        show fs.map (·.1) = (clFd c).take (xs.set k (putO x ks o')).length
        rw [List.length_set]
        exact hn
    | _ => simp [atO] at e
theorem Sim.mutP (S : Sim K G W H σ τ) {ns : List Nat} {sub o' : O} {a : Addr} {ho : HO} (e : getO σ i = some o) (es : atO o ns = some sub) {v : V} (hv : τ[i]? = some (some v)) (hw : walkV H v ns = some (.ref a)) (wa : W a = some ([i + 1] ++ ns)) (hn : Own K G (upd H a ho) W ([i + 1] ++ ns) o' (.ref a)) :
    Sim K G W (upd H a ho) (σ.set i (some (putO o ns o'))) τ ∧ Ext G W H G W (upd H a ho) := by
  obtain ⟨v', h1, h2⟩ := S.sl i o e
  rw [hv] at h1
  cases h1
  obtain ⟨w, _, hw', _, put⟩ := path_get ns h2 es
  rw [hw] at hw'
  cases hw'
  have gn := S.gw _ _ wa
  have hne := S.hw _ _ wa
  refine ⟨⟨fun b u q => ?_, S.gw, fun b p q => ?_, fun j o2 ej => ?_, by rw [List.length_set]; exact S.len⟩, Same.refl _, fun b h1 h2 => ?_, fun b h1 => ?_, fun b h => .inl h, fun b h => .inl h⟩
  · rw [upd_ne (ne_of_none q gn)]; exact S.gh _ _ q
  · by_cases z : b = a
    · rw [z, upd_same]; simp
    · rw [upd_ne z]; exact S.hw _ _ q
  · by_cases z : i = j
    · subst z
      rw [getO_set (getO_lt e)] at ej
      cases ej
      exact ⟨v, hv, put a ho o' rfl wa hn⟩
    · rw [getO_set_ne z] at ej
      obtain ⟨v', h3, h4⟩ := S.sl j o2 ej
      refine ⟨v', h3, h4.ren (Same.refl _) fun b q eb => ⟨eb, upd_ne fun y => ?_⟩⟩
      subst y
      rw [wa] at eb
      have := Option.some.inj eb
      injection this with h5 h6
      omega
  · rw [upd_ne fun z => ?_]
    subst z; rw [wa] at h2; cases h2
  · by_cases z : b = a
    · rw [z, upd_same]; simp
    · rw [upd_ne z]; exact h1
end
inductive TP | ix (t : TE) | fd (f : Str)
def tPathR (K : PySem.W.Frag) (i : Nat) : List TP → TE
  | [] => tVar i
  | .ix tk :: r => tOp (rIx K) (tPathR K i r) tk
  | .fd f :: r => tFld K (tPathR K i r) f
def kidsO : O → Option (List O)
  | .tr xs => some xs
  | .tp xs => some xs
  | .ins _ xs => some xs
  | _ => none
theorem atO_snoc : ∀ (ns : List Nat) {o s : O} {xs : List O} {n : Nat} {x : O}, atO o ns = some s → kidsO s = some xs → xs[n]? = some x → atO o (ns ++ [n]) = some x
  | [], o, s, xs, n, x, h, hs, e => by
    unfold atO at h
    cases h
    cases o <;> cases hs
    · show (match xs[n]? with | some x => atO x [] | none => none) = _
      rw [e]; unfold atO; rfl
    · show (match xs[n]? with | some x => atO x [] | none => none) = _
      rw [e]; unfold atO; rfl
    · show (match xs[n]? with | some x => atO x [] | none => none) = _
      rw [e]; unfold atO; rfl
  | k :: ks, .tr ys, s, xs, n, x, h, hs, e => by
    have h' : (match ys[k]? with | some x => atO x ks | none => none) = some s := h
    show (match ys[k]? with | some x => atO x (ks ++ [n]) | none => none) = _
    cases q : ys[k]? with
    | none => rw [q] at h'; cases h'
    | some y => rw [q] at h'; exact atO_snoc ks h' hs e
  | k :: ks, .tp ys, s, xs, n, x, h, hs, e => by
    have h' : (match ys[k]? with | some x => atO x ks | none => none) = some s := h
    show (match ys[k]? with | some x => atO x (ks ++ [n]) | none => none) = _
    cases q : ys[k]? with
    | none => rw [q] at h'; cases h'
    | some y => rw [q] at h'; exact atO_snoc ks h' hs e
  | k :: ks, .ins c ys, s, xs, n, x, h, hs, e => by
    have h' : (match ys[k]? with | some x => atO x ks | none => none) = some s := h
    show (match ys[k]? with | some x => atO x (ks ++ [n]) | none => none) = _
    cases q : ys[k]? with
    | none => rw [q] at h'; cases h'
    | some y => rw [q] at h'; exact atO_snoc ks h' hs e
  | _ :: _, .val _, _, _, _, _, h, _, _ => by simp [atO] at h
  | _ :: _, .lst _, _, _, _, _, h, _, _ => by simp [atO] at h
  | _ :: _, .dic _ _, _, _, _, _, h, _, _ => by simp [atO] at h
theorem resR_at {o : O} : ∀ {ds : List D} {ns : List Nat} {s : O}, resR o ds = some (ns, s) → atO o ns = some s
  | [], _, _, e => by cases e; unfold atO; rfl
  | d :: ds, ns, s, e => by
    unfold resR at e
    split at e
    · rename_i h; cases h
    · rename_i k ds' h
      cases h
      split at e
      · rename_i ns' xs e1
        split at e
        · rename_i n e2
          split at e
          · rename_i x e3
            cases e
            exact atO_snoc ns' (resR_at e1) rfl e3
          · cases e
        · cases e
      · rename_i ns' xs e1
        split at e
        · rename_i n e2
          split at e
          · rename_i x e3
            cases e
            exact atO_snoc ns' (resR_at e1) rfl e3
          · cases e
        · cases e
      · cases e
    · rename_i c f ds' h
      cases h
      split at e
      · rename_i ns' c' xs e1
        split at e
        · split at e
          · rename_i x e3
            cases e
            exact atO_snoc ns' (resR_at e1) rfl e3
          · cases e
        · cases e
      · cases e
    · cases e
theorem OwnL.len {K : PySem.W.Frag} {G H : Hp} {W : Own?} {p : List Nat} : ∀ {j : Nat} {os : List O} {vs : List V}, OwnL K G H W p j os vs → os.length = vs.length
  | _, _, _, .nil => rfl
  | _, _, _, .cons _ r => congrArg (· + 1) (OwnL.len r)
theorem clFd_nodup (c : Nat) : (clFd c).Nodup := by
  unfold clFd
  split <;> decide +kernel
theorem look_fd {fs : List (Str × V)} {nms : List Str} {n : Nat} {f : Str} {v : V} (nd : nms.Nodup) (h : fs.map (·.1) = nms.take fs.length) (hf : nms[n]? = some f) (hv : (fs.map (·.2))[n]? = some v) : fs.lookup f = some v := by
  induction fs generalizing nms n with
  | nil => simp at hv
  | cons p r ih =>
    cases nms with
    | nil => simp at h
    | cons m ms =>
      simp only [List.map_cons, List.length_cons, List.take_succ_cons, List.cons.injEq] at h
      obtain ⟨h1, h2⟩ := h
      cases n with
      | zero =>
        simp at hf hv
        obtain ⟨p1, p2⟩ := p
        simp only at h1 hv
        subst h1 hf hv
        rw [List.lookup_cons]
        simp
      | succ n =>
        simp at hf
        have nm : f ≠ m := fun z => by
          subst z
          exact (List.nodup_cons.mp nd).1 (List.mem_of_getElem? hf)
        obtain ⟨p1, p2⟩ := p
        simp only at h1
        subst h1
        rw [List.lookup_cons]
        rw [show (f == p1) = false from beq_eq_false_iff_ne.mpr nm]
        exact ih (List.nodup_cons.mp nd).2 h2 hf (by simpa using hv)
section
variable {X : Cx} {xv : ExV} {Wx : WX}
inductive SemP (X : Cx) (xv : ExV) (Wx : WX) : List TP → List Stp → Prop
  | nil : SemP X xv Wx [] []
  | cons {t : TE} {f : Sg → R O} {ts : List TP} {fs : List Stp} : SemO X xv Wx t none f → SemP X xv Wx ts fs → SemP X xv Wx (.ix t :: ts) (.ix f :: fs)
  | fld {c n : Nat} {f : Str} {ts : List TP} {fs : List Stp} : (clFd c)[n]? = some f → SemP X xv Wx ts fs → SemP X xv Wx (.fd f :: ts) (.fd c n :: fs)
theorem path_read {i : Nat} {G H : Hp} {W : Own?} {σ : Sg} {τ : LS} {o : O} (S : Sim X.K G W H σ τ) (e : getO σ i = some o) : ∀ {ts : List TP} {fs : List Stp}, SemP X xv Wx ts fs →
    At X.K xv Wx τ G (minusW W i) H (evP o fs (σ.set i none)) (tPathR X.K i ts τ H) fun _ _ _ ds v => ∀ ns s, resR o ds = some (ns, s) → Own X.K G H W ([i + 1] ++ ns) s v ∧ ∃ v0, τ[i]? = some (some v0) ∧ walkV H v0 ns = some v
  | _, _, .nil => by
    obtain ⟨v, h1, h2⟩ := S.sl i o e
    refine fun Q hx => ⟨v, h1, hx G (minusW W i) H v S.hold (Ext.refl _ _ _) fun ns s q => ?_⟩
    cases q
    rw [List.append_nil]
    exact ⟨h2, v, h1, by cases v <;> rfl⟩
  | _, _, @SemP.fld _ _ _ c n fd ts fs hf hr => by
    have ih := path_read S e hr
    show At X.K xv Wx τ G (minusW W i) H ((evP o fs (σ.set i none)).bind fun ds σ1 => if (resR o (.str [c, n] :: ds)).isSome = true then R.ok (.str [c, n] :: ds) σ1 else .bad) (tFld X.K (tPathR X.K i ts) fd τ H) _
    refine At.bind (tr2 := fun x H1 Q => ∃ a C dx fs v, x = .ref a ∧ H1 a = some (.ins C dx fs) ∧ Cls X.K C ∧ NoAttr X.K C fd ∧ fs.lookup fd = some v ∧ Q v H1) ih fun ds σ1 G1 W1 H1 v S1 E1 hv => ?_
    by_cases hs2 : (resR o (.str [c, n] :: ds)).isSome = true
    · rw [if_pos hs2]
      obtain ⟨⟨ns, s⟩, er⟩ := Option.isSome_iff_exists.mp hs2
      have er0 := er
      simp only [resR] at er
      split at er
      · rename_i ns' c' xs e3
        split at er
        · rename_i ec
          subst ec
          split at er
          · rename_i z e5
            cases er
            obtain ⟨ow, v0, g0, g1⟩ := hv _ _ e3
            cases ow with
            | @ins _ a dx _ fls _ w h hc hn r =>
              obtain ⟨vk, hvk, okk⟩ := r.get e5
              rw [Nat.zero_add] at okk
              have hh := (held_same (H' := H1) (G' := G1) (W1 := W1) S E1 (a := a) (by rw [w]; exact inT_pre)).1
              have hl : xs.length = fls.length := by have := r.len; simpa using this
              rw [hl] at hn
              refine fun Q hx => ⟨a, _, dx, fls, vk, rfl, hh.trans h, hc.1, hc.2 _ (List.mem_of_getElem? hf), look_fd (clFd_nodup _) hn hf hvk, hx G1 W1 H1 vk S1 (Ext.refl _ _ _) fun ns2 s2 q => ?_⟩
              rw [er0] at q
              cases q
              rw [← List.append_assoc]
              exact ⟨okk, v0, g0, walkV_snoc (by rw [h]; rfl) hvk g1⟩
          · cases er
        · cases er
      · cases er
    · rw [if_neg hs2]; exact trivial
  | _, _, @SemP.cons _ _ _ t f ts fs hk hr => by
    have ih := path_read S e hr
    show At X.K xv Wx τ G (minusW W i) H ((evP o fs (σ.set i none)).bind fun ds σ1 => (pre none (f σ1) σ1).bind fun d σ2 => match d with
      | some (.int j) => if (resR o (.int j :: ds)).isSome = true then R.ok (.int j :: ds) σ2 else .bad
      | _ => .bad) (tOp (rIx X.K) (tPathR X.K i ts) t τ H) _
    refine At.bind (tr2 := fun v H1 Q => t τ H1 fun y H2 => rIx X.K v y H2 Q) ih fun ds σ1 G1 W1 H1 v S1 E1 hv => ?_
    refine At.bind (tr2 := fun y H2 Q => rIx X.K v y H2 Q) (hk G1 W1 H1 σ1 τ S1) fun d σ2 G2 W2 H2 y S2 E2 p2 => ?_
    obtain ⟨x', ex, rx⟩ := p2
    subst ex
    cases x' with
    | int k =>
      show At X.K xv Wx τ G2 W2 H2 (if (resR o (.int k :: ds)).isSome = true then .ok (.int k :: ds) σ2 else .bad) _ _
      by_cases hs2 : (resR o (.int k :: ds)).isSome = true
      · rw [if_pos hs2]
        cases rx
        obtain ⟨⟨ns, s⟩, er⟩ := Option.isSome_iff_exists.mp hs2
        have er0 := er
        simp only [resR] at er
        split at er
        · rename_i ns' xs e3
          split at er
          · rename_i n e4
            split at er
            · rename_i z e5
              cases er
              obtain ⟨ow, v0, g0, g1⟩ := hv _ _ e3
              cases ow with
              | @tr _ a vs _ w h r =>
                obtain ⟨vk, hvk, okk⟩ := r.get e5
                rw [Nat.zero_add] at okk
                have hh := (held_same (H' := H2) (G' := G2) (W1 := W2) S (E1.trans E2) (a := a) (by rw [w]; exact inT_pre)).1
                refine fun Q hx => .inl ⟨a, vs, k, vk, rfl, rfl, .of (hh.trans h), ?_, hx G2 W2 H2 vk S2 (Ext.refl _ _ _) fun ns2 s2 q => ?_⟩
                · show (L2.ixN vs.length k).bind (fun j => vs[j]?) = _
                  rw [← r.len, e4]
                  exact hvk
                · rw [er0] at q
                  cases q
                  rw [← List.append_assoc]
                  exact ⟨okk, v0, g0, walkV_snoc (by rw [h]; rfl) hvk g1⟩
            · cases er
          · cases er
        · rename_i ns' xs e3
          split at er
          · rename_i n e4
            split at er
            · rename_i z e5
              cases er
              obtain ⟨ow, v0, g0, g1⟩ := hv _ _ e3
              cases ow with
              | @tp _ a vs _ w h r =>
                obtain ⟨vk, hvk, okk⟩ := r.get e5
                rw [Nat.zero_add] at okk
                have hh := (held_same (H' := H2) (G' := G2) (W1 := W2) S (E1.trans E2) (a := a) (by rw [w]; exact inT_pre)).1
                refine fun Q hx => .inr (.inl ⟨a, vs, k, vk, rfl, rfl, .inl (.of (hh.trans h)), ?_, hx G2 W2 H2 vk S2 (Ext.refl _ _ _) fun ns2 s2 q => ?_⟩)
                · show (L2.ixN vs.length k).bind (fun j => vs[j]?) = _
                  rw [← r.len, e4]
                  exact hvk
                · rw [er0] at q
                  cases q
                  rw [← List.append_assoc]
                  exact ⟨okk, v0, g0, walkV_snoc (by rw [h]; rfl) hvk g1⟩
            · cases er
          · cases er
        · cases er
      · rw [if_neg hs2]; exact trivial
    | _ => exact trivial
end
end PV
set_option maxRecDepth 100000
set_option maxHeartbeats 4000000
namespace PV
open PySem PySem.Spec PyProof.Rows L2
theorem Ext.weaken {G G' H H' : Hp} {W W' : Own?} {i : Nat} (E : Ext G (minusW W i) H G' W' H') : Ext G W H G' W' H' := by
  have ne : ∀ a, minusW W i a ≠ none → W a ≠ none := fun a h => by
    obtain ⟨p, hp⟩ := Option.ne_none_iff_exists'.mp h
    rw [(minus_some hp).1]; simp
  refine ⟨E.g, fun a h1 h2 => E.keep a h1 ?_, E.there, fun a h => ?_, fun a h => ?_⟩
  · unfold minusW; rw [h2]; split <;> rfl
  · rcases E.w a h with z | z
    · exact .inl (ne a z)
    · exact .inr z
  · rcases E.gn a h with z | z | z
    · exact .inl z
    · exact .inr (.inl (ne a z))
    · exact .inr (.inr z)
section
variable {X : Cx} {xv : ExV} {Wx : WX} {t ta : TE} {f fa : Sg → R O}
theorem sem_frzT {i : Nat} : SemE X xv Wx (tVar i) (fun σ => match (getO σ i).bind deepD with
    | some d => .ok (.val d) (σ.set i (some (.val d)))
    | none => .bad) := by
  intro G W H σ τ S
  dsimp only
  cases e : (getO σ i).bind deepD with
  | none => exact trivial
  | some d =>
    obtain ⟨o, eo, ed⟩ := Option.bind_eq_some_iff.mp e
    obtain ⟨v, h1, r, S', E'⟩ := S.frzT eo ed
    exact fun Q hx => ⟨v, h1, hx _ _ H v S' E' (.val r)⟩
def rLenD : List V → Hp → VK → Prop := fun xs H Q => ∃ a kvs, xs = [V.ref a] ∧ H a = some (.dK kvs) ∧ Q (.int kvs.length) H
def rLenA (K : PySem.W.Frag) : List V → Hp → VK → Prop := orC (rLenQ K) (orC rLenD rLenT)
theorem call_lenA : CallR X (.builtin "len") (rLenA X.K) := CallR.orC call_len_seq (CallR.orC call_lenD call_len_dT)
theorem sem_lenP {i : Nat} {ts : List TP} {fs : List Stp} (h : SemP X xv Wx ts fs) : SemE X xv Wx (tCB (rLenA X.K) (tCons (tPathR X.K i ts) tNil)) (lenP i fs) := by
  intro G W H σ τ S
  show At X.K xv Wx τ G W H (match getO σ i with
    | some o => (evP o fs (σ.set i none)).bind fun ds σ1 => match getO σ1 i, resR o ds with
      | none, some (_, .lst xs) => R.ok (O.val (.int (xs.length : Nat))) (σ1.set i (some o))
      | none, some (_, .tr xs) => .ok (.val (.int (xs.length : Nat))) (σ1.set i (some o))
      | none, some (_, .dic _ xs) => .ok (.val (.int (xs.length : Nat))) (σ1.set i (some o))
      | _, _ => .bad
    | none => .bad) _ _
  cases e : getO σ i with
  | none => exact trivial
  | some o =>
    have pr := path_read S e h
    show At X.K xv Wx τ G W H ((evP o fs (σ.set i none)).bind fun ds σ1 => match getO σ1 i, resR o ds with
      | none, some (_, .lst xs) => R.ok (O.val (.int (xs.length : Nat))) (σ1.set i (some o))
      | none, some (_, .tr xs) => .ok (.val (.int (xs.length : Nat))) (σ1.set i (some o))
      | none, some (_, .dic _ xs) => .ok (.val (.int (xs.length : Nat))) (σ1.set i (some o))
      | _, _ => .bad) _ _
    cases e1 : evP o fs (σ.set i none) with
    | bad => exact trivial
    | exc c σ1 =>
      rw [e1] at pr
      exact fun Q hx => pr _ fun G' W' H' S' E' => hx G' W' H' S' E'.weaken
    | ok ds σ1 =>
      rw [e1] at pr
      show At X.K xv Wx τ G W H (match getO σ1 i, resR o ds with
        | none, some (_, .lst xs) => R.ok (O.val (.int (xs.length : Nat))) (σ1.set i (some o))
        | none, some (_, .tr xs) => .ok (.val (.int (xs.length : Nat))) (σ1.set i (some o))
        | none, some (_, .dic _ xs) => .ok (.val (.int (xs.length : Nat))) (σ1.set i (some o))
        | _, _ => .bad) _ _
      cases e2 : getO σ1 i with
      | some _ => exact trivial
      | none =>
        cases e3 : resR o ds with
        | none => exact trivial
        | some p =>
          obtain ⟨ns, s⟩ := p
          cases s with
          | lst xs =>
            refine fun Q hx => pr _ fun G' W1 H' v S1 E1 hv => ?_
            obtain ⟨ow, v0, g0, g1⟩ := hv _ _ e3
            cases ow with
            | @lst _ a vs _ w hh r =>
              have q := (held_same S E1 (a := a) (by rw [w]; exact inT_pre)).1
              obtain ⟨S2, E2⟩ := S.unhold e S1 E1 e2
              refine .inl ⟨a, vs, rfl, .inl (.of (q.trans hh)), ?_⟩
              rw [← r.len]
              exact hx _ _ H' _ S2 E2 (.val (.int _))
          | tr xs =>
            refine fun Q hx => pr _ fun G' W1 H' v S1 E1 hv => ?_
            obtain ⟨ow, v0, g0, g1⟩ := hv _ _ e3
            cases ow with
            | @tr _ a vs _ w hh r =>
              have q := (held_same S E1 (a := a) (by rw [w]; exact inT_pre)).1
              obtain ⟨S2, E2⟩ := S.unhold e S1 E1 e2
              refine .inl ⟨a, vs, rfl, .inl (.of (q.trans hh)), ?_⟩
              rw [← r.len]
              exact hx _ _ H' _ S2 E2 (.val (.int _))
          | dic t xs =>
            refine fun Q hx => pr _ fun G' W1 H' v S1 E1 hv => ?_
            obtain ⟨ow, v0, g0, g1⟩ := hv _ _ e3
            cases ow with
            | @dicK _ a vs _ w hh r =>
              have q := (held_same S E1 (a := a) (by rw [w]; exact inT_pre)).1
              obtain ⟨S2, E2⟩ := S.unhold e S1 E1 e2
              refine .inr (.inl ⟨a, vs, rfl, q.trans hh, ?_⟩)
              rw [← r.len]
              exact hx _ _ H' _ S2 E2 (.val (.int _))
            | @dicT _ a vs _ w hh r =>
              have q := (held_same S E1 (a := a) (by rw [w]; exact inT_pre)).1
              obtain ⟨S2, E2⟩ := S.unhold e S1 E1 e2
              refine .inr (.inr ⟨a, vs, rfl, q.trans hh, ?_⟩)
              rw [← r.len]
              exact hx _ _ H' _ S2 E2 (.val (.int _))
          | _ => exact trivial
theorem sem_appP {i : Nat} {ts : List TP} {fs : List Stp} {fx : List Nat} (h : SemP X xv Wx ts fs) (ha : SemO X xv Wx ta none fa) : SemS X xv Wx fx (tDrop (tBM X.K "list" rAppend (tPathR X.K i ts) (tCons ta tNil))) (appP i fs fa) := by
  intro G W H σ τ D S en
  unfold appP at en
  cases e : getO σ i with
  | none => rw [e] at en; exact en.elim
  | some o =>
    rw [e] at en
    have pr := path_read S e h
    replace en : EndS X.K xv Wx fx D G W H τ ((evP o fs (σ.set i none)).bind fun ds σ1 => match resR o ds with
      | some (ns, .lst xs) => (pre none (fa σ1) σ1).bind fun d σ2 => match d, getO σ2 i with
        | some x, none => if xs.length < SZ then .ok .nx (σ2.set i (some (putO o ns (.lst (xs ++ [x]))))) else .bad
        | _, _ => .bad
      | _ => .bad) := en
    show tPathR X.K i ts τ H fun x H1 => tyV X.K "list" x H1 ∧ ta τ H1 fun y H2 => rAppend x [y] H2 fun _ H3 => D.nx τ H3
    cases e1 : evP o fs (σ.set i none) with
    | bad => rw [e1] at en; exact en.elim
    | exc c σ1 =>
      rw [e1] at en pr
      exact pr _ fun G' W' H' S' E' => en G' W' H' τ S' E'.weaken fun _ _ => rfl
    | ok ds σ1 =>
      rw [e1] at en pr
      replace en : EndS X.K xv Wx fx D G W H τ (match resR o ds with
        | some (ns, .lst xs) => (pre none (fa σ1) σ1).bind fun d σ2 => match d, getO σ2 i with
          | some x, none => if xs.length < SZ then .ok .nx (σ2.set i (some (putO o ns (.lst (xs ++ [x]))))) else .bad
          | _, _ => .bad
        | _ => .bad) := en
      cases e3 : resR o ds with
      | none => rw [e3] at en; exact en.elim
      | some p =>
        obtain ⟨ns, s⟩ := p
        rw [e3] at en
        cases s with
        | lst xs =>
          replace en : EndS X.K xv Wx fx D G W H τ ((pre none (fa σ1) σ1).bind fun d σ2 => match d, getO σ2 i with
            | some x, none => if xs.length < SZ then .ok .nx (σ2.set i (some (putO o ns (.lst (xs ++ [x]))))) else .bad
            | _, _ => .bad) := en
          refine pr _ fun G1 W1 H1 v S1 E1 hv => ?_
          obtain ⟨ow, v0, g0, g1⟩ := hv _ _ e3
          cases ow with
          | @lst _ a vs _ w hh r =>
            have q1 := (held_same S E1 (a := a) (by rw [w]; exact inT_pre)).1
            refine ⟨.inl ⟨rfl, _, .of (q1.trans hh)⟩, ?_⟩
            have ha' := ha G1 W1 H1 σ1 τ S1
            cases e4 : pre none (fa σ1) σ1 with
            | bad => rw [e4] at en; exact en.elim
            | exc c σ2 =>
              rw [e4] at en ha'
              exact ha' _ fun G' W' H' S' E' => en G' W' H' τ S' (E1.trans E').weaken fun _ _ => rfl
            | ok d σ2 =>
              rw [e4] at en ha'
              refine ha' _ fun G2 W2 H2 y S2 E2 p2 => ?_
              obtain ⟨x, rfl, rx⟩ := p2
              replace en : EndS X.K xv Wx fx D G W H τ (match some x, getO σ2 i with
                | some x, none => if xs.length < SZ then .ok .nx (σ2.set i (some (putO o ns (.lst (xs ++ [x]))))) else .bad
                | _, _ => .bad) := en
              cases e5 : getO σ2 i with
              | some _ => rw [e5] at en; exact en.elim
              | none =>
                rw [e5] at en
                replace en : EndS X.K xv Wx fx D G W H τ (if xs.length < SZ then .ok .nx (σ2.set i (some (putO o ns (.lst (xs ++ [x]))))) else .bad) := en
                by_cases hz : xs.length < SZ
                · rw [if_pos hz] at en
                  have E := E1.trans E2
                  have q2 := (held_same S E (a := a) (by rw [w]; exact inT_pre)).1
                  obtain ⟨S3, E3⟩ := S.unhold e S2 E e5
                  have hi : i < σ2.length := by rw [S2.len, ← S.len]; exact getO_lt e
                  have pw : plusW W W2 i a = some ([i + 1] ++ ns) := by
                    unfold plusW
                    rw [w, inT_pre]
                    rfl
                  have h2a : H2 a = some (.lst vs) := q2.trans hh
                  obtain ⟨S4, E4⟩ := S3.mutP (ns := ns) (sub := .lst xs) (o' := .lst (xs ++ [x])) (a := a) (ho := .lst (vs ++ [y])) (getO_set hi) (resR_at e3) (v := v0) g0 (by
                    obtain ⟨v0', g2, g3⟩ := S.sl i o e
                    rw [g0] at g2
                    cases g2
                    obtain ⟨w2, _, x1, x2, _⟩ := path_get ns g3 (resR_at e3)
                    rw [g1] at x1
                    cases x1
                    exact x2 H2 fun b q eb => (held_same S E (a := b) (by rw [eb]; exact inT_pre)).1) pw (.lst pw upd_same ((r.mono (E3.g)).app (.cons rx .nil)))
                  rw [List.set_set] at S4
                  exact ⟨a, vs, y, rfl, rfl, h2a, by rw [← r.len, szl]; exact hz, en _ _ _ _ S4 (E3.trans E4) fun _ _ => rfl⟩
                · rw [if_neg hz] at en; exact en.elim
        | _ => exact en.elim
end
end PV
set_option maxRecDepth 100000
set_option maxHeartbeats 4000000
namespace PV
open PySem PySem.Spec PyProof.Rows L2 RT
section
variable {K : PySem.W.Frag} {G G' H H' : Hp} {W W' : Own?} {σ : Sg} {τ : LS}
theorem OwnL.renC {p p' : List Nat} (s : Same G G') (k : ∀ a c q, W a = some (p ++ [c] ++ q) → W' a = some (p' ++ [c] ++ q) ∧ H' a = H a) : ∀ {i : Nat} {o : List O} {v : List V}, OwnL K G H W p i o v → OwnL K G' H' W' p' i o v
  | _, _, _, .nil => .nil
  | i, _, _, .cons h r => .cons (h.ren s fun a q e => k a i q e) (OwnL.renC s k r)
theorem OwnL.snoc {p : List Nat} {o : O} {v : V} : ∀ {j : Nat} {os : List O} {vs : List V}, OwnL K G H W p j os vs → Own K G H W (p ++ [j + os.length]) o v → OwnL K G H W p j (os ++ [o]) (vs ++ [v])
  | j, _, _, .nil, h => .cons h .nil
  | j, _ :: os, _, .cons a r, h => .cons a (OwnL.snoc r (by rw [show j + 1 + os.length = j + (os.length + 1) by omega]; exact h))
theorem Sim.asTr (S : Sim K G W H σ τ) {i : Nat} {xs : List O} (e : (getO σ i).bind asTr = some xs) : ∃ o a vs, getO σ i = some o ∧ τ[i]? = some (some (.ref a)) ∧ W a = some [i + 1] ∧ H a = some (.lst vs) ∧ OwnL K G H W [i + 1] 0 xs vs := by
  obtain ⟨o, eo, ea⟩ := Option.bind_eq_some_iff.mp e
  obtain ⟨v, h1, h2⟩ := S.sl i o eo
  cases h2 with
  | tr w h r => cases ea; exact ⟨_, _, _, eo, h1, w, h, r⟩
  | @lst _ a vs ys w h r =>
    cases ys with
    | nil => cases ea; cases r; exact ⟨_, _, _, eo, h1, w, h, .nil⟩
    | cons _ _ => cases ea
  | val => cases ea
  | dicK => cases ea
  | dicT => cases ea
  | tp => cases ea
  | ins => cases ea
end
section
variable {X : Cx} {xv : ExV} {Wx : WX} {te : TE} {fe : Sg → R O}
theorem sem_appN {i : Nat} {fx : List Nat} (he : SemO X xv Wx te none fe) : SemS X xv Wx fx (tDrop (tBM X.K "list" rAppend (tVar i) (tCons (tLst (tCons (tLst tNil) (tCons te tNil))) tNil))) (appN i fe) := by
  intro G W H σ τ D S en
  unfold appN at en
  cases ea : (getO σ i).bind asTr with
  | none => rw [ea] at en; exact en.elim
  | some xs0 =>
    rw [ea] at en
    replace en : EndS X.K xv Wx fx D G W H τ ((pre none (fe σ) σ).bind fun d σ1 => match d, (getO σ1 i).bind asTr with
      | some x, some xs => if xs.length < SZ then .ok .nx (σ1.set i (some (.tr (xs ++ [.tr [.lst [], .val x]])))) else .bad
      | _, _ => .bad) := en
    obtain ⟨o0, a, vs0, _, h1, wa, ha, _⟩ := S.asTr ea
    refine ⟨_, h1, .inl ⟨rfl, _, .of ha⟩, ?_⟩
    refine ⟨Nat.zero_le _, fun p0 hp0 => ?_⟩
    show te τ (upd H p0 (.lst [])) fun y H1 => ([V.ref p0, y] : List V).length ≤ sizeLine ∧ ∀ p, H1 p = none → rAppend (.ref a) [.ref p] (upd H1 p (.lst [V.ref p0, y])) fun _ H3 => D.nx τ H3
    have w0 : W p0 = none := by
      cases q : W p0 with
      | none => rfl
      | some z => exact absurd hp0 (S.hw _ _ q)
    have ne0 : ∀ b, H b ≠ none → b ≠ p0 := fun b hb z => hb (by rw [z]; exact hp0)
    have g : Grow G W H G W (upd H p0 (.lst [])) := by
      refine ⟨Same.refl _, fun b u q => ?_, fun b hb => upd_ne (ne0 b hb), fun _ _ q => q, fun _ hb => .inl hb, fun _ hb => .inl hb, S.gw, fun b q z => ?_⟩
      · rw [upd_ne (ne0 b (by rw [S.gh _ _ q]; simp))]; exact S.gh _ _ q
      · rw [upd_ne (ne0 b (S.hw _ _ z))]; exact S.hw _ _ z
    have he' := he G W _ σ τ (S.grow g)
    cases e1 : pre none (fe σ) σ with
    | bad => rw [e1] at en; exact en.elim
    | exc c σ1 =>
      rw [e1] at en he'
      exact he' _ fun G' W' H' S' E' => en G' W' H' τ S' (g.ext.trans E') fun _ _ => rfl
    | ok d σ1 =>
      rw [e1] at en he'
      refine he' _ fun G2 W2 H2 y S2 E2 p2 => ?_
      obtain ⟨x, rfl, rx⟩ := p2
      replace en : EndS X.K xv Wx fx D G W H τ (match some x, (getO σ1 i).bind asTr with
        | some x, some xs => if xs.length < SZ then .ok .nx (σ1.set i (some (.tr (xs ++ [.tr [.lst [], .val x]])))) else .bad
        | _, _ => .bad) := en
      cases e2 : (getO σ1 i).bind asTr with
      | none => rw [e2] at en; exact en.elim
      | some xs =>
        rw [e2] at en
        replace en : EndS X.K xv Wx fx D G W H τ (if xs.length < SZ then .ok .nx (σ1.set i (some (.tr (xs ++ [.tr [.lst [], .val x]])))) else .bad) := en
        by_cases hz : xs.length < SZ
        · rw [if_pos hz] at en
          obtain ⟨o2, a2, vs, eo2, h2, wa2, ha2, r2⟩ := S2.asTr e2
          rw [h1] at h2
          cases h2
          have E := g.ext.trans E2
          have hp2 : H2 p0 = some (.lst []) := by rw [E2.keep p0 (by rw [upd_same]; simp) w0, upd_same]
          have w2 : W2 p0 = none := by
            cases q : W2 p0 with
            | none => rfl
            | some z =>
              rcases E2.w p0 (by rw [q]; simp) with y | y
              · exact absurd w0 y
              · rw [upd_same] at y; cases y
          have g2 : G2 p0 = none := by
            cases q : G2 p0 with
            | none => rfl
            | some z =>
              rcases E2.gn p0 (by rw [q]; simp) with y | y | y
              · exact absurd (S.gh.free hp0) y
              · exact absurd w0 y
              · rw [upd_same] at y; cases y
          refine ⟨by show 2 ≤ sizeLine; decide, fun p hp => ?_⟩
          have pne : p0 ≠ p := fun z => by rw [z, hp] at hp2; cases hp2
          have ane : a ≠ p := fun z => by rw [z, hp] at ha2; cases ha2
          have a0ne : a ≠ p0 := fun z => by rw [z, w2] at wa2; cases wa2
          have wp : W2 p = none := by
            cases q : W2 p with
            | none => rfl
            | some z => exact absurd hp (S2.hw _ _ q)
          have gp : G2 p = none := S2.gh.free hp
          refine ⟨a, vs, .ref p, rfl, rfl, by rw [upd_ne ane]; exact ha2, by rw [← r2.len, szl]; exact hz, ?_⟩
          let W3 : Own? := own (own W2 p [i + 1, xs.length]) p0 [i + 1, xs.length, 0]
          have W3p0 : W3 p0 = some [i + 1, xs.length, 0] := own_same
          have W3p : W3 p = some [i + 1, xs.length] := (own_ne pne.symm).trans own_same
          have W3o : ∀ b, b ≠ p → b ≠ p0 → W3 b = W2 b := fun b x1 x2 => (own_ne x2).trans (own_ne x1)
          have own2 : ∀ b q, W2 b = some q → b ≠ p ∧ b ≠ p0 := fun b q z => ⟨fun y => (by rw [y, wp] at z; cases z), fun y => (by rw [y, w2] at z; cases z)⟩
          have H4o : ∀ b, b ≠ p → b ≠ a → upd (upd H2 p (.lst [V.ref p0, y])) a (.lst (vs ++ [V.ref p])) b = H2 b := fun b x1 x2 => by rw [upd_ne x2, upd_ne x1]
          have hi : i < σ1.length := getO_lt eo2
          refine en G2 W3 _ τ ⟨fun b u q => ?_, fun b q z => ?_, fun b q z => ?_, fun j o' ej => ?_, by rw [List.length_set]; exact S2.len⟩ ⟨E.g, fun b hb hw => ?_, fun b hb => ?_, fun b hb => ?_, E.gn⟩ fun _ _ => rfl
          · rw [H4o b (fun z => by rw [z, gp] at q; cases q) (fun z => by rw [z, S2.gw _ _ wa2] at q; cases q)]
            exact S2.gh _ _ q
          · by_cases c0 : b = p0
            · rw [c0]; exact g2
            · by_cases c : b = p
              · rw [c]; exact gp
              · rw [W3o b c c0] at z; exact S2.gw _ _ z
          · by_cases ca : b = a
            · rw [ca, upd_same]; simp
            · rw [upd_ne ca]
              by_cases c : b = p
              · rw [c, upd_same]; simp
              · rw [upd_ne c]
                by_cases c0 : b = p0
                · rw [c0, hp2]; simp
                · rw [W3o b c c0] at z; exact S2.hw _ _ z
          · by_cases z : i = j
            · subst z
              rw [getO_set hi] at ej
              cases ej
              refine ⟨_, h1, .tr (by rw [W3o a ane a0ne]; exact wa2) upd_same (OwnL.snoc (OwnL.renC (Same.refl _) (fun b c q eb => ?_) r2) ?_)⟩
              · obtain ⟨n1, n2⟩ := own2 b _ eb
                refine ⟨(W3o b n1 n2).trans eb, H4o b n1 fun y => ?_⟩
                rw [y, wa2] at eb
                have := congrArg List.length (Option.some.inj eb)
                simp at this
              · rw [Nat.zero_add]
                refine .tr W3p (by rw [upd_ne ane.symm, upd_same]) (.cons (.lst W3p0 ?_ .nil) (.cons (.val rx) .nil))
                rw [H4o p0 pne a0ne.symm]
                exact hp2
            · rw [getO_set_ne z] at ej
              obtain ⟨v', h3, h4⟩ := S2.sl j o' ej
              refine ⟨v', h3, h4.ren (Same.refl _) fun b q eb => ?_⟩
              obtain ⟨n1, n2⟩ := own2 b _ eb
              refine ⟨(W3o b n1 n2).trans eb, H4o b n1 fun y => ?_⟩
              rw [y, wa2] at eb
              have := Option.some.inj eb
              injection this with t1 t2
              omega
          · have q := E.keep b hb hw
            rw [H4o b (fun z => by rw [z, hp] at q; rw [← z] at q; exact hb q.symm) (fun z => by rw [z, wa] at hw; cases hw)]
            exact q
          · have q := E.there b hb
            by_cases ca : b = a
            · rw [ca, upd_same]; simp
            · rw [upd_ne ca]
              by_cases c : b = p
              · rw [c, upd_same]; simp
              · rw [upd_ne c]; exact q
          · by_cases c0 : b = p0
            · exact .inr (by rw [c0]; exact hp0)
            · by_cases c : b = p
              · refine .inr ?_
                rw [c]
                cases q : H p with
                | none => rfl
                | some u => exact absurd hp (E.there p (by rw [q]; simp))
              · rw [W3o b c c0] at hb
                exact E.w b hb
        · rw [if_neg hz] at en; exact en.elim
theorem sem_trev {b : Option Nat} (h : SemO X xv Wx te b fe) : SemE X xv Wx (tTupRev X.K te) (op1 revD b fe) := by
  intro G W H σ τ S
  refine At.bind (tr2 := fun v H1 Q => ∃ (a : Addr) (xs : List V), v = V.ref a ∧ SqL X.K H1 a xs ∧ ∀ q, H1 q = none → Q (V.ref q) (upd H1 q (.tup xs.reverse))) (h G W H σ τ S) fun d σ1 G1 W1 H1 v S1 E1 p => ?_
  cases e : fin b d σ1 with
  | none => exact trivial
  | some x =>
    show At X.K xv Wx τ G1 W1 H1 (lift σ1 (revD x)) _ _
    cases x with
    | lst xs =>
      obtain ⟨a, vs, rfl, ha, r⟩ := (p.fin S1 e).lst
      exact At.grows S1 fun Q hx => ⟨a, vs, rfl, ha, new_tup S1 r.rev hx⟩
    | _ => exact trivial
end
end PV
set_option maxRecDepth 100000
set_option maxHeartbeats 4000000
namespace PV
open PySem PySem.Spec PyProof.Rows L2
section
variable {X : Cx} {xv : ExV} {Wx : WX}
theorem sem_compH {Xb : Cx} (hKb : Xb.K = X.K) {k : Nat} {g : TG} {tg : List Nat} {one : Bool} {tt : TT} {te : TE} {ft : Sg → R Bool} {fe : Sg → R O} (hg : SemG Xb tg one g)
    (ht : SemT Xb xv (fun _ _ _ _ => False) tt ft) (he : SemO Xb xv (fun _ _ _ _ => False) te none fe) :
    SemE X xv Wx (tLc (iSeq X.K (tVar k)) g tt te tg) (compHD k tg fun x σ => match store tg one x (wipes tg σ) with
      | some σ2 => (ft σ2).bind fun b σ3 => if b = true then (pre none (fe σ3) σ3).bind fun d σ4 => .ok d σ4 else .ok none σ3
      | none => .bad) := by
  intro G W H σ τ S
  generalize hf : (fun x σ => match store tg one x (PV.wipes tg σ) with
      | some σ2 => (ft σ2).bind fun b σ3 => if b = true then (pre none (fe σ3) σ3).bind fun d σ4 => R.ok d σ4 else R.ok none σ3
      | none => R.bad) = f
  unfold compHD
  cases e : getO σ k with
  | none => exact trivial
  | some o =>
    cases o with
    | lst xs =>
      obtain ⟨v, hv, ow⟩ := S.sl k _ e
      cases ow with
      | @lst _ a vs _ w hh r =>
        have S1 : Sim X.K G (minusW W k) H (σ.set k none) τ := S.hold
        have ia : inT k (W a) = true := by rw [w]; exact inT_pre (q := [])
        have wk : WalkE X.K G (minusW W k) H (Itl X.K a) xs := fun i G' W' H' σ' τ' E' S' => by
          have hq : SqL X.K H' a vs := .of ((held_same S E' ia).1.trans hh)
          refine ⟨fun x hx => ?_, fun hi => ⟨vs, hq, by rw [← r.len]; exact hi⟩⟩
          obtain ⟨u, hu, ru⟩ := r.get hx
          refine ⟨⟨vs, u, hq, hu⟩, fun y H2 hy => ?_⟩
          obtain ⟨rfl, hy⟩ := hy
          have := hy vs hq
          rw [hu] at this
          cases this
          exact ⟨G', Grow.refl S', ru.mono E'.g⟩
        show At X.K xv Wx τ G W H (noExc ((compLoop f xs (σ.set k none)).bind fun ys σ2 => match unwipe tg (σ.set k none) (PV.wipes tg σ2) with
          | some σ4 => if ys.length ≤ SZ then (match getO σ4 k with
            | none => R.ok (O.lst ys) (σ4.set k (some (.lst xs)))
            | some _ => .bad) else .bad
          | none => .bad)) _ _
        cases hr : compLoop f xs (σ.set k none) with
        | bad => exact trivial
        | exc c σ2 => exact trivial
        | ok ys σ2 =>
          show At X.K xv Wx τ G W H (noExc (match unwipe tg (σ.set k none) (PV.wipes tg σ2) with
            | some σ4 => if ys.length ≤ SZ then (match getO σ4 k with
              | none => R.ok (O.lst ys) (σ4.set k (some (.lst xs)))
              | some _ => .bad) else .bad
            | none => .bad)) _ _
          cases hu : unwipe tg (σ.set k none) (PV.wipes tg σ2) with
          | none => exact trivial
          | some σ4 =>
            by_cases hz : ys.length ≤ SZ
            · show At X.K xv Wx τ G W H (noExc (if ys.length ≤ SZ then (match getO σ4 k with
                | none => R.ok (O.lst ys) (σ4.set k (some (.lst xs)))
                | some _ => .bad) else .bad)) _ _
              rw [if_pos hz]
              cases e4 : getO σ4 k with
              | some _ => exact trivial
              | none =>
                intro Q hx
                refine ⟨_, hv, .inl ⟨a, rfl, ⟨vs, .of hh⟩, ?_⟩⟩
                refine comp_core hKb hg ht he hf S1 wk hr hu hz fun G' W' H' y S4 E4 oy => ?_
                obtain ⟨S5, E5⟩ := S.unhold e S4 E4 e4
                refine hx G' (plusW W W' k) H' y S5 E5 (oy.ren (Same.refl _) fun b q eq => ⟨?_, rfl⟩)
                unfold plusW
                by_cases h : inT k (W b) = true
                · rw [(held_same S E4 h).2.1] at eq; cases eq
                · rw [if_neg h]; exact eq
            · show At X.K xv Wx τ G W H (noExc (if ys.length ≤ SZ then (match getO σ4 k with
                | none => R.ok (O.lst ys) (σ4.set k (some (.lst xs)))
                | some _ => .bad) else .bad)) _ _
              rw [if_neg hz]
              exact trivial
    | _ => exact trivial
end
end PV
set_option maxRecDepth 100000
set_option maxHeartbeats 4000000
namespace SrtO
open PySem PyProof.Rows Srt
section
variable {prog : Program} {w : World} {A : Around} {E : Value → Shared → Prop} {s : Shared}
def IsTx (h : Heap) (v : Value) (x : PySem.Str) (u : Value) : Prop := ∃ a o t n, v = .ref a ∧ h.get? a = some o ∧ o.cls = .type "tuple" ∧ o.data = .seq #[.str x t, u] n
theorem IsTx.keeps {h h' : Heap} {v : Value} {x : PySem.Str} {u : Value} (p : IsTx h v x u) (k : ∀ b o, h.get? b = some o → o.cls = .type "tuple" → h'.get? b = some o) : IsTx h' v x u := by
  obtain ⟨a, o, t, n, e, ho, hc, hd⟩ := p
  exact ⟨a, o, t, n, e, k _ _ ho hc, hc, hd⟩
def ltS (x y : PySem.Str) : Bool := decide (x.cps.toList < y.cps.toList)
theorem ltS_no {x y : PySem.Str} : ltS x y = false ↔ y.cps.toList ≤ x.cps.toList := by
  unfold ltS
  rw [decide_eq_false_iff_not, List.not_lt]
theorem swo_tx {α : Type} (k : α → PySem.Str) : Swo fun v u => ltS (k v) (k u) := by
  refine ⟨fun x y h => ?_, fun x y z h1 h2 => ?_⟩
  · have a := of_decide_eq_true (p := (k x).cps.toList < (k y).cps.toList) h
    exact decide_eq_false (List.lt_asymm a)
  · exact ltS_no.mpr (List.le_trans (ltS_no.mp h1) (ltS_no.mp h2))
theorem tx_cmp {vs : List Value} {k : Value → PySem.Str} {sn : Value → Value} (hp : ∀ v ∈ vs, IsTx s.heap v (k v) (sn v)) (hu : ∀ v ∈ vs, ∀ u ∈ vs, k v = k u → sn v = sn u) : Cmp prog w A s (tuples' true) (fun p => p.1 ∈ vs) (lt2 fun v u => ltS (k v) (k u)) := by
  intro p q hm hm'
  have h1 := hp _ hm
  have h2 := hp _ hm'
  have h3 := hu _ hm _ hm'
  show wpAny (model prog w) A (keyLt' (tuples' true) p.1 q.1) (fun r s' => s' = s ∧ r = ltS (k p.1) (k q.1)) (fun _ _ => False) s
  generalize k p.1 = x at h1 h3 ⊢
  generalize k q.1 = x' at h2 h3 ⊢
  generalize sn p.1 = y at h1 h3
  generalize sn q.1 = y' at h2 h3
  obtain ⟨a, o, t, n, e, ho, hc, hd⟩ := h1
  obtain ⟨a', o', t', n', e', ho', hc', hd'⟩ := h2
  rw [e, e']
  refine PySem.W.kat_lt ho hd ho' hd' ?_
  show PySem.W.KatLex prog w A true (decide (2 < 2)) _ [(.str x t, .str x' t'), (y, y')] 0 s
  refine PySem.W.kat_cons (SeqAt.EqAt.str_str x t x' t' prog w _ _ ?_)
  refine PySem.W.kat_go (fun e1 => ?_) (fun e1 => ?_)
  · have ex : x = x' := by simpa using e1
    have ey := h3 ex
    subst ex
    subst ey
    refine PySem.W.kat_yes (PySem.W.kat_cons (SeqAt.EqAt.same _ prog w _ _ ?_))
    refine PySem.W.kat_go (fun _ => ?_) (fun e2 => by cases e2)
    have e3 : ltS x x = false := (swo_tx (fun z : PySem.Str => z)).refl x
    exact PySem.W.kat_yes (PySem.W.kat_nil ⟨rfl, e3.symm⟩)
  · exact PySem.W.kat_no (oneLt_str ⟨rfl, rfl⟩)
theorem tx_firsts {h : Heap} {k : Value → PySem.Str} {sn : Value → Value} : ∀ {vs : List Value}, (∀ v ∈ vs, IsTx h v (k v) (sn v)) → ∃ fs : List Value, PySem.W.KatTups h vs fs ∧ fs.length = vs.length ∧ ∀ f ∈ fs, ∃ x t, f = Value.str x t
  | [], _ => ⟨[], PySem.W.KatTups.nil, rfl, fun _ hm => by simp at hm⟩
  | v :: vs, hp => by
    obtain ⟨fs, h1, h2, h3⟩ := tx_firsts (vs := vs) fun v' hm => hp v' (List.mem_cons_of_mem _ hm)
    obtain ⟨a, o, t, n, e, ho, hc, hd⟩ := hp v (List.mem_cons_self ..)
    refine ⟨.str (k v) t :: fs, ?_, by rw [List.length_cons, List.length_cons, h2], fun f hm => ?_⟩
    · rw [e]
      rw [e] at hd
      exact PySem.W.KatTups.cons ho hc hd rfl h1
    · rcases List.mem_cons.mp hm with rfl | hm
      · exact ⟨_, t, rfl⟩
      · exact h3 f hm
theorem tx_sortable {a : Addr} {vs : List Value} {k : Value → PySem.Str} {sn : Value → Value} (h0 : 0 < vs.length) (hp : ∀ v ∈ vs, IsTx s.heap v (k v) (sn v)) (hu : ∀ v ∈ vs, ∀ u ∈ vs, k v = k u → sn v = sn u) (ha : ∀ o, s.heap.get? a = some o → o.cls ≠ .type "tuple") : SortableO prog w A s a vs fun v u => ltS (k v) (k u) := by
  intro h' keep
  have hp' : ∀ v ∈ vs, IsTx h' v (k v) (sn v) := fun v hm => (hp v hm).keeps fun b o e c => keep b o (fun z => by subst z; exact ha o e c) e
  obtain ⟨fs, h1, h2, h3⟩ := tx_firsts hp'
  refine ⟨tuples' true, fun Q E hq => ?_, tx_cmp hp' hu⟩
  refine PySem.W.kat_kind (T := .type "str") h1 (by omega) (fun f hm => ?_) (by rfl) ?_
  · obtain ⟨x, t, rfl⟩ := h3 f hm
    exact PySem.W.Looks.now
  · have e : (Value.type "str" != Value.type "tuple") = true := by first | decide +kernel | rfl | decide
    rw [e]
    exact hq
theorem sorted_tx {l : Addr} {vs : List Value} {k : Value → PySem.Str} {sn : Value → Value} {Q : Value → Shared → Prop} (hl : s.heap.IsList l vs.toArray) (hz : vs.length ≤ sizeLine) (hp : ∀ v ∈ vs, IsTx s.heap v (k v) (sn v)) (hu : ∀ v ∈ vs, ∀ u ∈ vs, k v = k u → sn v = sn u)
    (h : ∀ (h' : Heap) (d : Addr) (out : List Value), Srtd (fun v u => ltS (k v) (k u)) out → Stb (fun v u => ltS (k v) (k u)) out vs → (∀ b o, s.heap.get? b = some o → h'.get? b = some o) → s.heap.objs.size ≤ d → (∃ n, h'.get? d = some (seqObj "list" out.toArray n)) → Q (.ref d) { s with heap := h' }) :
    wpAny (model prog w) A (call (.builtin "sorted") [.ref l]) Q E s := by
  refine sorted_ord (swo_tx k) hl hz (fun h2 h₁ a ha kk => ?_) fun out hs hb => ?_
  · refine tx_sortable (s := { s with heap := h₁ }) (by omega) (fun v hm => (hp v hm).keeps fun b o e _ => (kk b o e).2) hu fun o e => ?_
    have e' : some o = some (seqObj "list" vs.toArray 0) := e.symm.trans ha
    cases e'
    intro c
    exact absurd (Value.type.inj c) (by decide)
  · exact h _ _ out hs hb (fun b o e => sortedAll_old e) (Nat.le_succ _) (sortedAll_at s.heap vs out.toArray)
end
end SrtO
namespace L2
open PySem PySem.Spec PyProof.Rows
abbrev ltT (k : V → Str) (x y : V) : Bool := SrtO.ltS (k x) (k y)
def rSortedTx (K : PySem.W.Frag) : List V → Hp → VK → Prop := fun vs H Q => ∃ (a : Addr) (xs : List V) (k : V → Str) (sn : V → V), vs = [V.ref a] ∧ SqL K H a xs ∧ (∀ x ∈ xs, ∃ t, x = V.ref t ∧ H t = some (.tup [.str (k x), sn x])) ∧ (∀ x ∈ xs, ∀ y ∈ xs, k x = k y → x = y) ∧
  ∀ ys p, SrtO.Srtd (ltT k) ys → ys.Perm xs → H p = none → Q (.ref p) (upd H p (.lst ys))
section
variable {X : Cx}
theorem cr_sortedTx : CallR X (.builtin "sorted") (rSortedTx X.K) := by
  intro pins s σ H vs us Q I r h
  obtain ⟨a, xs, k, sn, rfl, hs, hx, hu, q⟩ := h
  obtain ⟨its, rv, hl, hz⟩ := I.list hs
  obtain ⟨u, rfl, ru⟩ := vals1 r
  obtain rfl : u = Value.ref a := ru
  obtain ⟨e1, e2⟩ := refs_back rv fun x m => by
    obtain ⟨t, e, _⟩ := hx x m
    exact ⟨t, e⟩
  have key : ∀ v ∈ its, ∃ u', SrtO.IsTx s.heap v (k (backV v)) u' := fun v hv => by
    obtain ⟨t, rfl⟩ := e2 v hv
    have hm : V.ref t ∈ xs := by rw [e1]; exact List.mem_map.mpr ⟨_, hv, rfl⟩
    obtain ⟨t', e, ht⟩ := hx _ hm
    cases e
    obtain ⟨_, its2, r2, o, ho, hc, n, hd⟩ := I.hok _ _ ht
    obtain ⟨u1, u2, rfl, ri, rj⟩ := vals2 r2
    obtain ⟨t1, rfl⟩ := ri
    exact ⟨u2, t, o, t1, n, rfl, ho, hc, hd⟩
  classical
  refine SrtO.sorted_tx (k := fun u => k (backV u)) (sn := fun v => if h : ∃ u', SrtO.IsTx s.heap v (k (backV v)) u' then h.choose else .none) hl.isList (by rw [← rv.length]; exact hz) (fun v hv => ?_) (fun v hv u hu2 e => ?_) fun h' d out h1 h2 kp hd hn => ?_
  · have := key v hv
    rw [dif_pos this]
    exact this.choose_spec
  · obtain ⟨t, rfl⟩ := e2 v hv
    obtain ⟨t', rfl⟩ := e2 u hu2
    have m1 : V.ref t ∈ xs := by rw [e1]; exact List.mem_map.mpr ⟨_, hv, rfl⟩
    have m2 : V.ref t' ∈ xs := by rw [e1]; exact List.mem_map.mpr ⟨_, hu2, rfl⟩
    have := hu _ m1 _ m2 e
    cases this
    rfl
  · have h3 : ∀ u ∈ out, ∃ a, u = Value.ref a := fun u hu => e2 u (h2.perm.mem_iff.mp hu)
    obtain ⟨n, hn⟩ := hn
    have hb : (out.map backV).Perm xs := by
      rw [e1]
      exact h2.perm.map backV
    refine ⟨.ref d, upd H d (.lst (out.map backV)), I.laid (t' := s.toks) kp hd ⟨?_, out, n, vals_back h3, hn⟩, rfl, q _ d (SrtO.srtd_map h1) hb (I.hok.fresh hd)⟩
    rw [hb.length_eq]
    exact hz
end
end L2
set_option maxRecDepth 100000
set_option maxHeartbeats 4000000
namespace RX
open PySem PySem.Spec PyProof.Rows L2
def kx (e : Int × Value) : Str := match e.2 with
  | .str k _ => k
  | _ => ⟨#[]⟩
def Gx (w : World) (e : Int × Value) : Prop := ∃ k tk, e.2 = Value.str k tk ∧ e.1 = hashStr w k
def SetX (w : World) (h : Heap) (a : Addr) (l : List Str) : Prop :=
  ∃ o es ep t, (h.get? a = some o ∧ o.ExactSet ∧ o.data = .set es ep t) ∧ (∀ e ∈ es.toList, Gx w e) ∧ ((es.toList.map kx).Perm l ∧ l.Nodup) ∧ (es.size < scanBound ∧ t.fits es.size = true) ∧ Ris t.place.toList ∧ (w.params.followText "set-order" = true ∨ t.led = true)
section
variable {P : Program} {w : World} {h h' : Heap} {a : Addr} {l : List Str}
theorem SetX.at (R : SetX w h a l) (k : ∀ o, h.get? a = some o → h'.get? a = some o) : SetX w h' a l := by
  obtain ⟨o, es, ep, t, ⟨ho, r1, r2⟩, r⟩ := R
  exact ⟨o, es, ep, t, ⟨k o ho, r1, r2⟩, r⟩
theorem SetX.len {es : Array (Int × Value)} (h : (es.toList.map kx).Perm l) : es.size = l.length := by rw [← h.length_eq, List.length_map, Array.length_toList]
theorem is_k (k : Str) (u : Tok) : (strKind P w).is k (.str k u) = true := by
  show Value.isStrOf k (.str k u) = true
  simp [Value.isStrOf]
theorem gx_elems {es : List (Int × Value)} (g : ∀ e ∈ es, Gx w e) : ElemsOf (strKind P w) es := fun e he => by
  obtain ⟨k, tk, h1, h2⟩ := g e he
  exact ⟨⟨k, by rw [h1]; exact is_k k tk, h2⟩, by rw [h1] <;> rfl⟩
theorem gx_is {e : Int × Value} (g : Gx w e) (k : Str) : (strKind P w).is k e.2 = true ↔ kx e = k := by
  obtain ⟨k0, tk, h1, _⟩ := g
  unfold kx
  rw [h1]
  constructor
  · intro z
    exact (strKind P w).inj (.str k0 tk) k0 k (is_k k0 tk) z
  · rintro rfl
    exact is_k _ _
theorem SetX.new {x : Bool} (hx : x = !w.params.followText "set-order") (ho : h.get? a = some { cls := .type "set", dict := none, data := .set #[] 0 (.fresh 0 0 x) }) : SetX w h a [] :=
  ⟨_, #[], 0, _, ⟨ho, ⟨rfl, rfl, rfl⟩, rfl⟩, (fun e he => by simp at he), ⟨.refl _, .nil⟩, ⟨(by decide), rfl⟩, .nil, by
    subst hx
    show _ ∨ (!w.params.followText "set-order") = true
    cases w.params.followText "set-order"
    · exact .inr rfl
    · exact .inl rfl⟩
end
section
variable {P : Program} {w : World} {A : Around} {E : Value → Shared → Prop} {s : Shared} {a : Addr} {l : List Str}
theorem putT {g : Bool → Sem Unit} (hg : ∀ (b : Bool) (s₁ : Shared) (Q' : Unit → Shared → Prop), Q' () s₁ → wpAny (model P w) A (g b) Q' E s₁)
    {o : Obj} {es : Array (Int × Value)} {ep : Nat} {t : SetTable} (ho : s.heap.get? a = some o) (hex : o.ExactSet) (hd : o.data = .set es ep t)
    {es1 : Array (Int × Value)} {t2 : SetTable} (g1 : ∀ e ∈ es1.toList, Gx w e) (pl : (es1.toList.map kx).Perm l) (nd : l.Nodup)
    (hb1 : es1.size < scanBound) (hf2 : t2.fits es1.size = true) (hr : Ris t2.place.toList) (hl : w.params.followText "set-order" = true ∨ t2.led = true) {wasDummy : Bool} {R : Option Bool → Shared → Prop}
    (hR : ∀ h', Heap.SameBut a s.heap h' → SetX w h' a l → R (some true) { s with heap := h' }) :
    wpAny (model P w) A (do
        storeSet a es1 t2
        if (!wasDummy && t2.tooFull) = true then do
            g (relayAll t2 es1 (SetTable.grown es1.size)).2.2
            storeSet a (relayAll t2 es1 (SetTable.grown es1.size)).1 (relayAll t2 es1 (SetTable.grown es1.size)).2.1
            pure (some true)
          else pure (some true)) R E s := by
  have ho1 := store_at (es' := es1) (t' := t2) ho hd
  have sb1 := Heap.SameBut.update s.heap a (Obj.putSet es1 t2)
  refine wpAny_bind (wpAny_storeSet_of ho hd ?_ (fits_of_scanBound hb1))
  by_cases full : (!wasDummy && t2.tooFull) = true
  · rw [if_pos full]
    have pm := relayAll_perm t2 es1 (SetTable.grown es1.size)
    have f3 := relayAll_fits t2 es1 (SetTable.grown es1.size)
    have r3 := relayAll_ris t2 es1 (SetTable.grown es1.size)
    have l3 := relayAll_led t2 es1 (SetTable.grown es1.size)
    have z : (relayAll t2 es1 (SetTable.grown es1.size)).1.size = es1.size := by rw [← Array.length_toList, pm.length_eq, Array.length_toList]
    have b2 : (relayAll t2 es1 (SetTable.grown es1.size)).1.size < scanBound := by omega
    refine wpAny_bind (hg _ _ _ (wpAny_bind (wpAny_storeSet_of ho1 rfl (wpAny_pure (hR _ (sb1.trans (Heap.SameBut.update _ a _)) ?_)) (fits_of_scanBound b2))))
    exact ⟨_, _, _, _, ⟨store_at ho1 rfl, hex, rfl⟩, fun e he => g1 e (pm.mem_iff.mp he), ⟨(pm.map kx).trans pl, nd⟩, ⟨b2, by rw [z]; rw [z] at f3; exact f3⟩, r3, hl.imp id fun q => by rw [l3]; exact q⟩
  · rw [if_neg full]
    exact wpAny_pure (hR _ sb1 ⟨_, _, _, _, ⟨ho1, hex, rfl⟩, g1, ⟨pl, nd⟩, ⟨hb1, hf2⟩, hr, hl⟩)
theorem addX {k : Str} {tk : Tok} {Q : Bool → Shared → Prop} (R : SetX w s.heap a l) (room : l.length + 1 < scanBound)
    (hQ : ∀ (h' : Heap) (l' : List Str) (b : Bool), Heap.SameBut a s.heap h' → SetX w h' a l' → (∀ j, j ∈ l' ↔ j = k ∨ j ∈ l) → l'.length ≤ l.length + 1 → Q b { s with heap := h' }) :
    wpAny (model P w) A (setAddHashed a (.str k tk) ((strKind P w).hash k)) Q E s := by
  obtain ⟨o, es, ep, t, ⟨ho, hex, hd⟩, g, ⟨pl, nd⟩, ⟨hb, hf⟩, hr, hl⟩ := R
  have hsz := SetX.len pl
  have hkey : (strKind P w).is k (.str k tk) = true := is_k k tk
  have hsc : (Value.str k tk).scannable = true := rfl
  have hel : ElemsOf (strKind P w) es.toList := gx_elems g
  have quiet : ∀ (b : Bool) {s₁ : Shared} {Q' : Unit → Shared → Prop}, Q' () s₁ → wpAny (model P w) A (match b with | true => rule "set.scan.the-table-gave-way" | false => pure ()) Q' E s₁ :=
    fun b s₁ Q' q => by cases b <;> first | exact wpAny_pure q | exact wpAny_rule q
  unfold setAddHashed setAddHashedIn
  refine wpAny_holding (wpAny_bind (wpAny_setState_of ho hd hf ?_))
  dsimp only
  rw [byScan_of hsc hb hel]
  simp only [↓reduceIte]
  unfold setAddByScan
  refine wpAny_bind (wpAny_bind (wpAny_rule (wpAny_bind (wpAny_setScan_of hkey ho hd hf hel ?_))))
  cases hfi : List.findIdx? (fun e => (strKind P w).is k e.2) es.toList with
  | some j =>
    obtain ⟨hj, pj, _⟩ := List.findIdx?_eq_some_iff_getElem.mp hfi
    have hk : k ∈ l := by
      refine pl.mem_iff.mp (List.mem_map.mpr ⟨_, List.getElem_mem hj, ?_⟩)
      exact (gx_is (P := P) (g _ (List.getElem_mem hj)) k).mp pj
    dsimp only
    exact wpAny_pure (wpAny_pure (hQ s.heap l _ (Heap.SameBut.refl a s.heap) ⟨o, es, ep, t, ⟨ho, hex, hd⟩, g, ⟨pl, nd⟩, ⟨hb, hf⟩, hr, hl⟩ (fun i => ⟨.inr, fun z => z.elim (fun e => e ▸ hk) id⟩) (Nat.le_succ _)))
  | none =>
    have hk : k ∉ l := fun z => by
      obtain ⟨e, he, q⟩ := List.mem_map.mp (pl.mem_iff.mpr z)
      have c := List.findIdx?_eq_none_iff.mp hfi e he
      rw [(gx_is (P := P) (g e he) k).mpr q] at c
      cases c
    have pm := layNew_perm t es ((strKind P w).hash k) (.str k tk)
    have f1 := layNew_fits t es ((strKind P w).hash k) (.str k tk)
    have r1 := layNew_ris t es ((strKind P w).hash k) (.str k tk) hr
    have l1 := layNew_led t es ((strKind P w).hash k) (.str k tk)
    dsimp only
    generalize layNew t es ((strKind P w).hash k) (.str k tk) = Z at pm f1 r1 l1 ⊢
    obtain ⟨es1, t1, wasDummy, gave⟩ := Z
    dsimp only at pm f1 r1 l1 ⊢
    rw [Array.toList_push] at pm
    have pc : es1.toList.Perm (((strKind P w).hash k, Value.str k tk) :: es.toList) := pm.trans (List.perm_append_singleton _ _)
    have pl1 : (es1.toList.map kx).Perm (k :: l) := (pc.map kx).trans (pl.cons k)
    have g1 : ∀ e ∈ es1.toList, Gx w e := fun e he => by
      rcases List.mem_cons.mp (pc.mem_iff.mp he) with z | z
      · rw [z]; exact ⟨k, tk, rfl, rfl⟩
      · exact g e z
    have nd1 : (k :: l).Nodup := List.nodup_cons.mpr ⟨hk, nd⟩
    have b1 : es1.size < scanBound := by
      have := SetX.len pl1
      rw [this]; exact room
    have led : w.params.followText "set-order" = true ∨ t1.led = true := hl.imp id fun z => by rw [l1]; exact z
    have fin : ∀ (h' : Heap) (b : Bool), Heap.SameBut a s.heap h' → SetX w h' a (k :: l) → Q b { s with heap := h' } := fun h' b sb r => hQ h' _ b sb r (fun i => by simp) (Nat.le_refl _)
    refine wpAny_bind (quiet _ ?_)
    split
    · refine wpAny_bind ?_
      rw [hashByValue_scannable 8 hsc]
      refine wpAny_pure ?_
      refine putT (l := k :: l) ?_ ho hex hd g1 pl1 nd1 b1 ?_ ?_ ?_ ?_
      · intro b s₁ Q' q; cases b <;> first | exact wpAny_pure q | exact wpAny_rule q
      · first | (split <;> first | exact f1 | exact SetTable.fits_plain_off f1) | exact f1
      · first | (split <;> exact r1) | exact r1
      · first | (split <;> exact led) | exact led
      · intro h' sb r; dsimp only; exact wpAny_pure (fin h' _ sb r)
    · refine wpAny_bind (wpAny_pure ?_)
      simp only [↓reduceIte]
      refine putT (l := k :: l) ?_ ho hex hd g1 pl1 nd1 b1 f1 r1 led ?_
      · intro b s₁ Q' q; cases b <;> first | exact wpAny_pure q | exact wpAny_rule q
      · intro h' sb r; dsimp only; exact wpAny_pure (fin h' _ sb r)
theorem update_txts {I : Addr} {fp wr : List Addr} {G : Array GenState → Array GenState → Prop} {n : Nat} {Pv : Nat → Value → Prop} {St : Nat → Shared → Prop} {R : Result → Shared → Prop}
    (W : WalksS P w A.in1 I fp wr G n Pv St) (hSf : a ∉ fp) (ks : List Str) (hn : n = ks.length) (hb : ks.length + 1 < scanBound) (hval : ∀ i v, Pv i v → ∃ k t, ks[i]? = some k ∧ v = .str k t) :
    ∀ (m i : Nat) (s : Shared), n - i = m → i ≤ n → St i s → (∃ l, l.length ≤ i ∧ (∀ j, j ∈ l ↔ j ∈ ks.take i) ∧ SetX w s.heap a l) →
      (∀ s' l, Moved (a :: wr) G s s' → l.length ≤ n → (∀ j, j ∈ l ↔ j ∈ ks) → SetX w s'.heap a l → R (.ok (.ret .none)) s') →
      codeAny (model P w) A (.builtin "set.update.loop" ⟨[.ref a, .ref I], []⟩) R s := by
  have hSw : a ∉ wr := fun h => hSf (W.sub _ h)
  have hsub : ∀ b ∈ wr, b ∈ a :: wr := fun b hb => List.mem_cons_of_mem _ hb
  intro m
  induction m with
  | zero =>
    intro i s hm hi hst ⟨l, hc, hj, hS⟩ hR
    have hin : i = n := by omega
    subst hin
    refine codeAny_builtin PyProof.Rows.F.entry_set_update_loop ?_
    rw [Around.under_plainId PyProof.Rows.F.plain_set_update_loop _]
    show wpAny _ A.in1 (pyNext (.ref I) >>= _) _ _ s
    refine wpAny_bind (W.done s _ _ hst fun s' hm' => ?_)
    show wpAny _ A.in1 (ret Value.none) _ _ s'
    rw [List.take_of_length_le (by omega)] at hj
    exact wpAny_pure (hR s' l (hm'.mono hsub) hc hj (hS.at fun o e => hm'.heap a o hSw e))
  | succ m ih =>
    intro i s hm hi hst ⟨l, hc, hj, hS⟩ hR
    have hlt : i < n := by omega
    refine codeAny_builtin PyProof.Rows.F.entry_set_update_loop ?_
    rw [Around.under_plainId PyProof.Rows.F.plain_set_update_loop _]
    show wpAny _ A.in1 (pyNext (.ref I) >>= _) _ _ s
    refine wpAny_bind (W.item i s _ _ hlt hst fun v s' hP hst' hm' => ?_)
    obtain ⟨z, t, hz, rfl⟩ := hval i v hP
    show wpAny _ A.in1 (holding [Value.str z t] (setAdd a (.str z t)) >>= _) _ _ s'
    refine wpAny_bind (wpAny_holding ?_)
    unfold setAdd
    refine wpAny_holding (wpAny_bind ((strKind P w).pyHash (k := z) (is_k z t) ?_))
    refine addX (s := { s' with toks := s'.toks + 1 }) (hS.at fun o e => hm'.heap a o hSw e) (by omega) fun h' l' b hsb hS2 hj2 hc2 => ?_
    refine wpAny_pure ⟨plainId_quiet PyProof.Rows.F.plain_set_update_loop _, ih (i + 1) _ (by omega) hlt (W.frame _ s' _ _ hst' (Nat.le_succ _) fun b hb o e => ?_) ⟨l', by omega, fun j => ?_, hS2⟩ fun s'' l2 hm'' hc'' hj'' hS'' => ?_⟩
    · rw [hsb.2 b (fun h : b = a => hSf (by rw [← h]; exact hb))]; exact e
    · rw [hj2 j, hj j, List.take_add_one, hz]
      simp [List.mem_append, or_comm]
    · refine hR s'' l2 (Moved.trans W.gtrans ((hm'.mono hsub).then_heap (Nat.le_succ _) fun b o hb e => ?_) hm'') hc'' hj'' hS''
      rw [hsb.2 b (fun h : b = a => hb (by rw [h]; exact List.mem_cons_self))]; exact e
end
section
variable {P : Program} {w : World} {A : Around} {E : Value → Shared → Prop} {s : Shared}
abbrev newSet (w : World) : Obj := { cls := .type "set", dict := none, data := .set #[] 0 (.fresh 0 0 (!w.params.followText "set-order")) }
theorem set_of_txts {l : Addr} {items : Array Value} (ks : List Str) {Q : Value → Shared → Prop} (hh : A.handled = none) (hl : s.heap.IsList l items) (hit : StrsAre items.toList ks) (hb : ks.length + 1 < scanBound)
    (h : ∀ (g : Heap) (tk : Nat) (ls : List Str), SetX w g s.heap.objs.size ls → ls.length ≤ ks.length → (∀ j, j ∈ ls ↔ j ∈ ks) → (∀ b o, s.heap.get? b = some o → g.get? b = some o) → Q (.ref s.heap.objs.size) { s with heap := g, toks := tk }) :
    wpAny (model P w) A (call (.type "set") [.ref l]) Q E s := by
  have isz : items.size = ks.length := by rw [← Array.length_toList]; exact StrsAre.length hit
  obtain ⟨c, tl, hmro⟩ := F.called_set.mro; have hmade := F.called_set.made; have hsub := F.called_set.sub
  refine wpAny_call (codeAny_of_tree ?_); show wpAny _ _ (callAny (.type "set") _) _ _ _
  refine wpAny_pure ⟨Code.quiet_builtin _ (by decide +kernel), codeAny_builtin F.entry_type_call ?_⟩; rw [Around.under_plain (weight_type_call_type "set" [.ref l] []) rfl]
  have h1 := F.called_set.notType; have h2 := F.called_set.canCreate; have hct := F.typeCall_set_1 (.ref l)
  repeat (any_goals (first | assumption | wp_step))
  refine codeAny_mono (code_set_led1 (.ref l) (E := E) (Q₁ := fun obj s2 => obj = .ref s.heap.objs.size ∧ s2 = { s with heap := s.heap.push (newSet w) }) ⟨rfl, rfl⟩) fun r s2 hr => ?_
  cases r with
  | error e => exact hr
  | ok fl =>
    cases fl with
    | ret obj =>
      obtain ⟨rfl, rfl⟩ := hr
      have hS : (s.heap.push (newSet w)).get? s.heap.objs.size = some (newSet w) := Heap.get?_push_size _ rfl
      have hT : Shared.TypeIs { s with heap := s.heap.push (newSet w) } (.ref s.heap.objs.size) "set" := ⟨_, hS, rfl⟩
      have hli := F.called_set.init.lookup; have hbi := F.called_set.init.bind (.ref s.heap.objs.size)
      repeat (any_goals (first | assumption | wp_step))
      refine codeAny_mono (codeAny_call_builtin (R := wants (fun r s3 => r = .none ∧ ∃ g tk ls, s3 = { s with heap := g, toks := tk } ∧ SetX w g s.heap.objs.size ls ∧ (ls.length ≤ ks.length ∧ ∀ j, j ∈ ls ↔ j ∈ ks) ∧ (∀ b o, s.heap.get? b = some o → g.get? b = some o)) E) F.called_set.init.plain F.entry_set_init (check_set_init_1 hT ?_)) fun r3 s3 hr3 => ?_
      · obtain ⟨⟨ocls, odict, odata, oslots⟩, hol, hcl, nl, hdl⟩ := hl
        simp only at hcl hdl
        subst hcl; subst hdl
        have hol2 : (s.heap.push (newSet w)).get? l = some { cls := .type "list", dict := odict, data := .seq items nl, slots := oslots } := Heap.get?_push_of_some _ hol
        have hsls := F.sub_list_set; have hslf := F.sub_list_frozenset
        have hne : (Value.type "list" == Value.type "dict") = false := by decide
        have hl1 : (s.heap.push (newSet w)).IsList l items := ⟨_, hol2, rfl, nl, rfl⟩
        unfold Builtin.«set.__init__» noKeywords Builtin.Frozenset.updateFrom; generalize hPI : pyIter = PI
        wp_walk
        subst hPI
        refine wpAny_pyIter_list hl1 ?_; refine wpAny_bind (wpAny_runValue ?_)
        have lS : l < s.heap.objs.size := Heap.lt_size hol
        have nh : A.in1.in1.in1.handled = none := by simp [hh]
        have nI : l ≠ (s.heap.push (newSet w)).objs.size := by rw [Heap.size_push]; exact Nat.ne_of_lt (Nat.lt_succ_of_lt lS)
        have nS : s.heap.objs.size ∉ [(s.heap.push (newSet w)).objs.size, l] := by
          rw [Heap.size_push]; simp only [List.mem_cons, List.mem_singleton, List.not_mem_nil, or_false, not_or]; exact ⟨Nat.ne_of_lt (Nat.lt_succ_self _), Nat.ne_of_gt lS⟩
        have val : ∀ (i : Nat) (v : Value), items[i]? = some v → ∃ k t, ks[i]? = some k ∧ v = .str k t := fun i v hv => (let ⟨y, t, e1, e2⟩ := StrsAre.item hit i v (by rw [Array.getElem?_toList]; exact hv); ⟨y, t, e2, e1⟩)
        refine update_txts (Walks.list nh _ l nI items).toS nS ks isz hb val (items.size - 0) 0 _ (by omega) (Nat.zero_le _) ⟨⟨_, Heap.get?_push_size _ rfl, rfl, rfl⟩, (hl1.push _)⟩ ?hS0 ?hR
        case hS0 =>
          have hget : ((s.heap.push (newSet w)).push { cls := .type "list_iterator", data := .fields #[.ref l, .int 0 0] }).get? s.heap.objs.size = some (newSet w) := Heap.get?_push_of_some _ hS
          exact ⟨[], Nat.le_refl 0, fun j => by simp, SetX.new rfl hget⟩
        case hR =>
          intro s4 ls hm hc4 hj4 hS4
          obtain ⟨g4, gn4, d4, tk4, os4⟩ := s4
          have eg : gn4 = s.gens := hm.gens
          have ed : d4 = s.drawn := hm.drawn
          have eo : os4 = s.os := hm.os
          subst eg; subst ed; subst eo
          show wpAny _ _ _ _ _ _; refine wpAny_pure ?_; show wpAny _ _ (ret Value.none) _ _ _
          refine wpAny_pure ⟨rfl, g4, tk4, ls, rfl, hS4, ⟨by omega, hj4⟩, fun b o e => ?_⟩
          have b0 : b < s.heap.objs.size := Heap.lt_size e
          have b2 : b ≠ (s.heap.push (newSet w)).objs.size := by rw [Heap.size_push]; exact Nat.ne_of_lt (Nat.lt_succ_of_lt b0)
          exact hm.heap b o (by simp only [List.mem_cons, List.mem_singleton, List.not_mem_nil, or_false, not_or]; exact ⟨Nat.ne_of_lt b0, b2⟩) (Heap.get?_push_of_some _ (Heap.get?_push_of_some _ e))
      · cases r3 with
        | error e => exact hr3
        | ok fl3 =>
          cases fl3 with
          | ret r =>
            obtain ⟨rfl, g, tk, ls, rfl, hS5, ⟨hc5, hj5⟩, hk5⟩ := hr3
            repeat (any_goals (first | assumption | wp_step))
            exact h _ _ _ hS5 hc5 hj5 hk5
          | _ => exact hr3.elim
    | _ => exact hr.elim
theorem sort_txts {a : Addr} {vs : List Value} {ss : List Str} {n : Nat} {R : PySem.Fin → Shared → Prop} (ho : s.heap.get? a = some (seqObj "list" vs.toArray n)) (hS : StrsAre vs ss) (hL : vs.length ≤ sizeLine)
    (h : ∀ (out : Array Value) (ss' : List Str), StrsAre out.toList ss' → ss'.Perm ss → sortedS ss' = true → R (.done (.ret .none)) { s with heap := sortedHeap s.heap a vs out }) :
    wpAny (model P w) A (Builtin.«list.sort» ⟨[.ref a], []⟩) R E s := by
  refine list_sort_treeKAny strKind_oneLt ho hS.keysOf (fun v₁ v₂ rest e => keyKind_strs (by rw [← e]; exact hS)) hL fun st' hp hs => ?_
  obtain ⟨ss', h1, h2, h3⟩ := sorted_out_str hS hp hs
  exact h _ ss' h1 h2 h3
theorem strs_of : ∀ (l : List (Int × Value)), (∀ e ∈ l, Gx w e) → ∀ vs : List Value, vs.Perm (l.map (·.2)) → ∃ ss, StrsAre vs ss ∧ ss.Perm (l.map kx) := fun l g vs hp => by
  have g2 : ∀ v ∈ vs, ∃ x t, v = Value.str x t := fun v hv => by
    obtain ⟨e, he, rfl⟩ := List.mem_map.mp (hp.mem_iff.mp hv)
    obtain ⟨k, tk, h1, _⟩ := g e he
    exact ⟨k, tk, h1⟩
  refine ⟨vs.map strOf, strsAre_map vs g2, ?_⟩
  have := hp.map strOf
  rw [List.map_map] at this
  have e : l.map (strOf ∘ fun x => x.2) = l.map kx := List.map_congr_left fun e he => by
    obtain ⟨k, tk, h1, _⟩ := g e he
    show strOf e.2 = kx e
    unfold kx
    rw [h1]; rfl
  rw [e] at this
  exact this
theorem sorted_setX {a : Addr} {l : List Str} {Q : Value → Shared → Prop} (R : SetX w s.heap a l) (hh : A.handled = none)
    (hQ : ∀ s' p (out : Array Value) (c : Nat) (ss : List Str), (∀ b o, s.heap.get? b = some o → s'.heap.get? b = some o) → s'.gens = s.gens → s'.os = s.os → s.heap.objs.size ≤ p →
      s'.heap.get? p = some (seqObj "list" out c) → StrsAre out.toList ss → ss.Perm l → sortedS ss = true → Q (.ref p) s') :
    wpAny (model P w) A (call (.builtin "sorted") [.ref a]) Q E s := by
  obtain ⟨o, es, ep, t, ⟨ho, hex, hd⟩, g, ⟨pl, nd⟩, ⟨hb, hf⟩, hr, hl⟩ := R
  refine Calls.call_function_entry kind_sorted plain_sorted entry_sorted (args_sorted1 _) ?_
  unfold Builtin.«sorted»
  refine wpAny_bind (m := checkCount "sorted" 1 1 _) (wpAny_pure ?_)
  refine wpAny_bind (collect_set (A := A.in1) hh ⟨o, ho, hex.1, hd⟩ hf hb hr hl fun s1 vs k1 hz g1 o1 pm => ?_)
  obtain ⟨ss0, hI, pk⟩ := strs_of es.toList g vs pm
  have hvl : vs.length ≤ sizeLine := by
    rw [pm.length_eq, List.length_map, Array.length_toList]
    exact fits_of_scanBound hb
  refine wpAny_bind (wpAny_newList ?_ hvl)
  have hoL : (s1.heap.push (seqObj "list" vs.toArray 0)).get? s1.heap.objs.size = some (seqObj "list" vs.toArray 0) := Heap.get?_push_size _ rfl
  refine wpAny_bind (wpAny_holding (wpAny_call_entry slot_list_sort ⟨_, hoL, rfl⟩ entry_list_sort (sort_txts (s := { s1 with heap := s1.heap.push (seqObj "list" vs.toArray 0) }) hoL hI hvl fun out ss a1 a2 a3 => ⟨_, rfl, ?_⟩) (args_list_sort _)))
  obtain ⟨c, hc⟩ := sortedHeap_at (vs := vs) (out := out) hoL
  refine wpAny_pure ⟨_, rfl, hQ _ s1.heap.objs.size out c ss (fun b u e => ?_) g1 o1 hz hc a1 (a2.trans (pk.trans pl)) a3⟩
  have q := k1 b u e
  have hlt := Heap.lt_size q
  show (sortedHeap (s1.heap.push (seqObj "list" vs.toArray 0)) s1.heap.objs.size vs out).get? b = some u
  rw [sortedHeap_old (Nat.ne_of_lt hlt) (by rw [size_push']; exact Nat.lt_succ_of_lt hlt)]
  exact Heap.get?_push_of_some _ q
end
end RX
set_option maxRecDepth 100000
set_option maxHeartbeats 4000000
namespace RT
open PySem PyProof.Rows
section
variable {prog : Program} {w : World} {A : Around} {E : Value → Shared → Prop} {s : Shared}
theorem extend_revL {R : Result → Shared → Prop} {it l S : Addr} {items : Array Value} (hh : A.handled = none) (hit : s.heap.IsRevIter it l ((items.size : Int) - 1)) (hl : s.heap.IsList l items) (hne : l ≠ it) (hn : items.size ≤ sizeLine) (res : Value) (c₀ : Nat)
    (hS : s.heap.get? S = some { cls := .type "list", dict := none, data := .seq #[] c₀, slots := #[] }) (hSi : S ≠ it) (hSl : S ≠ l)
    (hR : ∀ h' tk acc' c', (∀ b o, b ≠ S → b ≠ it → s.heap.get? b = some o → h'.get? b = some o) → h'.get? S = some { cls := .type "list", dict := none, data := .seq acc' c', slots := #[] } →
      ItemsOf (fun i v => items[items.size - 1 - i]? = some v) acc' items.size → R (.ok (.ret res)) { s with heap := h', toks := tk }) :
    wpAny (model prog w) A.in1 (Builtin.List.listExtendWith (.ref S) (.ref it) res)
      (fun fin s' => match fin with | .done f => R (.ok f) s' | .again c' => c'.quiet = true ∧ codeAny (model prog w) A c' R s') (fun e s' => R (.error e) s') s := by
  have W := (Walks.listRev (prog := prog) (w := w) (A := A.in1) hh it l hne items).toS
  have hSf : S ∉ [it, l] := by simp only [List.mem_cons, List.not_mem_nil, or_false, not_or]; exact ⟨hSi, hSl⟩
  have hT : s.TypeIs (.ref it) "list_reverseiterator" := hit.typeIs
  have h1 : Builtin.List.listSameRef (.ref S) (.ref it) = false := by simp [Builtin.List.listSameRef, hSi]
  unfold Builtin.List.listExtendWith
  refine wpAny_bind (wpAny_typeOf hT ?_)
  rw [if_neg (by rw [h1]; decide)]
  refine wpAny_bind (wpAny_pyIter_revIter hit ?_)
  refine wpAny_bind (wpAny_holding ?_)
  unfold Builtin.List.listLengthHint
  refine wpAny_bind (wpAny_specialOf hT nolen_lri ?_)
  show wpAny _ A.in1 (specialOf (Value.ref it) (Str.ofString "__length_hint__") >>= _) _ _ _
  refine wpAny_bind (wpAny_specialOf hT hint_lri ?_)
  generalize hid : ("list_reverseiterator.__length_hint__" : String) = id0
  wp_delta
  rw [show splitId id0 = some ("list_reverseiterator", "__length_hint__") from by subst hid; decide +kernel]
  subst hid
  refine wpAny_bind (wpAny_isInstance (b := true) hT (by rw [isSubtype_type]; kernel_rfl) ?_)
  refine wpAny_pure ?_
  rw [if_neg (by decide)]
  have e0 : ((items.size : Nat) : Int) - 1 - ((0 : Nat) : Int) = (items.size : Int) - 1 := by omega
  refine wpAny_pure ⟨plainId_quiet F.plain_extend_loop _, codeAny_extend_loopS W hn _ hSf _ items.size 0 _ _ _ rfl (Nat.zero_le _) ⟨Nat.zero_le _, by rw [e0]; exact hit, hl⟩ hS (ItemsOf.nil _) fun s' acc' c' hm hS' hacc => ?_⟩
  rw [Moved.eq_with hm]
  refine hR s'.heap s'.toks acc' c' (fun b o hb hb2 e => hm.heap b o (fun hmem => ?_) e) hS' hacc
  rcases List.mem_cons.mp hmem with e' | hmem
  · exact hb e'
  · exact hb2 (List.mem_singleton.mp hmem)
theorem list_init_revL {R : Result → Shared → Prop} {it l : Addr} {items : Array Value} (hh : A.handled = none) (hit : s.heap.IsRevIter it l ((items.size : Int) - 1)) (hl : s.heap.IsList l items) (hne : l ≠ it) (hn : items.size ≤ sizeLine) (S : Addr) (hS : s.heap.get? S = some { cls := .type "list", data := .seq #[] }) (hSi : S ≠ it) (hSl : S ≠ l)
    (hR : ∀ h' tk acc' c', (∀ b o, b ≠ S → b ≠ it → s.heap.get? b = some o → h'.get? b = some o) → h'.get? S = some { cls := .type "list", dict := none, data := .seq acc' c', slots := #[] } →
      ItemsOf (fun i v => items[items.size - 1 - i]? = some v) acc' items.size → R (.ok (.ret .none)) { s with heap := h', toks := tk }) :
    wpAny (model prog w) A.in1 (Builtin.«list.__init__» ⟨[.ref S, .ref it], []⟩)
      (fun fin s' => match fin with | .done f => R (.ok f) s' | .again c' => c'.quiet = true ∧ codeAny (model prog w) A c' R s') (fun e s' => R (.error e) s') s := by
  show wpAny _ _ (do let old ← Builtin.List.listItems (.ref S); Builtin.List.listUpdate (.ref S) (fun _ => #[]); letGo old.toList.reverse; Builtin.List.listExtendWith (.ref S) (.ref it) .none) _ _ s
  refine wpAny_bind ?_
  unfold Builtin.List.listItems
  refine wpAny_bind (wpAny_seqItems hS rfl (wpAny_pure ?_))
  show wpAny _ _ (updateSeq S (fun _ => #[]) >>= fun _ => letGo (#[] : Array Value).toList.reverse >>= fun _ => Builtin.List.listExtendWith (.ref S) (.ref it) .none) _ _ s
  refine wpAny_bind (wpAny_updateSeq hS rfl ?_)
  have hS₂ := Heap.get?_update_self (Obj.mapSeq (fun _ => (#[] : Array Value))) hS rfl
  have oth : ∀ b o, b ≠ S → s.heap.get? b = some o → (s.heap.update S (Obj.mapSeq (fun _ => (#[] : Array Value)))).get? b = some o :=
    fun b o hb e => (Heap.get?_update_other _ _ (Ne.symm hb)).trans e
  refine wpAny_bind (wpAny_letGo ?_)
  refine extend_revL (s := { s with heap := s.heap.update S (Obj.mapSeq (fun _ => (#[] : Array Value))) }) hh (hit.at fun o e => oth _ _ (Ne.symm hSi) e) ?_ hne hn .none _ hS₂ hSi hSl fun h' tk acc' c' hk hS' hacc => ?_
  · obtain ⟨o, ho, r⟩ := hl
    exact ⟨o, oth _ _ (Ne.symm hSl) ho, r⟩
  · exact hR h' tk acc' c' (fun b o hb hb2 e => hk b o hb hb2 (oth b o hb e)) hS' hacc
theorem call_list_rev {Q : Value → Shared → Prop} {it l : Addr} {items : Array Value} (hh : A.handled = none) (hit : s.heap.IsRevIter it l ((items.size : Int) - 1)) (hl : s.heap.IsList l items) (hne : l ≠ it) (hn : items.size ≤ sizeLine)
    (hQ : ∀ h' tk acc' c', (∀ b o, b ≠ it → s.heap.get? b = some o → h'.get? b = some o) →
      h'.get? s.heap.objs.size = some { cls := .type "list", dict := none, data := .seq acc' c', slots := #[] } → ItemsOf (fun i v => items[items.size - 1 - i]? = some v) acc' items.size → Q (.ref s.heap.objs.size) { s with heap := h', toks := tk }) :
    wpAny (model prog w) A (call (.type "list") [.ref it]) Q E s := by
  obtain ⟨oi, hoi, _⟩ := id hit
  obtain ⟨ol, hol, _⟩ := id hl
  refine callType_codes (Q₁ := fun obj s₁ => obj = .ref s.heap.objs.size ∧ s₁ = { s with heap := s.heap.push { cls := .type "list", data := .seq #[] } }) F.called_list (F.typeCall_list_1 _) F.entry_list_init
    (code_list_new _ ⟨rfl, rfl⟩) fun obj s₁ h₁ => ?_
  obtain ⟨rfl, rfl⟩ := h₁
  have hS : (s.heap.push { cls := .type "list", data := .seq #[] }).get? s.heap.objs.size = some { cls := .type "list", data := .seq #[] } := Heap.get?_push_size _ rfl
  refine ⟨⟨_, hS, rfl⟩, F.args_list_init_2 _ _, list_init_revL (A := A.in1) (s := { s with heap := s.heap.push { cls := .type "list", data := .seq #[] } }) hh (hit.at fun o e => Heap.get?_push_of_some _ e) (hl.push _) hne hn _ hS (Nat.ne_of_gt (Heap.lt_size hoi)) (Nat.ne_of_gt (Heap.lt_size hol)) fun h' tk acc' c' hk hS' hacc => ?_⟩
  exact ⟨rfl, hQ h' tk acc' c' (fun b o hb e => hk b o (Nat.ne_of_lt (Heap.lt_size e)) hb (Heap.get?_push_of_some _ e)) hS' hacc⟩
end
section
open L2
variable {X : Cx}
def tLstRev (K : PySem.W.Frag) (te : TE) : TE := fun σ H Q => te σ H fun v H1 => ∃ (a : Addr) (xs : List V), v = .ref a ∧ SqL K H1 a xs ∧ ∀ q, H1 q = none → Q (.ref q) (upd H1 q (.lst xs.reverse))
theorem pe_lstRev {e : Expr} {te : TE} {p p2 pos pos2 : Pos} (hc : X.calm = true) (hg : Gl X "list") (hm : X.mg "list" = none) (hg2 : Gl X "reversed") (hm2 : X.mg "reversed" = none) (he : PE X e te)
    (hs : starEach [e] X.env = (false, eval e X.env) :: starEach [] X.env)
    (hs2 : starEach [.Call (.Name "reversed" p2) [e] [] pos2] X.env = (false, eval (.Call (.Name "reversed" p2) [e] [] pos2) X.env) :: starEach [] X.env := by rfl) :
    PE X (.Call (.Name "list" p) [.Call (.Name "reversed" p2) [e] [] pos2] [] pos) (tLstRev X.K te) := by
  refine ⟨fun pins s σ H Q I h => ?_⟩
  refine Call_ (ld_blt I hg hm boot_list (PyProof.Rows.callWith_type1 (args_cons (Call_ (ld_blt I hg2 hm2 PyProof.Rows.boot_reversed (PyProof.Rows.callWith_type1 (args_cons (thn (he.run pins s σ H _ I h) fun u s1 ⟨v, H1, I1, r1, q1⟩ => args_nil ?_) hs) hs rfl))) hs2) hs2 rfl))
  obtain ⟨a, xs, ev, hq, q⟩ := q1
  subst ev
  obtain rfl : u = Value.ref a := r1
  obtain ⟨its, rv, p', hz⟩ := I1.list hq
  refine call_reversed_list p'.isList (args_nil ?_)
  have k0 : ∀ b o, s1.heap.get? b = some o → (s1.heap.push (revObj a ((its.toArray.size : Int) - 1))).get? b = some o := fun b o e => Heap.get?_push_of_some _ e
  have I2 : Inv X pins σ H1 { s1 with heap := s1.heap.push (revObj a ((its.toArray.size : Int) - 1)) } := I1.kept (t' := s1.toks) k0
  obtain ⟨f0, f1, f2, f3, f4, f5⟩ := I1.fpOk (H' := H1) (b := s1.heap.objs.size) (Nat.le_refl _) (I1.hok.fresh (Nat.le_refl _))
  have hl := p'.isList
  obtain ⟨ol, hol, _⟩ := id hl
  have hne : a ≠ s1.heap.objs.size := Nat.ne_of_lt (Heap.lt_size hol)
  have hn : its.toArray.size ≤ sizeLine := by rw [List.size_toArray, ← rv.length]; exact hz
  refine call_list_rev (s := { s1 with heap := s1.heap.push (revObj a ((its.toArray.size : Int) - 1)) }) (I1.ok.hd hc) ⟨_, Heap.get?_push_size _ rfl, rfl, rfl⟩ (hl.push _) hne hn fun h' tk acc c hk hS hi => ?_
  have hsz : (s1.heap.push (revObj a ((its.toArray.size : Int) - 1))).objs.size = s1.heap.objs.size + 1 := Heap.size_push _ _
  refine ⟨.ref _, upd H1 (s1.heap.push (revObj a ((its.toArray.size : Int) - 1))).objs.size (.lst xs.reverse), I1.laid (t' := tk) (fun b o e => hk b o (Nat.ne_of_lt (Heap.lt_size e)) (Heap.get?_push_of_some _ e)) (by rw [hsz]; exact Nat.le_succ _) (show ObjOk X.prog X.w _ _ _ (.lst xs.reverse) from ⟨by rw [List.length_reverse]; exact hz, acc.toList, c, vals_rev rv hi, by rw [Array.toArray_toList]; exact hS⟩), rfl, q _ (I1.hok.fresh (by rw [hsz]; exact Nat.le_succ _))⟩
end
end RT
namespace PV
open PySem PySem.Spec PyProof.Rows L2
theorem srt_perm (ns : List Int) : (srtI ns).Perm ns := List.mergeSort_perm _ _
theorem srt_le (ns : List Int) : (srtI ns).Pairwise (· ≤ ·) := by
  have h := List.pairwise_mergeSort (le := fun a b : Int => decide (a ≤ b)) (fun a b c h1 h2 => by simp at *; omega) (fun a b => by simp; omega) ns
  exact h.imp fun h => of_decide_eq_true h
theorem srt_uniq {ys ns : List Int} (h1 : ys.Perm ns) (h2 : ys.Pairwise (· ≤ ·)) : ys = srtI ns :=
  List.Perm.eq_of_pairwise (le := (· ≤ ·)) (fun a b _ _ x y => Int.le_antisymm x y) h2 (srt_le ns) (h1.trans (srt_perm ns).symm)
theorem dedup_mem (ns : List Int) (k : Int) : k ∈ dedI ns ↔ k ∈ ns := by
  unfold dedI
  induction ns with
  | nil => simp
  | cons n ns ih =>
    rw [List.foldr_cons]
    split
    · rename_i h
      rw [ih, List.mem_cons]
      constructor
      · exact .inr
      · rintro (rfl | h')
        · exact ih.mp (by simpa using h)
        · exact h'
    · rw [List.mem_cons, List.mem_cons, ih]
theorem dedup_nd (ns : List Int) : (dedI ns).Nodup := by
  unfold dedI
  induction ns with
  | nil => simp
  | cons n ns ih =>
    rw [List.foldr_cons]
    split
    · exact ih
    · rename_i h
      exact List.nodup_cons.mpr ⟨by simpa using h, ih⟩
theorem set_uniq {ys ns : List Int} (h1 : ys.Pairwise (· < ·)) (h2 : ∀ k : Int, k ∈ ys ↔ k ∈ ns) : ys = srtI (dedI ns) := by
  have nd : ys.Nodup := h1.imp fun h => Int.ne_of_lt h
  refine srt_uniq ((List.perm_ext_iff_of_nodup nd (dedup_nd ns)).mpr fun k => ?_) (h1.imp fun h => Int.le_of_lt h)
  rw [h2 k, dedup_mem]
section
variable {K : PySem.W.Frag} {G H : Hp} {W : Own?} {σ : Sg} {τ : LS}
theorem reps_ints : ∀ ns : List Int, Reps K G (ns.map .int) (ns.map V.int)
  | [] => .nil
  | n :: ns => .cons (.int n) (reps_ints ns)
def kG (G : Hp) (v : V) : Int × Int := match v with
  | .ref t => match G t with
    | some (.tup [.int a, .int b]) => (a, b)
    | _ => (0, 0)
  | _ => (0, 0)
theorem prs_vals : ∀ {xs : List D} {ps : List (Int × Int)} {vs : List V}, prsD xs = some ps → Reps K G xs vs → vs.map (kG G) = ps ∧ ∀ v ∈ vs, ∃ t, v = .ref t ∧ G t = some (.tup [.int (kG G v).1, .int (kG G v).2])
  | [], _, _, h, .nil => by cases h; exact ⟨rfl, by simp⟩
  | x :: r, ps, _, h, .cons a b => by
    cases x with
    | tup ys =>
      obtain _ | ⟨y, _ | ⟨z, _ | ⟨_, _⟩⟩⟩ := ys <;> try (first | (cases h; done) | (cases y <;> cases h; done) | (cases y <;> cases z <;> cases h; done))
      cases y <;> try (cases h; done)
      cases z <;> try (cases h; done)
      rename_i i j
      obtain ⟨qs, h1, rfl⟩ := Option.map_eq_some_iff.mp (show (prsD r).map ((i, j) :: ·) = some ps from h)
      obtain ⟨c, d⟩ := prs_vals h1 b
      cases a with
      | @tup t vs _ ht rt =>
        cases rt with
        | cons r1 rt => cases rt with
          | cons r2 rt => cases rt; cases r1; cases r2
                          have e : kG G (.ref t) = (i, j) := by unfold kG; simp only [ht]
                          refine ⟨by rw [List.map_cons, e, c], fun v hv => ?_⟩
                          rcases List.mem_cons.mp hv with q | q
                          · rw [q, e]; exact ⟨t, rfl, ht⟩
                          · exact d v q
    | _ => cases h
theorem leP_trans (a b c : Int × Int) (h1 : leP a b = true) (h2 : leP b c = true) : leP a c = true := by
  simp only [leP, Bool.or_eq_true, Bool.and_eq_true, decide_eq_true_eq] at *
  omega
theorem leP_total (a b : Int × Int) : (leP a b || leP b a) = true := by
  simp only [leP, Bool.or_eq_true, Bool.and_eq_true, decide_eq_true_eq]
  omega
theorem srtP_perm (ps : List (Int × Int)) : (srtP ps).Perm ps := List.mergeSort_perm _ _
theorem srtP_le (ps : List (Int × Int)) : (srtP ps).Pairwise (fun a b => leP a b = true) := List.pairwise_mergeSort leP_trans leP_total ps
theorem srtP_uniq {ys ps : List (Int × Int)} (h1 : ys.Perm ps) (h2 : ys.Pairwise (fun a b => leP a b = true)) : ys = srtP ps :=
  List.Perm.eq_of_pairwise (le := fun a b => leP a b = true) (fun a b _ _ x y => by
    simp only [leP, Bool.or_eq_true, Bool.and_eq_true, decide_eq_true_eq] at *
    exact Prod.ext (by omega) (by omega)) h2 (srtP_le ps) (h1.trans (srtP_perm ps).symm)
theorem reps_prs : ∀ {vs : List V}, (∀ v ∈ vs, ∃ t, v = V.ref t ∧ G t = some (.tup [.int (kG G v).1, .int (kG G v).2])) → Reps K G ((vs.map (kG G)).map prD) vs
  | [], _ => .nil
  | v :: vs, h => by
    obtain ⟨t, e, ht⟩ := h v (by simp)
    refine .cons ?_ (reps_prs fun u hu => h u (List.mem_cons_of_mem _ hu))
    rw [e] at ht ⊢
    exact .tup ht (.cons (.int _) (.cons (.int _) .nil))
def kT (G : Hp) (v : V) : Str := match v with
  | .ref t => match G t with
    | some (.tup [.str s, _]) => s
    | _ => Str.empty
  | _ => Str.empty
def sT (G : Hp) (v : V) : V := match v with
  | .ref t => match G t with
    | some (.tup [.str _, u]) => u
    | _ => .non
  | _ => .non
theorem txs_vals : ∀ {xs : List D} {ps : List (Tx × D)} {vs : List V}, txsP xs = some ps → Reps K G xs vs → Paired (fun (v : V) (p : Tx × D) => Rep K G (txD p) v ∧ kT G v = sOf p.1 ∧ ∃ t, v = .ref t ∧ G t = some (.tup [.str (kT G v), sT G v])) vs ps
  | [], _, _, h, .nil => by cases h; exact .nil
  | x :: r, ps, _, h, .cons a b => by
    cases x with
    | tup ys =>
      obtain _ | ⟨y, _ | ⟨z, _ | ⟨_, _⟩⟩⟩ := ys <;> try (first | (cases h; done) | (cases y <;> cases h; done))
      cases y <;> try (cases h; done)
      rename_i i
      obtain ⟨qs, h1, rfl⟩ := Option.map_eq_some_iff.mp (show (txsP r).map ((i, z) :: ·) = some ps from h)
      have d := txs_vals h1 b
      refine .cons ⟨a, ?_⟩ d
      cases a with
      | @tup t vs _ ht rt =>
        cases rt with
        | cons r1 rt => cases rt with
          | cons r2 rt => cases rt
                          cases r1
                          have e : kT G (.ref t) = sOf i := by unfold kT; simp only [ht]
                          have e2 : G t = some (.tup [.str (kT G (.ref t)), sT G (.ref t)]) := by unfold kT sT; simp only [ht]
                          exact ⟨e, t, rfl, e2⟩
    | _ => cases h
theorem paired_mem {α β : Type} {F : α → β → Prop} : ∀ {xs : List α} {ys : List β}, Paired F xs ys → ∀ x ∈ xs, ∃ y ∈ ys, F x y
  | _, _, .nil, _, h => by cases h
  | _, _, .cons h t, x, hx => by
    rcases List.mem_cons.mp hx with e | hx
    · rw [e]; exact ⟨_, by simp, h⟩
    · obtain ⟨y, h1, h2⟩ := paired_mem t x hx
      exact ⟨y, List.mem_cons_of_mem _ h1, h2⟩
theorem paired_map {α β : Type} {F : α → β → Prop} {f : α → β} : ∀ {xs : List α} {ys : List β}, Paired F xs ys → (∀ x ∈ xs, ∀ y ∈ ys, F x y → f x = y) → xs.map f = ys
  | _, _, .nil, _ => rfl
  | _, _, .cons h t, g => by
    rw [List.map_cons, g _ (by simp) _ (by simp) h, paired_map t fun x hx y hy => g x (List.mem_cons_of_mem _ hx) y (List.mem_cons_of_mem _ hy)]
theorem nd_fst {ps : List (Tx × D)} (nd : (ps.map (·.1)).Nodup) {p q : Tx × D} (hp : p ∈ ps) (hq : q ∈ ps) (e : p.1 = q.1) : p = q := by
  induction ps with
  | nil => cases hp
  | cons r ps ih =>
    rw [List.map_cons, List.nodup_cons] at nd
    rcases List.mem_cons.mp hp with rfl | hp'
    · rcases List.mem_cons.mp hq with rfl | hq'
      · rfl
      · exact absurd (List.mem_map.mpr ⟨q, hq', e.symm⟩) nd.1
    · rcases List.mem_cons.mp hq with rfl | hq'
      · exact absurd (List.mem_map.mpr ⟨p, hp', e⟩) nd.1
      · exact ih nd.2 hp' hq'
theorem leT_trans (a b c : Tx × D) (h1 : leT a b = true) (h2 : leT b c = true) : leT a c = true :=
  decide_eq_true (List.le_trans (of_decide_eq_true h1) (of_decide_eq_true h2))
theorem leT_total (a b : Tx × D) : (leT a b || leT b a) = true := by
  rw [Bool.or_eq_true]
  rcases List.le_total a.1 b.1 with h | h
  · exact .inl (decide_eq_true h)
  · exact .inr (decide_eq_true h)
theorem srtT_perm (ps : List (Tx × D)) : (srtT ps).Perm ps := List.mergeSort_perm _ _
theorem srtT_le (ps : List (Tx × D)) : (srtT ps).Pairwise (fun a b => leT a b = true) := List.pairwise_mergeSort leT_trans leT_total ps
theorem srtT_uniq {ys ps : List (Tx × D)} (nd : (ps.map (·.1)).Nodup) (h1 : ys.Perm ps) (h2 : ys.Pairwise (fun a b => leT a b = true)) : ys = srtT ps :=
  List.Perm.eq_of_pairwise (le := fun a b => leT a b = true) (fun a b ha hb x y => by
    have e : a.1 = b.1 := List.le_antisymm (of_decide_eq_true x) (of_decide_eq_true y)
    exact nd_fst nd (h1.mem_iff.mp ha) ((srtT_perm ps).mem_iff.mp hb) e) h2 (srtT_le ps) (h1.trans (srtT_perm ps).symm)
theorem reps_map {f : V → D} : ∀ {vs : List V}, (∀ v ∈ vs, Rep K G (f v) v) → Reps K G (vs.map f) vs
  | [], _ => .nil
  | v :: vs, h => .cons (h v (by simp)) (reps_map fun u hu => h u (List.mem_cons_of_mem _ hu))
theorem txs_sorted {xs : List D} {ps : List (Tx × D)} {vs : List V} (h : txsP xs = some ps) (nd : (ps.map (·.1)).Nodup) (r : Reps K G xs vs) :
    (∀ v ∈ vs, ∃ t, v = V.ref t ∧ G t = some (.tup [.str (kT G v), sT G v])) ∧ (∀ v ∈ vs, ∀ u ∈ vs, kT G v = kT G u → v = u) ∧
    ∀ ys : List V, SrtO.Srtd (ltT (kT G)) ys → ys.Perm vs → Reps K G ((srtT ps).map txD) ys := by
  have pr := txs_vals h r
  have inj : ∀ v ∈ vs, ∀ u ∈ vs, kT G v = kT G u → v = u := by
    have gen : ∀ {vs : List V} {ps : List (Tx × D)}, (ps.map (·.1)).Nodup → Paired (fun (v : V) (p : Tx × D) => Rep K G (txD p) v ∧ kT G v = sOf p.1 ∧ ∃ t, v = .ref t ∧ G t = some (.tup [.str (kT G v), sT G v])) vs ps → ∀ v ∈ vs, ∀ u ∈ vs, kT G v = kT G u → v = u := by
      intro vs ps nd pr
      induction pr with
      | nil => intro v hv; cases hv
      | @cons v0 p0 vs ps h0 t ih =>
        rw [List.map_cons, List.nodup_cons] at nd
        have out : ∀ u ∈ vs, kT G v0 ≠ kT G u := fun u hu e => by
          obtain ⟨p, hp, _, e2, _⟩ := paired_mem t u hu
          rw [h0.2.1, e2] at e
          exact nd.1 (List.mem_map.mpr ⟨p, hp, (sOf_inj e).symm⟩)
        intro v hv u hu e
        rcases List.mem_cons.mp hv with rfl | hv'
        · rcases List.mem_cons.mp hu with rfl | hu'
          · rfl
          · exact absurd e (out u hu')
        · rcases List.mem_cons.mp hu with rfl | hu'
          · exact absurd e.symm (out v hv')
          · exact ih nd.2 v hv' u hu' e
    exact gen nd pr
  refine ⟨fun v hv => ?_, inj, fun ys hs hp => ?_⟩
  · obtain ⟨p, _, _, _, q⟩ := paired_mem pr v hv
    exact q
  · classical
    let f : V → Tx × D := fun v => if h : ∃ p ∈ ps, Rep K G (txD p) v ∧ kT G v = sOf p.1 then h.choose else ([], .non)
    have fs : ∀ v ∈ vs, f v ∈ ps ∧ Rep K G (txD (f v)) v ∧ kT G v = sOf (f v).1 := fun v hv => by
      obtain ⟨p, hp, r1, e1, _⟩ := paired_mem pr v hv
      have ex : ∃ p ∈ ps, Rep K G (txD p) v ∧ kT G v = sOf p.1 := ⟨p, hp, r1, e1⟩
      show (if h : ∃ p ∈ ps, Rep K G (txD p) v ∧ kT G v = sOf p.1 then h.choose else _) ∈ ps ∧ _
      rw [dif_pos ex]
      have e : f v = ex.choose := dif_pos ex
      rw [e]
      exact ex.choose_spec
    have em : vs.map f = ps := paired_map pr fun v hv p hp q => by
      obtain ⟨a, _, b⟩ := fs v hv
      exact nd_fst nd a hp (sOf_inj (b.symm.trans q.2.1))
    have pm : (ys.map f).Perm ps := by rw [← em]; exact hp.map f
    have pw : (ys.map f).Pairwise (fun a b => leT a b = true) := by
      rw [List.pairwise_map]
      refine hs.imp_of_mem fun {x y} hx hy q => ?_
      have q' := SrtO.ltS_no.mp q
      obtain ⟨_, _, e1⟩ := fs x (hp.mem_iff.mp hx)
      obtain ⟨_, _, e2⟩ := fs y (hp.mem_iff.mp hy)
      rw [e1, e2] at q'
      exact decide_eq_true (by rw [← sOf_tl (f x).1, ← sOf_tl (f y).1]; exact q')
    rw [← srtT_uniq nd pm pw, List.map_map]
    exact reps_map fun v hv => (fs v (hp.mem_iff.mp hv)).2.1
theorem rising_all : ∀ (ys : List Str) (p : Str), PyProof.Rows.risingS p ys = true → (∀ y ∈ ys, p.cps.toList ≤ y.cps.toList) ∧ ys.Pairwise fun a b => a.cps.toList ≤ b.cps.toList
  | [], p, _ => ⟨by simp, .nil⟩
  | y :: ys, p, h => by
    have h' : (!PySem.Spec.ltCps y.cps.toList p.cps.toList && PyProof.Rows.risingS y ys) = true := h
    rw [Bool.and_eq_true, Bool.not_eq_true', PyProof.Rows.ltCps_eq, decide_eq_false_iff_not, List.not_lt] at h'
    obtain ⟨a, b⟩ := rising_all ys y h'.2
    refine ⟨fun z hz => ?_, List.pairwise_cons.mpr ⟨a, b⟩⟩
    rcases List.mem_cons.mp hz with e | e
    · rw [e]; exact h'.1
    · exact List.le_trans h'.1 (a z e)
theorem sortedS_pw {ys : List Str} (h : PyProof.Rows.sortedS ys = true) : ys.Pairwise fun a b => a.cps.toList ≤ b.cps.toList := by
  cases ys with
  | nil => exact .nil
  | cons y ys =>
    obtain ⟨a, b⟩ := rising_all ys y h
    exact List.pairwise_cons.mpr ⟨a, b⟩
theorem srtX_perm (ts : List Tx) : (srtX ts).Perm ts := List.mergeSort_perm _ _
theorem srtX_le (ts : List Tx) : (srtX ts).Pairwise fun a b => a ≤ b := by
  have h := List.pairwise_mergeSort (le := fun a b : Tx => decide (a ≤ b)) (fun a b c x y => decide_eq_true (List.le_trans (of_decide_eq_true x) (of_decide_eq_true y))) (fun a b => by
    rcases List.le_total a b with z | z
    · simp [z]
    · simp [z]) ts
  exact h.imp fun x => of_decide_eq_true x
theorem srtX_uniq {ys ts : List Tx} (h1 : ys.Perm ts) (h2 : ys.Pairwise fun a b => a ≤ b) : ys = srtX ts :=
  List.Perm.eq_of_pairwise (le := fun a b => a ≤ b) (fun a b _ _ x y => List.le_antisymm x y) h2 (srtX_le ts) (h1.trans (srtX_perm ts).symm)
theorem txts_vals : ∀ {xs : List D} {ts : List Tx} {vs : List V}, txtsD xs = some ts → Reps K G xs vs → vs = (ts.map sOf).map V.str
  | [], _, _, h, .nil => by cases h; rfl
  | .str x :: r, ts, _, h, .cons a b => by
    obtain ⟨ms, h1, rfl⟩ := Option.map_eq_some_iff.mp (show (txtsD r).map (x :: ·) = some ts from h)
    cases a
    rw [txts_vals h1 b]; rfl
  | .non :: _, _, _, h, _ => by cases h
  | .bl _ :: _, _, _, h, _ => by cases h
  | .int _ :: _, _, _, h, _ => by cases h
  | .tup _ :: _, _, _, h, _ => by cases h
  | .lst _ :: _, _, _, h, _ => by cases h
  | .dic _ :: _, _, _, h, _ => by cases h
theorem reps_txts : ∀ ts : List Tx, Reps K G (ts.map .str) ((ts.map sOf).map V.str)
  | [] => .nil
  | x :: r => .cons (.str x) (reps_txts r)
theorem sOf_back (s : Str) : sOf s.cps.toList = s := by
  cases s; simp [sOf]
theorem sortS_out {ys : List Str} {ts : List Tx} (h1 : ys.Perm (ts.map sOf)) (h2 : PyProof.Rows.sortedS ys = true) : ys = (srtX ts).map sOf := by
  have e : ys.map (fun s => s.cps.toList) = srtX ts := by
    refine srtX_uniq ?_ ?_
    · have := h1.map fun s : Str => s.cps.toList
      rw [List.map_map] at this
      have e2 : ((fun s : Str => s.cps.toList) ∘ sOf) = id := by funext x; exact sOf_tl x
      rw [e2, List.map_id] at this
      exact this
    · rw [List.pairwise_map]; exact sortedS_pw h2
  rw [← e, List.map_map]
  have e3 : (sOf ∘ fun s : Str => s.cps.toList) = id := by funext s; exact sOf_back s
  rw [e3, List.map_id]
def rSortA (K : PySem.W.Frag) : List V → Hp → VK → Prop := fun vs H Q => rSortedI K vs H Q ∨ (rSortedPO K vs H Q ∨ (rSortedTx K vs H Q ∨ rSortedS K vs H Q))
theorem ca_sorted : CaS K (rSortA K) (bfD .sorted) := by
  intro G W H σ τ xs vs o Q S r e h
  obtain _ | ⟨x, _ | ⟨y, ys⟩⟩ := xs
  · cases e
  · obtain ⟨v, rfl, rx⟩ := pr1 r
    cases x <;> try (cases e; done)
    case lst xs =>
      obtain ⟨a, ws, rfl, ha, ra⟩ := rx.lst
      have e' : srtD xs = some o := e
      unfold srtD at e'
      cases e1 : intsD xs with
      | some ns =>
        rw [e1] at e'
        cases e'
        have := ints_vals e1 ra
        subst this
        refine .inl ⟨a, ns, rfl, ha, fun ns' p h1 h2 hp => ?_⟩
        rw [srt_uniq h1 h2]
        exact new_lst S (reps_ints _) h p hp
      | none =>
        rw [e1] at e'
        simp only at e'
        cases e2 : prsD xs with
        | none =>
          rw [e2] at e'
          simp only at e'
          cases e3 : txsP xs with
          | none =>
            rw [e3] at e'
            simp only at e'
            cases e4 : txtsD xs with
            | none => rw [e4] at e'; cases e'
            | some ts =>
              rw [e4] at e'
              simp only at e'
              by_cases h64 : ts.length < 64
              · rw [if_pos h64] at e'
                cases e'
                have := txts_vals e4 ra
                subst this
                refine .inr (.inr (.inr ⟨a, ts.map sOf, rfl, ha, by rw [List.length_map]; exact h64, fun ys p h1 h2 hp => ?_⟩))
                rw [sortS_out h1 h2]
                exact new_lst S (reps_txts _) h p hp
              · rw [if_neg h64] at e'; cases e'
          | some ps =>
            rw [e3] at e'
            simp only at e'
            by_cases nd : (ps.map (·.1)).Nodup
            · rw [if_pos nd] at e'
              cases e'
              obtain ⟨c1, c2, c3⟩ := txs_sorted e3 nd ra
              refine .inr (.inr (.inl ⟨a, ws, kT G, sT G, rfl, ha, fun x hx => ?_, c2, fun ys p h1 h2 hp => new_lst S (c3 ys h1 h2) h p hp⟩))
              obtain ⟨t, q1, q2⟩ := c1 x hx
              exact ⟨t, q1, S.gh _ _ q2⟩
            · rw [if_neg nd] at e'; cases e'
        | some ps =>
        rw [e2] at e'
        cases e'
        obtain ⟨c, d⟩ := prs_vals e2 ra
        refine .inr (.inl ⟨a, ws, kG G, rfl, ha, fun x hx => ?_, fun ys p h1 h2 hp => ?_⟩)
        · obtain ⟨t, q1, q2⟩ := d x hx
          exact ⟨t, q1, S.gh _ _ q2⟩
        · have pm : (ys.map (kG G)).Perm ps := by rw [← c]; exact h2.perm.map _
          have pw : (ys.map (kG G)).Pairwise (fun a b => leP a b = true) := by
            rw [List.pairwise_map]
            refine h1.imp fun {x y} q => ?_
            have := SrtO.lexB_no.mp q
            simp only [leP, Bool.or_eq_true, Bool.and_eq_true, decide_eq_true_eq]
            omega
          have eq := srtP_uniq pm pw
          rw [← eq] at h
          exact new_lst S (reps_prs fun v hv => d v (h2.perm.mem_iff.mp hv)) h p hp
  · cases x <;> cases e
end
section
variable {X : Cx} {e : Expr} {td : TE} {p apos cpos pos : Pos}
def tSKeys (td : TE) : TE := fun σ H Q => td σ H fun x H1 => ∃ (a : Addr) (kvs : List (Key × V)), x = .ref a ∧ H1 a = some (.dK kvs) ∧ kvs.length ≤ SZ ∧
  ((∃ ks : List Int, kvs.map (·.1) = ks.map Sum.inl ∧ ∀ (ys : List Int) (q : Addr), ys.Perm ks → ys.Pairwise (· ≤ ·) → H1 q = none → Q (.ref q) (upd H1 q (.lst (ys.map V.int)))) ∨
   (∃ ks : List Str, kvs.map (·.1) = ks.map Sum.inr ∧ ∀ (ys : List Str) (q : Addr), ys.Perm ks → PyProof.Rows.sortedS ys = true → H1 q = none → Q (.ref q) (upd H1 q (.lst (ys.map V.str)))))
theorem strs_each : ∀ {us : List Value} {ks : List Str}, us.length = ks.length → (∀ (j : Nat) (v : Value), us[j]? = some v → ∃ (x : Str) (t : Tok), ks[j]? = some x ∧ v = Value.str x t) → PyProof.Rows.StrsAre us ks
  | [], [], _, _ => .nil
  | [], _ :: _, hl, _ => by simp at hl
  | _ :: _, [], hl, _ => by simp at hl
  | u :: us, k :: ks, hl, h => by
    obtain ⟨x, t, e1, e2⟩ := h 0 u rfl
    have e3 : k = x := Option.some.inj e1
    subst e3 e2
    exact .cons _ _ (strs_each (by simpa using hl) fun j v e => by
      obtain ⟨x, t, a, b⟩ := h (j + 1) v (by simpa using e)
      exact ⟨x, t, by simpa using a, b⟩)
theorem pe_skeys (hg : Gl X "sorted") (hm : X.mg "sorted" = none) (hc : X.calm = true) (he : PE X e td) (hbase : attributeBase e "keys" X.env (eval e X.env) = eval e X.env := by rfl) (hline : (apos.endLine == cpos.line) = true := by rfl)
    (na : starEach [.Call (.Attribute e "keys" apos) [] [] cpos] X.env = (false, eval (.Call (.Attribute e "keys" apos) [] [] cpos) X.env) :: starEach [] X.env := by rfl) :
    PE X (.Call (.Name "sorted" p) [.Call (.Attribute e "keys" apos) [] [] cpos] [] pos) (tSKeys td) := by
  refine ⟨fun pins s σ H Q I h => ?_⟩
  refine Call_ (ld_blt I hg hm PyProof.Rows.boot_sorted ?_)
  refine PyProof.Rows.callWith_builtin1 (PyProof.Rows.args_cons ?_ na) na rfl
  refine wpAny_Call_method (T := "dict") (id := "dict.keys") hbase rfl hline F.plainAttrs_dict F.slot_dict_keys F.type_dict_keys (thn (he.run pins s σ H _ I h) fun u s1 ⟨x, H1, I1, rx, d, kvs, ex, hd, h64, q⟩ => ?_)
  subst ex
  obtain rfl : u = Value.ref d := rx
  obtain ⟨z, lo, vs, rel, dd⟩ := dk_rd I1.hok (.of hd)
  obtain ⟨ep, dat⟩ := dd.dictAt
  refine ⟨dd.typeIs, dd.mapOf.noDict, ?_⟩
  show wpAny _ _ (callWith cpos (.builtin "dict.keys") [.ref d] [] []) _ X.xe s1
  refine method_meetsIn F.slot_dict_keys F.entry_dict_keys rfl (PySem.evalArgs_none ⟨rfl, dd.typeIs, F.args_dict_keys_1 _, _, PySem.W.kdl_meets_keys (mixKind X.prog X.w) d lo, ⟨vs, dd⟩, ?_⟩)
  refine PyProof.Rows.args_nil ?_
  have I2 : Inv X pins σ H1 { s1 with heap := s1.heap.push { cls := .type "dict_keys", data := .fields #[.ref d] } } := I1.kept (t' := s1.toks) fun b ob w => Heap.get?_push_of_some _ w
  have view : PySem.W.KdlKeysView (s1.heap.push { cls := .type "dict_keys", data := .fields #[.ref d] }) s1.heap.objs.size d := ⟨_, Heap.get?_push_size _ rfl, rfl, rfl⟩
  have dat2 : (s1.heap.push { cls := .type "dict_keys", data := .fields #[.ref d] }).DictAt (mixKind X.prog X.w) d vs ep := dat.at' fun ob w => Heap.get?_push_of_some _ w
  have hlen : vs.length = kvs.length := by
    have := congrArg List.length rel.keys
    simpa using this.symm
  have le16 : vs.length ≤ sizeLine := by rw [hlen, szl]; exact h64
  refine Calls.call_function_entry PyProof.Rows.kind_sorted PyProof.Rows.plain_sorted PyProof.Rows.entry_sorted (PyProof.Rows.args_sorted1 _) ?_
  unfold Builtin.«sorted»; refine wpAny_bind (m := checkCount "sorted" 1 1 _) (wpAny_pure ?_)
  refine wpAny_bind (PySem.W.kdu_collect (A := X.A.in1) (PySem.W.kdl_keys (knd := mixKind X.prog X.w) (kvs := vs) (ep := ep)) (I2.ok.hd hc) ⟨view, dat2⟩ le16 fun g tk acc hk hacc => ?_)
  have al : acc.toList.length = kvs.length := by rw [Array.length_toList, hacc.1, hlen]
  have I3 : Inv X pins σ H1 { s1 with heap := g, toks := tk } := I2.kept hk
  refine wpAny_bind (wpAny_newList ?_ (by rw [al, szl]; exact h64))
  have hL : (g.push (seqObj "list" acc.toList.toArray 0)).get? g.objs.size = some (seqObj "list" acc.toList.toArray 0) := Heap.get?_push_size _ rfl
  show wpAny _ _ _ _ _ { s1 with heap := g.push (seqObj "list" acc.toList.toArray 0), toks := tk }
  rcases q with ⟨ks, hks, q⟩ | ⟨ks, hks, q⟩
  · have keq : vs.map (·.1) = ks.map Sum.inl := rel.keys.symm.trans hks
    have kl : ks.length = kvs.length := by
      have := congrArg List.length hks
      simpa using this.symm
    have isI : IntsAre acc.toList ks := ints_each (by rw [al, kl]) fun j v ev => by
      obtain ⟨k, x, e1, e2⟩ := hacc.2 j v (by rw [← Array.getElem?_toList]; exact ev)
      have e3 : (vs.map (·.1))[j]? = some k := by rw [List.getElem?_map, e1]; rfl
      rw [keq, List.getElem?_map] at e3
      cases e4 : ks[j]? with
      | none => rw [e4] at e3; cases e3
      | some y =>
        rw [e4] at e3; cases (Option.some.inj e3 : Sum.inl y = k)
        rcases keyIs_shape (show keyIs (Sum.inl y) v = true from e2) with ⟨i, t, ek, ev⟩ | ⟨_, _, ek, _⟩
        · cases ek; exact ⟨y, t, rfl, ev⟩
        · cases ek
    refine wpAny_bind (wpAny_holding (wpAny_call_entry PyProof.Rows.slot_list_sort ⟨_, hL, rfl⟩ PyProof.Rows.entry_list_sort (SrtO.list_sort_ord (s := { s1 with heap := g.push (seqObj "list" acc.toList.toArray 0), toks := tk }) SrtO.swo_int hL (by rw [al, szl]; exact h64) (fun h2 => SrtO.ints_sortable isI h2) fun out h1 h2 => ⟨_, rfl, ?_⟩) (PyProof.Rows.args_list_sort _)))
    obtain ⟨g1, g2, g3⟩ := SrtO.ints_out isI h1 h2
    generalize out.map SrtO.iv = ys at g1 g2 g3
    obtain ⟨e', he'⟩ := PyProof.Rows.sortedHeap_at (vs := acc.toList) (out := out.toArray) hL
    have le16' : (ys.map V.int).length ≤ sizeLine := by
      rw [List.length_map, g2.length_eq, kl, szl]; exact h64
    refine wpAny_pure ⟨_, rfl, .ref g.objs.size, upd H1 g.objs.size (.lst (ys.map V.int)), I3.laid (t' := tk) (fun b u w => ?_) (Nat.le_refl _) (show ObjOk X.prog X.w _ _ _ (.lst (ys.map V.int)) from ⟨le16', out, e', vals_of_ints g1, he'⟩), rfl, q ys _ g2 g3 (I3.hok.fresh (Nat.le_refl _))⟩
    have hb : b < g.objs.size := Heap.lt_size w
    rw [PyProof.Rows.sortedHeap_old (Nat.ne_of_lt hb) (by rw [size_push']; exact Nat.lt_succ_of_lt hb)]; exact Heap.get?_push_of_some _ w
  · have keq : vs.map (·.1) = ks.map Sum.inr := rel.keys.symm.trans hks
    have kl : ks.length = kvs.length := by
      have := congrArg List.length hks
      simpa using this.symm
    have isX : PyProof.Rows.StrsAre acc.toList ks := strs_each (by rw [al, kl]) fun j v ev => by
      obtain ⟨k, x, e1, e2⟩ := hacc.2 j v (by rw [← Array.getElem?_toList]; exact ev)
      have e3 : (vs.map (·.1))[j]? = some k := by rw [List.getElem?_map, e1]; rfl
      rw [keq, List.getElem?_map] at e3
      cases e4 : ks[j]? with
      | none => rw [e4] at e3; cases e3
      | some y =>
        rw [e4] at e3; cases (Option.some.inj e3 : Sum.inr y = k)
        rcases keyIs_shape (show keyIs (Sum.inr y) v = true from e2) with ⟨_, _, ek, _⟩ | ⟨i, t, ek, ev⟩
        · cases ek
        · cases ek; exact ⟨y, t, rfl, ev⟩
    refine wpAny_bind (wpAny_holding (wpAny_call_entry PyProof.Rows.slot_list_sort ⟨_, hL, rfl⟩ PyProof.Rows.entry_list_sort (RX.sort_txts (s := { s1 with heap := g.push (seqObj "list" acc.toList.toArray 0), toks := tk }) hL isX (by rw [al, szl]; exact h64) fun out ys g1 g2 g3 => ⟨_, rfl, ?_⟩) (PyProof.Rows.args_list_sort _)))
    obtain ⟨e', he'⟩ := PyProof.Rows.sortedHeap_at (vs := acc.toList) (out := out) hL
    have le16' : (ys.map V.str).length ≤ sizeLine := by
      rw [List.length_map, g2.length_eq, kl, szl]; exact h64
    refine wpAny_pure ⟨_, rfl, .ref g.objs.size, upd H1 g.objs.size (.lst (ys.map V.str)), I3.laid (t' := tk) (fun b u w => ?_) (Nat.le_refl _) (show ObjOk X.prog X.w _ _ _ (.lst (ys.map V.str)) from ⟨le16', out.toList, e', vals_of_strs g1, by rw [Array.toArray_toList]; exact he'⟩), rfl, q ys _ g2 g3 (I3.hok.fresh (Nat.le_refl _))⟩
    have hb : b < g.objs.size := Heap.lt_size w
    rw [PyProof.Rows.sortedHeap_old (Nat.ne_of_lt hb) (by rw [size_push']; exact Nat.lt_succ_of_lt hb)]; exact Heap.get?_push_of_some _ w
end
section
variable {P : Program} {w : World} {A : Around} {E : Value → Shared → Prop} {s : Shared}
abbrev newSet (w : World) : Obj := { cls := .type "set", dict := none, data := .set #[] 0 (.fresh 0 0 (!w.params.followText "set-order")) }
set_option maxHeartbeats 3200000 in
theorem set_of_list {l : Addr} {items : Array Value} (ns : List Int) {Q : Value → Shared → Prop} (hh : A.handled = none) (hl : s.heap.IsList l items) (hit : IntsAre items.toList ns) (hb : ns.length + 1 < scanBound)
    (h : ∀ (g : Heap) (tk c : Nat), SetR w g s.heap.objs.size (fun j => decide (j ∈ ns)) c → c ≤ ns.length → (∀ b o, s.heap.get? b = some o → g.get? b = some o) → Q (.ref s.heap.objs.size) { s with heap := g, toks := tk }) :
    wpAny (model P w) A (call (.type "set") [.ref l]) Q E s := by
  have isz : items.size = ns.length := by rw [← Array.length_toList]; exact IntsAre.length hit
  obtain ⟨c, tl, hmro⟩ := F.called_set.mro; have hmade := F.called_set.made; have hsub := F.called_set.sub
  refine wpAny_call (codeAny_of_tree ?_); show wpAny _ _ (callAny (.type "set") _) _ _ _
  refine wpAny_pure ⟨Code.quiet_builtin _ (by decide +kernel), codeAny_builtin F.entry_type_call ?_⟩; rw [Around.under_plain (weight_type_call_type "set" [.ref l] []) rfl]
  have h1 := F.called_set.notType; have h2 := F.called_set.canCreate; have hct := F.typeCall_set_1 (.ref l)
  repeat (any_goals (first | assumption | wp_step))
  refine codeAny_mono (code_set_led1 (.ref l) (E := E) (Q₁ := fun obj s2 => obj = .ref s.heap.objs.size ∧ s2 = { s with heap := s.heap.push (newSet w) }) ⟨rfl, rfl⟩) fun r s2 hr => ?_
  cases r with
  | error e => exact hr
  | ok fl =>
    cases fl with
    | ret obj =>
      obtain ⟨rfl, rfl⟩ := hr
      have hS : (s.heap.push (newSet w)).get? s.heap.objs.size = some (newSet w) := Heap.get?_push_size _ rfl
      have hT : Shared.TypeIs { s with heap := s.heap.push (newSet w) } (.ref s.heap.objs.size) "set" := ⟨_, hS, rfl⟩
      have hli := F.called_set.init.lookup; have hbi := F.called_set.init.bind (.ref s.heap.objs.size)
      repeat (any_goals (first | assumption | wp_step))
      refine codeAny_mono (codeAny_call_builtin (R := wants (fun r s3 => r = .none ∧ ∃ g tk c, s3 = { s with heap := g, toks := tk } ∧ SetR w g s.heap.objs.size (fun j => decide (j ∈ ns)) c ∧ c ≤ ns.length ∧ (∀ b o, s.heap.get? b = some o → g.get? b = some o)) E) F.called_set.init.plain F.entry_set_init (check_set_init_1 hT ?_)) fun r3 s3 hr3 => ?_
      · obtain ⟨⟨ocls, odict, odata, oslots⟩, hol, hcl, nl, hdl⟩ := hl
        simp only at hcl hdl
        subst hcl; subst hdl
        have hol2 : (s.heap.push (newSet w)).get? l = some { cls := .type "list", dict := odict, data := .seq items nl, slots := oslots } := Heap.get?_push_of_some _ hol
        have hsls := F.sub_list_set; have hslf := F.sub_list_frozenset
        have hne : (Value.type "list" == Value.type "dict") = false := by decide
        have hl1 : (s.heap.push (newSet w)).IsList l items := ⟨_, hol2, rfl, nl, rfl⟩
        unfold Builtin.«set.__init__» noKeywords Builtin.Frozenset.updateFrom; generalize hPI : pyIter = PI
        wp_walk
        subst hPI
        refine wpAny_pyIter_list hl1 ?_; refine wpAny_bind (wpAny_runValue ?_)
        have lS : l < s.heap.objs.size := Heap.lt_size hol
        have nh : A.in1.in1.in1.handled = none := by simp [hh]
        have nI : l ≠ (s.heap.push (newSet w)).objs.size := by rw [Heap.size_push]; exact Nat.ne_of_lt (Nat.lt_succ_of_lt lS)
        have nS : s.heap.objs.size ∉ [(s.heap.push (newSet w)).objs.size, l] := by
          rw [Heap.size_push]; simp only [List.mem_cons, List.mem_singleton, List.not_mem_nil, or_false, not_or]; exact ⟨Nat.ne_of_lt (Nat.lt_succ_self _), Nat.ne_of_gt lS⟩
        have val : ∀ (i : Nat) (v : Value), items[i]? = some v → ∃ k t, ns[i]? = some k ∧ v = .int k t := fun i v hv => by
          have hi : i < ns.length := by rw [← isz]; exact (Array.getElem?_eq_some_iff.mp hv).1
          obtain ⟨t, e⟩ := PyProof.Rows.IntsAre.int_at hit i v (by rw [Array.getElem?_toList]; exact hv)
          exact ⟨ns[i], t, List.getElem?_eq_getElem hi, by rw [e, List.getD_eq_getElem?_getD, List.getElem?_eq_getElem hi]; rfl⟩
        refine set_update_ints ((Walks.list nh _ l nI items).toS) s.heap.objs.size nS ns isz hb val (items.size - 0) 0 _ (by omega) (Nat.zero_le _) ⟨⟨_, Heap.get?_push_size _ rfl, rfl, rfl⟩, (hl1.push _)⟩ ?hS0 ?hR
        case hS0 =>
          have hget : ((s.heap.push (newSet w)).push { cls := .type "list_iterator", data := .fields #[.ref l, .int 0 0] }).get? s.heap.objs.size = some (newSet w) := Heap.get?_push_of_some _ hS
          exact ⟨0, Nat.le_refl 0, setR_new_at hget⟩
        case hR =>
          intro s4 c4 hm hc4 hS4
          obtain ⟨g4, gn4, d4, tk4, os4⟩ := s4
          have eg : gn4 = s.gens := hm.gens
          have ed : d4 = s.drawn := hm.drawn
          have eo : os4 = s.os := hm.os
          subst eg; subst ed; subst eo
          show wpAny _ _ _ _ _ _; refine wpAny_pure ?_; show wpAny _ _ (ret Value.none) _ _ _; rw [isz] at hc4
          refine wpAny_pure ⟨rfl, g4, tk4, c4, rfl, hS4, hc4, fun b o e => ?_⟩
          have b0 : b < s.heap.objs.size := Heap.lt_size e
          have b2 : b ≠ (s.heap.push (newSet w)).objs.size := by rw [Heap.size_push]; exact Nat.ne_of_lt (Nat.lt_succ_of_lt b0)
          exact hm.heap b o (by simp only [List.mem_cons, List.mem_singleton, List.not_mem_nil, or_false, not_or]; exact ⟨Nat.ne_of_lt b0, b2⟩) (Heap.get?_push_of_some _ (Heap.get?_push_of_some _ e))
      · cases r3 with
        | error e => exact hr3
        | ok fl3 =>
          cases fl3 with
          | ret r =>
            obtain ⟨rfl, g, tk, c5, rfl, hS5, hc5, hk5⟩ := hr3
            repeat (any_goals (first | assumption | wp_step))
            exact h _ _ _ hS5 hc5 hk5
          | _ => exact hr3.elim
    | _ => exact hr.elim
end
section
variable {X : Cx} {a : Expr} {ta : TE} {p p2 q pos : Pos}
def tSSet (K : PySem.W.Frag) (ta : TE) : TE := fun σ H Q => ta σ H fun x H1 => ∃ (l : Addr), x = .ref l ∧
  ((∃ ns : List Int, SqL K H1 l (ns.map V.int) ∧ ns.length < 64 ∧ ∀ (ys : List Int) (b : Addr), ys.Pairwise (· < ·) → (∀ k : Int, k ∈ ys ↔ k ∈ ns) → H1 b = none → Q (.ref b) (upd H1 b (.lst (ys.map V.int)))) ∨
   (∃ ss : List Str, SqL K H1 l (ss.map V.str) ∧ ss.length ≤ 4000 ∧ ∀ (ys : List Str) (b : Addr), ys.Nodup → PyProof.Rows.sortedS ys = true → (∀ k : Str, k ∈ ys ↔ k ∈ ss) → H1 b = none → Q (.ref b) (upd H1 b (.lst (ys.map V.str)))))
theorem pe_sset (hg : Gl X "sorted") (hm : X.mg "sorted" = none) (hg2 : Gl X "set") (hm2 : X.mg "set" = none) (hc : X.calm = true) (ha : PE X a ta) (na : starEach [a] X.env = (false, eval a X.env) :: starEach [] X.env)
    (nb : starEach [.Call (.Name "set" p2) [a] [] q] X.env = (false, eval (.Call (.Name "set" p2) [a] [] q) X.env) :: starEach [] X.env := by rfl) : PE X (.Call (.Name "sorted" p) [.Call (.Name "set" p2) [a] [] q] [] pos) (tSSet X.K ta) := by
  refine ⟨fun pins s σ H Q I h => ?_⟩
  refine Call_ (ld_blt I hg hm PyProof.Rows.boot_sorted ?_)
  refine PyProof.Rows.callWith_builtin1 (PyProof.Rows.args_cons ?_ nb) nb rfl
  refine Call_ (ld_blt I hg2 hm2 PyProof.Rows.boot_set ?_)
  refine PyProof.Rows.callWith_type1 (PyProof.Rows.args_cons (thn (ha.run pins s σ H _ I h) fun v s1 ⟨x, H1, I1, r1, q1⟩ => PyProof.Rows.args_nil ?_) na) na rfl
  obtain ⟨l, rfl, ⟨ns, hq, h64, q1⟩ | ⟨ss, hq, h64, q1⟩⟩ := q1
  rotate_left
  · cases r1
    obtain ⟨its, r, pl, hz⟩ := I1.list hq
    refine RX.set_of_txts ss (I1.ok.hd hc) pl.isList (by simpa using Vals.strs r) (by unfold scanBound; omega) fun g tk ls hS hcl hmem hk => ?_
    refine PyProof.Rows.args_nil ?_
    have I2 : Inv X pins σ H1 { s1 with heap := g, toks := tk } := I1.kept hk
    generalize hs2 : ({ s1 with heap := g, toks := tk } : Shared) = s2 at I2
    have hS2 : RX.SetX X.w s2.heap s1.heap.objs.size ls := by subst hs2; exact hS
    have lnd : ls.Nodup := by
      obtain ⟨_, _, _, _, _, _, ⟨_, z⟩, _⟩ := hS
      exact z
    refine RX.sorted_setX (s := s2) hS2 (I2.ok.hd hc) fun s' b out c2 ys k gn o hp hg2 hi hpm hss => ?_
    have hlen : (ys.map V.str).length ≤ sizeLine := by rw [List.length_map, hpm.length_eq, sizeLine_eq]; omega
    have hn : H1 b = none := I2.hok.fresh hp
    have J : Inv X pins σ (upd H1 b (.lst (ys.map V.str))) { s2 with heap := s'.heap, gens := s'.gens, drawn := s'.drawn, toks := s'.toks } :=
      I2.call (ch := []) (Un.laid k hp hn) (I2.hok.laid k hp ⟨hlen, out.toList, c2, vals_of_strs hi, by rw [Array.toArray_toList]; exact hg2⟩) (by rw [gn]; exact I2.bare) (fun _ z => nomatch z)
    have e : s' = { s2 with heap := s'.heap, gens := s'.gens, drawn := s'.drawn, toks := s'.toks } := by
      cases s'; cases s2; cases o; rfl
    rw [e]
    exact ⟨.ref b, _, J, rfl, q1 ys b (hpm.nodup_iff.mpr lnd) hss (fun k => by rw [hpm.mem_iff, hmem k]) hn⟩
  cases r1
  obtain ⟨its, r, pl, hz⟩ := I1.list hq
  refine set_of_list ns (I1.ok.hd hc) pl.isList (by simpa using RZ.intsAre_vals r) (by unfold scanBound; omega) fun g tk c hS hcl hk => ?_
  refine PyProof.Rows.args_nil ?_
  have I2 : Inv X pins σ H1 { s1 with heap := g, toks := tk } := I1.kept hk
  generalize hs2 : ({ s1 with heap := g, toks := tk } : Shared) = s2 at I2
  have hS2 : SetR X.w s2.heap s1.heap.objs.size (fun j => decide (j ∈ ns)) c := by subst hs2; exact hS
  refine sorted_set (s := s2) hS2 (I2.ok.hd hc) (by omega) fun s' b out c2 ys k gn o hp hg2 hi hs hm hl => ?_
  have hlen : (ys.map V.int).length ≤ sizeLine := by rw [List.length_map, hl, sizeLine_eq]; omega
  have hn : H1 b = none := I2.hok.fresh hp
  have J : Inv X pins σ (upd H1 b (.lst (ys.map V.int))) { s2 with heap := s'.heap, gens := s'.gens, drawn := s'.drawn, toks := s'.toks } :=
    I2.call (ch := []) (Un.laid k hp hn) (I2.hok.laid k hp ⟨hlen, out.toList, c2, vals_of_ints hi, hg2⟩) (by rw [gn]; exact I2.bare) (fun _ z => nomatch z)
  have e : s' = { s2 with heap := s'.heap, gens := s'.gens, drawn := s'.drawn, toks := s'.toks } := by
    cases s'; cases s2; cases o; rfl
  rw [e]
  exact ⟨.ref b, _, J, rfl, q1 ys b hs (fun k => by rw [hm k]; simp) hn⟩
end
section
variable {X : Cx} {xv : ExV} {Wx : WX} {t : TE} {f : Sg → R O}
theorem keys_reps {K : PySem.W.Frag} {G : Hp} : ∀ {kvs : List (D × D)} {ps : List (Key × V)} {ks : List Int}, RepsD K G keyOf kvs ps → keysD kvs = some ks → ps.map (·.1) = ks.map Sum.inl
  | _, _, _, .nil, h => by cases h; rfl
  | _, _, ks, .cons (k := k) (d := d) (r := r) e _ q, h => by
    cases k <;> try (cases h; done)
    case int i =>
      obtain ⟨ms, h1, rfl⟩ := Option.map_eq_some_iff.mp (show (keysD r).map (i :: ·) = some ks from h)
      cases e
      rw [List.map_cons, keys_reps q h1]; rfl
theorem keys_repsX {K : PySem.W.Frag} {G : Hp} : ∀ {kvs : List (D × D)} {ps : List (Key × V)} {ks : List Tx}, RepsD K G keyOf kvs ps → keysX kvs = some ks → ps.map (·.1) = (ks.map sOf).map Sum.inr
  | _, _, _, .nil, h => by cases h; rfl
  | _, _, ks, .cons (k := k) (d := d) (r := r) e _ q, h => by
    cases k <;> try (cases h; done)
    case str i =>
      obtain ⟨ms, h1, rfl⟩ := Option.map_eq_some_iff.mp (show (keysX r).map (i :: ·) = some ks from h)
      cases e
      rw [List.map_cons, keys_repsX q h1]; rfl
theorem sem_skeys {i : Nat} : SemE X xv Wx (tSKeys (tVar i)) (fun σ => match getO σ i with
    | some (.dic false kvs) => match keysD kvs with
      | some ks => if ks.length ≤ SZ then .ok (.lst ((srtI ks).map .int)) σ else .bad
      | none => match keysX kvs with
        | some ks => if ks.length ≤ SZ then .ok (.lst ((srtX ks).map .str)) σ else .bad
        | none => .bad
    | _ => .bad) := by
  intro G W H σ τ S
  dsimp only
  cases e : getO σ i with
  | none => exact trivial
  | some o =>
    cases o with
    | dic t kvs =>
      cases t with
      | true => exact trivial
      | false =>
        show At X.K xv Wx τ G W H (match keysD kvs with
          | some ks => if ks.length ≤ SZ then R.ok (O.lst ((srtI ks).map .int)) σ else .bad
          | none => match keysX kvs with
            | some ks => if ks.length ≤ SZ then R.ok (O.lst ((srtX ks).map .str)) σ else .bad
            | none => .bad) _ _
        obtain ⟨v, hv, ow⟩ := S.sl i _ e
        cases ow with
        | dicK w hh r =>
          cases ek : keysD kvs with
          | none =>
            dsimp only
            cases ex : keysX kvs with
            | none => exact trivial
            | some ks =>
              show At X.K xv Wx τ G W H (if ks.length ≤ SZ then R.ok (O.lst ((srtX ks).map .str)) σ else .bad) _ _
              by_cases h64 : ks.length ≤ SZ
              · rw [if_pos h64]
                have kr := keys_repsX r ex
                refine At.grows S fun Q hx => ⟨_, hv, _, _, rfl, hh, by
                  have z := congrArg List.length kr
                  rw [List.length_map, List.length_map, List.length_map] at z
                  rw [z]; exact h64, .inr ⟨_, kr, fun ys b h1 h2 hb => ?_⟩⟩
                rw [sortS_out h1 h2]
                exact new_lst S (reps_txts _) hx b hb
              · rw [if_neg h64]; exact trivial
          | some ks =>
            show At X.K xv Wx τ G W H (if ks.length ≤ SZ then R.ok (O.lst ((srtI ks).map .int)) σ else .bad) _ _
            by_cases h64 : ks.length ≤ SZ
            · rw [if_pos h64]
              have kr := keys_reps r ek
              refine At.grows S fun Q hx => ⟨_, hv, _, _, rfl, hh, by
                have z := congrArg List.length kr
                rw [List.length_map, List.length_map] at z
                rw [z]; exact h64, .inl ⟨ks, kr, fun ys b h1 h2 hb => ?_⟩⟩
              rw [srt_uniq h1 h2]
              exact new_lst S (reps_ints _) hx b hb
            · rw [if_neg h64]; exact trivial
    | _ => exact trivial
theorem dedX_mem (ns : List Tx) (k : Tx) : k ∈ dedX ns ↔ k ∈ ns := by
  unfold dedX
  induction ns with
  | nil => simp
  | cons n ns ih =>
    rw [List.foldr_cons]
    split
    · rename_i c
      rw [ih, List.mem_cons]
      refine ⟨.inr, fun z => z.elim (fun e => ?_) id⟩
      subst e
      exact ih.mp (List.contains_iff_mem.mp c)
    · rw [List.mem_cons, ih, List.mem_cons]
theorem dedX_nd (ns : List Tx) : (dedX ns).Nodup := by
  unfold dedX
  induction ns with
  | nil => exact .nil
  | cons n ns ih =>
    rw [List.foldr_cons]
    split
    · exact ih
    · rename_i c
      exact List.nodup_cons.mpr ⟨fun z => c (List.contains_iff_mem.mpr z), ih⟩
theorem setX_uniq {ys : List Str} {ts : List Tx} (h0 : ys.Nodup) (h1 : PyProof.Rows.sortedS ys = true) (h2 : ∀ k : Str, k ∈ ys ↔ k ∈ ts.map sOf) : ys = (srtX (dedX ts)).map sOf := by
  refine sortS_out ?_ h1
  have nd : ((dedX ts).map sOf).Nodup := List.pairwise_map.mpr ((dedX_nd ts).imp fun z e => z (sOf_inj e))
  refine (List.perm_ext_iff_of_nodup h0 nd).mpr fun k => ?_
  rw [h2 k, List.mem_map, List.mem_map]
  exact ⟨fun ⟨x, hx, e⟩ => ⟨x, (dedX_mem ts x).mpr hx, e⟩, fun ⟨x, hx, e⟩ => ⟨x, (dedX_mem ts x).mp hx, e⟩⟩
theorem sem_sset (h : SemO X xv Wx t none f) : SemE X xv Wx (tSSet X.K t) (fun σ => op1 sortSetD none f σ) := by
  intro G W H σ τ S
  refine At.bind (tr2 := fun x H1 (Q : V → Hp → Prop) => ∃ (l : Addr), x = V.ref l ∧
    ((∃ ns : List Int, SqL X.K H1 l (ns.map V.int) ∧ ns.length < 64 ∧ ∀ (ys : List Int) (b : Addr), ys.Pairwise (· < ·) → (∀ k : Int, k ∈ ys ↔ k ∈ ns) → H1 b = none → Q (.ref b) (upd H1 b (.lst (ys.map V.int)))) ∨
     (∃ ss : List Str, SqL X.K H1 l (ss.map V.str) ∧ ss.length ≤ 4000 ∧ ∀ (ys : List Str) (b : Addr), ys.Nodup → PyProof.Rows.sortedS ys = true → (∀ k : Str, k ∈ ys ↔ k ∈ ss) → H1 b = none → Q (.ref b) (upd H1 b (.lst (ys.map V.str)))))) (h G W H σ τ S) fun d σ1 G1 W1 H1 v S1 E1 p => ?_
  obtain ⟨x, rfl, rx⟩ := p
  show At X.K xv Wx τ G1 W1 H1 (lift σ1 (sortSetD x)) _ _
  cases rx with
  | @lst a vs xs hl r =>
    show At X.K xv Wx τ G1 W1 H1 (lift σ1 (match intsD xs with
      | some ns => if ns.length < 64 then some (O.lst ((srtI (dedI ns)).map .int)) else none
      | none => match txtsD xs with
        | some ts => if ts.length ≤ 4000 then some (O.lst ((srtX (dedX ts)).map .str)) else none
        | none => none)) _ _
    cases e : intsD xs with
    | none =>
      dsimp only
      cases e2 : txtsD xs with
      | none => exact trivial
      | some ts =>
        show At X.K xv Wx τ G1 W1 H1 (lift σ1 (if ts.length ≤ 4000 then some (O.lst ((srtX (dedX ts)).map .str)) else none)) _ _
        by_cases h64 : ts.length ≤ 4000
        · rw [if_pos h64]
          have := txts_vals e2 r
          subst this
          refine At.grows S1 fun Q hx => ⟨a, rfl, .inr ⟨ts.map sOf, S1.gh.seq hl, by rw [List.length_map]; exact h64, fun ys b h0 h1 h2 hb => ?_⟩⟩
          rw [setX_uniq h0 h1 h2]
          exact new_lst S1 (reps_txts _) hx b hb
        · rw [if_neg h64]; exact trivial
    | some ns =>
      show At X.K xv Wx τ G1 W1 H1 (lift σ1 (if ns.length < 64 then some (O.lst ((srtI (dedI ns)).map .int)) else none)) _ _
      by_cases h64 : ns.length < 64
      · rw [if_pos h64]
        have := ints_vals e r
        subst this
        refine At.grows S1 fun Q hx => ⟨a, rfl, .inl ⟨ns, S1.gh.seq hl, h64, fun ys b h1 h2 hb => ?_⟩⟩
        rw [set_uniq h1 h2]
        exact new_lst S1 (reps_ints _) hx b hb
      · rw [if_neg h64]; exact trivial
  | _ => exact trivial
theorem sem_dnew1 {i : Nat} {b : Bool} : SemE X xv Wx (tDisp [(tVar i, tC (.bl b))]) (fun σ => match getO σ i with
    | some (.val (.int k)) => .ok (.dic false [(.int k, .bl b)]) σ
    | _ => .bad) := by
  intro G W H σ τ S
  dsimp only
  cases e : getO σ i with
  | none => exact trivial
  | some o =>
    cases o with
    | val d =>
      cases d with
      | int k =>
        obtain ⟨v, hv, ow⟩ := S.sl i _ e
        cases ow with
        | val r =>
          cases r
          refine At.grows S fun Q hx p hp => ⟨_, hv, upd_same, [(.inl k, .bl b)], rfl, by simp, ?_⟩
          rw [upd_upd]
          exact hx G (own W p [0]) (upd H p (.dK (mergeK [] [(.inl k, .bl b)]))) (.ref p) (Grow.hand S hp _) (.dicK own_same upd_same (.cons rfl (.bl b) .nil))
      | _ => exact trivial
    | _ => exact trivial
end
section
variable {X : Cx} {xv : ExV} {Wx : WX} {t : TE} {f : Sg → R O} {b : Option Nat}
theorem reps_rg {K : PySem.W.Frag} {G : Hp} (n : Int) : Reps K G (rangeL n.toNat) (rgV 0 n) := by
  unfold rangeL rgV
  rw [show n - 0 = n by omega]
  generalize n.toNat = k
  have key : ∀ l : List Nat, Reps K G (l.map fun k : Nat => D.int (k : Nat)) (l.map fun i : Nat => V.int (0 + (i : Nat))) := fun l => by
    induction l with
    | nil => exact .nil
    | cons x l ih =>
      refine .cons ?_ ih
      show Rep K G (.int ((x : Nat) : Int)) (.int (0 + ((x : Nat) : Int)))
      rw [Int.zero_add]
      exact .int _
  exact key _
theorem sem_lrng (h : SemO X xv Wx t none f) : SemE X xv Wx (tLstRg (tRg1 t)) (fun σ => op1 lrngD none f σ) := by
  intro G W H σ τ S
  refine At.bind (tr2 := fun x H1 (Q : V → Hp → Prop) => ∃ n, x = V.int n ∧ (RgOk 0 n ∧ ∀ q, H1 q = none → Q (.ref q) (upd H1 q (.lst (rgV 0 n))))) (h G W H σ τ S) fun d σ1 G1 W1 H1 v S1 E1 p => ?_
  obtain ⟨x, rfl, r⟩ := p
  show At X.K xv Wx τ G1 W1 H1 (lift σ1 (lrngD x)) _ _
  cases x <;> try (exact trivial)
  rename_i n
  cases r
  show At X.K xv Wx τ G1 W1 H1 (lift σ1 (if n.natAbs ≤ 16777216 then some (O.lst (rangeL n.toNat)) else none)) _ _
  by_cases hn : n.natAbs ≤ 16777216
  · rw [if_pos hn]
    refine At.grows S1 fun Q hx => ⟨n, rfl, ⟨by omega, by omega, by omega, by omega, by omega⟩, new_lst S1 (reps_rg n) hx⟩
  · rw [if_neg hn]; exact trivial
theorem sem_lrev (h : SemO X xv Wx t b f) : SemE X xv Wx (RT.tLstRev X.K t) (fun σ => op1 lrevD b f σ) := by
  intro G W H σ τ S
  refine At.bind (tr2 := fun x H1 (Q : V → Hp → Prop) => ∃ (a : Addr) (xs : List V), x = V.ref a ∧ SqL X.K H1 a xs ∧ ∀ q, H1 q = none → Q (.ref q) (upd H1 q (.lst xs.reverse))) (h G W H σ τ S) fun d σ1 G1 W1 H1 v S1 E1 p => ?_
  cases e : fin b d σ1 with
  | none => exact trivial
  | some x =>
    have rx := p.fin S1 e
    show At X.K xv Wx τ G1 W1 H1 (lift σ1 (lrevD x)) _ _
    cases x <;> try (exact trivial)
    rename_i xs
    obtain ⟨a, vs, rfl, ha, ra⟩ := rx.lst
    exact At.grows S1 fun Q hx => ⟨a, vs, rfl, ha, new_lst S1 ra.rev hx⟩
end
end PV
set_option maxRecDepth 100000
set_option maxHeartbeats 4000000
namespace PV
open PySem PySem.Spec PyProof.Rows L2
section
variable {K : PySem.W.Frag} {G G' H H' : Hp} {W W1 : Own?} {σ σ1 : Sg} {τ : LS} {i : Nat} {o : O}
theorem held_own (S : Sim K G W H σ τ) (E : Ext G (minusW W i) H G' W1 H') {ns : List Nat} {s : O} {v : V} (h : Own K G H W ([i + 1] ++ ns) s v) : Own K G' H' (plusW W W1 i) ([i + 1] ++ ns) s v :=
  h.ren E.g fun a q eq => by
    rw [List.append_assoc] at eq
    refine ⟨?_, (held_same S E (by rw [eq]; exact inT_pre)).1⟩
    unfold plusW
    rw [eq, inT_pre, List.append_assoc]
    rfl
theorem Own.dict {p : List Nat} {t : Bool} {kvs : List (D × D)} {v : V} (gh : Same G H) (h : Own K G H W p (.dic t kvs) v) : ∃ a, v = .ref a ∧ W a = some p ∧
    ∀ {k : D} {vk : V}, isKey t k = true → Rep K G k vk → (∃ r, DGet H a vk r ∧ (match lookD kvs k with | some d => ∃ v, r = some v ∧ Rep K G d v | none => r = none) ∧ r.isSome = hasD kvs k) ∧
      ∀ {y : D} {vy : V}, kvs.length < SZ → Rep K G y vy → ∃ ho, DPut H a vk vy (upd H a ho) ∧ Own K G (upd H a ho) W p (.dic t (putD kvs k y)) (.ref a) := by
  cases h with
  | @dicK _ a ps _ w h r =>
    refine ⟨a, rfl, w, fun {k vk} hk rk => ?_⟩
    obtain ⟨k', e1, rfl⟩ := key1_rep (K := K) (G := G) hk rk
    have lk := look_rep (fun h1 h2 => keyOf_eq h1 h2) e1 r
    have hs := (has_rep (fun h1 h2 => keyOf_eq h1 h2) e1 r).1
    refine ⟨⟨valV ps k', .k h, ?_, hs.symm⟩, fun {y vy} hz ry => ⟨_, .k h (by rw [← r.len, szl]; exact hz), .dicK w upd_same (put_rep (fun h1 h2 => keyOf_eq h1 h2) e1 ry r)⟩⟩
    cases q : lookD kvs k with
    | none => rw [q] at lk; exact lk
    | some d => rw [q] at lk; exact lk
  | @dicT _ a ps _ w h r =>
    refine ⟨a, rfl, w, fun {k vk} hk rk => ?_⟩
    cases k <;> try (cases hk; done)
    rename_i ks
    cases rk with
    | @tup b vs _ hb rb =>
      obtain ⟨ks', e1, rfl⟩ := keysL_rep (show ks.all isKey1 = true from hk) rb
      have e1' : keysOf (.tup ks) = some ks' := e1
      have lk := look_rep (fun h1 h2 => keysOf_eq h1 h2) e1' r
      have hs := (has_rep (fun h1 h2 => keysOf_eq h1 h2) e1' r).1
      have hb' := gh _ _ hb
      refine ⟨⟨valV ps ks', .t h hb', ?_, hs.symm⟩, fun {y vy} hz ry => ⟨_, .t h hb' (by rw [← r.len, szl]; exact hz), .dicT w upd_same (put_rep (fun h1 h2 => keysOf_eq h1 h2) e1' ry r)⟩⟩
      cases q : lookD kvs (.tup ks) with
      | none => rw [q] at lk; exact lk
      | some d => rw [q] at lk; exact lk
end
def GetS (K : PySem.W.Frag) (rd : V → V → Hp → VK → Prop) (g : O → D → Option D) : Prop :=
  ∀ G H W p s v x y d, Same G H → Own K G H W p s v → Rep K G x y → g s x = some d → ∃ w, Rep K G d w ∧ ∀ Q : VK, Q w H → rd v y H Q
theorem get_ix {K : PySem.W.Frag} : GetS K (rIx K) ixG := by
  intro G H W p s v x y d gh ow rx e
  cases ow with
  | @lst _ a vs xs w h r =>
    cases x <;> try (cases e; done)
    rename_i j
    cases rx
    have e' : (L2.ixN xs.length j).bind (fun n => xs[n]?) = some d := e
    obtain ⟨n, e1, e2⟩ := Option.bind_eq_some_iff.mp e'
    obtain ⟨z, e3, rz⟩ := r.get e2
    refine ⟨z, rz, fun Q q => .inl ⟨a, vs, j, z, rfl, rfl, .of h, ?_, q⟩⟩
    show (L2.ixN vs.length j).bind (fun n => vs[n]?) = _
    rw [← r.len, e1]
    exact e3
  | @tp _ a vs xs w h r =>
    cases x <;> try (cases e; done)
    rename_i j
    cases rx
    have e' : (match L2.ixN xs.length j with
      | some n => match xs[n]? with
        | some (.val d) => some d
        | _ => none
      | none => none) = some d := e
    cases e1 : L2.ixN xs.length j with
    | none => rw [e1] at e'; cases e'
    | some n =>
      rw [e1] at e'
      dsimp only at e'
      cases e2 : xs[n]? with
      | none => rw [e2] at e'; cases e'
      | some o =>
        rw [e2] at e'
        cases o <;> try (cases e'; done)
        cases e'
        obtain ⟨z, e3, oz⟩ := r.get e2
        cases oz with
        | val rz =>
          refine ⟨z, rz, fun Q q => .inr (.inl ⟨a, vs, j, z, rfl, rfl, .inl (.of h), ?_, q⟩)⟩
          show (L2.ixN vs.length j).bind (fun n => vs[n]?) = _
          rw [← r.len, e1]
          exact e3
  | val => cases e
  | dicK => cases e
  | dicT => cases e
  | tr => cases e
  | ins => cases e
def rDG : V → V → Hp → VK → Prop := fun x y H Q => ∃ a v, x = .ref a ∧ DGet H a y (some v) ∧ Q v H
theorem get_dic {K : PySem.W.Frag} : GetS K rDG dgG := by
  intro G H W p s v x y d gh ow rx e
  cases s <;> try (cases e; done)
  rename_i t kvs
  have e' : (if isKey t x = true then lookD kvs x else none) = some d := e
  by_cases hk : isKey t x = true
  · rw [if_pos hk] at e'
    obtain ⟨a, rfl, _, g⟩ := ow.dict gh
    obtain ⟨⟨r, hg, hr, _⟩, _⟩ := g hk rx
    rw [e'] at hr
    obtain ⟨w, rfl, rw_⟩ := hr
    exact ⟨w, rw_, fun Q q => ⟨a, w, rfl, hg, q⟩⟩
  · rw [if_neg hk] at e'; cases e'
def SetS (K : PySem.W.Frag) (rs : TSet) (g : O → D → D → Option O) : Prop :=
  ∀ G H W p s v k vk y vy s', Same G H → Own K G H W p s v → Rep K G k vk → Rep K G y vy → g s k y = some s' → ∃ a ho, v = .ref a ∧ W a = some p ∧ Own K G (upd H a ho) W p s' (.ref a) ∧ ∀ Q, Q (upd H a ho) → rs v vk vy H Q
theorem set_ixS {K : PySem.W.Frag} : SetS K rSetL ixS := by
  intro G H W p s v k vk y vy s' gh ow rk ry e
  cases s <;> try (cases e; done)
  rename_i xs
  cases k <;> try (cases e; done)
  rename_i j
  cases rk
  cases ow with
  | @lst _ a vs _ w h r =>
    have e' : (match L2.ixN xs.length j with | some n => some (O.lst (xs.set n y)) | none => none) = some s' := e
    cases e1 : L2.ixN xs.length j with
    | none => rw [e1] at e'; cases e'
    | some n =>
      rw [e1] at e'
      cases e'
      refine ⟨a, .lst (vs.set n vy), rfl, w, .lst w upd_same (r.set ry n), fun Q q => ⟨a, vs, j, n, rfl, rfl, h, by rw [← r.len]; exact e1, q⟩⟩
theorem set_dcS {K : PySem.W.Frag} : SetS K rSetD dcS := by
  intro G H W p s v k vk y vy s' gh ow rk ry e
  cases s <;> try (cases e; done)
  rename_i t kvs
  have e' : (if isKey t k = true ∧ kvs.length < SZ then some (O.dic t (putD kvs k y)) else none) = some s' := e
  by_cases hk : isKey t k = true ∧ kvs.length < SZ
  · rw [if_pos hk] at e'
    cases e'
    obtain ⟨a, rfl, w, g⟩ := ow.dict gh
    obtain ⟨ho, h1, h2⟩ := (g hk.1 rk).2 hk.2 ry
    exact ⟨a, ho, rfl, w, h2, fun Q q => ⟨a, _, rfl, h1, q⟩⟩
  · rw [if_neg hk] at e'; cases e'
section
variable {X : Cx} {xv : ExV} {Wx : WX} {t ta : TE} {f fa : Sg → R O}
theorem sem_getP {i : Nat} {ts : List TP} {fs : List Stp} {rd : V → V → Hp → VK → Prop} {g : O → D → Option D} (h : SemP X xv Wx ts fs) (hk : SemO X xv Wx t none f) (hg : GetS X.K rd g) : SemE X xv Wx (tOp rd (tPathR X.K i ts) t) (getP i fs f g) := by
  intro G W H σ τ S
  unfold getP
  cases e : getO σ i with
  | none => exact trivial
  | some o =>
    have pr := path_read S e h
    show At X.K xv Wx τ G W H ((evP o fs (σ.set i none)).bind fun ds σ1 => match resR o ds with
      | some (_, s) => (pre none (f σ1) σ1).bind fun d σ2 => match d, getO σ2 i with
        | some x, none => match g s x with
          | some y => R.ok (O.val y) (σ2.set i (some o))
          | none => .bad
        | _, _ => .bad
      | none => .bad) _ _
    cases e1 : evP o fs (σ.set i none) with
    | bad => exact trivial
    | exc c σ1 =>
      rw [e1] at pr
      exact fun Q hx => pr _ fun G' W' H' S' E' => hx G' W' H' S' E'.weaken
    | ok ds σ1 =>
      rw [e1] at pr
      show At X.K xv Wx τ G W H (match resR o ds with
        | some (_, s) => (pre none (f σ1) σ1).bind fun d σ2 => match d, getO σ2 i with
          | some x, none => match g s x with
            | some y => R.ok (O.val y) (σ2.set i (some o))
            | none => .bad
          | _, _ => .bad
        | none => .bad) _ _
      cases e3 : resR o ds with
      | none => exact trivial
      | some p =>
        obtain ⟨ns, s⟩ := p
        show At X.K xv Wx τ G W H ((pre none (f σ1) σ1).bind fun d σ2 => match d, getO σ2 i with
          | some x, none => match g s x with
            | some y => R.ok (O.val y) (σ2.set i (some o))
            | none => .bad
          | _, _ => .bad) _ _
        cases e4 : pre none (f σ1) σ1 with
        | bad => exact trivial
        | exc c σ2 =>
          refine fun Q hx => pr _ fun G1 W1 H1 v S1 E1 hv => ?_
          have hk' := hk G1 W1 H1 σ1 τ S1
          rw [e4] at hk'
          exact hk' _ fun G' W' H' S' E' => hx G' W' H' S' (E1.trans E').weaken
        | ok d σ2 =>
          cases d with
          | none => exact trivial
          | some x =>
            show At X.K xv Wx τ G W H (match some x, getO σ2 i with
              | some x, none => match g s x with
                | some y => R.ok (O.val y) (σ2.set i (some o))
                | none => .bad
              | _, _ => .bad) _ _
            cases e5 : getO σ2 i with
            | some _ => exact trivial
            | none =>
              show At X.K xv Wx τ G W H (match g s x with
                | some y => R.ok (O.val y) (σ2.set i (some o))
                | none => .bad) _ _
              cases e6 : g s x with
              | none => exact trivial
              | some y =>
                refine fun Q hx => pr _ fun G1 W1 H1 v S1 E1 hv => ?_
                have hk' := hk G1 W1 H1 σ1 τ S1
                rw [e4] at hk'
                refine hk' _ fun G2 W2 H2 vy S2 E2 p2 => ?_
                obtain ⟨x', ex, rx⟩ := p2
                cases ex
                have E := E1.trans E2
                obtain ⟨ow, _⟩ := hv _ _ e3
                obtain ⟨S3, E3⟩ := S.unhold e S2 E e5
                obtain ⟨w, rw_, q⟩ := hg _ _ _ _ _ _ _ _ _ S3.gh (held_own S E ow) rx e6
                exact q _ (hx _ _ H2 w S3 E3 (.val rw_))
theorem at_dinP {i : Nat} {ts : List TP} {fs : List Stp} (h : SemP X xv Wx ts fs) (hk : SemO X xv Wx t none f) {G : Hp} {W : Own?} {H : Hp} {σ : Sg} {τ : LS} (S : Sim X.K G W H σ τ) (n : Bool) :
    At X.K xv Wx τ G W H (dinP i fs f σ) (fun Q => t τ H fun y H1 => tPathR X.K i ts τ H1 fun x H2 => ∃ a o, x = .ref a ∧ DGet H2 a y o ∧ Q (.bl (n ^^ o.isSome)) H2) (fun _ _ _ b v => v = V.bl (n ^^ b)) := by
  refine At.bind (tr2 := fun y H1 Q => tPathR X.K i ts τ H1 fun x H2 => ∃ a o, x = .ref a ∧ DGet H2 a y o ∧ Q (V.bl (n ^^ o.isSome)) H2) (hk G W H σ τ S) fun dk σ1 G1 W1 H1 vk S1 E1 p => ?_
  obtain ⟨k, rfl, rk⟩ := p
  cases e : getO σ1 i with
  | none => exact trivial
  | some o =>
    have pr := path_read S1 e h
    show At X.K xv Wx τ G1 W1 H1 ((evP o fs (σ1.set i none)).bind fun ds σ2 => match getO σ2 i, resR o ds with
      | none, some (_, .dic t kvs) => if isKey t k = true then .ok (hasD kvs k) (σ2.set i (some o)) else .bad
      | _, _ => .bad) _ _
    cases e1 : evP o fs (σ1.set i none) with
    | bad => exact trivial
    | exc c σ2 =>
      rw [e1] at pr
      exact fun Q hx => pr _ fun G' W' H' S' E' => hx G' W' H' S' E'.weaken
    | ok ds σ2 =>
      rw [e1] at pr
      show At X.K xv Wx τ G1 W1 H1 (match getO σ2 i, resR o ds with
        | none, some (_, .dic t kvs) => if isKey t k = true then .ok (hasD kvs k) (σ2.set i (some o)) else .bad
        | _, _ => .bad) _ _
      cases e5 : getO σ2 i with
      | some _ => exact trivial
      | none =>
        cases e3 : resR o ds with
        | none => exact trivial
        | some p =>
          obtain ⟨ns, s⟩ := p
          cases s with
          | dic t0 kvs =>
            show At X.K xv Wx τ G1 W1 H1 (if isKey t0 k = true then .ok (hasD kvs k) (σ2.set i (some o)) else .bad) _ _
            by_cases hk : isKey t0 k = true
            · rw [if_pos hk]
              refine fun Q hx => pr _ fun G2 W2 H2 v S2 E2 hv => ?_
              obtain ⟨ow, _⟩ := hv _ _ e3
              obtain ⟨S3, E3⟩ := S1.unhold e S2 E2 e5
              obtain ⟨a, rfl, _, g⟩ := (held_own S1 E2 ow).dict S3.gh
              obtain ⟨⟨r, hg, _, hs⟩, _⟩ := g hk (rk.mono E2.g)
              exact ⟨a, r, rfl, hg, hx _ _ H2 _ S3 E3 (by rw [hs])⟩
            · rw [if_neg hk]; exact trivial
          | _ => exact trivial
theorem sem_dinP {i : Nat} {ts : List TP} {fs : List Stp} (h : SemP X xv Wx ts fs) (hk : SemO X xv Wx t none f) : SemE X xv Wx (tDIn t (tPathR X.K i ts)) (fun σ => vb (dinP i fs f σ)) := by
  intro G W H σ τ S
  have q := at_dinP (i := i) h hk S false
  simp only [Bool.false_xor] at q
  refine At.bind (tr2 := fun v H' Q => Q v H') q fun b σ' G' W' H' v S' E' p => ?_
  subst p
  exact At.here (P := fun G' W' H' o v => Own X.K G' H' W' [0] o v) S' (.val (.bl b))
theorem sem_dninP {i : Nat} {ts : List TP} {fs : List Stp} (h : SemP X xv Wx ts fs) (hk : SemO X xv Wx t none f) : SemE X xv Wx (tDNotIn t (tPathR X.K i ts)) (fun σ => (dinP i fs f σ).bind fun b σ' => .ok (.val (.bl (!b))) σ') := by
  intro G W H σ τ S
  have q := at_dinP (i := i) h hk S true
  simp only [Bool.true_xor] at q
  refine At.bind (tr2 := fun v H' Q => Q v H') q fun b σ' G' W' H' v S' E' p => ?_
  subst p
  exact At.here (P := fun G' W' H' o v => Own X.K G' H' W' [0] o v) S' (.val (.bl (!b)))
def rLst (K : PySem.W.Frag) : List V → Hp → VK → Prop := fun xs H Q => ∃ p ys, xs = [.ref p] ∧ (SqL K H p ys ∨ SqT K H p ys) ∧ ∀ l, H l = none → Q (.ref l) (upd H l (.lst ys))
theorem sem_lstP {i : Nat} {ts : List TP} {fs : List Stp} (h : SemP X xv Wx ts fs) : SemE X xv Wx (tCB (rLst X.K) (tCons (tPathR X.K i ts) tNil)) (lstP i fs) := by
  intro G W H σ τ S
  unfold lstP
  cases e : getO σ i with
  | none => exact trivial
  | some o =>
    have pr := path_read S e h
    show At X.K xv Wx τ G W H ((evP o fs (σ.set i none)).bind fun ds σ1 => match getO σ1 i, resR o ds with
      | none, some (_, .lst xs) => R.ok (O.lst xs) (σ1.set i (some o))
      | _, _ => .bad) _ _
    cases e1 : evP o fs (σ.set i none) with
    | bad => exact trivial
    | exc c σ1 =>
      rw [e1] at pr
      exact fun Q hx => pr _ fun G' W' H' S' E' => hx G' W' H' S' E'.weaken
    | ok ds σ1 =>
      rw [e1] at pr
      show At X.K xv Wx τ G W H (match getO σ1 i, resR o ds with
        | none, some (_, .lst xs) => R.ok (O.lst xs) (σ1.set i (some o))
        | _, _ => .bad) _ _
      cases e2 : getO σ1 i with
      | some _ => exact trivial
      | none =>
        cases e3 : resR o ds with
        | none => exact trivial
        | some p =>
          obtain ⟨ns, s⟩ := p
          cases s with
          | lst xs =>
            refine fun Q hx => pr _ fun G' W1 H' v S1 E1 hv => ?_
            obtain ⟨ow, v0, g0, g1⟩ := hv _ _ e3
            obtain ⟨S2, E2⟩ := S.unhold e S1 E1 e2
            cases held_own S E1 ow with
            | @lst _ a vs _ w hh r =>
              refine ⟨a, vs, rfl, .inl (.of hh), fun l hl => ?_⟩
              exact hx _ _ _ _ (S2.grow (Grow.hand S2 hl (.lst vs))) (E2.trans (Grow.hand S2 hl (.lst vs)).ext) (.lst own_same upd_same r)
          | _ => exact trivial
theorem sem_setP {i : Nat} {ts : List TP} {fs : List Stp} {rs : TSet} {g : O → D → D → Option O} {fx : List Nat} (h : SemP X xv Wx ts fs) (hk : SemO X xv Wx t none f) (hv : SemO X xv Wx ta none fa) (hg : SetS X.K rs g) :
    SemS X xv Wx fx (tAsg ta (gSub (tPathR X.K i ts) t rs)) (setP i fs f fa g) := by
  intro G W H σ τ D S en
  refine EndS.of_at (hv G W H σ τ S) en fun dv σ0 G0 W0 H0 vy _ S0 E0 p1 en1 => ?_
  obtain ⟨y, rfl, ry⟩ := p1
  cases e : getO σ0 i with
  | none => rw [e] at en1; exact en1.elim
  | some o =>
    rw [e] at en1
    have pr := path_read S0 e h
    replace en1 : EndS X.K xv Wx fx D G0 W0 H0 τ ((evP o fs (σ0.set i none)).bind fun ds σ1 => match resR o ds with
      | some (ns, s) => (pre none (f σ1) σ1).bind fun dk σ2 => match some y, dk, getO σ2 i with
        | some y, some k, none => match g s k y with
          | some s' => .ok .nx (σ2.set i (some (putO o ns s')))
          | none => .bad
        | _, _, _ => .bad
      | none => .bad) := en1
    show tPathR X.K i ts τ H0 fun x H1 => t τ H1 fun k H2 => rs x k vy H2 fun H3 => D.nx τ H3
    cases e1 : evP o fs (σ0.set i none) with
    | bad => rw [e1] at en1; exact en1.elim
    | exc c σ1 =>
      rw [e1] at en1 pr
      exact pr _ fun G' W' H' S' E' => en1 G' W' H' τ S' E'.weaken fun _ _ => rfl
    | ok ds σ1 =>
      rw [e1] at en1 pr
      replace en1 : EndS X.K xv Wx fx D G0 W0 H0 τ (match resR o ds with
        | some (ns, s) => (pre none (f σ1) σ1).bind fun dk σ2 => match some y, dk, getO σ2 i with
          | some y, some k, none => match g s k y with
            | some s' => .ok .nx (σ2.set i (some (putO o ns s')))
            | none => .bad
          | _, _, _ => .bad
        | none => .bad) := en1
      cases e3 : resR o ds with
      | none => rw [e3] at en1; exact en1.elim
      | some p =>
        obtain ⟨ns, s⟩ := p
        rw [e3] at en1
        replace en1 : EndS X.K xv Wx fx D G0 W0 H0 τ ((pre none (f σ1) σ1).bind fun dk σ2 => match some y, dk, getO σ2 i with
          | some y, some k, none => match g s k y with
            | some s' => .ok .nx (σ2.set i (some (putO o ns s')))
            | none => .bad
          | _, _, _ => .bad) := en1
        refine pr _ fun G1 W1 H1 v S1 E1 hv => ?_
        obtain ⟨ow, v0, g0, g1⟩ := hv _ _ e3
        have hk' := hk G1 W1 H1 σ1 τ S1
        cases e4 : pre none (f σ1) σ1 with
        | bad => rw [e4] at en1; exact en1.elim
        | exc c σ2 =>
          rw [e4] at en1 hk'
          exact hk' _ fun G' W' H' S' E' => en1 G' W' H' τ S' (E1.trans E').weaken fun _ _ => rfl
        | ok dk σ2 =>
          rw [e4] at en1 hk'
          refine hk' _ fun G2 W2 H2 vk S2 E2 p2 => ?_
          obtain ⟨k, rfl, rk⟩ := p2
          replace en1 : EndS X.K xv Wx fx D G0 W0 H0 τ (match some y, some k, getO σ2 i with
            | some y, some k, none => match g s k y with
              | some s' => .ok .nx (σ2.set i (some (putO o ns s')))
              | none => .bad
            | _, _, _ => .bad) := en1
          cases e5 : getO σ2 i with
          | some _ => rw [e5] at en1; exact en1.elim
          | none =>
            rw [e5] at en1
            replace en1 : EndS X.K xv Wx fx D G0 W0 H0 τ (match g s k y with
              | some s' => .ok .nx (σ2.set i (some (putO o ns s')))
              | none => .bad) := en1
            cases e6 : g s k y with
            | none => rw [e6] at en1; exact en1.elim
            | some s' =>
              rw [e6] at en1
              have E := E1.trans E2
              obtain ⟨S3, E3⟩ := S0.unhold e S2 E e5
              have hi : i < σ2.length := by rw [S2.len, ← S0.len]; exact getO_lt e
              obtain ⟨a, ho, rfl, w, ow', q⟩ := hg _ _ _ _ _ _ _ _ _ _ _ S3.gh (held_own S0 E ow) rk (ry.mono E3.g) e6
              obtain ⟨S4, E4⟩ := S3.mutP (ns := ns) (sub := s) (o' := s') (a := a) (ho := ho) (getO_set hi) (resR_at e3) (v := v0) g0 (by
                obtain ⟨v0', g2, g3⟩ := S0.sl i o e
                rw [g0] at g2
                cases g2
                obtain ⟨w2, _, x1, x2, _⟩ := path_get ns g3 (resR_at e3)
                rw [g1] at x1
                cases x1
                exact x2 H2 fun b q eb => (held_same S0 E (a := b) (by rw [eb]; exact inT_pre)).1) w ow'
              rw [List.set_set] at S4
              exact q _ (en1 _ _ _ _ S4 (E3.trans E4) fun _ _ => rfl)
end
end PV
set_option maxRecDepth 100000
set_option maxHeartbeats 4000000
namespace PV
open PySem PySem.Spec PyProof.Rows L2
theorem look_no {m : Str} : ∀ {fs : List (Str × V)}, m ∉ fs.map (·.1) → fs.lookup m = none
  | [], _ => rfl
  | (g, x) :: r, h => by
    have h1 : ¬ m = g := fun z => h (by simp [z])
    rw [List.lookup_cons, show (m == g) = false from beq_eq_false_iff_ne.mpr h1]
    exact look_no fun z => h (List.mem_cons_of_mem _ z)
theorem putF_new {f : Str} {y : V} : ∀ {fs : List (Str × V)}, f ∉ fs.map (·.1) → putF f y fs = fs ++ [(f, y)]
  | [], _ => rfl
  | (g, x) :: r, h => by
    have h1 : g ≠ f := fun z => h (by simp [z])
    have h2 : f ∉ r.map (·.1) := fun z => h (List.mem_cons_of_mem _ z)
    show (if g = f then _ else _) = _
    rw [if_neg h1, putF_new h2]
    rfl
theorem putF_old {f : Str} {y : V} : ∀ {fs : List (Str × V)} {n : Nat}, (fs.map (·.1)).Nodup → (fs.map (·.1))[n]? = some f → (putF f y fs).map (·.1) = fs.map (·.1) ∧ (putF f y fs).map (·.2) = (fs.map (·.2)).set n y ∧ (putF f y fs).length = fs.length
  | [], n, _, h => by simp at h
  | (g, x) :: r, 0, _, h => by
    have : g = f := by simpa using h
    subst this
    show (List.map _ (if g = g then (g, y) :: r else _) = _) ∧ (List.map _ (if g = g then (g, y) :: r else _) = _) ∧ (if g = g then (g, y) :: r else _).length = _
    rw [if_pos rfl]
    exact ⟨rfl, rfl, rfl⟩
  | (g, x) :: r, n + 1, nd, h => by
    have h' : (r.map (·.1))[n]? = some f := by simpa using h
    obtain ⟨nd1, nd2⟩ := List.nodup_cons.mp (show (g :: r.map (·.1)).Nodup from nd)
    have ne : g ≠ f := fun z => nd1 (by rw [z]; exact List.mem_of_getElem? h')
    obtain ⟨h1, h2, h3⟩ := putF_old (y := y) nd2 h'
    have e : putF f y ((g, x) :: r) = (g, x) :: putF f y r := by show (if g = f then _ else _) = _; rw [if_neg ne]
    rw [e]
    exact ⟨by simp only [List.map_cons, h1], by simp only [List.map_cons, h2, List.set_cons_succ], by simp only [List.length_cons, h3]⟩
section
variable {K : PySem.W.Frag} {G G' H H' : Hp} {W W' : Own?} {σ : Sg} {τ : LS}
theorem OwnL.renB {p : List Nat} (s : Same G G') : ∀ {j : Nat} {os : List O} {vs : List V}, (∀ a c q, j ≤ c → c < j + os.length → W a = some (p ++ [c] ++ q) → W' a = some (p ++ [c] ++ q) ∧ H' a = H a) → OwnL K G H W p j os vs → OwnL K G' H' W' p j os vs
  | _, _, _, _, .nil => .nil
  | j, _ :: os, _, k, .cons h r => .cons (h.ren s fun a q e => k a j q (Nat.le_refl _) (by simp) e) (OwnL.renB s (fun a c q h1 h2 e => k a c q (by omega) (by simp; omega) e) r)
theorem OwnL.put {p : List Nat} {f : Nat} {n : O} {y : V} (s : Same G G') (hn : Own K G' H' W' (p ++ [f]) n y) (k : ∀ a c q, c ≠ f → W a = some (p ++ [c] ++ q) → W' a = some (p ++ [c] ++ q) ∧ H' a = H a) : ∀ {j : Nat} {os : List O} {vs : List V}, j ≤ f → OwnL K G H W p j os vs → OwnL K G' H' W' p j (os.set (f - j) n) (vs.set (f - j) y)
  | j, _, _, _, .nil => .nil
  | j, o :: os, v :: vs, hj, .cons h r => by
    by_cases c : j = f
    · subst c
      rw [Nat.sub_self]
      refine .cons hn (OwnL.renB s (fun a c q h1 h2 e => k a c q (by omega) e) r)
    · rw [show f - j = (f - (j + 1)) + 1 by omega]
      exact .cons (h.ren s fun a q e => k a j q c e) (OwnL.put s hn k (by omega) r)
def toFld (W : Own?) (i f : Nat) : Own? := fun b => match W b with
  | some (0 :: r) => some ((i + 1) :: f :: r)
  | some (j :: c :: r) => if j = i + 1 ∧ c = f then none else some (j :: c :: r)
  | x => x
theorem toFld_some {i f : Nat} {a : Addr} {p : List Nat} (e : toFld W i f a = some p) : ∃ q, W a = some q := by
  cases h : W a with
  | none => unfold toFld at e; rw [h] at e; cases e
  | some q => exact ⟨q, rfl⟩
theorem toFld_hand {i f : Nat} {a : Addr} {q : List Nat} (e : W a = some ([0] ++ q)) : toFld W i f a = some ([i + 1] ++ [f] ++ q) := by
  unfold toFld
  rw [e]
  rfl
theorem toFld_keep {i f : Nat} {a : Addr} {p : List Nat} (e : W a = some p) (h0 : p.head? ≠ some 0) (h1 : ∀ q, p ≠ [i + 1] ++ [f] ++ q) : toFld W i f a = some p := by
  unfold toFld
  rw [e]
  match p with
  | [] => rfl
  | 0 :: r => exact absurd rfl h0
  | [j + 1] => rfl
  | (j + 1) :: c :: r =>
    show (if j + 1 = i + 1 ∧ c = f then none else some ((j + 1) :: c :: r)) = _
    rw [if_neg]
    rintro ⟨z1, z2⟩
    exact h1 r (by rw [z1, z2]; rfl)
theorem Sim.setFld (S : Sim K G W H σ τ) {i c f : Nat} {xs : List O} {n : O} {y : V} {nm : Str} (e : getO σ i = some (.ins c xs)) (hn : Own K G H W [0] n y) (hf : (clFd c)[f]? = some nm) (hle : f ≤ xs.length) :
    ∃ a dx fs, τ[i]? = some (some (.ref a)) ∧ H a = some (.ins (clA K c) dx fs) ∧ ClK K c ∧ fs.length < 1000 ∧
      Sim K G (toFld W i f) (upd H a (.ins (clA K c) dx (putF nm y fs))) (σ.set i (some (.ins c (if f < xs.length then xs.set f n else xs ++ [n])))) τ ∧ Ext G W H G (toFld W i f) (upd H a (.ins (clA K c) dx (putF nm y fs))) := by
  obtain ⟨v, h1, h2⟩ := S.sl i _ e
  cases h2 with
  | @ins _ a dx _ fs _ w h hc hn' r =>
    have hl : xs.length = fs.length := by have := r.len; simpa using this
    have wl : (clFd c).length ≤ 4 := by unfold clFd; split <;> decide
    have hfl : f < (clFd c).length := (List.getElem?_eq_some_iff.mp hf).1
    have nd := clFd_nodup c
    have hl4 : fs.length ≤ 4 := by
      have := congrArg List.length hn'
      simp at this
      omega
    refine ⟨a, dx, fs, h1, h, hc, by omega, ?_⟩
    have hne := S.hw _ _ w
    have gn := S.gw _ _ w
    have up : ∀ b q, W b = some q → q ≠ [i + 1] → upd H a (.ins (clA K c) dx (putF nm y fs)) b = H b := fun b q eb z => upd_ne fun y => z (by rw [y, w] at eb; exact (Option.some.inj eb).symm)
    have hn2 : Own K G (upd H a (.ins (clA K c) dx (putF nm y fs))) (toFld W i f) ([i + 1] ++ [f]) n y := hn.ren (Same.refl _) fun b q eb => ⟨by rw [toFld_hand eb], up b _ eb (by simp)⟩
    have main : (putF nm y fs).map (·.1) = (clFd c).take (if f < xs.length then xs.set f n else xs ++ [n]).length ∧ OwnL K G (upd H a (.ins (clA K c) dx (putF nm y fs))) (toFld W i f) [i + 1] 0 (if f < xs.length then xs.set f n else xs ++ [n]) ((putF nm y fs).map (·.2)) := by
      by_cases lt : f < xs.length
      · rw [if_pos lt]
        have hnm : (fs.map (·.1))[f]? = some nm := by
          rw [hn', List.getElem?_take, if_pos lt]; exact hf
        have ndf : (fs.map (·.1)).Nodup := by rw [hn']; exact nd.sublist (List.take_sublist _ _)
        obtain ⟨p1, p2, p3⟩ := putF_old (y := y) ndf hnm
        refine ⟨by rw [p1, hn', List.length_set], ?_⟩
        rw [p2]
        have q := OwnL.put (f := f) (n := n) (y := y) (Same.refl G) hn2 (fun b c2 q hc2 eb => ⟨toFld_keep eb (by simp) (fun q' z => by
          rw [List.append_assoc, List.append_assoc] at z
          have := List.append_cancel_left z
          injection this with z1 z2
          exact hc2 z1), up b _ eb (by simp)⟩) (Nat.zero_le _) r
        rw [Nat.sub_zero] at q
        exact q
      · rw [if_neg lt]
        have ef : f = xs.length := by omega
        have nw : nm ∉ fs.map (·.1) := fun z => by
          rw [hn', ← ef] at z
          obtain ⟨k, hk⟩ := List.mem_iff_getElem?.mp z
          have kl : k < f := by
            have := (List.getElem?_eq_some_iff.mp hk).1
            simp at this; omega
          rw [List.getElem?_take, if_pos kl] at hk
          have := (List.getElem?_inj (List.getElem?_eq_some_iff.mp hk).1 nd).mp (hk.trans hf.symm)
          omega
        rw [putF_new nw]
        refine ⟨?_, ?_⟩
        · rw [List.map_append, hn', List.length_append, List.length_singleton, ← ef]
          rw [List.take_add_one, hf]
          rfl
        · rw [List.map_append]
          refine OwnL.snoc (OwnL.renB (Same.refl _) (fun b c2 q h1 h2 eb => ⟨toFld_keep eb (by simp) (fun q' z => ?_), ?_⟩) r) ?_
          · rw [List.append_assoc, List.append_assoc] at z
            have := List.append_cancel_left z
            injection this with z1 z2
            omega
          · have := up b _ eb (by simp)
            rw [putF_new nw] at this
            exact this
          · rw [Nat.zero_add, ← ef]
            rw [putF_new nw] at hn2
            exact hn2
    refine ⟨⟨fun b u q => ?_, fun b p q => ?_, fun b p q => ?_, fun j o2 ej => ?_, by rw [List.length_set]; exact S.len⟩, Same.refl _, fun b h1 h2 => ?_, fun b h1 => ?_, fun b h => ?_, fun b h => .inl h⟩
    · rw [upd_ne (ne_of_none q gn)]; exact S.gh _ _ q
    · obtain ⟨q', hq⟩ := toFld_some q; exact S.gw _ _ hq
    · by_cases z : b = a
      · rw [z, upd_same]; simp
      · rw [upd_ne z]; obtain ⟨q', hq⟩ := toFld_some q; exact S.hw _ _ hq
    · by_cases z : i = j
      · subst z
        rw [getO_set (getO_lt e)] at ej
        cases ej
        exact ⟨_, h1, .ins (toFld_keep w (by simp) (fun q' z => by have := congrArg List.length z; simp at this)) upd_same hc main.1 main.2⟩
      · rw [getO_set_ne z] at ej
        obtain ⟨v', h3, h4⟩ := S.sl j o2 ej
        refine ⟨v', h3, h4.ren (Same.refl _) fun b q eb => ⟨toFld_keep eb (by simp) (fun q' y => ?_), up b _ eb fun y => ?_⟩⟩
        · injection y with y1 y2
          omega
        · injection y with y1 y2
          omega
    · rw [upd_ne fun z => by rw [z, w] at h2; cases h2]
    · by_cases z : b = a
      · rw [z, upd_same]; simp
      · rw [upd_ne z]; exact h1
    · refine .inl fun z => h ?_
      unfold toFld; rw [z]
def ofFld (W : Own?) (i f : Nat) : Own? := fun b => match W b with
  | some (j :: c :: r) => if j = i + 1 ∧ c = f then some (0 :: r) else some (j :: c :: r)
  | x => x
theorem ofFld_some {i f : Nat} {a : Addr} {p : List Nat} (e : ofFld W i f a = some p) : ∃ q, W a = some q := by
  cases h : W a with
  | none => unfold ofFld at e; rw [h] at e; cases e
  | some q => exact ⟨q, rfl⟩
theorem ofFld_keep {i f : Nat} {a : Addr} {p : List Nat} (e : W a = some p) (h1 : ∀ q, p ≠ [i + 1] ++ [f] ++ q) : ofFld W i f a = some p := by
  unfold ofFld
  rw [e]
  match p with
  | [] => rfl
  | [j] => rfl
  | j :: c :: r =>
    show (if j = i + 1 ∧ c = f then some (0 :: r) else some (j :: c :: r)) = _
    rw [if_neg]
    rintro ⟨z1, z2⟩
    exact h1 r (by rw [z1, z2]; rfl)
end
section
variable {X : Cx} {xv : ExV} {Wx : WX} {t ta : TE} {f fa : Sg → R O}
theorem sem_mvF {i c fn : Nat} {nm : Str} (hf : (clFd c)[fn]? = some nm) : SemE X xv Wx (tFld X.K (tVar i) nm) (mvF i c fn) := by
  intro G W H σ τ S
  unfold mvF
  cases e : getO σ i with
  | none => exact trivial
  | some o =>
    cases o with
    | ins c' xs =>
      show At X.K xv Wx τ G W H (if c' = c then (match xs[fn]? with
        | some o => R.ok o (σ.set i none)
        | none => .bad) else .bad) _ _
      by_cases hc : c' = c
      · subst hc
        rw [if_pos rfl]
        cases ex : xs[fn]? with
        | none => exact trivial
        | some o =>
          obtain ⟨v, h1, h2⟩ := S.sl i _ e
          cases h2 with
          | @ins _ a dx _ fs _ w h hc hn r =>
            obtain ⟨vk, hk, ok⟩ := r.get ex
            rw [Nat.zero_add] at ok
            have hl : xs.length = fs.length := by have := r.len; simpa using this
            rw [hl] at hn
            have S' : Sim X.K G (ofFld W i fn) H (σ.set i none) τ := by
              refine ⟨S.gh, fun b p q => ?_, fun b p q => ?_, fun j o' ej => ?_, by rw [List.length_set]; exact S.len⟩
              · obtain ⟨q', h⟩ := ofFld_some q; exact S.gw _ _ h
              · obtain ⟨q', h⟩ := ofFld_some q; exact S.hw _ _ h
              · by_cases z : i = j
                · subst z
                  rw [getO_set (getO_lt e)] at ej
                  cases ej
                · rw [getO_set_ne z] at ej
                  obtain ⟨v', h1, h2⟩ := S.sl j o' ej
                  refine ⟨v', h1, h2.ren (Same.refl _) fun a q eq => ⟨ofFld_keep eq fun q' y => ?_, rfl⟩⟩
                  injection y with y1 y2
                  omega
            refine fun Q hx => ⟨_, h1, a, _, dx, fs, vk, rfl, h, hc.1, hc.2 _ (List.mem_of_getElem? hf), look_fd (clFd_nodup _) hn hf hk, ?_⟩
            refine hx G (ofFld W i fn) H vk S' ⟨Same.refl _, fun _ _ _ => rfl, fun _ h => h, fun b hb => .inl fun z => hb (by unfold ofFld; rw [z]), fun b hb => .inl hb⟩ (ok.ren (Same.refl _) fun a q eq => ⟨?_, rfl⟩)
            unfold ofFld
            rw [eq]
            show (if i + 1 = i + 1 ∧ fn = fn then _ else _) = _
            rw [if_pos ⟨rfl, rfl⟩]
            rfl
      · rw [if_neg hc]; exact trivial
    | _ => exact trivial
theorem sem_setF {i c fn : Nat} {nm : Str} {fx : List Nat} (hf : (clFd c)[fn]? = some nm) (hv : SemE X xv Wx t f) : SemS X xv Wx fx (sFld X.K (tVar i) t nm) (setF i c fn f) := by
  intro G W H σ τ D S en
  refine EndS.of_at (hv G W H σ τ S) en fun n σ1 G1 W1 H1 y _ S1 _ p1 en1 => ?_
  cases e : getO σ1 i with
  | none => rw [e] at en1; exact en1.elim
  | some o =>
    rw [e] at en1
    cases o with
    | ins c' xs =>
      replace en1 : EndS X.K xv Wx fx D G1 W1 H1 τ (if c' = c then (if fn = xs.length then .ok .nx (σ1.set i (some (.ins c (xs ++ [n])))) else if fn < xs.length then .ok .nx (σ1.set i (some (.ins c (xs.set fn n)))) else .bad) else .bad) := en1
      by_cases hc : c' = c
      · subst hc
        rw [if_pos rfl] at en1
        have key : fn ≤ xs.length ∧ EndS X.K xv Wx fx D G1 W1 H1 τ (.ok .nx (σ1.set i (some (.ins c' (if fn < xs.length then xs.set fn n else xs ++ [n]))))) := by
          by_cases h1 : fn = xs.length
          · rw [if_pos h1] at en1
            refine ⟨by omega, ?_⟩
            rw [if_neg (by omega)]
            exact en1
          · rw [if_neg h1] at en1
            by_cases h2 : fn < xs.length
            · rw [if_pos h2] at en1
              refine ⟨by omega, ?_⟩
              rw [if_pos h2]
              exact en1
            · rw [if_neg h2] at en1; exact en1.elim
        obtain ⟨hle, en2⟩ := key
        obtain ⟨a, dx, fs, h1, h2, hck, h4, S2, E2⟩ := S1.setFld e p1 hf hle
        exact ⟨_, h1, a, _, dx, fs, rfl, h2, hck.1, hck.2 _ (List.mem_of_getElem? hf), h4, en2 _ _ _ _ S2 E2 fun _ _ => rfl⟩
      · rw [if_neg hc] at en1; exact en1.elim
    | _ => exact en1.elim
def joinM (W W' : Own?) : Own? := fun a => match W a with
  | some p => some p
  | none => match W' a with
    | some (1 :: r) => some (0 :: r)
    | _ => none
theorem joinM_new {W W' : Own?} {a : Addr} {p : List Nat} (h : W a = none) (e : joinM W W' a = some p) : ∃ q, W' a = some q := by
  unfold joinM at e
  rw [h] at e
  simp only at e
  split at e
  · rename_i r q; exact ⟨_, q⟩
  · cases e
theorem sem_mk {tr : TA} {fr : Sg → R (List D)} {ar c : Nat} {g : List O → FR} (h : SemL X xv Wx tr fr) (hc : ClK X.K c) (har : ∀ (as : List O) r os, g as = .ok r os → as.length = ar) :
    SemE X xv Wx (tMake (clA X.K c) (spOf X.K xv ar [0] g) [] (fun _ _ _ => False) tr) (fun σ => (fr σ).bind fun ds σ' => match g (.ins c [] :: ds.map O.val) with
    | .ok (.val .non) [o] => .ok o σ'
    | _ => .bad) := by
  intro G W H σ τ S
  refine At.bind (tr2 := fun vs H1 Q => ∀ x dx, H1 x = none → H1 dx = none → dx ≠ x → spOf X.K xv ar [0] g (.ref x :: (vs ++ [])) (upd (upd H1 dx (.own x)) x (.ins (clA X.K c) dx [])) (fun v H2 => v = V.non ∧ Q (V.ref x) H2) (fun _ _ _ => False)) (h G W H σ τ S) fun ds σ1 G1 W1 H1 vs S1 E1 r => ?_
  cases e : g (.ins c [] :: ds.map O.val) with
  | bad => exact trivial
  | exc c os => exact trivial
  | ok rv os =>
    cases rv with
    | val d =>
      cases d with
      | non =>
        obtain _ | ⟨o, _ | ⟨_, _⟩⟩ := os
        · exact trivial
        · intro Q hx x dx nx ndx ne
          rw [List.append_nil]
          have xg : G1 x = none := S1.gh.free nx
          have W1x : W1 x = none := by
            cases q : W1 x with
            | none => rfl
            | some p => exact absurd nx (S1.hw _ _ q)
          have H2o : ∀ a, H1 a ≠ none → upd (upd H1 dx (.own x)) x (.ins (clA X.K c) dx []) a = H1 a := fun a ha => by
            rw [upd_ne (fun z => ha (by rw [z]; exact nx)), upd_ne (fun z => ha (by rw [z]; exact ndx))]
          refine ⟨?_, G1, fun b => if b = x then some [1] else none, .ins c [] :: ds.map O.val, ⟨fun a u q => ?_, fun a p q => ?_, fun a p q => ?_⟩, ⟨?_, Owns.vals r⟩, ?_⟩
          · have q1 := har _ _ _ e
            have q2 := r.len
            simp at q1 ⊢
            omega
          · rw [H2o a (by rw [S1.gh _ _ q]; simp)]; exact S1.gh _ _ q
          · by_cases z : a = x
            · rw [z]; exact xg
            · simp only [if_neg z] at q; cases q
          · by_cases z : a = x
            · rw [z, upd_same]; simp
            · simp only [if_neg z] at q; cases q
          · exact .ins (if_pos rfl) upd_same hc rfl .nil
          · rw [e]
            intro G' W' H' v E f ow io
            obtain ⟨⟨v0, hv0, ow0⟩, _⟩ := io
            cases hv0
            have vn : v = .non := by cases ow with | val r => cases r; rfl
            refine ⟨vn, ?_⟩
            have nW : ∀ a, H1 a ≠ none → (if a = x then some [1] else none : Option (List Nat)) = none := fun a ha => if_neg fun z => ha (by rw [z]; exact nx)
            have kH : ∀ a, H1 a ≠ none → H' a = H1 a := fun a ha => by
              rw [E.keep a (by rw [H2o a ha]; exact ha) (nW a ha), H2o a ha]
            have H2n : ∀ a, upd (upd H1 dx (.own x)) x (.ins (clA X.K c) dx []) a = none → H1 a = none := fun a ha => by
              cases q : H1 a with
              | none => rfl
              | some u => rw [H2o a (by rw [q]; simp), q] at ha; cases ha
            have W'n : ∀ a, W' a ≠ none → H1 a = none := fun a ha => by
              rcases E.w a ha with z | z
              · by_cases y : a = x
                · rw [y]; exact nx
                · simp only [if_neg y] at z; exact absurd rfl z
              · exact H2n a z
            have G'n : ∀ a, G' a ≠ none → G1 a ≠ none ∨ H1 a = none := fun a ha => by
              rcases E.gn a ha with z | z | z
              · exact .inl z
              · by_cases y : a = x
                · exact .inr (by rw [y]; exact nx)
                · simp only [if_neg y] at z; exact absurd rfl z
              · exact .inr (H2n a z)
            have gr : Grow G1 W1 H1 G' (joinM W1 W') H' := by
              refine ⟨E.g, f.gh, kH, fun a p e => by unfold joinM; rw [e], fun a h => ?_, G'n, fun a p e => ?_, fun a p e => ?_⟩
              · cases q : W1 a with
                | some p => exact .inl (by simp)
                | none =>
                  obtain ⟨p, hp⟩ := Option.ne_none_iff_exists'.mp h
                  obtain ⟨q', hq⟩ := joinM_new q hp
                  exact .inr (W'n a (by rw [hq]; simp))
              · cases h : W1 a with
                | none =>
                  obtain ⟨q', hq⟩ := joinM_new h e
                  exact f.gw a _ hq
                | some q =>
                  cases g' : G' a with
                  | none => rfl
                  | some u =>
                    rcases G'n a (by rw [g']; simp) with z | z
                    · exact absurd (S1.gw _ _ h) z
                    · exact absurd z (S1.hw _ _ h)
              · cases h : W1 a with
                | none =>
                  obtain ⟨q', hq⟩ := joinM_new h e
                  exact f.hw a _ hq
                | some q =>
                  rw [kH a (S1.hw _ _ h)]
                  exact S1.hw _ _ h
            refine hx G' _ H' _ (S1.grow gr) gr.ext (ow0.ren (Same.refl _) fun a q eq => ⟨?_, rfl⟩)
            have : W1 a = none := by
              cases q : W1 a with
              | none => rfl
              | some p => exact absurd (W'n a (by rw [eq]; simp)) (S1.hw _ _ q)
            unfold joinM
            rw [this]
            simp only
            rw [eq]
            rfl
        · exact trivial
      | _ => exact trivial
    | _ => exact trivial
theorem sem_callM {i c : Nat} {m : Str} {tr : TA} {fr : Sg → R (List (Option D))} {ar : Nat} {io : List Nat} {g : List O → FR} {es : List Ex} (h : SemA X xv Wx (tCons (tVar i) tr) ((Ex.own i :: es).map Ex.bo) fr) (har : ∀ (as : List O), (∀ r os, g as = .ok r os → as.length = ar) ∧ ∀ c os, g as = .exc c os → as.length = ar)
    (hd : ∀ j, posOf (Ex.own i :: es) j ≠ none → j ∉ bors (Ex.own i :: es)) (hu : ∀ (j k : Nat), (Ex.own i :: es)[j]? = some (Ex.own k) → posOf (Ex.own i :: es) k = some j) (hio : io = ownPos (Ex.own i :: es) 0) (hm : m ∉ clFd c) :
    SemE X xv Wx (L2H.tMethH (clA X.K c) m (spOf X.K xv ar io g) (WE Wx) (tVar i) tr) (fun σ => if isIns c (Ex.own i :: es) σ = true then ((fr σ).bind fun ds σ' => match argsO (Ex.own i :: es) ds σ' with
    | some as => match g as with
      | .ok r os => match outO (Ex.own i :: es) os σ' with
        | some σ2 => if (!lent (Ex.own i :: es) || (r.flat && os.all O.flat)) = true then .ok r σ2 else .bad
        | none => .bad
      | .exc c os => match outO (Ex.own i :: es) os σ' with
        | some σ2 => if (!lent (Ex.own i :: es) || os.all O.flat) = true then .exc c σ2 else .bad
        | none => .bad
      | .bad => .bad
    | none => .bad) else .bad) := by
  intro G W H σ τ S
  have q := sem_callO h har hd hu hio G W H σ τ S
  dsimp only at q ⊢
  by_cases hi : isIns c (Ex.own i :: es) σ = true
  · rw [if_pos hi]
    refine At.mapT q fun Q ⟨v, hv, z⟩ => ?_
    have hi' : (match getO σ i with
      | some (.ins c' _) => decide (c' = c)
      | _ => false) = true := hi
    split at hi'
    · rename_i c' xs e
      have := of_decide_eq_true hi'
      subst this
      obtain ⟨v', h1, h2⟩ := S.sl i _ e
      rw [hv] at h1
      cases h1
      cases h2 with
      | @ins _ a dx _ fs _ w h hc hn r =>
        refine ⟨_, hv, a, dx, fs, rfl, h, ?_, z⟩
        exact look_no (fun y => hm (by rw [hn] at y; exact List.mem_of_mem_take y))
    · cases hi'
  · rw [if_neg hi]; exact trivial
theorem flat_rep {v : V} : ∀ n : Nat, (List.replicate n [v]).flatten = List.replicate n v
  | 0 => rfl
  | n + 1 => by rw [List.replicate_succ, List.flatten_cons, flat_rep n]; rfl
theorem reps_rep {K : PySem.W.Frag} {G : Hp} {d : D} {v : V} (r : Rep K G d v) : ∀ n : Nat, Reps K G (List.replicate n d) (List.replicate n v)
  | 0 => .nil
  | n + 1 => .cons r (reps_rep r n)
theorem sem_rep (ha : SemO X xv Wx ta none fa) (hn : SemO X xv Wx t none f) : SemE X xv Wx (tOp rRep (tLst (tCons ta tNil)) t) (fun σ => op2 repD none none fa f σ) := by
  intro G W H σ τ S
  refine At.bind (tr2 := fun x H1 Q => ([x] : List V).length ≤ sizeLine ∧ ∀ p, H1 p = none → t τ (upd H1 p (.lst [x])) fun y H2 => rRep (.ref p) y H2 Q) (ha G W H σ τ S) fun da σ1 G1 W1 H1 v S1 E1 p1 => ?_
  obtain ⟨d, rfl, rd⟩ := p1
  refine At.of_can fun Q c => ⟨by show 1 ≤ sizeLine; decide, fun p hp => ?_⟩
  have gp : G1 p = none := S1.gh.free hp
  have wp : W1 p = none := by
    cases q : W1 p with
    | none => rfl
    | some z => exact absurd hp (S1.hw _ _ q)
  have S2 := S1.other (o := .lst [v]) gp wp
  have E2 : Ext G1 W1 H1 G1 W1 (upd H1 p (.lst [v])) := (Ext.refl _ _ _).updNew hp
  have hn' := hn G1 W1 _ σ1 τ S2
  replace c : Can X.K xv Wx τ G1 W1 H1 ((pre none (f σ1) σ1).bind fun db σ2 => match some d, db with
    | some a, some b => lift σ2 (repD a b)
    | _, _ => R.bad) (fun G' W' H' o v => Own X.K G' H' W' [0] o v) Q := c
  cases e : pre none (f σ1) σ1 with
  | bad => rw [e] at c; exact c.elim
  | exc k σ2 =>
    rw [e] at c hn'
    exact hn' _ fun G' W' H' S' E' => c G' W' H' S' (E2.trans E')
  | ok db σ2 =>
    rw [e] at c hn'
    refine hn' _ fun G3 W3 H3 y S3 E3 p3 => ?_
    obtain ⟨b, rfl, rb⟩ := p3
    replace c : Can X.K xv Wx τ G1 W1 H1 (lift σ2 (repD d b)) (fun G' W' H' o v => Own X.K G' H' W' [0] o v) Q := c
    cases b with
    | int k =>
      cases rb
      replace c : Can X.K xv Wx τ G1 W1 H1 (lift σ2 (if 0 ≤ k ∧ k ≤ 1000 then some (O.lst (List.replicate k.toNat d)) else none)) (fun G' W' H' o v => Own X.K G' H' W' [0] o v) Q := c
      by_cases hk : 0 ≤ k ∧ k ≤ 1000
      · rw [if_pos hk] at c
        have h3 : H3 p = some (.lst [v]) := by rw [E3.keep p (by rw [upd_same]; simp) wp, upd_same]
        refine ⟨p, k, [v], rfl, rfl, h3, by omega, by omega, by rw [szl]; simp; omega, fun q hq => ?_⟩
        rw [flat_rep]
        have gr := Grow.hand S3 hq (.lst (List.replicate k.toNat v))
        exact c _ _ _ _ (S3.grow gr) (E2.trans (E3.trans gr.ext)) (.lst own_same upd_same (reps_rep (rd.mono E3.g) _))
      · rw [if_neg hk] at c; exact c.elim
    | _ => exact c.elim
end
end PV
set_option maxRecDepth 100000
set_option maxHeartbeats 4000000
namespace PV
open PySem PySem.Spec PyProof.Rows L2
def RawV (h : Heap) (d : Addr) (us : List Value) : Prop := ∃ o es ep, h.get? d = some o ∧ o.ExactDict ∧ o.data = Data.dict es ep ∧ es.toList.map (·.val) = us
section
variable {prog : Program} {w : World} {r d : Addr} {o : Obj} {es : Array DictEntry} {ep : Nat}
theorem rv_src (hdd : o.data = Data.dict es ep) : PySem.W.KdlSrc prog w "dict_values" r d es.size (fun i v => ∃ en, es[i]? = some en ∧ v = en.val) (fun h => h.get? r = some (DSub.viewOb "dict_values" d) ∧ h.get? d = some o) where
  type := fun s hm => ⟨_, hm.1, rfl⟩
  there := fun h hm => ⟨Heap.lt_size hm.1, Heap.lt_size hm.2⟩
  keep := fun h h' hm hk => ⟨hk r (.inl rfl) _ hm.1, hk d (.inr rfl) _ hm.2⟩
  notList := by decide
  notTuple := by decide
  hint := fun A E s Q hm hq => PySem.W.kdl_hint_values ⟨_, hm.1, rfl⟩ hq
  iter := fun A s hh hm => by
    have hne : d ≠ s.heap.objs.size := Nat.ne_of_lt (Heap.lt_size hm.2)
    refine ⟨DVw.valOb d 0 es.size ep, fun i h => h.get? s.heap.objs.size = some (DVw.valOb d i es.size ep) ∧ h.get? d = some o, fun E Q hq => DSub.iter_vals hm.1 hm.2 hdd hq, ?_, ⟨Heap.get?_push_size _ rfl, Heap.get?_push_of_some _ hm.2⟩⟩
    refine ⟨fun b hb => by simp at hb; simp [hb], fun i h h' st hk => ⟨hk _ (by simp) _ st.1, hk d (by simp) _ st.2⟩, fun i s2 Q E hi st hQ => ?_, fun s2 Q E st hQ => ?_, fun i s2 Q E st hQ => wpAny_pyIter_valiter ⟨_, st.1, rfl, rfl⟩ hQ⟩
    · refine DVw.val_item st.1 st.2 hdd rfl (e := es[i]) (by simp [hi]) fun h' hit hs => ?_
      exact hQ _ h' s2.toks ⟨_, by simp [hi], rfl⟩ ⟨hit, hs.extBut d o hne st.2⟩ fun b ob hb e => hs.extBut b ob (fun z => hb (by simp [z])) e
    · exact DVw.val_end hh st.1 st.2 hdd rfl (by simp) fun h' he => hQ h' s2.toks fun b ob hb e => he b ob (fun z => hb (by simp [z])) e
theorem rv_meets (hd : (d == sysModules) = false) : MeetsIn prog w (Builtin.«dict.values» ⟨[.ref d], []⟩) (fun _ R s => (∃ o, s.heap.get? d = some o ∧ o.ExactDict) ∧
      R (.ok (.ret (.ref s.heap.objs.size))) { s with heap := s.heap.push { cls := .type "dict_values", data := .fields #[.ref d] } }) :=
  .of_wp fun A R s ⟨⟨o, ho, hx⟩, h⟩ => by
    refine wpAny_bind ?_
    unfold Builtin.Dict.noArgs
    refine wpAny_bind (wpAny_notOrdered_dict ⟨o, ho, hx.1⟩ ?_)
    show wpAny _ _ (pure d) _ _ s
    refine wpAny_pure ?_
    show wpAny _ _ (Builtin.Dict.showsAll d >>= _) _ _ s
    unfold Builtin.Dict.showsAll
    rw [if_neg (by rw [hd]; exact Bool.false_ne_true)]
    refine wpAny_bind (wpAny_pure ?_)
    exact wpAny_bind (wpAny_newObj_type (wpAny_pure ⟨_, rfl, h⟩))
end
theorem rv_pairs {prog : Program} {w : World} {K : Type} [DecidableEq K] {knd : PySem.KeyKind prog w K} {es : List DictEntry} {kvs : List (K × Value)} (h : Pairs knd es kvs) : es.map (·.val) = kvs.map (·.2) := by
  induction h with
  | nil => rfl
  | cons a b _ ih => rw [List.map_cons, List.map_cons, ih, b]
theorem kv_vals {κ : Type} {kvs : List (κ × V)} {us : List (κ × Value)} (h : KV kvs us) : Vals (kvs.map (·.2)) (us.map (·.2)) := by
  induction h with
  | nil => exact .nil
  | cons a _ ih => exact .cons a.2 ih
theorem kt_vals {H : Hp} {kvs : List (List Key × V)} {us : List (List Key × Addr × Value)} (h : KT H kvs us) : Vals (kvs.map (·.2)) (us.map (·.2.2)) := by
  induction h with
  | nil => exact .nil
  | cons a _ ih => exact .cons a.2.2 ih
def dvOf (H : Hp) (a : Addr) (vs : List V) : Prop := (∃ ps : List (Key × V), H a = some (.dK ps) ∧ vs = ps.map (·.2)) ∨ (∃ ps : List (List Key × V), H a = some (.dT ps) ∧ vs = ps.map (·.2))
theorem dv_rd {P : Program} {w : World} {H : Hp} {h : Heap} {a : Addr} {vs : List V} (I : HOk P w H h) (hd : dvOf H a vs) : vs.length ≤ sizeLine ∧ (a == sysModules) = false ∧ ∃ us, Vals vs us ∧ RawV h a us := by
  rcases hd with ⟨ps, h1, rfl⟩ | ⟨ps, h1, rfl⟩
  · obtain ⟨z, lo, us, rel, o, es, ep, g1, g2, g3, g4, g5, g6⟩ := dk_rd I (.of h1)
    exact ⟨by rw [List.length_map]; exact z, lo, _, kv_vals rel, o, es, ep, g1, g2, g3, rv_pairs g5⟩
  · obtain ⟨z, lo, us, rel, o, es, ep, g1, g2, g3, g4, g5, g6⟩ := dt_rd I (.of h1)
    exact ⟨by rw [List.length_map]; exact z, lo, _, kt_vals rel, o, es, ep, g1, g2, g3, by rw [g4, List.map_map]; rfl⟩
def tLVals (td : TE) : TE := fun σ H Q => td σ H fun x H1 => ∃ (a : Addr) (vs : List V), x = .ref a ∧ dvOf H1 a vs ∧ ∀ q, H1 q = none → Q (.ref q) (upd H1 q (.lst vs))
section
variable {X : Cx} {e : Expr} {td : TE} {p apos cpos pos : Pos}
theorem pe_lvals (hg : Gl X "list") (hm : X.mg "list" = none) (hc : X.calm = true) (he : PE X e td) (hbase : attributeBase e "values" X.env (eval e X.env) = eval e X.env := by rfl) (hline : (apos.endLine == cpos.line) = true := by rfl)
    (na : starEach [.Call (.Attribute e "values" apos) [] [] cpos] X.env = (false, eval (.Call (.Attribute e "values" apos) [] [] cpos) X.env) :: starEach [] X.env := by rfl) :
    PE X (.Call (.Name "list" p) [.Call (.Attribute e "values" apos) [] [] cpos] [] pos) (tLVals td) := by
  refine ⟨fun pins s σ H Q I h => ?_⟩
  refine Call_ (ld_blt I hg hm boot_list ?_)
  refine PyProof.Rows.callWith_type1 (PyProof.Rows.args_cons ?_ na) na rfl
  refine wpAny_Call_method (T := "dict") (id := "dict.values") hbase rfl hline F.plainAttrs_dict F.slot_dict_values F.type_dict_values (thn (he.run pins s σ H _ I h) fun u s1 ⟨x, H1, I1, rx, d, vs, ex, hd, q⟩ => ?_)
  subst ex
  obtain rfl : u = Value.ref d := rx
  obtain ⟨z, lo, us, rel, o, es, ep, g1, g2, g3, g4⟩ := dv_rd I1.hok hd
  refine ⟨⟨o, g1, g2.1⟩, ?_, ?_⟩
  · intro b eb
    cases eb
    exact ⟨o, g1, g2.2.1⟩
  show wpAny _ _ (callWith cpos (.builtin "dict.values") [.ref d] [] []) _ X.xe s1
  refine method_meetsIn F.slot_dict_values F.entry_dict_values rfl (PySem.evalArgs_none ⟨rfl, ⟨o, g1, g2.1⟩, F.args_dict_values_1 _, _, rv_meets lo, ⟨o, g1, g2⟩, ?_⟩)
  refine PyProof.Rows.args_nil ?_
  have I2 : Inv X pins σ H1 { s1 with heap := s1.heap.push { cls := .type "dict_values", data := .fields #[.ref d] } } := I1.kept (t' := s1.toks) fun b ob w => Heap.get?_push_of_some _ w
  have hlen : es.size = vs.length := by
    have h1 := congrArg List.length g4
    rw [List.length_map, Array.length_toList] at h1
    rw [h1, rel.length]
  refine PySem.W.kdl_call (rv_src g3) (I2.ok.hd hc) ⟨Heap.get?_push_size _ rfl, Heap.get?_push_of_some _ g1⟩ (by rw [hlen]; exact z) fun h' tk acc c hk hS hacc => ?_
  have ea : acc.toList = us := by
    apply List.ext_getElem?
    intro j
    have hl : acc.toList.length = us.length := by rw [Array.length_toList, hacc.1, hlen, rel.length]
    cases ej : acc.toList[j]? with
    | none =>
      rw [List.getElem?_eq_none_iff] at ej
      exact (List.getElem?_eq_none (by omega)).symm
    | some v =>
      obtain ⟨en, e1, rfl⟩ := hacc.2 j v (by rw [← Array.getElem?_toList]; exact ej)
      rw [← g4, List.getElem?_map, Array.getElem?_toList, e1]; rfl
  refine ⟨.ref _, upd H1 (s1.heap.push { cls := .type "dict_values", data := .fields #[.ref d] }).objs.size (.lst vs), I2.laid (t' := tk) hk (Nat.le_refl _) (show ObjOk X.prog X.w _ _ _ (.lst vs) from ⟨z, acc.toList, c, by rw [ea]; exact rel, by rw [Array.toArray_toList]; exact hS⟩), rfl, q _ (I2.hok.fresh (Nat.le_refl _))⟩
end
section
variable {X : Cx} {xv : ExV} {Wx : WX}
theorem repsD_vals {K : PySem.W.Frag} {G : Hp} {κ : Type} {f : D → Option κ} {kvs : List (D × D)} {ps : List (κ × V)} (h : RepsD K G f kvs ps) : Reps K G (kvs.map Prod.snd) (ps.map Prod.snd) := by
  induction h with
  | nil => exact .nil
  | cons a b _ ih => exact .cons b ih
theorem sem_lvals {i : Nat} : SemE X xv Wx (tLVals (tVar i)) (fun σ => match getO σ i with
    | some (.dic _ kvs) => .ok (.lst (kvs.map Prod.snd)) σ
    | _ => .bad) := by
  intro G W H σ τ S
  dsimp only
  cases e : getO σ i with
  | none => exact trivial
  | some o =>
    cases o with
    | dic t kvs =>
      obtain ⟨v, hv, ow⟩ := S.sl i _ e
      cases ow with
      | dicK w hh r => exact At.grows S fun Q hx => ⟨_, hv, _, _, rfl, .inl ⟨_, hh, rfl⟩, fun q hq => new_lst S (repsD_vals r) hx q hq⟩
      | dicT w hh r => exact At.grows S fun Q hx => ⟨_, hv, _, _, rfl, .inr ⟨_, hh, rfl⟩, fun q hq => new_lst S (repsD_vals r) hx q hq⟩
    | _ => exact trivial
end
end PV
set_option maxRecDepth 100000
set_option maxHeartbeats 4000000
namespace PV
open PySem PySem.Spec PyProof.Rows L2 RT
section
variable {X : Cx} {xv : ExV} {Wx : WX} {t1 t2 : TE} {f1 f2 : Sg → R O}
theorem sem_appT {i : Nat} {fx : List Nat} (hs1 : SemE X xv Wx t1 f1) (hs2 : SemO X xv Wx t2 none f2) : SemS X xv Wx fx (tDrop (tBM X.K "list" rAppend (tVar i) (tCons (tTup (tCons t1 (tCons t2 tNil))) tNil))) (appT i f1 f2) := by
  intro G W H σ τ D S en
  unfold appT at en
  cases ea : (getO σ i).bind asTr with
  | none => rw [ea] at en; exact en.elim
  | some xs0 =>
    rw [ea] at en
    replace en : EndS X.K xv Wx fx D G W H τ ((f1 σ).bind fun o1 σ1 => match o1 with
      | .lst ys => (pre none (f2 σ1) σ1).bind fun d σ2 => match d, (getO σ2 i).bind asTr with
        | some x, some xs => if xs.length < SZ then .ok .nx (σ2.set i (some (.tr (xs ++ [.tp [.lst ys, .val x]])))) else .bad
        | _, _ => .bad
      | _ => .bad) := en
    obtain ⟨o0, a, vs0, _, k1, wa, ha, _⟩ := S.asTr ea
    refine ⟨_, k1, .inl ⟨rfl, _, .of ha⟩, ?_⟩
    show t1 τ H fun x0 H1 => t2 τ H1 fun y H2 => ([x0, y] : List V).length ≤ sizeLine ∧ ∀ p, H2 p = none → rAppend (.ref a) [.ref p] (upd H2 p (.tup [x0, y])) fun _ H3 => D.nx τ H3
    have he1 := hs1 G W H σ τ S
    cases e1 : f1 σ with
    | bad => rw [e1] at en; exact en.elim
    | exc c σ1 =>
      rw [e1] at en he1
      exact he1 _ fun G' W' H' S' E' => en G' W' H' τ S' E' fun _ _ => rfl
    | ok o1 σ1 =>
      rw [e1] at en he1
      refine he1 _ fun G1 W1 H1 x0 S1 E1 ow => ?_
      cases o1 <;> try (exact en.elim; done)
      rename_i ys
      cases ow with
      | @lst _ p0 us _ w0 hp0 r0 =>
      replace en : EndS X.K xv Wx fx D G W H τ ((pre none (f2 σ1) σ1).bind fun d σ2 => match d, (getO σ2 i).bind asTr with
        | some x, some xs => if xs.length < SZ then .ok .nx (σ2.set i (some (.tr (xs ++ [.tp [.lst ys, .val x]])))) else .bad
        | _, _ => .bad) := en
      have S1u : Sim X.K G1 (unown W1 p0) H1 σ1 τ := by
        refine ⟨S1.gh, fun b q z => ?_, fun b q z => ?_, fun j o' ej => ?_, S1.len⟩
        · by_cases c : b = p0
          · rw [c, unown_same] at z; cases z
          · rw [unown_ne c] at z; exact S1.gw _ _ z
        · by_cases c : b = p0
          · rw [c, unown_same] at z; cases z
          · rw [unown_ne c] at z; exact S1.hw _ _ z
        · obtain ⟨v', h3, h4⟩ := S1.sl j o' ej
          refine ⟨v', h3, h4.ren (Same.refl _) fun b q eb => ⟨?_, rfl⟩⟩
          rw [unown_ne fun z => ?_]
          · exact eb
          · subst z
            rw [w0] at eb
            have := Option.some.inj eb
            injection this with t1 t2
            omega
      have E1u : Ext G W H G1 (unown W1 p0) H1 := ⟨E1.g, E1.keep, E1.there, fun b hb => by
        by_cases c : b = p0
        · rw [c, unown_same] at hb; exact absurd rfl hb
        · rw [unown_ne c] at hb; exact E1.w b hb, E1.gn⟩
      have he' := hs2 G1 _ H1 σ1 τ S1u
      cases e1' : pre none (f2 σ1) σ1 with
      | bad => rw [e1'] at en; exact en.elim
      | exc c σ2 =>
        rw [e1'] at en he'
        exact he' _ fun G' W' H' S' E' => en G' W' H' τ S' (E1u.trans E') fun _ _ => rfl
      | ok d σ2 =>
        rw [e1'] at en he'
        refine he' _ fun G2 W2 H2 y S2 E2 p2 => ?_
        obtain ⟨x, rfl, rx⟩ := p2
        replace en : EndS X.K xv Wx fx D G W H τ (match some x, (getO σ2 i).bind asTr with
          | some x, some xs => if xs.length < SZ then .ok .nx (σ2.set i (some (.tr (xs ++ [.tp [.lst ys, .val x]])))) else .bad
          | _, _ => .bad) := en
        cases e2 : (getO σ2 i).bind asTr with
        | none => rw [e2] at en; exact en.elim
        | some xs =>
        rw [e2] at en
        replace en : EndS X.K xv Wx fx D G W H τ (if xs.length < SZ then .ok .nx (σ2.set i (some (.tr (xs ++ [.tp [.lst ys, .val x]])))) else .bad) := en
        by_cases hz : xs.length < SZ
        · rw [if_pos hz] at en
          obtain ⟨o2, a2, vs, eo2, h2, wa2, ha2, r2⟩ := S2.asTr e2
          rw [k1] at h2
          cases h2
          have E := E1u.trans E2
          have hp2 : H2 p0 = some (.lst us) := by rw [E2.keep p0 (by rw [hp0]; simp) unown_same, hp0]
          have w2 : W2 p0 = none := by
            cases q : W2 p0 with
            | none => rfl
            | some z =>
              rcases E2.w p0 (by rw [q]; simp) with y | y
              · exact absurd unown_same y
              · rw [hp0] at y; cases y
          have g2 : G2 p0 = none := by
            cases q : G2 p0 with
            | none => rfl
            | some z =>
              rcases E2.gn p0 (by rw [q]; simp) with y | y | y
              · exact absurd (S1.gw _ _ w0) y
              · exact absurd unown_same y
              · rw [hp0] at y; cases y
          refine ⟨by show 2 ≤ sizeLine; decide, fun p hp => ?_⟩
          have pne : p0 ≠ p := fun z => by rw [z, hp] at hp2; cases hp2
          have ane : a ≠ p := fun z => by rw [z, hp] at ha2; cases ha2
          have a0ne : a ≠ p0 := fun z => by rw [z, w2] at wa2; cases wa2
          have wp : W2 p = none := by
            cases q : W2 p with
            | none => rfl
            | some z => exact absurd hp (S2.hw _ _ q)
          have gp : G2 p = none := S2.gh.free hp
          refine ⟨a, vs, .ref p, rfl, rfl, by rw [upd_ne ane]; exact ha2, by rw [← r2.len, szl]; exact hz, ?_⟩
          let W3 : Own? := own (own W2 p [i + 1, xs.length]) p0 [i + 1, xs.length, 0]
          have W3p0 : W3 p0 = some [i + 1, xs.length, 0] := own_same
          have W3p : W3 p = some [i + 1, xs.length] := (own_ne pne.symm).trans own_same
          have W3o : ∀ b, b ≠ p → b ≠ p0 → W3 b = W2 b := fun b x1 x2 => (own_ne x2).trans (own_ne x1)
          have own2 : ∀ b q, W2 b = some q → b ≠ p ∧ b ≠ p0 := fun b q z => ⟨fun y => (by rw [y, wp] at z; cases z), fun y => (by rw [y, w2] at z; cases z)⟩
          have H4o : ∀ b, b ≠ p → b ≠ a → upd (upd H2 p (.tup [V.ref p0, y])) a (.lst (vs ++ [V.ref p])) b = H2 b := fun b x1 x2 => by rw [upd_ne x2, upd_ne x1]
          have hi : i < σ2.length := getO_lt eo2
          refine en G2 W3 _ τ ⟨fun b u q => ?_, fun b q z => ?_, fun b q z => ?_, fun j o' ej => ?_, by rw [List.length_set]; exact S2.len⟩ ⟨E.g, fun b hb hw => ?_, fun b hb => ?_, fun b hb => ?_, E.gn⟩ fun _ _ => rfl
          · rw [H4o b (fun z => by rw [z, gp] at q; cases q) (fun z => by rw [z, S2.gw _ _ wa2] at q; cases q)]
            exact S2.gh _ _ q
          · by_cases c0 : b = p0
            · rw [c0]; exact g2
            · by_cases c : b = p
              · rw [c]; exact gp
              · rw [W3o b c c0] at z; exact S2.gw _ _ z
          · by_cases ca : b = a
            · rw [ca, upd_same]; simp
            · rw [upd_ne ca]
              by_cases c : b = p
              · rw [c, upd_same]; simp
              · rw [upd_ne c]
                by_cases c0 : b = p0
                · rw [c0, hp2]; simp
                · rw [W3o b c c0] at z; exact S2.hw _ _ z
          · by_cases z : i = j
            · subst z
              rw [getO_set hi] at ej
              cases ej
              refine ⟨_, k1, .tr (by rw [W3o a ane a0ne]; exact wa2) upd_same (OwnL.snoc (OwnL.renC (Same.refl _) (fun b c q eb => ?_) r2) ?_)⟩
              · obtain ⟨n1, n2⟩ := own2 b _ eb
                refine ⟨(W3o b n1 n2).trans eb, H4o b n1 fun y => ?_⟩
                rw [y, wa2] at eb
                have := congrArg List.length (Option.some.inj eb)
                simp at this
              · rw [Nat.zero_add]
                refine .tp W3p (by rw [upd_ne ane.symm, upd_same]) (.cons (.lst W3p0 ?_ (r0.mono E2.g)) (.cons (.val rx) .nil))
                rw [H4o p0 pne a0ne.symm]
                exact hp2
            · rw [getO_set_ne z] at ej
              obtain ⟨v', h3, h4⟩ := S2.sl j o' ej
              refine ⟨v', h3, h4.ren (Same.refl _) fun b q eb => ?_⟩
              obtain ⟨n1, n2⟩ := own2 b _ eb
              refine ⟨(W3o b n1 n2).trans eb, H4o b n1 fun y => ?_⟩
              rw [y, wa2] at eb
              have := Option.some.inj eb
              injection this with t1 t2
              omega
          · have q := E.keep b hb hw
            rw [H4o b (fun z => by rw [z, hp] at q; rw [← z] at q; exact hb q.symm) (fun z => by rw [z, wa] at hw; cases hw)]
            exact q
          · have q := E.there b hb
            by_cases ca : b = a
            · rw [ca, upd_same]; simp
            · rw [upd_ne ca]
              by_cases c : b = p
              · rw [c, upd_same]; simp
              · rw [upd_ne c]; exact q
          · by_cases c0 : b = p0
            · rw [c0]; exact E1.w p0 (by rw [w0]; simp)
            · by_cases c : b = p
              · refine .inr ?_
                rw [c]
                cases q : H p with
                | none => rfl
                | some u => exact absurd hp (E.there p (by rw [q]; simp))
              · rw [W3o b c c0] at hb
                exact E.w b hb
        · rw [if_neg hz] at en; exact en.elim
end
end PV
set_option maxRecDepth 100000
set_option maxHeartbeats 4000000
namespace PV
open PySem PySem.Spec PyProof.Rows L2
inductive Pnd (K : PySem.W.Frag) (G : Hp) (W : Own?) (H : Hp) : List D → List V → Prop
  | nil : Pnd K G W H [] []
  | cons {xs : List D} {ws : List V} {a : Addr} {ds : List D} {vs : List V} : H a = some (.lst ws) → Reps K G xs ws → G a = none → W a = none → V.ref a ∉ vs → Pnd K G W H ds vs → Pnd K G W H (.lst xs :: ds) (.ref a :: vs)
section
variable {K : PySem.W.Frag} {G G' H H' : Hp} {W W' : Own?} {σ : Sg} {τ : LS}
theorem orphan (E : Ext G W H G' W' H') {a : Addr} (h : H a ≠ none) (g : G a = none) (w : W a = none) : H' a = H a ∧ G' a = none ∧ W' a = none := by
  refine ⟨E.keep a h w, ?_, ?_⟩
  · cases e : G' a with
    | none => rfl
    | some u =>
      rcases E.gn a (by rw [e]; simp) with z | z | z
      · exact absurd g z
      · exact absurd w z
      · exact absurd z h
  · cases e : W' a with
    | none => rfl
    | some u =>
      rcases E.w a (by rw [e]; simp) with z | z
      · exact absurd w z
      · exact absurd z h
theorem Pnd.ext (E : Ext G W H G' W' H') : ∀ {ds : List D} {vs : List V}, Pnd K G W H ds vs → Pnd K G' W' H' ds vs
  | _, _, .nil => .nil
  | _, _, .cons h r g w n p => by
    obtain ⟨x, y, z⟩ := orphan E (by rw [h]; simp) g w
    exact .cons (x.trans h) (r.mono E.g) y z n (Pnd.ext E p)
theorem Pnd.upd {A : Addr} {o : HO} : ∀ {ds : List D} {vs : List V}, V.ref A ∉ vs → Pnd K G W H ds vs → Pnd K G W (L2.upd H A o) ds vs
  | _, _, _, .nil => .nil
  | _, _, h, .cons h1 r g w n p => .cons ((upd_ne fun z => h (by rw [z]; simp)).trans h1) r g w n (Pnd.upd (fun z => h (List.mem_cons_of_mem _ z)) p)
theorem Pnd.len : ∀ {ds : List D} {vs : List V}, Pnd K G W H ds vs → ds.length = vs.length
  | _, _, .nil => rfl
  | _, _, .cons _ _ _ _ _ p => congrArg (· + 1) (Pnd.len p)
theorem Pnd.nob : ∀ {ds : List D} {vs : List V}, Pnd K G W H ds vs → ∀ a, V.ref a ∈ vs → G a = none ∧ W a = none ∧ H a ≠ none
  | _, _, .nil, _, h => by cases h
  | _, _, .cons h r g w n p, b, hb => by
    rcases List.mem_cons.mp hb with e | e
    · injection e with e
      subst e
      exact ⟨g, w, by rw [h]; simp⟩
    · exact Pnd.nob p b e
theorem Pnd.snoc {xs : List D} {ws : List V} {a : Addr} (h : H a = some (.lst ws)) (r : Reps K G xs ws) (g : G a = none) (w : W a = none) : ∀ {ds : List D} {vs : List V}, Pnd K G W H ds vs → V.ref a ∉ vs → Pnd K G W H (ds ++ [.lst xs]) (vs ++ [.ref a])
  | _, _, .nil, _ => .cons h r g w (by simp) .nil
  | _, _, .cons h' r' g' w' n p, hn => .cons h' r' g' w' (by
      intro z
      rcases List.mem_append.mp z with y | y
      · exact n y
      · have : _ = _ := List.mem_singleton.mp y
        exact hn (by rw [this]; simp)) (Pnd.snoc h r g w p fun z => hn (List.mem_cons_of_mem _ z))
def isR (b : Addr) : V → Bool
  | .ref c => decide (c = b)
  | _ => false
def ownR (W : Own?) (A : Addr) (vs : List V) : Own? := fun b => if b = A then some [0] else match vs.findIdx? (isR b) with
  | some k => some [0, k]
  | none => W b
theorem isR_iff {b : Addr} {v : V} : isR b v = true ↔ v = .ref b := by
  cases v <;> simp [isR]
theorem ownR_old {A : Addr} {vs : List V} {b : Addr} (h1 : b ≠ A) (h2 : V.ref b ∉ vs) : ownR W A vs b = W b := by
  unfold ownR
  rw [if_neg h1]
  have : vs.findIdx? (isR b) = none := List.findIdx?_eq_none_iff.mpr fun v hv => by
    cases e : isR b v with
    | false => rfl
    | true => exact absurd (isR_iff.mp e ▸ hv) h2
  rw [this]
theorem ownR_at {A : Addr} : ∀ {pre vs : List V} {b : Addr}, b ≠ A → V.ref b ∉ pre → ownR W A (pre ++ .ref b :: vs) b = some [0, pre.length] := by
  intro pre vs b h1 h2
  unfold ownR
  rw [if_neg h1]
  have : (pre ++ V.ref b :: vs).findIdx? (isR b) = some pre.length := by
    rw [List.findIdx?_append]
    have e1 : pre.findIdx? (isR b) = none := List.findIdx?_eq_none_iff.mpr fun v hv => by
      cases e : isR b v with
      | false => rfl
      | true => exact absurd (isR_iff.mp e ▸ hv) h2
    rw [e1]
    rw [List.findIdx?_cons, isR_iff.mpr rfl]
    simp
  rw [this]
theorem Pnd.own {A : Addr} : ∀ {ds : List D} {vs : List V} (pre : List V), Pnd K G W H ds vs → V.ref A ∉ vs → (∀ v ∈ pre, v ∉ vs) → OwnL K G H (ownR W A (pre ++ vs)) [0] pre.length (ds.map asL) vs
  | _, _, _, .nil, _, _ => .nil
  | _, _, pre, @Pnd.cons _ _ _ _ xs ws a ds vs h r g w n p, hA, hp => by
    have na : a ≠ A := fun z => hA (by rw [z]; simp)
    have np : V.ref a ∉ pre := fun z => hp _ z (by simp)
    refine .cons (.lst ?_ h r) ?_
    · rw [ownR_at na np]; rfl
    · have ih := Pnd.own (A := A) (pre ++ [.ref a]) p (fun z => hA (List.mem_cons_of_mem _ z)) (fun v hv => by
        rcases List.mem_append.mp hv with y | y
        · exact fun z => hp v y (List.mem_cons_of_mem _ z)
        · rw [List.mem_singleton.mp y]; exact n)
      rw [List.append_assoc] at ih
      rw [List.length_append] at ih
      exact ih
theorem ownR_some {A : Addr} {vs : List V} {b : Addr} {p : List Nat} (e : ownR W A vs b = some p) : b = A ∨ V.ref b ∈ vs ∨ W b = some p := by
  unfold ownR at e
  split at e
  · rename_i h; exact .inl h
  · split at e
    · rename_i k h
      obtain ⟨h1, h2, _⟩ := List.findIdx?_eq_some_iff_getElem.mp h
      exact .inr (.inl (by rw [← isR_iff.mp h2]; exact List.getElem_mem h1))
    · exact .inr (.inr e)
end
section
variable {X : Cx} {xv : ExV} {Wx : WX}
theorem compO_core {Xb : Cx} (hKb : Xb.K = X.K) {g : TG} {tg : List Nat} {one : Bool} {tt : TT} {te : TE} {fe : Sg → R O} (hg : SemG Xb tg one g)
    (ht : SemT Xb xv (fun _ _ _ _ => False) tt (fun σ => .ok true σ)) (he : SemE Xb xv (fun _ _ _ _ => False) te fe) {f : D → Sg → R (Option D)} (hf : (fun x σ => match store tg one x (PV.wipes tg σ) with
      | some σ2 => (fe σ2).bind fun o σ3 => match o with
        | .lst ys => R.ok (some (D.lst ys)) σ3
        | _ => .bad
      | none => R.bad) = f) {G1 : Hp} {W1 : Own?} {H1 : Hp} {σ1 σ2 σ4 : Sg} {τ : LS} {xs ys : List D} {J : It} (S1 : Sim X.K G1 W1 H1 σ1 τ) (wk : WalkE X.K G1 W1 H1 J xs)
    (hr : compLoop f xs σ1 = .ok ys σ2) (hu : unwipe tg σ1 (PV.wipes tg σ2) = some σ4) (hz : ys.length ≤ SZ) {Q : V → Hp → Prop} (hx : ∀ G' W' H' v, Sim X.K G' W' H' σ4 τ → Ext G1 W1 H1 G' W' H' → Own X.K G' H' W' [0] (.tr (ys.map asL)) v → Q v H') :
    ∀ D, H1 D = none → ∃ W : Nat → Nat → Hp → Prop, (∃ m, W 0 m (upd H1 D (.lst []))) ∧ ∀ i m H, W i m H →
    (J.stop i H ∧ Q (V.ref D) H) ∨ (J.go i H ∧ ∃ Nx : Hp → Prop, (∀ H', Nx H' → ∃ m', m' < m ∧ W (i + 1) m' H') ∧ ∀ x H', J.yld i H x H' → g x (wipe τ tg) H' fun σ2 H2 => wipe σ2 tg = wipe τ tg ∧ tt σ2 H2 fun b H3 =>
      if b = true then te σ2 H3 fun y H4 => ∃ acc, H4 D = some (.lst acc) ∧ acc.length < sizeLine ∧ Nx (upd H4 D (.lst (acc ++ [y]))) else Nx H3) := by
  intro A hA
  have gA : G1 A = none := S1.gh.free hA
  have wA : W1 A = none := by
    cases e : W1 A with
    | none => rfl
    | some p => exact absurd hA (S1.hw _ _ e)
  refine ⟨fun i m H' => m = xs.length - i ∧ i ≤ xs.length ∧ ∃ (G' : Hp) (W' : Own?) (σ' : Sg) (as : List D) (vs : List V) (yr : List D), Sim X.K G' W' H' (PV.wipes tg σ') (wipe τ tg) ∧ Ext G1 W1 H1 G' W' H' ∧ H' A = some (.lst vs) ∧ G' A = none ∧ W' A = none ∧ Pnd X.K G' W' H' as vs ∧ V.ref A ∉ vs ∧
    (∀ a, V.ref a ∈ vs → W1 a ≠ none ∨ H1 a = none) ∧ compLoop f (xs.drop i) σ' = .ok yr σ2 ∧ as ++ yr = ys, ⟨xs.length, by simp, Nat.zero_le _, G1, W1, σ1, [], [], ys, (S1.other gA wA).wipes tg, ?_, upd_same, gA, wA, .nil, by simp, by simp, by simpa using hr, rfl⟩, ?_⟩
  · exact (Ext.refl _ _ _).updNew hA
  rintro i m H' ⟨rfl, hle, G', W', σ', as, vs, yr, S', E', hA', gA', wA', ra, nA', fr, er, ey⟩
  obtain ⟨w1, w2⟩ := wk i G' W' H' _ _ E' S'
  by_cases hlt : i < xs.length
  · right
    obtain ⟨go, yl⟩ := w1 _ (List.getElem?_eq_getElem hlt)
    refine ⟨go, fun H2 => ∃ (G' : Hp) (W' : Own?) (σ' : Sg) (as : List D) (vs : List V) (yr : List D), Sim X.K G' W' H2 (PV.wipes tg σ') (wipe τ tg) ∧ Ext G1 W1 H1 G' W' H2 ∧ H2 A = some (.lst vs) ∧ G' A = none ∧ W' A = none ∧ Pnd X.K G' W' H2 as vs ∧ V.ref A ∉ vs ∧
      (∀ a, V.ref a ∈ vs → W1 a ≠ none ∨ H1 a = none) ∧ compLoop f (xs.drop (i + 1)) σ' = .ok yr σ2 ∧ as ++ yr = ys, fun H2 h => ⟨xs.length - (i + 1), by omega, rfl, hlt, h⟩, fun v H2 hy => ?_⟩
    obtain ⟨G2, gr, rx⟩ := yl v H2 hy
    rw [drop_cons hlt] at er
    have er2 : ((f xs[i] σ').bind fun o σ1 => (compLoop f (xs.drop (i + 1)) σ1).bind fun ys σ2 => R.ok (match o with | some y => y :: ys | none => ys) σ2) = .ok yr σ2 := er
    have S2 := S'.grow gr
    have nA : H' A ≠ none := by rw [hA']; simp
    rw [← hf] at er2
    dsimp only at er2
    rw [hf] at er2
    cases es : store tg one xs[i] (PV.wipes tg σ') with
    | none => rw [es] at er2; cases er2
    | some σa =>
      rw [es] at er2
      replace er2 : (((fe σa).bind fun o σ3 => match o with
        | .lst ys => R.ok (some (D.lst ys)) σ3
        | _ => .bad).bind fun o σ1 => (compLoop f (xs.drop (i + 1)) σ1).bind fun ys σ2 => R.ok (match o with | some y => y :: ys | none => ys) σ2) = .ok yr σ2 := er2
      refine hg G2 W' H2 _ _ xs[i] v σa _ (by rw [hKb]; exact S2) (by rw [hKb]; exact rx) es fun τ2 S3 f3 wp => ?_
      refine ⟨by rw [wp, wipe_wipe], ?_⟩
      refine ht G2 W' H2 σa τ2 S3 _ fun G3 W3 H3 c S4 E4 ebc => ?_
      subst ebc
      rw [if_pos rfl]
      have E34 : Ext G' W' H' G3 W3 H3 := gr.ext.trans E4
      have he' := he G3 W3 H3 σa τ2 S4
      cases epf : fe σa with
      | bad => rw [epf] at er2; cases er2
      | exc c σ5 => rw [epf] at er2; cases er2
      | ok o σ5 =>
        rw [epf] at er2 he'
        refine he' _ fun G5 W5 H5 y S5 E5 p5 => ?_
        cases o with
        | lst zs =>
          replace er2 : ((compLoop f (xs.drop (i + 1)) σ5).bind fun ys σ2 => R.ok (D.lst zs :: ys) σ2) = .ok yr σ2 := er2
          rw [hKb] at S5 p5
          cases p5 with
          | @lst _ a ws _ wa ha rz =>
            have E35 : Ext G' W' H' G5 W5 H5 := E34.trans E5
            obtain ⟨q1, q2, q3⟩ := orphan E35 nA gA' wA'
            rw [hA'] at q1
            have na : a ≠ A := fun z => by rw [z, q3] at wa; cases wa
            have ga : G5 a = none := S5.gw _ _ wa
            have S6 : Sim X.K G5 (unown W5 a) H5 σ5 τ2 := by
              refine ⟨S5.gh, fun b p e => ?_, fun b p e => ?_, fun j o e => ?_, S5.len⟩
              · by_cases z : b = a
                · rw [z]; exact ga
                · rw [unown_ne z] at e; exact S5.gw _ _ e
              · by_cases z : b = a
                · rw [z, ha]; simp
                · rw [unown_ne z] at e; exact S5.hw _ _ e
              · obtain ⟨v', h1, h2⟩ := S5.sl j o e
                refine ⟨v', h1, h2.move (Same.refl _) fun b q eb => ⟨(unown_ne fun z => ?_).trans eb, rfl⟩⟩
                rw [z, wa] at eb
                have := Option.some.inj eb
                injection this with t1 t2
                omega
            have E56 : Ext G5 W5 H5 G5 (unown W5 a) H5 := ⟨Same.refl _, fun _ _ _ => rfl, fun _ h => h, fun b hb => by
              by_cases z : b = a
              · rw [z, unown_same] at hb; exact absurd rfl hb
              · rw [unown_ne z] at hb; exact .inl hb, fun b hb => .inl hb⟩
            have E36 := E35.trans E56
            have ra6 := ra.ext E36
            have n6 : V.ref a ∉ vs := fun z => by
              have := ((ra.ext E35).nob a z).2.1
              rw [wa] at this; cases this
            have h1a : W1 a ≠ none ∨ H1 a = none := (E'.trans E35).w a (by rw [wa]; simp)
            cases ec : compLoop f (xs.drop (i + 1)) σ5 with
            | bad => rw [ec] at er2; cases er2
            | exc c σ6 => rw [ec] at er2; cases er2
            | ok y6 σ6 =>
              rw [ec] at er2
              cases er2
              have hl : vs.length < sizeLine := by
                rw [← ra.len, szl]
                have : ys.length = as.length + (y6.length + 1) := by rw [← ey, List.length_append, List.length_cons]
                have hz' : ys.length ≤ 16777216 := hz
                omega
              have S7 : Sim X.K G5 (unown W5 a) H5 (PV.wipes tg σ5) (wipe τ tg) := by
                have := Sim.wipes S6 tg
                rw [wp, wipe_wipe] at this
                exact this
              have q6 : unown W5 a A = none := (unown_ne fun z => na z.symm).trans q3
              refine ⟨vs, q1, hl, G5, unown W5 a, σ5, as ++ [.lst zs], vs ++ [.ref a], y6, S7.other q2 q6, (E'.trans E36).updNew hA, upd_same, q2, q6, ?_, ?_, ?_, ec, by rw [← ey, List.append_assoc]; rfl⟩
              · exact Pnd.snoc (ws := ws) (by rw [upd_ne na]; exact ha) rz ga unown_same (Pnd.upd nA' ra6) n6
              · intro z
                rcases List.mem_append.mp z with y | y
                · exact nA' y
                · have : V.ref A = V.ref a := List.mem_singleton.mp y
                  injection this with t
                  exact na t.symm
              · intro b hb
                rcases List.mem_append.mp hb with y | y
                · exact fr b y
                · have : V.ref b = V.ref a := List.mem_singleton.mp y
                  injection this with t
                  rw [t]; exact h1a
        | _ => cases er2
  · left
    refine ⟨w2 (by omega), ?_⟩
    rw [List.drop_eq_nil_of_le (by omega)] at er
    cases er
    rw [List.append_nil] at ey
    subst ey
    obtain ⟨u1, u2⟩ := unwipe_sim S1 E'.g S' (fun i hi => wipes_none hi) (fun _ h => h) hu
    have S4 : Sim X.K G' W' H' σ4 τ := ⟨S'.gh, S'.gw, S'.hw, u1, by rw [u2, S'.len, wipe_length]⟩
    have ow := ra.own (A := A) [] nA' (by simp)
    rw [List.nil_append] at ow
    refine hx G' (ownR W' A vs) H' (.ref A) ⟨S4.gh, fun b p e => ?_, fun b p e => ?_, fun j o e => ?_, S4.len⟩ ⟨E'.g, E'.keep, E'.there, fun b hb => ?_, E'.gn⟩ (.tr (if_pos rfl) hA' ow)
    · rcases ownR_some e with z | z | z
      · rw [z]; exact gA'
      · exact (ra.nob b z).1
      · exact S4.gw _ _ z
    · rcases ownR_some e with z | z | z
      · rw [z, hA']; simp
      · exact (ra.nob b z).2.2
      · exact S4.hw _ _ z
    · obtain ⟨v, h1, h2⟩ := S4.sl j o e
      refine ⟨v, h1, h2.move (Same.refl _) fun b q eb => ⟨(ownR_old (fun z => by rw [z, wA'] at eb; cases eb) fun z => ?_).trans eb, rfl⟩⟩
      have := (ra.nob b z).2.1
      rw [this] at eb; cases eb
    · obtain ⟨p, hp⟩ := Option.ne_none_iff_exists'.mp hb
      rcases ownR_some hp with z | z | z
      · exact .inr (by rw [z]; exact hA)
      · exact fr b z
      · exact E'.w b (by rw [z]; simp)
theorem sem_compO {Xb : Cx} (hKb : Xb.K = X.K) {wi : TI} {fi : Sg → R (List D)} {g : TG} {tg : List Nat} {one : Bool} {tt : TT} {te : TE} {fe : Sg → R O} (hi : SemI X xv Wx wi fi) (hg : SemG Xb tg one g)
    (ht : SemT Xb xv (fun _ _ _ _ => False) tt (fun σ => .ok true σ)) (he : SemE Xb xv (fun _ _ _ _ => False) te fe) :
    SemE X xv Wx (tLc wi g tt te tg) (fun σ => (fi σ).bind fun xs σ1 => noExc ((compLoop (fun x σ => match store tg one x (wipes tg σ) with
      | some σ2 => (fe σ2).bind fun o σ3 => match o with
        | .lst ys => .ok (some (.lst ys)) σ3
        | _ => .bad
      | none => .bad) xs σ1).bind fun ys σ2 => match unwipe tg σ1 (wipes tg σ2) with
      | some σ4 => if ys.length ≤ SZ then .ok (.tr (ys.map asL)) σ4 else .bad
      | none => .bad)) := by
  intro G W H σ τ S
  generalize hf : (fun x σ => match store tg one x (PV.wipes tg σ) with
      | some σ2 => (fe σ2).bind fun o σ3 => match o with
        | .lst ys => R.ok (some (D.lst ys)) σ3
        | _ => .bad
      | none => R.bad) = f
  refine At.bind (tr2 := fun J H1 Q => ∀ D, H1 D = none → ∃ W : Nat → Nat → Hp → Prop, (∃ m, W 0 m (upd H1 D (.lst []))) ∧ ∀ i m H, W i m H →
    (J.stop i H ∧ Q (V.ref D) H) ∨ (J.go i H ∧ ∃ Nx : Hp → Prop, (∀ H', Nx H' → ∃ m', m' < m ∧ W (i + 1) m' H') ∧ ∀ x H', J.yld i H x H' → g x (wipe τ tg) H' fun σ2 H2 => wipe σ2 tg = wipe τ tg ∧ tt σ2 H2 fun b H3 =>
      if b = true then te σ2 H3 fun y H4 => ∃ acc, H4 D = some (.lst acc) ∧ acc.length < sizeLine ∧ Nx (upd H4 D (.lst (acc ++ [y]))) else Nx H3)) (hi G W H σ τ S) fun xs σ1 G1 W1 H1 J S1 E1 wk => ?_
  cases hr : compLoop f xs σ1 with
  | bad => exact trivial
  | exc c σ2 => exact trivial
  | ok ys σ2 =>
    show At X.K xv Wx τ G1 W1 H1 (noExc (match unwipe tg σ1 (PV.wipes tg σ2) with | some σ4 => if ys.length ≤ SZ then R.ok (O.tr (ys.map asL)) σ4 else .bad | none => .bad)) _ _
    cases hu : unwipe tg σ1 (PV.wipes tg σ2) with
    | none => exact trivial
    | some σ4 =>
      show At X.K xv Wx τ G1 W1 H1 (noExc (if ys.length ≤ SZ then R.ok (O.tr (ys.map asL)) σ4 else .bad)) _ _
      by_cases hz : ys.length ≤ SZ
      · rw [if_pos hz]
        exact fun Q hx => compO_core hKb hg ht he hf S1 wk.ext hr hu hz hx
      · rw [if_neg hz]
        exact trivial
end
end PV
set_option maxRecDepth 100000
namespace PV
open PySem PySem.Spec PyProof.Rows L2
structure CC where
  sc : Scope
  fn : Str → Bool
  N : List Str
  fx : List Nat
structure Tb where
  fs : List (Nat × Str)
  xs : List (Nat × Str)
  cs : List (Str × D)
  io : Nat → List Nat
  ini : List (Nat × Nat)
  met : List (Nat × Nat × Str)
  xi : List (Str × List Nat) := []
  hd : List (Str × List Nat) := []
def CC.blk (c : CC) (scope : Scope) : CC := ⟨relS scope c.sc, fun x => scope.names.lookup x == some .cell, c.N, []⟩
def vis (sc : Scope) (x : Str) : Bool := match sc.names.lookup x with
  | some .local => true
  | some .cell => true
  | some .free => true
  | _ => false
def glo (sc : Scope) (x : Str) : Bool := match sc.names.lookup x with
  | some .globalImplicit => true
  | _ => false
def sto (c : CC) (x : Str) : Bool := match c.sc.names.lookup x with
  | some .local => true
  | some .cell => c.fn x
  | _ => false
def nmOk (c : CC) (i : Nat) (x : Str) : Bool := c.N[i]? == some x && vis c.sc x && !(x == ("__debug__" : Str)) && !(x == ("__classdict__" : Str))
def stOk (c : CC) (i : Nat) (x : Str) : Bool := c.N[i]? == some x && sto c x
def gnOk (c : CC) (x : Str) : Bool := glo c.sc x && !(x == ("__debug__" : Str)) && !(x == ("__name__" : Str))
def bltNames : List Str := ["len", "list", "tuple", "sorted", "int", "str", "min", "max", "sum", "any", "all", "isinstance", "bool", "range", "enumerate", "zip", "reversed", "set"]
def bfName : Bf → Str
  | .len => "len" | .list => "list" | .tuple => "tuple" | .sorted => "sorted" | .int => "int" | .str => "str" | .min => "min" | .max => "max" | .sum => "sum" | .any => "any" | .all => "all"
def bfDone : Bf → Bool
  | .str => false
  | _ => true
def tyStr (t : Ty) : Str := Str.ofString (tyName t)
def bnOp : Bn → Operator
  | .add => .Add | .sub => .Sub | .mul => .Mult | .mod => .Mod | .div => .FloorDiv | .pow => .Pow | .xor => .BitXor
def cpOp : Cp → CmpOp
  | .eq => .Eq | .ne => .NotEq | .lt => .Lt | .le => .LtE | .gt => .Gt | .ge => .GtE | .is => .Is | .nis => .IsNot | .isin => .In | .nin => .NotIn
def isStar : Expr → Bool
  | .Starred .. => true
  | _ => false
def isSet : Expr → Bool
  | .Set .. => true
  | _ => false
def isSlice : Expr → Bool
  | .Slice .. => true
  | _ => false
def isComp : Expr → Bool
  | .ListComp .. => true
  | .SetComp .. => true
  | .DictComp .. => true
  | _ => false
def isCall : Expr → Bool
  | .Call .. => true
  | _ => false
def isTupE : Expr → Bool
  | .Tuple .. => true
  | .List .. => true
  | _ => false
def tgNames : Expr → Option (List Str)
  | .Name x _ => some [x]
  | .Tuple es _ _ => es.mapM fun e => match e with | .Name x _ => some x | _ => none
  | _ => none
def chkG (c : CC) (tg : List Nat) (one : Bool) : Expr → Bool
  | .Name x _ => one && (match tg with | [i] => stOk c i x | _ => false)
  | .Tuple es _ _ => !one && chkGs c tg es
  | _ => false
where chkGs (c : CC) : List Nat → List Expr → Bool
  | [], [] => true
  | i :: is, .Name x _ :: es => stOk c i x && chkGs c is es
  | _, _ => false
def chkD : List (Tx × Tx) → List (Option Expr) → List Expr → Bool
  | [], [], [] => true
  | p :: r, some (.Constant (.str k) _ _) :: ks, .Constant (.str v) _ _ :: vs => sOf p.1 == k && sOf p.2 == v && chkD r ks vs
  | _, _, _ => false
mutual
def chk (T : Tb) (c : CC) : Ex → Expr → Bool
  | .c (.int i), .Constant (.int j) _ _ => i == j
  | .c (.str s), .Constant (.str z) _ _ => sOf s == z
  | .c (.bl b), .Constant (.bool b') _ _ => b == b'
  | .c .non, .Constant .none _ _ => true
  | .var i, .Name x _ => nmOk c i x
  | .frz i, .Name x _ => nmOk c i x
  | .bor i, .Name x _ => nmOk c i x
  | .glb x d, .Name y _ => gnOk c y && sOf x == y && (T.cs.any fun p => p.1 == y && (match p.2, d with | .int i, .int j => i == j | .str i, .str j => i == j | _, _ => false))
  | .bin op a b, .BinOp l o r _ => bnOp op == o && chk T c a l && chk T c b r
  | .cmp op a b, .Compare l [o] [r] _ => cpOp op == o && !isSet r && chk T c a l && chk T c b r
  | .chain op op' a b d, .Compare l [o, o'] [r, r'] _ => cpOp op == o && cpOp op' == o' && !isSet r' && a.bo.isNone && b.bo.isNone && d.bo.isNone && chk T c a l && chk T c b r && chk T c d r'
  | .chain3 op op' op2 a b d f, .Compare l [o, o', o2] [r, r', r2] _ => cpOp op == o && cpOp op' == o' && cpOp op2 == o2 && !isSet r2 && a.bo.isNone && b.bo.isNone && d.bo.isNone && f.bo.isNone && chk T c a l && chk T c b r && chk T c d r' && chk T c f r2
  | .not a, .UnaryOp .Not e _ => chk T c a e
  | .neg a, .UnaryOp .USub e _ => a.bo.isNone && chk T c a e
  | .and es, .BoolOp .And vs _ => decide (2 ≤ es.length) && chks T c es vs
  | .or es, .BoolOp .Or vs _ => decide (2 ≤ es.length) && chks T c es vs
  | .tup es, .Tuple vs _ _ => chks T c es vs
  | .lst es, .List vs _ => chks T c es vs
  | .ix a b, .Subscript l r _ => !isSlice r && chk T c a l && chk T c b r
  | .sl a lo hi, .Subscript l (.Slice lo' hi' none _) _ => chk T c a l && (match lo' with | none => lo.isNo | some e => !lo.isNo && lo.bo.isNone && chk T c lo e) && (match hi' with | none => hi.isNo | some e => !hi.isNo && hi.bo.isNone && chk T c hi e)
  | .call g es, .Call (.Name x _) vs [] _ => gnOk c x && T.fs.lookup g == some x && !vs.isEmpty && chks T c es vs
  | .bf b es, .Call (.Name x _) vs [] _ => gnOk c x && bfDone b && bfName b == x && !vs.isEmpty && chks T c es vs
  | .isi a t, .Call (.Name x _) [v, .Name y _] [] _ => gnOk c x && gnOk c y && x == ("isinstance" : Str) && y == tyStr t && !isStar v && chk T c a v
  | .mt .join a [e], .Call (.Attribute o m apos) [v] [] pos => m == ("join" : Str) && !isCall o && apos.endLine == pos.line && !isStar v && chk T c a o && chk T c e v
  | .mt .index a [e], .Call (.Attribute o m apos) [v] [] pos => m == ("index" : Str) && !isCall o && apos.endLine == pos.line && !isStar v && chk T c a o && chk T c e v
  | .mt .split a [e], .Call (.Attribute o m apos) [v] [] pos => m == ("split" : Str) && !isCall o && apos.endLine == pos.line && !isStar v && chk T c a o && chk T c e v
  | .mt .part a [e], .Call (.Attribute o m apos) [v] [] pos => m == ("partition" : Str) && !isCall o && apos.endLine == pos.line && !isStar v && chk T c a o && chk T c e v
  | .pop i, .Call (.Attribute (.Name x _) m apos) [] [] pos => m == ("pop" : Str) && apos.endLine == pos.line && nmOk c i x
  | .fz a, e => a.bo.isNone && chk T c a e
  | .callO g es, .Call (.Name x _) vs [] _ => gnOk c x && T.fs.lookup g == some x && !vs.isEmpty && chks T c es vs && ownUniq es && es.all (fun e => match e with | .own i => !(bors es).contains i | _ => true) && T.io g == ownPos es 0
  | .own i, .Name x _ => nmOk c i x
  | .mv i, .Name x _ => nmOk c i x
  | .frzT i, .Name x _ => nmOk c i x
  | .lnP i ks, .Call (.Name x _) [v] [] _ => gnOk c x && x == ("len" : Str) && !isStar v && chkP T c i ks v
  | .trev a, .Call (.Name x _) [.Call (.Name y _) [v] [] _] [] _ => gnOk c x && gnOk c y && x == ("tuple" : Str) && y == ("reversed" : Str) && !isStar v && chk T c a v
  | .dnew _, .Dict [] [] _ => true
  | .dget i k, .Subscript (.Name x _) ke _ => nmOk c i x && !isSlice ke && k.bo.isNone && chk T c k ke
  | .din i k, .Compare ke [.In] [.Name x _] _ => nmOk c i x && k.bo.isNone && chk T c k ke
  | .dnin i k, .Compare ke [.NotIn] [.Name x _] _ => nmOk c i x && k.bo.isNone && chk T c k ke
  | .dix kvs k, .Subscript (.Dict ks vs _) ke _ => decide (kvs.length ≤ 15) && !kvs.isEmpty && chkD kvs ks vs && !isSlice ke && k.bo.isNone && chk T c k ke
  | .comp elt tg one it cond, .ListComp e [⟨tgt, iter, ifs, 0⟩] scope _ => (match tgNames tgt with | some ns => decide (ns.length = tg.length) && blkC c.N c.sc scope (ns.zip tg) | none => false) &&
      chkI T c it iter && (one || isTupE tgt) && chkG (c.blk scope) tg one tgt && !isSet iter && elt.bo.isNone && cond.bo.isNone && chk T (c.blk scope) elt e && (match ifs with | [] => cond.isNo | [e] => !cond.isNo && chk T (c.blk scope) cond e | _ => false) && (one || !(match tgt with | .List .. => true | _ => false)) && (match it with | .enum _ => !one | .zip _ _ => !one | _ => true)
  | .lvals i, .Call (.Name x _) [.Call (.Attribute (.Name y _) m apos) [] [] cpos] [] _ => gnOk c x && x == ("list" : Str) && m == ("values" : Str) && nmOk c i y && apos.endLine == cpos.line
  | .skey i, .Call (.Name x _) [.Call (.Attribute (.Name y _) m apos) [] [] cpos] [] _ => gnOk c x && x == ("sorted" : Str) && m == ("keys" : Str) && nmOk c i y && apos.endLine == cpos.line
  | .sset a, .Call (.Name x _) [.Call (.Name y _) [v] [] _] [] _ => gnOk c x && gnOk c y && x == ("sorted" : Str) && y == ("set" : Str) && !isStar v && a.bo.isNone && chk T c a v
  | .dnew1 i b, .Dict [some (.Name x _)] [.Constant (.bool b') _ _] _ => nmOk c i x && b == b'
  | .compH k elt tg one cond, .ListComp e [⟨tgt, iter, ifs, 0⟩] scope _ => (match tgNames tgt with | some ns => decide (ns.length = tg.length) && blkC c.N c.sc scope (ns.zip tg) | none => false) &&
      (match iter with | .Name x _ => nmOk c k x | _ => false) && (one || isTupE tgt) && chkG (c.blk scope) tg one tgt && !isSet iter && elt.bo.isNone && cond.bo.isNone && chk T (c.blk scope) elt e && (match ifs with | [] => cond.isNo | [e] => !cond.isNo && chk T (c.blk scope) cond e | _ => false) && (one || !(match tgt with | .List .. => true | _ => false))
  | .ixP i ks k, .Subscript l ke _ => !isSlice ke && k.bo.isNone && chkP T c i ks l && chk T c k ke
  | .dgetP i ks k, .Subscript l ke _ => !isSlice ke && k.bo.isNone && chkP T c i ks l && chk T c k ke
  | .dinP i ks k, .Compare ke [.In] [e] _ => k.bo.isNone && !isSet e && chkP T c i ks e && chk T c k ke
  | .dninP i ks k, .Compare ke [.NotIn] [e] _ => k.bo.isNone && !isSet e && chkP T c i ks e && chk T c k ke
  | .lstP i ks, .Call (.Name x _) [v] [] _ => gnOk c x && x == ("list" : Str) && !isStar v && chkP T c i ks v
  | .mvF i cc f, .Attribute (.Name x _) m _ => nmOk c i x && (clFd cc)[f]? == some m
  | .mk cc g es, .Call (.Name x _) vs [] _ => gnOk c x && x == clNm cc && T.ini.contains (cc, g) && T.io g == [0] && chks T c es vs
  | .callM cc g es, .Call (.Attribute (.Name x px) m apos) vs [] pos => T.met.contains (cc, g, m) && !(clFd cc).contains m && (match es with | .own i :: _ => nmOk c i x | _ => false) && chks T c es (.Name x px :: vs) && (apos.endLine == pos.line && decide (vs.length < 29)) && ownUniq es && es.all (fun e => match e with | .own i => !(bors es).contains i | _ => true) && T.io g == ownPos es 0
  | .lrng a, .Call (.Name x _) [.Call (.Name y _) [v] [] _] [] _ => gnOk c x && gnOk c y && x == ("list" : Str) && y == ("range" : Str) && !isStar v && a.bo.isNone && chk T c a v
  | .lrev a, .Call (.Name x _) [.Call (.Name y _) [v] [] _] [] _ => gnOk c x && gnOk c y && x == ("list" : Str) && y == ("reversed" : Str) && !isStar v && chk T c a v
  | .rep a k, .BinOp (.List [e] _) .Mult r _ => a.bo.isNone && k.bo.isNone && !isStar e && chk T c a e && chk T c k r
  | .compO elt tg one it, .ListComp e [⟨tgt, iter, [], 0⟩] scope _ => (match tgNames tgt with | some ns => decide (ns.length = tg.length) && blkC c.N c.sc scope (ns.zip tg) | none => false) &&
      chkI T c it iter && (one || isTupE tgt) && chkG (c.blk scope) tg one tgt && !isSet iter && chk T (c.blk scope) elt e && (one || !(match tgt with | .List .. => true | _ => false)) && (match it with | .enum _ => !one | .zip _ _ => !one | _ => true)
  | _, _ => false
termination_by structural x => x
def chkP (T : Tb) (c : CC) (i : Nat) : List Ex → Expr → Bool
  | [], .Name x _ => nmOk c i x
  | .fld cc f :: ks, .Attribute l m _ => (clFd cc)[f]? == some m && !isCall l && chkP T c i ks l
  | k :: ks, .Subscript l ke _ => !isSlice ke && k.bo.isNone && (match k with | .fld _ _ => false | _ => true) && chk T c k ke && chkP T c i ks l
  | _, _ => false
termination_by structural x => x
def chks (T : Tb) (c : CC) : List Ex → List Expr → Bool
  | [], [] => true
  | a :: as, e :: es => !isStar e && chk T c a e && chks T c as es
  | _, _ => false
termination_by structural x => x
def chkI (T : Tb) (c : CC) : Ex → Expr → Bool
  | .seq a, e => a.bo.isNone && chk T c a e
  | .rng es, .Call (.Name x _) vs [] _ => gnOk c x && x == ("range" : Str) && (decide (vs.length = 1) || decide (vs.length = 2) || decide (vs.length = 3)) && chks T c es vs
  | .enum a, .Call (.Name x _) [v] [] _ => gnOk c x && x == ("enumerate" : Str) && !isStar v && a.bo.isNone && chk T c a v
  | .zip a b, .Call (.Name x _) [v, w] [] _ => gnOk c x && x == ("zip" : Str) && !isStar v && !isStar w && a.bo.isNone && b.bo.isNone && chk T c a v && chk T c b w
  | .rev a, .Call (.Name x _) [v] [] _ => gnOk c x && x == ("reversed" : Str) && !isStar v && a.bo.isNone && chk T c a v
  | _, _ => false
termination_by structural x => x
end
end PV
set_option maxRecDepth 100000
set_option maxHeartbeats 4000000
namespace PV
open PySem PySem.Spec PyProof.Rows L2
section syn
variable {env : PySem.Env}
theorem star_of {e : Expr} {es : List Expr} (h : isStar e = false) : starEach (e :: es) env = (false, eval e env) :: starEach es env := by
  cases e <;> first | rfl | cases h
theorem behind_of {e : Expr} {op : CmpOp} (h : isSet e = false) : behindInMarks op e = false := by
  cases e <;> first | rfl | cases h
theorem folded_of {e : Expr} (h : isSet e = false) : ∀ x, foldedSetIterable e env x = pure x := by
  intro x
  cases e <;> first | rfl | cases h
theorem nosl_of {e : Expr} (h : isSlice e = false) : NoSl e := by
  intro o i
  cases e <;> first | rfl | cases h
theorem plainIx_of {e : Expr} (h : isSlice e = false) : PlainIx e := by
  intro o i
  cases e <;> first | rfl | cases h
theorem base_of {e : Expr} {m : Str} (h : isCall e = false) : attributeBase e m env (eval e env) = eval e env := by
  cases e <;> first | rfl | cases h
theorem swaps_of {e : Expr} {t : Option Expr} {l : Nat} (h : isComp e = false) : swapsWith e t l env = pure false := by
  cases e <;> first | rfl | cases h
theorem backTo_plain {es : List Expr} {pos : Pos} (h : ∀ e ∈ es, isStar e = false) : (backTo pos (starEach es env)).any (·.1) = false := by
  induction es with
  | nil => rfl
  | cons e es ih =>
    rw [star_of (h e (by simp))]
    have ih' := ih fun x hx => h x (List.mem_cons_of_mem _ hx)
    simpa [backTo] using ih'
end syn
structure Good (T : Tb) (ar : Nat → Nat) (io : Nat → List Nat) (F : Fn) (n : Nat) (xv : ExV) (X : Cx) (c : CC) (Wx : WX) : Prop where
  calm : X.calm = true
  room : Room (n + 1) X.A
  tk : Takes X Wx
  nd : X.N.Nodup
  hN : X.N = c.N
  hsc : X.env.scope = c.sc
  hfn : X.fn = c.fn
  blt : ∀ x ∈ bltNames, X.mg x = none
  fns : ∀ g x, T.fs.lookup g = some x → ∃ f fd ps, X.mg x = some (.ref f) ∧ PySem.W.keepIn X.K (.ref f) = true ∧ Binds X.K fd ps [] ∧ FnOk X.prog X.w X.K X.mg X.base (L2.CX X.prog X.w) n f fd ps (spOf X.K xv (ar g) (io g) (F g))
  ars : ∀ g as, (∀ r os, F g as = .ok r os → as.length = ar g) ∧ ∀ c os, F g as = .exc c os → as.length = ar g
  tio : ∀ g, T.io g = io g
  cst : ∀ x d, (x, d) ∈ T.cs → ∃ u v, X.mg x = some u ∧ RelV v u ∧ ∀ G, Rep X.K G d v
  ini : ∀ cc g, T.ini.contains (cc, g) = true → ∃ f fd ps, ClK X.K cc ∧ X.mg (clNm cc) = some (.ref (clA X.K cc)) ∧ Mk X.K (clA X.K cc) f ∧ Binds X.K fd ps [] ∧ FnOk X.prog X.w X.K X.mg X.base (L2.CX X.prog X.w) n f fd ps (spOf X.K xv (ar g) (io g) (F g))
  met : ∀ cc g m, T.met.contains (cc, g, m) = true → ∃ f fd ps, ClK X.K cc ∧ Meth X.K (clA X.K cc) m f ∧ Binds X.K fd ps [] ∧ FnOk X.prog X.w X.K X.mg X.base (L2.CX X.prog X.w) n f fd ps (spOf X.K xv (ar g) (io g) (F g))
section
variable {X : Cx} {CX : CXT} {k : Nat} {f C : Addr} {fd : FuncData} {ps : List Str} {sp : Sp} {E : L2.St → XK} {x m : Str} {p pos apos : Pos} {e o : Expr} {es : List Expr} {ta : TE} {t : TA}
theorem pe_methC {pl : Sem Bool} (he : PE X o ta) (c : Cls X.K C) (hm : Meth X.K C m f) (F : FnOk X.prog X.w X.K X.mg X.base CX k f fd ps sp) (hr : Room k X.A) (hb : Binds X.K fd ps []) (hx : ∀ σ, PassesAt CX X σ (E σ)) (ha : PA X (e :: es) t)
    (hst : starEach (e :: es) X.env = (false, eval e X.env) :: starEach es X.env) (hpl : (backTo pos (starEach es X.env)).any (·.1) = false)
    (ht : eval (.Call (.Attribute o m apos) (e :: es) [] pos) X.env = (do
      let ov ← eval o X.env
      standAt apos.atName
      let (f, first) ← holding [ov] (getMethod ov m pl)
      callWith pos f first (backTo pos (starEach (e :: es) X.env)) (backToKw pos (keywordEach [] X.env)))) :
    PE X (.Call (.Attribute o m apos) (e :: es) [] pos) (L2H.tMethH C m sp E ta t) := by
  refine ⟨fun pins s σ H Q I h => ?_⟩
  refine PySem.W.methodCall_KW (pl := pl) (thn (he.run pins s σ H _ I h) fun u s1 ⟨x, H1, I1, rx, a, dx, fs, ex, ea, l, q⟩ => ?_) ht
  subst ex
  obtain rfl : u = Value.ref a := rx
  refine getmeth_ok I1 ea c hm l ?_
  refine PySem.W.callWith_K (first := [.ref a]) (h₀ := X.base) I.ok.mod.kin hm.kp (thn (ha.run pos pins s1 σ H1 _ I1 q) fun us s2 ⟨vs, H2, I2, r, q2⟩ => ⟨I2.kIn, ?_⟩) hst hpl
  exact run_fnS (us := .ref a :: us) (vs := .ref a :: vs) F hr hb (hx σ) I2 (.cons rfl r) q2
theorem pe_methC0 {pl : Sem Bool} (he : PE X o ta) (c : Cls X.K C) (hm : Meth X.K C m f) (F : FnOk X.prog X.w X.K X.mg X.base CX k f fd ps sp) (hr : Room k X.A) (hb : Binds X.K fd ps []) (hx : ∀ σ, PassesAt CX X σ (E σ))
    (ht : eval (.Call (.Attribute o m apos) [] [] pos) X.env = (do
      let ov ← eval o X.env
      standAt apos.atName
      let (f, first) ← holding [ov] (getMethod ov m pl)
      callWith pos f first (backTo pos (starEach [] X.env)) (backToKw pos (keywordEach [] X.env)))) :
    PE X (.Call (.Attribute o m apos) [] [] pos) (L2H.tMethH C m sp E ta tNil) := by
  refine ⟨fun pins s σ H Q I h => ?_⟩
  refine PySem.W.methodCall_KW (pl := pl) (thn (he.run pins s σ H _ I h) fun u s1 ⟨x, H1, I1, rx, a, dx, fs, ex, ea, l, q⟩ => ?_) ht
  subst ex
  obtain rfl : u = Value.ref a := rx
  refine getmeth_ok I1 ea c hm l ?_
  exact PySem.W.callWith_K0 (first := [.ref a]) I1.kIn hm.kp (run_fnS (us := [.ref a]) (vs := [.ref a]) F hr hb (hx σ) I1 (.cons rfl .nil) q)
theorem plain_all {es : List (Bool × Sem Value)} (h : es.any (·.1) = false) : es.all (fun x => !x.1) = true := by
  induction es with
  | nil => rfl
  | cons a es ih =>
    rw [List.any_cons, Bool.or_eq_false_iff] at h
    rw [List.all_cons, ih h.2, h.1]
    rfl
theorem meth_ht {o : Expr} {m : Str} {apos pos : Pos} {es : List Expr} {env : PySem.Env} (hb : attributeBase o m env (eval o env) = eval o env) (hf : methodCallForm (es.length + ([] : List Keyword).length) (backTo pos (starEach es env)) (backToKw pos (keywordEach [] env)) = true) (hl : (apos.endLine == pos.line) = true) :
    eval (.Call (.Attribute o m apos) es [] pos) env = (do
      let ov ← eval o env
      standAt apos.atName
      let (f, first) ← holding [ov] (getMethod ov m (do return (← importBound o env).getD true))
      callWith pos f first (backTo pos (starEach es env)) (backToKw pos (keywordEach [] env))) := by
  have hpos : methodCallPos true o env apos pos = pure pos := by unfold methodCallPos; simp [hl]
  rw [arm_eval_Call, hb]
  unfold methodCall calleeOf
  rw [hf, hpos]
  rfl
theorem passes_no : Passes (L2.CX X.prog X.w) X (fun _ _ _ => False) := fun _ _ _ _ _ _ _ c => by
  obtain ⟨_, _, _, _, _, _, _, _, _, _, _, _, z⟩ := c
  exact z.elim
end
section
variable {T : Tb} {ar : Nat → Nat} {io : Nat → List Nat} {F : Fn} {n : Nat} {xv : ExV} {X : Cx} {c : CC} {Wx : WX}
theorem Good.rm (g : Good T ar io F n xv X c Wx) : Room n X.A := g.room.mono (Nat.le_succ n)
theorem Good.hu (g : Good T ar io F n xv X c Wx) : X.A.units + 64 < cLine := g.room.units
theorem Good.hu65 (g : Good T ar io F n xv X c Wx) : X.A.units + 65 < cLine := by have := g.room.un; omega
theorem andT {a b : Bool} (h : (a && b) = true) : a = true ∧ b = true := Bool.and_eq_true_iff.mp h
theorem notT {a : Bool} (h : (!a) = true) : a = false := by cases a <;> simp_all
theorem Good.vis (g : Good T ar io F n xv X c Wx) {x : Str} (h : PV.vis c.sc x = true) : Vis X.env.scope x := by
  rw [g.hsc]
  unfold PV.vis at h
  unfold L2.Vis
  cases e : c.sc.names.lookup x with
  | none => rw [e] at h; cases h
  | some k =>
    rw [e] at h
    cases k with
    | «local» => exact .inl rfl
    | cell => exact .inr (.inl rfl)
    | free => exact .inr (.inr rfl)
    | _ => cases h
theorem Good.gl (g : Good T ar io F n xv X c Wx) {x : Str} (h : glo c.sc x = true) : Gl X x := by
  show X.env.scope.names.lookup x = some .globalImplicit
  rw [g.hsc]
  unfold glo at h
  cases e : c.sc.names.lookup x with
  | none => rw [e] at h; cases h
  | some k =>
    rw [e] at h
    cases k <;> first | rfl | cases h
theorem Good.sto (g : Good T ar io F n xv X c Wx) {x : Str} (h : PV.sto c x = true) : Loc X.env.scope x ∧ (X.fn x = true ∨ X.env.scope.names.lookup x = some .local) := by
  unfold L2.Loc
  rw [g.hsc, g.hfn]
  unfold PV.sto at h
  cases e : c.sc.names.lookup x with
  | none => rw [e] at h; cases h
  | some k =>
    rw [e] at h
    cases k with
    | «local» => exact ⟨.inl rfl, .inr rfl⟩
    | cell => exact ⟨.inr rfl, .inl h⟩
    | _ => cases h
theorem Good.name (g : Good T ar io F n xv X c Wx) {i : Nat} {x : Str} {pos : Pos} (h : nmOk c i x = true) : PE X (.Name x pos) (tVar i) := by
  unfold nmOk at h
  obtain ⟨h, h4⟩ := andT h
  obtain ⟨h, h3⟩ := andT h
  obtain ⟨h1, h2⟩ := andT h
  exact pe_var (by rw [g.hN]; exact beq_iff_eq.mp h1) (g.vis h2) (notT h3) (notT h4)
theorem Good.gn (g : Good T ar io F n xv X c Wx) {x : Str} (h : gnOk c x = true) : Gl X x ∧ (x == ("__debug__" : Str)) = false ∧ x ≠ "__name__" := by
  unfold gnOk at h
  obtain ⟨h, h3⟩ := andT h
  obtain ⟨h1, h2⟩ := andT h
  exact ⟨g.gl h1, notT h2, fun z => by have := notT h3; rw [z] at this; simp at this⟩
def gOf (K : PySem.W.Frag) (tg : List Nat) (one : Bool) : TG := match one, tg with
  | true, [i] => gName i
  | _, tg => gTup K tg.length (gNames tg)
theorem Good.target (g : Good T ar io F n xv X c Wx) {tg : List Nat} {one : Bool} {e : Expr} (h : chkG c tg one e = true) : PG X e (gOf X.K tg one) ∧ SemG X tg one (gOf X.K tg one) := by
  cases e <;> try (cases h; done)
  case Name x pos =>
    obtain ⟨h1, h2⟩ := andT h
    cases tg with
    | nil => cases h2
    | cons i is =>
      cases is with
      | cons _ _ => cases h2
      | nil =>
        obtain ⟨q1, q2⟩ := andT h2
        obtain ⟨s1, s2⟩ := g.sto q2
        cases one with
        | false => cases h1
        | true => exact ⟨pg_name g.nd (by rw [g.hN]; exact beq_iff_eq.mp q1) s1 s2, semG_one⟩
  case Tuple es k pos =>
    obtain ⟨h1, h2⟩ := andT h
    cases one with
    | true => cases h1
    | false =>
      have key : ∀ (is : List Nat) (es : List Expr), chkG.chkGs c is es = true → PGs X es (gNames is) ∧ (assignEach es X.env).length = is.length ∧ (assignEach es X.env).findIdx? (·.1) = none := by
        intro is
        induction is with
        | nil =>
          intro es h
          cases es with
          | nil => exact ⟨pgs_nil, rfl, rfl⟩
          | cons _ _ => cases h
        | cons i is ih =>
          intro es h
          cases es with
          | nil => cases h
          | cons e es =>
            cases e <;> try (cases h; done)
            rename_i x pos
            obtain ⟨q1, q2⟩ := andT h
            obtain ⟨q3, q4⟩ := andT q1
            obtain ⟨s1, s2⟩ := g.sto q4
            obtain ⟨r1, r2, r3⟩ := ih es q2
            refine ⟨pgs_cons (pg_name g.nd (by rw [g.hN]; exact beq_iff_eq.mp q3) s1 s2) r1, by simp [assignEach, r2], ?_⟩
            show List.findIdx? (·.1) ((false, assign (.Name x pos) X.env) :: assignEach es X.env) = none
            rw [List.findIdx?_cons]
            simp [r3]
      obtain ⟨r1, r2, r3⟩ := key tg es h2
      exact ⟨pg_tup g.calm r1 r2 r3, semG_tup⟩
theorem isTrue_of {e : Expr} (h : (match e with | .UnaryOp .Not _ _ => false | .BoolOp .. => false | .IfExp .. => false | .Compare .. => false | _ => true) = true) : ∀ whole, isTrue e X.env whole = (do let v ← whole; standAt e.pos; holding [v] (truthy v)) := by
  intro whole
  cases e <;> first
    | rfl
    | (cases h; done)
    | (rename_i op a b; cases op <;> first | rfl | (cases h; done))
def itNeeds (a : Ex) (tg : Expr) : Prop := match a with
  | .enum _ => ∃ es k p, tg = .Tuple es k p
  | .zip _ _ => ∃ es k p, tg = .Tuple es k p
  | _ => True
theorem semG_of {tg : List Nat} {one : Bool} : SemG X tg one (gOf X.K tg one) := by
  cases one with
  | false => exact semG_tup
  | true =>
    obtain _ | ⟨i, _ | ⟨j, js⟩⟩ := tg
    · intro G W H σ τ x v σ2 Q S r e h; cases e
    · exact semG_one
    · intro G W H σ τ x v σ2 Q S r e h; cases e
def CompP (F : Fn) (xv : ExV) (X : Cx) (Wx : WX) (a : Ex) (e : Expr) : Prop := match e with
  | .ListComp elt gens scope _ => ∃ (tgt iter : Expr) (ifs : List Expr) (wi : TI) (g : TG) (tt : TT) (te : TE) (own : List (Str × Nat)), gens = [⟨tgt, iter, ifs, 0⟩] ∧ PI X tgt iter wi ∧ BlkOk X.N X.env.scope scope own ∧
      (∀ (s : Shared) (H : Hp) (C : Addr) (cl : List (Str × Addr)) (fp : List Addr), PG (X.blk s H scope (compEnvC scope cl C X.env) fp) tgt g) ∧
      (∀ (s : Shared) (H : Hp) (C : Addr) (cl : List (Str × Addr)) (fp : List Addr), PTs (X.blk s H scope (compEnvC scope cl C X.env) fp) ifs tt) ∧
      (∀ (s : Shared) (H : Hp) (C : Addr) (cl : List (Str × Addr)) (fp : List Addr), PE (X.blk s H scope (compEnvC scope cl C X.env) fp) elt te) ∧
      (∀ x, foldedSetIterable iter X.env x = pure x) ∧ SemE X xv Wx (tLc wi g tt te (own.map (·.2))) (ev F a)
  | _ => True
structure SndE (F : Fn) (xv : ExV) (X : Cx) (Wx : WX) (a : Ex) (e : Expr) : Prop where
  v : PE X e (tE X.K xv Wx (ev F a))
  o : PE X e (tO X.K xv Wx a.bo (ev F a))
  t : PT X e (tT X.K xv Wx (fun σ => tb (ev F a σ)))
  k : CompP F xv X Wx a e
theorem SndE.mk' {a : Ex} {e : Expr} {t : TE} (hb : a.bo = none) (p : PE X e t) (s : SemE X xv Wx t (ev F a)) (hi : ∀ whole, isTrue e X.env whole = (do let v ← whole; standAt e.pos; holding [v] (truthy v)) := by exact isTrue_of rfl) (hk : CompP F xv X Wx a e := by exact trivial) : SndE F xv X Wx a e :=
  ⟨PV.PE.can p s, by rw [hb]; exact PV.PE.canO p s.opd, PV.PT.can (pt_val p hi) s.test, hk⟩
theorem SndE.mkT {a : Ex} {e : Expr} {t : TE} {u : TT} (hb : a.bo = none) (p : PE X e t) (s : SemE X xv Wx t (ev F a)) (q : PT X e u) (s' : SemT X xv Wx u (fun σ => tb (ev F a σ))) (hk : CompP F xv X Wx a e := by exact trivial) : SndE F xv X Wx a e :=
  ⟨PV.PE.can p s, by rw [hb]; exact PV.PE.canO p s.opd, PV.PT.can q s', hk⟩
theorem SndE.none {a : Ex} {e : Expr} (h : SndE F xv X Wx a e) (hb : a.bo.isNone = true) : PE X e (tO X.K xv Wx none (ev F a)) := by
  have := h.o
  cases e1 : a.bo with
  | none => rw [e1] at this; exact this
  | some i => rw [e1] at hb; cases hb
theorem bn_rule (op : Bn) : ∃ r, OpR X (binaryOp (bnOp op)) r ∧ OpS X.K r (binD op) := by
  cases op
  · exact ⟨_, op_addR, ops_add⟩
  · exact ⟨_, op_sub, ops_sub⟩
  · exact ⟨_, op_mul, ops_mul⟩
  · exact ⟨_, op_mod, ops_mod⟩
  · exact ⟨_, op_fdiv, ops_div⟩
  · exact ⟨_, op_pow, ops_pow⟩
  · exact ⟨_, op_xor, ops_xor⟩
theorem cp_rule (g : Good T ar io F n xv X c Wx) (op : Cp) : ∃ r, OpR X (compareOp (cpOp op)) r ∧ OpB X.K r (cmpD op) := by
  have hu := g.hu
  have hu5 := g.hu65
  cases op
  · exact ⟨_, op_eqA hu, ops_eq⟩
  · exact ⟨_, op_neA hu, ops_ne⟩
  · exact ⟨_, op_ltA (by omega), ops_lt⟩
  · exact ⟨_, op_leA (by omega), ops_le⟩
  · exact ⟨_, op_gtA, ops_gt⟩
  · exact ⟨_, op_geA (by omega), ops_ge⟩
  · exact ⟨_, op_isN, ops_is⟩
  · exact ⟨_, op_notN, ops_nis⟩
  · exact ⟨_, op_inB hu5, ops_in⟩
  · exact ⟨_, op_ninB hu5, ops_nin⟩
theorem snd_bf (g : Good T ar io F n xv X c Wx) {b : Bf} {x : Str} (h : bfDone b = true) (hx : bfName b = x) {v : Expr} {vs : List Expr} {t : TA} {p pos : Pos} (hg : gnOk c x = true) (ha : PA X (v :: vs) t) (he : starEach (v :: vs) X.env = (false, eval v X.env) :: starEach vs X.env)
    (hpl : (backTo pos (starEach vs X.env)).any (·.1) = false) : ∃ r, PE X (.Call (.Name x p) (v :: vs) [] pos) (tCB r t) ∧ CaS X.K r (bfD b) := by
  obtain ⟨h1, h2, h3⟩ := g.gn hg
  subst hx
  have hc := g.calm
  cases b <;> try (cases h; done)
  · exact ⟨_, pe_callB (CallR.orC call_len_seq call_len_str) h1 (g.blt _ (by decide +kernel)) (by decide +kernel) ha h3 h2 he hpl, ca_len⟩
  · exact ⟨_, pe_callTy call_list_of h1 (g.blt _ (by decide +kernel)) (by decide +kernel) ha h3 h2 he hpl, ca_list⟩
  · exact ⟨_, pe_callTy call_tuple_of h1 (g.blt _ (by decide +kernel)) (by decide +kernel) ha h3 h2 he hpl, ca_tuple⟩
  · exact ⟨_, pe_callB (CallR.orC cr_sortedI (CallR.orC cr_sortedPO (CallR.orC cr_sortedTx cr_sortedS))) h1 (g.blt _ (by decide +kernel)) (by decide +kernel) ha h3 h2 he hpl, ca_sorted⟩
  · exact ⟨_, pe_callTy call_int1 h1 (g.blt _ (by decide +kernel)) (by decide +kernel) ha h3 h2 he hpl, ca_int⟩
  · exact ⟨_, pe_callB (CallR.orC (call_min2 hc) (cr_min hc)) h1 (g.blt _ (by decide +kernel)) (by decide +kernel) ha h3 h2 he hpl, ca_min⟩
  · exact ⟨_, pe_callB (CallR.orC (call_max2 hc) (cr_max hc)) h1 (g.blt _ (by decide +kernel)) (by decide +kernel) ha h3 h2 he hpl, ca_max⟩
  · exact ⟨_, pe_callB (cr_sum hc) h1 (g.blt _ (by decide +kernel)) (by decide +kernel) ha h3 h2 he hpl, ca_sum⟩
  · exact ⟨_, pe_callB (cr_any hc) h1 (g.blt _ (by decide +kernel)) (by decide +kernel) ha h3 h2 he hpl, ca_any⟩
  · exact ⟨_, pe_callB (cr_all hc) h1 (g.blt _ (by decide +kernel)) (by decide +kernel) ha h3 h2 he hpl, ca_all⟩
theorem ty_boot (t : Ty) : bootBuiltins (tyStr t) = some (.type (tyName t)) := by cases t <;> decide +kernel
theorem ty_in (t : Ty) : tyStr t ∈ bltNames := by cases t <;> decide +kernel
theorem chks_star {T : Tb} {c : CC} : ∀ {as : List Ex} {es : List Expr}, chks T c as es = true → ∀ e ∈ es, isStar e = false
  | [], [], _, e, he => by cases he
  | a :: as, e :: es, h, e', he => by
    obtain ⟨h1, h2⟩ := andT h
    rcases List.mem_cons.mp he with z | z
    · rw [z]; exact notT (andT h1).1
    · exact chks_star h2 e' z
  | [], _ :: _, h, _, _ => by cases h
  | _ :: _, [], h, _, _ => by cases h
theorem chks_len {T : Tb} {c : CC} : ∀ {as : List Ex} {es : List Expr}, chks T c as es = true → as.length = es.length
  | [], [], _ => rfl
  | a :: as, e :: es, h => congrArg (· + 1) (chks_len (andT h).2)
  | [], _ :: _, h => by cases h
  | _ :: _, [], h => by cases h
theorem Good.block (g : Good T ar io F n xv X c Wx) (s : Shared) (H : Hp) (C : Addr) (cl : List (Str × Addr)) (fp : List Addr) (scope : Scope) : Good T ar io F n xv (X.blk s H scope (compEnvC scope cl C X.env) fp) (c.blk scope) (fun _ _ _ _ => False) where
  calm := g.calm
  room := g.room
  tk := takes0
  nd := g.nd
  hN := g.hN
  hsc := by
    show relS scope X.env.scope = relS scope c.sc
    rw [g.hsc]
  hfn := rfl
  blt := g.blt
  fns := g.fns
  ars := g.ars
  tio := g.tio
  cst := g.cst
  ini := g.ini
  met := g.met
theorem lst1 {α : Type} {p : List α} (h : p.length = 1) : ∃ a, p = [a] := by
  cases p with
  | nil => cases h
  | cons a p => cases p with | nil => exact ⟨a, rfl⟩ | cons _ _ => cases h
theorem evs_len : ∀ (es : List Ex) (σ : Sg) (ds : List D) (σ' : Sg), evs F es σ = .ok ds σ' → ds.length = es.length
  | [], σ, ds, σ', h => by cases h; rfl
  | e :: es, σ, ds, σ', h => by
    have h' : ((pre none (ev F e σ) σ).bind fun d σ1 => match d with
      | some x => (evs F es σ1).bind fun xs σ2 => R.ok (x :: xs) σ2
      | none => .bad) = .ok ds σ' := h
    cases e1 : pre none (ev F e σ) σ with
    | bad => rw [e1] at h'; cases h'
    | exc _ _ => rw [e1] at h'; cases h'
    | ok d σ1 =>
      rw [e1] at h'
      cases d with
      | none => cases h'
      | some x =>
        replace h' : ((evs F es σ1).bind fun xs σ2 => R.ok (x :: xs) σ2) = .ok ds σ' := h'
        cases e2 : evs F es σ1 with
        | bad => rw [e2] at h'; cases h'
        | exc _ _ => rw [e2] at h'; cases h'
        | ok xs σ2 =>
          rw [e2] at h'
          cases h'
          exact congrArg (· + 1) (evs_len es σ1 xs _ e2)
theorem snd_bound {a : Ex} {o : Option Expr} (h : (match o with | none => a.isNo | some e => !a.isNo && a.bo.isNone && chk T c a e) = true) (hs : ∀ e, o = some e → chk T c a e = true → SndE F xv X Wx a e) :
    ∃ t, PO X o t ∧ SemB X xv Wx t (fun σ => bnd a.isNo (ev F a σ) σ) := by
  cases o with
  | none =>
    have h' : a.isNo = true := h
    rw [h']
    exact ⟨_, po_none, SemB.no⟩
  | some e =>
    obtain ⟨h1, h2⟩ := andT h
    obtain ⟨h3, h4⟩ := andT h1
    rw [notT h3]
    exact ⟨_, po_some (hs e rfl h2).v, SemB.some tE.sem⟩
theorem tb_fz {r : R O} : tb ((pre none r []).bind fun d σ' => match d with
    | some d => .ok (.val d) σ'
    | none => .bad) = tb r := by
  cases r with
  | ok o σ => cases o <;> first | rfl | (rename_i t _; cases t <;> rfl)
  | _ => rfl
theorem pps_lit {pos : Pos} : ∀ {kvs : List (Tx × Tx)} {ks : List (Option Expr)} {vs : List Expr}, chkD kvs ks vs = true → PPs X pos ks vs (trsOf kvs) ∧ ks.all (·.isSome) = true ∧ ks.length = vs.length ∧ ks.length = kvs.length
  | [], [], [], _ => ⟨pps_nil, rfl, rfl, rfl⟩
  | p :: r, k :: ks, v :: vs, h => by
    cases k with
    | none => cases h
    | some k =>
      cases k <;> try (cases h; done)
      rename_i kc _ _
      cases kc <;> try (cases h; done)
      cases v <;> try (cases h; done)
      rename_i vc _ _
      cases vc <;> try (cases h; done)
      obtain ⟨h, h3⟩ := andT h
      obtain ⟨h1, h2⟩ := andT h
      cases (beq_iff_eq.mp h1); cases (beq_iff_eq.mp h2)
      obtain ⟨a, b, c, d⟩ := pps_lit h3
      exact ⟨pps_cons pe_str pe_str a, by simpa using b, by simp [c], by simp [d]⟩
  | [], [], _ :: _, h => by cases h
  | [], _ :: _, _, h => by cases h
  | _ :: _, [], _, h => by cases h
  | _ :: _, _ :: _, [], h => by simp [chkD] at h
mutual
theorem sndE : ∀ (a : Ex) (e : Expr) {c : CC} {X : Cx} {Wx : WX}, Good T ar io F n xv X c Wx → chk T c a e = true → SndE F xv X Wx a e
  | .c d, e, c, X, Wx, g, h => by
    cases d <;> (cases e <;> try (cases h; done)) <;> (rename_i k _ _ ; cases k <;> try (cases h; done))
    · exact .mk' rfl pe_non (SemE.con fun _ => .non)
    · rename_i b _ _ b'
      cases (beq_iff_eq.mp h)
      exact .mk' rfl pe_bl (SemE.con fun _ => .bl _)
    · rename_i b _ _ b'
      cases (beq_iff_eq.mp h)
      exact .mk' rfl pe_int (SemE.con fun _ => .int _)
    · rename_i b _ _ b'
      cases (beq_iff_eq.mp h)
      exact .mk' rfl pe_str (SemE.con fun _ => .str _)
  | .var i, e, c, X, Wx, g, h => by
    cases e <;> try (cases h; done)
    exact .mk' rfl (g.name h) SemE.var
  | .frz i, e, c, X, Wx, g, h => by
    cases e <;> try (cases h; done)
    exact .mk' rfl (g.name h) SemE.frz
  | .bor i, e, c, X, Wx, g, h => by
    cases e <;> try (cases h; done)
    exact ⟨PV.PE.can (g.name h) (fun _ _ _ _ _ _ => trivial), PV.PE.canO (g.name h) SemO.var, PV.PT.can (pt_val (g.name h) (isTrue_of rfl)) (fun _ _ _ _ _ _ => trivial), trivial⟩
  | .glb x d, e, c, X, Wx, g, h => by
    cases e <;> try (cases h; done)
    rename_i y pos
    obtain ⟨h1, h2⟩ := andT h
    obtain ⟨h3, h4⟩ := andT h1
    obtain ⟨q1, q2, q3⟩ := g.gn h3
    obtain ⟨⟨y', d'⟩, hm, hp⟩ := List.any_eq_true.mp h2
    obtain ⟨p1, p2⟩ := andT hp
    have e1 : y' = y := beq_iff_eq.mp p1
    subst e1
    have e2 : d' = d := by
      cases d' <;> cases d <;> first | (cases p2; done) | (exact congrArg _ (beq_iff_eq.mp p2))
    subst e2
    obtain ⟨u, v, m, r, rp⟩ := g.cst _ _ hm
    exact .mk' rfl (pe_glob q1 m r q2) (SemE.con rp)
  | .bin op a b, e, c, X, Wx, g, h => by
    cases e <;> try (cases h; done)
    rename_i l o r pos
    obtain ⟨h1, h2⟩ := andT h
    obtain ⟨h3, h4⟩ := andT h1
    have e1 : bnOp op = o := by cases op <;> cases o <;> first | rfl | (cases h3; done)
    subst e1
    obtain ⟨rr, p1, p2⟩ := bn_rule (X := X) op
    exact .mk' rfl (pe_op p1 (sndE a l g h4).o (sndE b r g h2).o) (sem_op2 p2 tO.sem tO.sem)
  | .cmp op a b, e, c, X, Wx, g, h => by
    cases e <;> try (cases h; done)
    rename_i l os rs pos
    obtain _ | ⟨o, _ | ⟨_, _⟩⟩ := os <;> (obtain _ | ⟨r, _ | ⟨_, _⟩⟩ := rs) <;> try (cases h; done)
    obtain ⟨h1, h2⟩ := andT h
    obtain ⟨h3, h4⟩ := andT h1
    obtain ⟨h5, h6⟩ := andT h3
    have e1 : cpOp op = o := beq_iff_eq.mp h5
    subst e1
    obtain ⟨rr, p1, p2⟩ := cp_rule g op
    have q1 := (sndE a l g h4 (Wx := Wx)).o
    have q2 := (sndE b r g h2 (Wx := Wx)).o
    have sm := sem_opB p2 (tO.sem (X := X) (xv := xv) (Wx := Wx) (b := a.bo) (f := ev F a)) (tO.sem (b := b.bo) (f := ev F b))
    exact .mkT rfl (pe_cmpR p1 q1 q2 (behind_of (notT h6))) sm (pt_cmpR p1 q1 q2 (behind_of (notT h6))) (SemE.test sm)
  | .chain op op' a b d, e, c, X, Wx, g, h => by
    cases e <;> try (cases h; done)
    rename_i l os rs pos
    obtain _ | ⟨o, _ | ⟨o', _ | ⟨_, _⟩⟩⟩ := os <;> (obtain _ | ⟨r, _ | ⟨r', _ | ⟨_, _⟩⟩⟩ := rs) <;> try (cases h; done)
    obtain ⟨h, k9⟩ := andT h
    obtain ⟨h, k8⟩ := andT h
    obtain ⟨h, k7⟩ := andT h
    obtain ⟨h, k6⟩ := andT h
    obtain ⟨h, k5⟩ := andT h
    obtain ⟨h, k4⟩ := andT h
    obtain ⟨h, k3⟩ := andT h
    obtain ⟨k1, k2⟩ := andT h
    have e1 : cpOp op = o := beq_iff_eq.mp k1
    have e2 : cpOp op' = o' := beq_iff_eq.mp k2
    subst e1
    subst e2
    obtain ⟨r1, p1, p2⟩ := cp_rule g op
    obtain ⟨r2, p3, p4⟩ := cp_rule g op'
    have q1 := (sndE a l g k7 (Wx := Wx)).none k4
    have q2 := (sndE b r g k8 (Wx := Wx)).none k5
    have q3 := (sndE d r' g k9 (Wx := Wx)).none k6
    have hm : lastMarks [cpOp op, cpOp op'] [r, r'] = false := by show behindInMarks _ _ = false; exact behind_of (notT k3)
    have sm := sem_chain p2 p4 (tO.sem (X := X) (xv := xv) (Wx := Wx) (b := none) (f := ev F a)) (tO.sem (b := none) (f := ev F b)) (tO.sem (b := none) (f := ev F d))
    exact .mkT rfl (pe_chain p1 p3 q1 q2 q3 hm) sm (pt_chain p1 p3 q1 q2 q3 hm) (SemE.test (f := ev F (.chain op op' a b d)) sm)
  | .chain3 op op' op2 a b d f, e, c, X, Wx, g, h => by
    cases e <;> try (cases h; done)
    rename_i l os rs pos
    obtain _ | ⟨o, _ | ⟨o', _ | ⟨o2, _ | ⟨_, _⟩⟩⟩⟩ := os <;> (obtain _ | ⟨r, _ | ⟨r', _ | ⟨r2, _ | ⟨_, _⟩⟩⟩⟩ := rs) <;> try (cases h; done)
    obtain ⟨h, k12⟩ := andT h
    obtain ⟨h, k11⟩ := andT h
    obtain ⟨h, k10⟩ := andT h
    obtain ⟨h, k9⟩ := andT h
    obtain ⟨h, k8⟩ := andT h
    obtain ⟨h, k7⟩ := andT h
    obtain ⟨h, k6⟩ := andT h
    obtain ⟨h, k5⟩ := andT h
    obtain ⟨h, k4⟩ := andT h
    obtain ⟨h, k3⟩ := andT h
    obtain ⟨k1, k2⟩ := andT h
    have e1 : cpOp op = o := beq_iff_eq.mp k1
    have e2 : cpOp op' = o' := beq_iff_eq.mp k2
    have e3 : cpOp op2 = o2 := beq_iff_eq.mp k3
    subst e1
    subst e2
    subst e3
    obtain ⟨r1, p1, p2⟩ := cp_rule g op
    obtain ⟨r2, p3, p4⟩ := cp_rule g op'
    obtain ⟨r3, p5, p6⟩ := cp_rule g op2
    have q1 := (sndE a l g k9 (Wx := Wx)).none k5
    have q2 := (sndE b r g k10 (Wx := Wx)).none k6
    have q3 := (sndE d r' g k11 (Wx := Wx)).none k7
    have q4 := (sndE f _ g k12 (Wx := Wx)).none k8
    have hm := behind_of (op := cpOp op2) (notT k4)
    have sm := sem_chain3 p2 p4 p6 (tO.sem (X := X) (xv := xv) (Wx := Wx) (b := none) (f := ev F a)) (tO.sem (b := none) (f := ev F b)) (tO.sem (b := none) (f := ev F d)) (tO.sem (b := none) (f := ev F f))
    exact .mkT rfl (pe_chain3 p1 p3 p5 q1 q2 q3 q4 hm) sm (pt_chain3 p1 p3 p5 q1 q2 q3 q4 hm) (SemE.test (f := ev F (.chain3 op op' op2 a b d f)) sm)
  | .not a, e, c, X, Wx, g, h => by
    cases e <;> try (cases h; done)
    rename_i op e' pos
    cases op <;> try (cases h; done)
    have q := sndE a e' g h (Wx := Wx)
    refine .mkT rfl (pe_not q.v) tE.sem.notV (pt_not q.t) ?_
    have e1 : (fun σ => tb (ev F (.not a) σ)) = fun σ => (tb (ev F a σ)).bind fun b σ' => R.ok (!b) σ' := by
      funext σ
      show tb ((tb (ev F a σ)).bind fun b σ' => R.ok (O.val (.bl (!b))) σ') = _
      cases tb (ev F a σ) <;> rfl
    rw [e1]
    exact SemT.not tT.sem
  | .neg a, e, c, X, Wx, g, h => by
    cases e <;> try (cases h; done)
    rename_i op e' pos
    cases op <;> try (cases h; done)
    obtain ⟨h1, h2⟩ := andT h
    exact .mk' rfl (pe_un un_neg ((sndE a e' g h2).none h1)) (sem_op1 op1_neg tO.sem)
  | .and es, e, c, X, Wx, g, h => by
    cases e <;> try (cases h; done)
    rename_i op vs pos
    cases op <;> try (cases h; done)
    obtain ⟨h1, h2⟩ := andT h
    have hl := of_decide_eq_true h1
    obtain ⟨q1, q2⟩ := sndAnd es vs g (fun z => by rw [z] at hl; simp at hl) h2 (Wx := Wx) (pos := pos)
    refine .mkT rfl q1 tE.sem q2.pt ?_
    have e1 : (fun σ => tb (ev F (.and es) σ)) = evAnd F es := funext fun σ => tb_vb _
    rw [e1]
    exact tT.sem
  | .or es, e, c, X, Wx, g, h => by
    cases e <;> try (cases h; done)
    rename_i op vs pos
    cases op <;> try (cases h; done)
    obtain ⟨h1, h2⟩ := andT h
    have hl := of_decide_eq_true h1
    obtain ⟨q1, q2⟩ := sndOr es vs g (fun z => by rw [z] at hl; simp at hl) h2 (Wx := Wx) (pos := pos)
    refine .mkT rfl q1 tE.sem q2.pt ?_
    have e1 : (fun σ => tb (ev F (.or es) σ)) = evOr F es := funext fun σ => tb_vb _
    rw [e1]
    exact tT.sem
  | .tup es, e, c, X, Wx, g, h => by
    cases e <;> try (cases h; done)
    exact .mk' rfl (pe_tup (sndL es _ g h).1) tL.sem.tup
  | .lst es, e, c, X, Wx, g, h => by
    cases e <;> try (cases h; done)
    exact .mk' rfl (pe_lst (sndL es _ g h).1) tL.sem.lst
  | .ix a b, e, c, X, Wx, g, h => by
    cases e <;> try (cases h; done)
    rename_i l r pos
    cases r <;> try (cases h; done)
    all_goals
      obtain ⟨h1, h2⟩ := andT h
      obtain ⟨h3, h4⟩ := andT h1
      exact .mk' rfl (pe_ix (ix_all (by have := g.hu; omega)) (sndE a l g h4).o (sndE b _ g h2).o (plainIx_of (notT h3))) (sem_op2 ops_ix tO.sem tO.sem)
  | .sl a lo hi, e, c, X, Wx, g, h => by
    cases e <;> try (cases h; done)
    rename_i l r pos
    cases r <;> try (cases h; done)
    rename_i lo' hi' st p2
    cases st <;> try (cases h; done)
    obtain ⟨h1, h2⟩ := andT h
    obtain ⟨h3, h4⟩ := andT h1
    obtain ⟨tl, p1, s1⟩ := snd_bound h4 (Wx := Wx) fun e _ hc => sndE lo e g hc
    obtain ⟨th, p2, s2⟩ := snd_bound h2 (Wx := Wx) fun e _ hc => sndE hi e g hc
    exact .mk' rfl (pe_slice sl_R (sndE a l g h3).o p1 p2) (sem_slice sls tO.sem s1 s2)
  | .no, e, c, X, Wx, g, h => by cases e <;> cases h
  | .call k es, e, c, X, Wx, g, h => by
    cases e <;> try (cases h; done)
    rename_i f vs kws pos
    cases f <;> try (cases h; done)
    rename_i x p
    cases kws <;> try (cases h; done)
    obtain ⟨h, k4⟩ := andT h
    obtain ⟨h, k3⟩ := andT h
    obtain ⟨k1, k2⟩ := andT h
    obtain ⟨q1, q2, q3⟩ := g.gn k1
    obtain ⟨f, fd, ps, m1, m2, m3, m4⟩ := g.fns k x (beq_iff_eq.mp k2)
    cases vs with
    | nil => cases k3
    | cons v vs =>
      have hs := chks_star k4
      exact .mk' rfl (pe_callS m4 g.rm q1 m1 m2 m3 (fun σ => passAt g.tk σ) (sndL es _ g k4).1 q2 (star_of (hs v (by simp))) (backTo_plain fun e he => hs e (List.mem_cons_of_mem _ he)))
        (sem_call (ar := ar k) (io := io k) (g := F k) tL.sem (fun ds r os q => by have := (g.ars k _).1 r os q; simpa using this) (fun ds c os q => by have := (g.ars k _).2 c os q; simpa using this))
  | .bf b es, e, c, X, Wx, g, h => by
    cases e <;> try (cases h; done)
    rename_i f vs kws pos
    cases f <;> try (cases h; done)
    rename_i x p
    cases kws <;> try (cases h; done)
    obtain ⟨h, k5⟩ := andT h
    obtain ⟨h, k4⟩ := andT h
    obtain ⟨h, k3⟩ := andT h
    obtain ⟨k1, k2⟩ := andT h
    cases vs with
    | nil => cases k4
    | cons v vs =>
      have hs := chks_star k5
      obtain ⟨r, p1, p2⟩ := snd_bf g k2 (beq_iff_eq.mp k3) (p := p) (pos := pos) k1 (sndL es _ g k5).2 (star_of (hs v (by simp))) (backTo_plain fun e he => hs e (List.mem_cons_of_mem _ he))
      exact .mk' rfl p1 (sem_cb p2 tA.sem)
  | .isi a t, e, c, X, Wx, g, h => by
    cases e <;> try (cases h; done)
    rename_i f vs kws pos
    cases f <;> try (cases h; done)
    rename_i x p
    cases kws with
    | cons _ _ => (obtain _ | ⟨v, _ | ⟨w, _ | ⟨_, _⟩⟩⟩ := vs) <;> first | (cases h; done) | (cases w <;> cases h)
    | nil =>
    obtain _ | ⟨v, _ | ⟨w, _ | ⟨_, _⟩⟩⟩ := vs <;> try (cases h; done)
    · cases w <;> try (cases h; done)
      rename_i y p2
      obtain ⟨h, k6⟩ := andT h
      obtain ⟨h, k5⟩ := andT h
      obtain ⟨h, k4⟩ := andT h
      obtain ⟨h, k3⟩ := andT h
      obtain ⟨k1, k2⟩ := andT h
      obtain ⟨q1, q2, q3⟩ := g.gn k1
      obtain ⟨r1, r2, r3⟩ := g.gn k2
      have ex : x = "isinstance" := beq_iff_eq.mp k3
      have ey : y = tyStr t := beq_iff_eq.mp k4
      subst ex
      subst ey
      have py : PE X (.Name (tyStr t) p2) (tC (.ty (tyName t))) := pe_bltn r1 (g.blt _ (ty_in t)) (ty_boot t) rfl r3 r2
      have pa := pa_cons (sndE a v g k6).o (pa_cons py pa_nil (star_of rfl)) (star_of (notT k5))
      exact .mk' rfl (pe_callB (call_isiB t) q1 (g.blt _ (by decide +kernel)) PyProof.Rows.boot_isinstance pa q3 q2 (star_of (notT k5)) (backTo_plain fun e he => by simp at he; subst he; rfl)) (sem_isi tO.sem)
    · cases w <;> cases h
  | .mt m a es, e, c, X, Wx, g, h => by
    obtain _ | ⟨e1, _ | ⟨_, _⟩⟩ := es <;> try (cases m <;> cases e <;> cases h; done)
    cases m <;> try (cases e <;> cases h; done)
    all_goals
      cases e <;> try (cases h; done)
      rename_i f vs kws pos
      cases f <;> try (cases h; done)
      rename_i o mm apos
      obtain _ | ⟨v, _ | ⟨_, _⟩⟩ := vs <;> try (cases h; done)
      cases kws <;> try (cases h; done)
      obtain ⟨h, k6⟩ := andT h
      obtain ⟨h, k5⟩ := andT h
      obtain ⟨h, k4⟩ := andT h
      obtain ⟨h, k3⟩ := andT h
      obtain ⟨k1, k2⟩ := andT h
      cases (beq_iff_eq.mp k1)
    · exact .mk' rfl (pe_bm PySem.F.plainAttrs_str PySem.F.slot_str_join PySem.F.type_str_join mt_join (sndE a o g k5).o (pa_cons (sndE e1 v g k6).o pa_nil (star_of (notT k4))) (base_of (notT k2)) (by rw [star_of (notT k4)]; rfl) (by rw [k3]) (star_of (notT k4)) rfl)
        (sem_mt mt_s_join tO.sem (SemA.cons tO.sem SemA.nil) fun G H x vx s r q => ty_join s r q)
    · exact .mk' rfl (pe_bm PySem.F.plainAttrs_list PySem.F.slot_list_index PySem.F.type_list_index (mt_indexD g.hu65) (sndE a o g k5).o (pa_cons (sndE e1 v g k6).o pa_nil (star_of (notT k4))) (base_of (notT k2)) (by rw [star_of (notT k4)]; rfl) (by rw [k3]) (star_of (notT k4)) rfl)
        (sem_mt mt_s_index tO.sem (SemA.cons tO.sem SemA.nil) fun G H x vx s r q => ty_index s r q)
    · exact .mk' rfl (pe_bm PySem.F.plainAttrs_str PySem.F.slot_str_split PySem.F.type_str_split mt_split (sndE a o g k5).o (pa_cons (sndE e1 v g k6).o pa_nil (star_of (notT k4))) (base_of (notT k2)) (by rw [star_of (notT k4)]; rfl) (by rw [k3]) (star_of (notT k4)) rfl)
        (sem_mt mt_s_split tO.sem (SemA.cons tO.sem SemA.nil) fun G H x vx s r q => ty_split s r q)
    · exact .mk' rfl (pe_bm PySem.F.plainAttrs_str PySem.F.slot_str_partition PySem.F.type_str_partition mt_partition (sndE a o g k5).o (pa_cons (sndE e1 v g k6).o pa_nil (star_of (notT k4))) (base_of (notT k2)) (by rw [star_of (notT k4)]; rfl) (by rw [k3]) (star_of (notT k4)) rfl)
        (sem_mt mt_s_part tO.sem (SemA.cons tO.sem SemA.nil) fun G H x vx s r q => ty_part s r q)
  | .pop i, e, c, X, Wx, g, h => by
    cases e <;> try (cases h; done)
    rename_i f vs kws pos
    cases f <;> try (cases h; done)
    rename_i o mm apos
    cases o <;> try (cases h; done)
    rename_i x p
    cases vs <;> try (cases h; done)
    cases kws <;> try (cases h; done)
    obtain ⟨h, k3⟩ := andT h
    obtain ⟨k1, k2⟩ := andT h
    cases (beq_iff_eq.mp k1)
    exact .mk' rfl (pe_bm0 PySem.F.plainAttrs_list PySem.F.slot_list_pop PySem.F.type_list_pop mt_pop (g.name k3) (base_of rfl) (by rw [k2])) sem_pop
  | .comp elt tg one it cond, e, c, X, Wx, g, h => by
    cases e <;> try (cases h; done)
    rename_i e1 gens scope pos
    obtain _ | ⟨⟨tgt, iter, ifs, as⟩, _ | ⟨_, _⟩⟩ := gens <;> try first | (cases h; done) | (cases as with | ofNat k => (cases k <;> cases h; done) | negSucc k => (cases h; done))
    have has : as = 0 := by
      by_cases z : as = 0
      · exact z
      · exfalso
        cases as with
        | ofNat k => cases k with
          | zero => exact z rfl
          | succ k => cases h
        | negSucc k => cases h
    subst has
    obtain ⟨h, k11⟩ := andT h
    obtain ⟨h, k10⟩ := andT h
    obtain ⟨h, k9⟩ := andT h
    obtain ⟨h, k8⟩ := andT h
    obtain ⟨h, k7⟩ := andT h
    obtain ⟨h, k6⟩ := andT h
    obtain ⟨h, k5⟩ := andT h
    obtain ⟨h, k4⟩ := andT h
    obtain ⟨h, k3⟩ := andT h
    obtain ⟨k1, k2⟩ := andT h
    cases en : tgNames tgt with
    | none => rw [en] at k1; cases k1
    | some ns =>
      rw [en] at k1
      obtain ⟨j1, j2⟩ := andT k1
      have hl := of_decide_eq_true j1
      have hown : (ns.zip tg).map (·.2) = tg := by
        rw [List.map_snd_zip]
        omega
      have ht : itNeeds it tgt := by
        cases it <;> try exact trivial
        all_goals
          cases one with
          | true => cases k11
          | false =>
            cases tgt <;> try (cases k3; done)
            all_goals first
              | exact ⟨_, _, _, rfl⟩
              | (cases k10; done)
      have pI := sndI it iter tgt g ht k2 (Wx := Wx)
      have gb := fun (s : Shared) (H : Hp) (C : Addr) (cl : List (Str × Addr)) (fp : List Addr) => g.block s H C cl fp scope
      have sm : SemE X xv Wx (tLc (tI X.K xv Wx (evI F it)) (gOf X.K tg one) (tT X.K xv (fun _ _ _ _ => False) (fun σ => tst cond.isNo (ev F cond σ) σ)) (tO X.K xv (fun _ _ _ _ => False) none (ev F elt)) tg) (ev F (.comp elt tg one it cond)) :=
        sem_comp (Xb := X) rfl (fi := evI F it) (ft := fun σ => tst cond.isNo (ev F cond σ) σ) (fe := ev F elt) tI.sem semG_of tT.sem tO.sem
      have key : CompP F xv X Wx (.comp elt tg one it cond) (.ListComp e1 [⟨tgt, iter, ifs, 0⟩] scope pos) := by
        refine ⟨tgt, iter, ifs, _, gOf X.K tg one, _, _, ns.zip tg, rfl, pI, ?_, fun s H C cl fp => (Good.target (gb s H C cl fp) k4).1, fun s H C cl fp => ?_, fun s H C cl fp => ?_, folded_of (notT k5), by rw [hown]; exact sm⟩
        · rw [g.hN, g.hsc]
          exact blkOk_by j2
        · cases ifs with
          | nil =>
            have hn : cond.isNo = true := k9
            refine ⟨fun pins s0 τ H0 Q I ⟨G, W, σ, S, cc⟩ => pts_nil.run pins s0 τ H0 Q I ?_⟩
            rw [hn] at cc
            exact cc G W H0 true S (Ext.refl _ _ _) rfl
          | cons t ts =>
            cases ts with
            | cons _ _ => cases k9
            | nil =>
              obtain ⟨m1, m2⟩ := andT k9
              have q := sndE cond t (gb s H C cl fp) m2
              have hn := notT m1
              rw [hn]
              exact pts_one q.t
        · exact (sndE elt e1 (gb s H C cl fp) k8).none k6
      obtain ⟨_, _, _, wi, gg, tt, te, own, hg, p1, p2, p3, p4, p5, p6, p7⟩ := key
      injection hg with hg1 _
      injection hg1 with h1 h2 h3
      subst h1
      subst h2
      subst h3
      exact .mk' rfl (pe_lc g.calm g.nd p1 p2 p3 p4 p5 p6) p7 (isTrue_of rfl) ⟨_, _, _, wi, gg, tt, te, own, rfl, p1, p2, p3, p4, p5, p6, p7⟩
  | .compH kk elt tg one cond, e, c, X, Wx, g, h => by
    cases e <;> try (cases h; done)
    rename_i e1 gens scope pos
    obtain _ | ⟨⟨tgt, iter, ifs, as⟩, _ | ⟨_, _⟩⟩ := gens <;> try first | (cases h; done) | (cases as with | ofNat k => (cases k <;> cases h; done) | negSucc k => (cases h; done))
    have has : as = 0 := by
      by_cases z : as = 0
      · exact z
      · exfalso
        cases as with
        | ofNat k => cases k with
          | zero => exact z rfl
          | succ k => cases h
        | negSucc k => cases h
    subst has
    obtain ⟨h, k10⟩ := andT h
    obtain ⟨h, k9⟩ := andT h
    obtain ⟨h, k8⟩ := andT h
    obtain ⟨h, k7⟩ := andT h
    obtain ⟨h, k6⟩ := andT h
    obtain ⟨h, k5⟩ := andT h
    obtain ⟨h, k4⟩ := andT h
    obtain ⟨h, k3⟩ := andT h
    obtain ⟨k1, k2⟩ := andT h
    cases en : tgNames tgt with
    | none => rw [en] at k1; cases k1
    | some ns =>
      rw [en] at k1
      obtain ⟨j1, j2⟩ := andT k1
      have hl := of_decide_eq_true j1
      have hown : (ns.zip tg).map (·.2) = tg := by
        rw [List.map_snd_zip]
        omega
      have pI : PI X tgt iter (iSeq X.K (tVar kk)) := by
        cases iter <;> first
          | (cases k2; done)
          | exact pi_seq (g.name k2)
      have gb := fun (s : Shared) (H : Hp) (C : Addr) (cl : List (Str × Addr)) (fp : List Addr) => g.block s H C cl fp scope
      have sm : SemE X xv Wx (tLc (iSeq X.K (tVar kk)) (gOf X.K tg one) (tT X.K xv (fun _ _ _ _ => False) (fun σ => tst cond.isNo (ev F cond σ) σ)) (tO X.K xv (fun _ _ _ _ => False) none (ev F elt)) tg) (ev F (.compH kk elt tg one cond)) :=
        sem_compH (Xb := X) rfl (ft := fun σ => tst cond.isNo (ev F cond σ) σ) (fe := ev F elt) semG_of tT.sem tO.sem
      have key : CompP F xv X Wx (.compH kk elt tg one cond) (.ListComp e1 [⟨tgt, iter, ifs, 0⟩] scope pos) := by
        refine ⟨tgt, iter, ifs, _, gOf X.K tg one, _, _, ns.zip tg, rfl, pI, ?_, fun s H C cl fp => (Good.target (gb s H C cl fp) k4).1, fun s H C cl fp => ?_, fun s H C cl fp => ?_, folded_of (notT k5), by rw [hown]; exact sm⟩
        · rw [g.hN, g.hsc]
          exact blkOk_by j2
        · cases ifs with
          | nil =>
            have hn : cond.isNo = true := k9
            refine ⟨fun pins s0 τ H0 Q I ⟨G, W, σ, S, cc⟩ => pts_nil.run pins s0 τ H0 Q I ?_⟩
            rw [hn] at cc
            exact cc G W H0 true S (Ext.refl _ _ _) rfl
          | cons t ts =>
            cases ts with
            | cons _ _ => cases k9
            | nil =>
              obtain ⟨m1, m2⟩ := andT k9
              have q := sndE cond t (gb s H C cl fp) m2
              have hn := notT m1
              rw [hn]
              exact pts_one q.t
        · exact (sndE elt e1 (gb s H C cl fp) k8).none k6
      obtain ⟨_, _, _, wi, gg, tt, te, own, hg, p1, p2, p3, p4, p5, p6, p7⟩ := key
      injection hg with hg1 _
      injection hg1 with h1 h2 h3
      subst h1
      subst h2
      subst h3
      exact .mk' rfl (pe_lc g.calm g.nd p1 p2 p3 p4 p5 p6) p7 (isTrue_of rfl) ⟨_, _, _, wi, gg, tt, te, own, rfl, p1, p2, p3, p4, p5, p6, p7⟩
  | .lvals i, e, c, X, Wx, g, h => by
    cases e <;> try (cases h; done)
    rename_i f vs kws pos
    cases f <;> try (cases h; done)
    rename_i x p
    obtain _ | ⟨v, vs⟩ := vs <;> try (cases h; done)
    cases v <;> try (cases h; done)
    rename_i f2 vs2 kws2 cpos
    cases f2 <;> try (cases h; done)
    rename_i o m apos
    cases o <;> try (cases h; done)
    rename_i y py
    cases vs2 <;> try (cases h; done)
    cases kws2 <;> try (cases h; done)
    cases vs <;> try (cases h; done)
    cases kws <;> try (cases h; done)
    obtain ⟨h, k5⟩ := andT h
    obtain ⟨h, k4⟩ := andT h
    obtain ⟨h, k3⟩ := andT h
    obtain ⟨k1, k2⟩ := andT h
    cases (beq_iff_eq.mp k2)
    cases (beq_iff_eq.mp k3)
    obtain ⟨q1, q2, q3⟩ := g.gn k1
    exact .mk' rfl (pe_lvals q1 (g.blt _ (by decide +kernel)) g.calm (g.name k4) (base_of rfl) k5) sem_lvals
  | .skey i, e, c, X, Wx, g, h => by
    cases e <;> try (cases h; done)
    rename_i f vs kws pos
    cases f <;> try (cases h; done)
    rename_i x p
    obtain _ | ⟨v, vs⟩ := vs <;> try (cases h; done)
    cases v <;> try (cases h; done)
    rename_i f2 vs2 kws2 cpos
    cases f2 <;> try (cases h; done)
    rename_i o m apos
    cases o <;> try (cases h; done)
    rename_i y py
    cases vs2 <;> try (cases h; done)
    cases kws2 <;> try (cases h; done)
    cases vs <;> try (cases h; done)
    cases kws <;> try (cases h; done)
    obtain ⟨h, k5⟩ := andT h
    obtain ⟨h, k4⟩ := andT h
    obtain ⟨h, k3⟩ := andT h
    obtain ⟨k1, k2⟩ := andT h
    cases (beq_iff_eq.mp k2)
    cases (beq_iff_eq.mp k3)
    obtain ⟨q1, q2, q3⟩ := g.gn k1
    exact .mk' rfl (pe_skeys q1 (g.blt _ (by decide +kernel)) g.calm (g.name k4) (base_of rfl) k5) sem_skeys
  | .sset a, e, c, X, Wx, g, h => by
    cases e <;> try (cases h; done)
    rename_i f vs kws pos
    cases f <;> try (cases h; done)
    rename_i x p
    obtain _ | ⟨v, vs⟩ := vs <;> try (cases h; done)
    cases v <;> try (cases h; done)
    rename_i f2 vs2 kws2 cpos
    cases f2 <;> try (cases h; done)
    rename_i y py
    obtain _ | ⟨v, vs2⟩ := vs2 <;> try (cases h; done)
    cases vs2 <;> try (cases h; done)
    cases kws2 <;> try (cases h; done)
    cases vs <;> try (cases h; done)
    cases kws <;> try (cases h; done)
    obtain ⟨h, k7⟩ := andT h
    obtain ⟨h, k6⟩ := andT h
    obtain ⟨h, k5⟩ := andT h
    obtain ⟨h, k4⟩ := andT h
    obtain ⟨h, k3⟩ := andT h
    obtain ⟨k1, k2⟩ := andT h
    cases (beq_iff_eq.mp k3)
    cases (beq_iff_eq.mp k4)
    obtain ⟨q1, _, _⟩ := g.gn k1
    obtain ⟨r1, _, _⟩ := g.gn k2
    exact .mk' rfl (pe_sset q1 (g.blt _ (by decide +kernel)) r1 (g.blt _ (by decide +kernel)) g.calm ((sndE a v g k7).none k6) (star_of (notT k5))) (sem_sset tO.sem)
  | .dnew1 i b, e, c, X, Wx, g, h => by
    cases e <;> try (cases h; done)
    rename_i ks vs pos
    obtain _ | ⟨k, ks⟩ := ks <;> try (cases h; done)
    cases k <;> try (cases h; done)
    rename_i k
    cases k <;> try (cases h; done)
    rename_i x px
    cases ks <;> try (cases h; done)
    obtain _ | ⟨v, vs⟩ := vs <;> try (cases h; done)
    cases v <;> try (cases h; done)
    rename_i q _ _
    cases q <;> try (cases h; done)
    cases vs <;> try (cases h; done)
    obtain ⟨k1, k2⟩ := andT h
    cases (beq_iff_eq.mp k2)
    exact .mk' rfl (pe_disp (pps_cons (g.name k1) pe_bl pps_nil) rfl rfl (by simp) (by simp)) sem_dnew1
  | .seq a, e, c, X, Wx, g, h => by cases e <;> cases h
  | .rng es, e, c, X, Wx, g, h => by cases e <;> cases h
  | .enum a, e, c, X, Wx, g, h => by cases e <;> cases h
  | .zip a b, e, c, X, Wx, g, h => by cases e <;> cases h
  | .rev a, e, c, X, Wx, g, h => by cases e <;> cases h
  | .fz a, e, c, X, Wx, g, h => by
    obtain ⟨_, h2⟩ := andT h
    have q := sndE a e g h2 (Wx := Wx)
    have et : (fun σ => tb (ev F (.fz a) σ)) = fun σ => tb (ev F a σ) := funext fun σ => tb_fz (r := ev F a σ)
    refine ⟨PV.PE.can q.v (sem_fz tE.sem), PV.PE.canO q.v (sem_fz tE.sem).opd, by rw [et]; exact q.t, ?_⟩
    have hk := q.k
    cases e <;> first
      | exact trivial
      | (obtain ⟨_, _, _, wi, gg, tt, te, own, r0, p1, p2, p3, p4, p5, p6, p7⟩ := hk
         exact ⟨_, _, _, wi, gg, tt, te, own, r0, p1, p2, p3, p4, p5, p6, sem_fz p7⟩)
  | .own i, e, c, X, Wx, g, h => by
    cases e <;> try (cases h; done)
    exact ⟨PV.PE.can (g.name h) (fun _ _ _ _ _ _ => trivial), PV.PE.canO (g.name h) SemO.var, PV.PT.can (pt_val (g.name h) (isTrue_of rfl)) (fun _ _ _ _ _ _ => trivial), trivial⟩
  | .callO k es, e, c, X, Wx, g, h => by
    cases e <;> try (cases h; done)
    rename_i f vs kws pos
    cases f <;> try (cases h; done)
    rename_i x p
    cases kws <;> try (cases h; done)
    obtain ⟨h, k7⟩ := andT h
    obtain ⟨h, k6⟩ := andT h
    obtain ⟨h, k5⟩ := andT h
    obtain ⟨h, k4⟩ := andT h
    obtain ⟨h, k3⟩ := andT h
    obtain ⟨k1, k2⟩ := andT h
    obtain ⟨q1, q2, q3⟩ := g.gn k1
    obtain ⟨f, fd, ps, m1, m2, m3, m4⟩ := g.fns k x (beq_iff_eq.mp k2)
    cases vs with
    | nil => cases k3
    | cons v vs =>
      have hs := chks_star k4
      have hd : ∀ i, posOf es i ≠ none → i ∉ bors es := fun i hp => by
        obtain ⟨j, hj⟩ := Option.ne_none_iff_exists'.mp hp
        have := List.all_eq_true.mp k6 _ (List.mem_of_getElem? (posOf_some hj))
        intro z
        have := notT this
        rw [List.contains_iff_mem.mpr z] at this; cases this
      exact .mk' rfl (pe_callS m4 g.rm q1 m1 m2 m3 (fun σ => passAt g.tk σ) (sndL es _ g k4).2 q2 (star_of (hs v (by simp))) (backTo_plain fun e he => hs e (List.mem_cons_of_mem _ he)))
        (sem_callO (ar := ar k) (io := io k) (g := F k) tA.sem (fun as => g.ars k as) hd (uniq_pos k5) (by rw [← g.tio]; exact beq_iff_eq.mp k7))
  | .dnew t, e, c, X, Wx, g, h => by
    cases e <;> try (cases h; done)
    rename_i ks vs pos
    cases ks <;> try (cases h; done)
    cases vs <;> try (cases h; done)
    cases t with
    | false => exact .mk' rfl pe_dnewK sem_dnewK
    | true => exact .mk' rfl pe_dnewT sem_dnewT
  | .dget i k, e, c, X, Wx, g, h => by
    cases e <;> try (cases h; done)
    rename_i l r pos
    cases l <;> try (cases h; done)
    obtain ⟨h, k4⟩ := andT h
    obtain ⟨h, k3⟩ := andT h
    obtain ⟨k1, k2⟩ := andT h
    exact .mk' rfl (pe_dget (by have := g.hu; omega) (g.name k1) ((sndE k r g k4).none k3) (nosl_of (notT k2))) (sem_dget tO.sem)
  | .din i k, e, c, X, Wx, g, h => by
    cases e <;> try (cases h; done)
    rename_i l os rs pos
    obtain _ | ⟨o, _ | ⟨_, _⟩⟩ := os <;> (obtain _ | ⟨r, _ | ⟨_, _⟩⟩ := rs) <;> try (cases h; done)
    all_goals cases o <;> try (cases h; done)
    all_goals cases r <;> try (cases h; done)
    rename_i y yp
    obtain ⟨h, k3⟩ := andT h
    obtain ⟨k1, k2⟩ := andT h
    have sm := sem_din (i := i) (tO.sem (X := X) (xv := xv) (Wx := Wx) (b := none) (f := ev F k))
    have p := pc_din (o := .Name y yp) (by have := g.hu; omega) ((sndE k l g k3 (Wx := Wx)).none k2) (g.name k1)
    exact .mkT rfl (pe_cmp p (behind_of rfl)) sm (pt_cmp p (behind_of rfl)) (SemE.test (f := ev F (.din i k)) sm)
  | .dnin i k, e, c, X, Wx, g, h => by
    cases e <;> try (cases h; done)
    rename_i l os rs pos
    obtain _ | ⟨o, _ | ⟨_, _⟩⟩ := os <;> (obtain _ | ⟨r, _ | ⟨_, _⟩⟩ := rs) <;> try (cases h; done)
    all_goals cases o <;> try (cases h; done)
    all_goals cases r <;> try (cases h; done)
    rename_i y yp
    obtain ⟨h, k3⟩ := andT h
    obtain ⟨k1, k2⟩ := andT h
    have sm := sem_dnin (i := i) (tO.sem (X := X) (xv := xv) (Wx := Wx) (b := none) (f := ev F k))
    have p := pc_dnotin (o := .Name y yp) (by have := g.hu; omega) ((sndE k l g k3 (Wx := Wx)).none k2) (g.name k1)
    exact .mkT rfl (pe_cmp p (behind_of rfl)) sm (pt_cmp p (behind_of rfl)) (SemE.test (f := ev F (.dnin i k)) sm)
  | .dix kvs k, e, c, X, Wx, g, h => by
    cases e <;> try (cases h; done)
    rename_i l r pos
    cases l <;> try (cases h; done)
    rename_i ks vs p2
    obtain ⟨h, k6⟩ := andT h
    obtain ⟨h, k5⟩ := andT h
    obtain ⟨h, k4⟩ := andT h
    obtain ⟨h, k3⟩ := andT h
    obtain ⟨k1, k2⟩ := andT h
    obtain ⟨a, b, c1, d⟩ := pps_lit (X := X) (pos := p2) k3
    have k1 := of_decide_eq_true k1
    have ne : ks ≠ [] := fun z => by
      subst z
      cases kvs with
      | nil => cases k2
      | cons _ _ => simp at d
    exact .mk' rfl (pe_dget (by have := g.hu; omega) (pe_disp a b c1 ne (by rw [d]; exact k1)) ((sndE k r g k6).none k5) (nosl_of (notT k4))) (sem_dix k1 tO.sem)
  | .dsk i, e, c, X, Wx, g, h => by cases e <;> cases h
  | .mv i, e, c, X, Wx, g, h => by
    cases e <;> try (cases h; done)
    exact .mk' rfl (g.name h) sem_mv
  | .frzT i, e, c, X, Wx, g, h => by
    cases e <;> try (cases h; done)
    exact .mk' rfl (g.name h) sem_frzT
  | .lnP i ks, e, c, X, Wx, g, h => by
    cases e <;> try (cases h; done)
    rename_i f vs kws pos
    cases f <;> try (cases h; done)
    rename_i x p
    obtain _ | ⟨v, _ | ⟨_, _⟩⟩ := vs <;> try (cases h; done)
    cases kws <;> try (cases h; done)
    obtain ⟨h, k4⟩ := andT h
    obtain ⟨h, k3⟩ := andT h
    obtain ⟨k1, k2⟩ := andT h
    cases (beq_iff_eq.mp k2)
    obtain ⟨h1, h2, h3⟩ := g.gn k1
    obtain ⟨ts, p1, p2⟩ := sndP ks v g k4 (Wx := Wx)
    exact .mk' rfl (pe_callB call_lenA h1 (g.blt _ (by decide +kernel)) (by decide +kernel) (pa_cons p1 pa_nil (star_of (notT k3))) h3 h2 (star_of (notT k3)) rfl) (sem_lenP p2)
  | .trev a, e, c, X, Wx, g, h => by
    cases e <;> try (cases h; done)
    rename_i f vs kws pos
    cases f <;> try (cases h; done)
    rename_i x p
    obtain _ | ⟨v, _ | ⟨_, _⟩⟩ := vs <;> try (cases h; done)
    · cases v <;> try (cases h; done)
      rename_i f2 vs2 kws2 pos2
      cases f2 <;> try (cases h; done)
      rename_i y p2
      obtain _ | ⟨w, _ | ⟨_, _⟩⟩ := vs2 <;> try (cases h; done)
      cases kws2 <;> try (cases h; done)
      cases kws <;> try (cases h; done)
      obtain ⟨h, k6⟩ := andT h
      obtain ⟨h, k5⟩ := andT h
      obtain ⟨h, k4⟩ := andT h
      obtain ⟨h, k3⟩ := andT h
      obtain ⟨k1, k2⟩ := andT h
      cases (beq_iff_eq.mp k3); cases (beq_iff_eq.mp k4)
      obtain ⟨a1, _, _⟩ := g.gn k1
      obtain ⟨b1, _, _⟩ := g.gn k2
      exact .mk' rfl (RT.pe_tupRev g.calm a1 (g.blt _ (by decide +kernel)) b1 (g.blt _ (by decide +kernel)) (sndE a w g k6).o (star_of (notT k5)) rfl) (sem_trev tO.sem)
    · cases v <;> try (cases h; done)
      rename_i f2 vs2 kws2 pos2
      cases f2 <;> try (cases h; done)
      obtain _ | ⟨w, _ | ⟨_, _⟩⟩ := vs2 <;> try (cases h; done)
      cases kws2 <;> cases h
  | .fld cc f, e, c, X, Wx, g, h => by cases e <;> cases h
  | .ixP i ks k, e, c, X, Wx, g, h => by
    cases e <;> try (cases h; done)
    rename_i l r pos
    obtain ⟨h, k4⟩ := andT h
    obtain ⟨h, k3⟩ := andT h
    obtain ⟨k1, k2⟩ := andT h
    obtain ⟨ts, p1, p2⟩ := sndP ks l g k3 (Wx := Wx)
    exact .mk' rfl (pe_ix ix_seq p1 ((sndE k r g k4).none k2) (plainIx_of (notT k1))) (sem_getP p2 tO.sem get_ix)
  | .dgetP i ks k, e, c, X, Wx, g, h => by
    cases e <;> try (cases h; done)
    rename_i l r pos
    obtain ⟨h, k4⟩ := andT h
    obtain ⟨h, k3⟩ := andT h
    obtain ⟨k1, k2⟩ := andT h
    obtain ⟨ts, p1, p2⟩ := sndP ks l g k3 (Wx := Wx)
    exact .mk' rfl (pe_dget (by have := g.hu; omega) p1 ((sndE k r g k4).none k2) (nosl_of (notT k1))) (sem_getP p2 tO.sem get_dic)
  | .dinP i ks k, e, c, X, Wx, g, h => by
    cases e <;> try (cases h; done)
    rename_i l os rs pos
    obtain _ | ⟨o, _ | ⟨_, _⟩⟩ := os <;> (obtain _ | ⟨r, _ | ⟨_, _⟩⟩ := rs) <;> try (cases h; done)
    all_goals cases o <;> try (cases h; done)
    obtain ⟨h, k4⟩ := andT h
    obtain ⟨h, k3⟩ := andT h
    obtain ⟨k1, k2⟩ := andT h
    obtain ⟨ts, p1, p2⟩ := sndP ks r g k3 (Wx := Wx)
    have sm := sem_dinP (i := i) p2 (tO.sem (X := X) (xv := xv) (Wx := Wx) (b := none) (f := ev F k))
    have p := pc_din (by have := g.hu; omega) ((sndE k l g k4 (Wx := Wx)).none k1) p1
    exact .mkT rfl (pe_cmp p (behind_of (notT k2))) sm (pt_cmp p (behind_of (notT k2))) (SemE.test (f := ev F (.dinP i ks k)) sm)
  | .dninP i ks k, e, c, X, Wx, g, h => by
    cases e <;> try (cases h; done)
    rename_i l os rs pos
    obtain _ | ⟨o, _ | ⟨_, _⟩⟩ := os <;> (obtain _ | ⟨r, _ | ⟨_, _⟩⟩ := rs) <;> try (cases h; done)
    all_goals cases o <;> try (cases h; done)
    obtain ⟨h, k4⟩ := andT h
    obtain ⟨h, k3⟩ := andT h
    obtain ⟨k1, k2⟩ := andT h
    obtain ⟨ts, p1, p2⟩ := sndP ks r g k3 (Wx := Wx)
    have sm := sem_dninP (i := i) p2 (tO.sem (X := X) (xv := xv) (Wx := Wx) (b := none) (f := ev F k))
    have p := pc_dnotin (by have := g.hu; omega) ((sndE k l g k4 (Wx := Wx)).none k1) p1
    exact .mkT rfl (pe_cmp p (behind_of (notT k2))) sm (pt_cmp p (behind_of (notT k2))) (SemE.test (f := ev F (.dninP i ks k)) sm)
  | .lstP i ks, e, c, X, Wx, g, h => by
    cases e <;> try (cases h; done)
    rename_i f vs kws pos
    cases f <;> try (cases h; done)
    rename_i x p
    obtain _ | ⟨v, _ | ⟨_, _⟩⟩ := vs <;> try (cases h; done)
    cases kws <;> try (cases h; done)
    obtain ⟨h, k4⟩ := andT h
    obtain ⟨h, k3⟩ := andT h
    obtain ⟨k1, k2⟩ := andT h
    cases (beq_iff_eq.mp k2)
    obtain ⟨h1, h2, h3⟩ := g.gn k1
    obtain ⟨ts, p1, p2⟩ := sndP ks v g k4 (Wx := Wx)
    exact .mk' rfl (pe_callTy call_list_of h1 (g.blt _ (by decide +kernel)) (by decide +kernel) (pa_cons p1 pa_nil (star_of (notT k3))) h3 h2 (star_of (notT k3)) rfl) (sem_lstP p2)
  | .mvF i cc f, e, c, X, Wx, g, h => by
    cases e <;> try (cases h; done)
    rename_i o m pos
    cases o <;> try (cases h; done)
    obtain ⟨k1, k2⟩ := andT h
    exact .mk' rfl (pe_fld (g.name k1) (base_of rfl)) (sem_mvF (beq_iff_eq.mp k2))
  | .mk cc k es, e, c, X, Wx, g, h => by
    cases e <;> try (cases h; done)
    rename_i f vs kws pos
    cases f <;> try (cases h; done)
    rename_i x p
    cases kws <;> try (cases h; done)
    obtain ⟨h, k5⟩ := andT h
    obtain ⟨h, k4⟩ := andT h
    obtain ⟨h, k3⟩ := andT h
    obtain ⟨k1, k2⟩ := andT h
    cases (beq_iff_eq.mp k2)
    obtain ⟨q1, q2, q3⟩ := g.gn k1
    obtain ⟨f, fd, ps, m1, m2, m3, m4, m5⟩ := g.ini cc k k3
    have eio : io k = [0] := by rw [← g.tio]; exact beq_iff_eq.mp k4
    have sm := sem_mk (ar := ar k) (g := F k) (tL.sem (X := X) (xv := xv) (Wx := Wx) (f := evs F es)) m1 (fun as r os q => (g.ars k as).1 r os q)
    rw [eio] at m5
    cases vs with
    | nil =>
      cases es with
      | cons _ _ => cases k5
      | nil =>
        have sm0 := sem_mk (ar := ar k) (g := F k) (SemL.nil (X := X) (xv := xv) (Wx := Wx)) m1 (fun as r os q => (g.ars k as).1 r os q)
        exact .mk' rfl (pe_make0 m3 m5 g.room q1 m2 m4 .nil passes_no q2) sm0
    | cons v vs =>
      have hs := chks_star k5
      exact .mk' rfl (pe_make m3 m5 g.room q1 m2 m4 .nil passes_no (sndL es _ g k5).1 q2 (star_of (hs v (by simp))) (backTo_plain fun e he => hs e (List.mem_cons_of_mem _ he))) sm
  | .callM cc k es, e, c, X, Wx, g, h => by
    cases e <;> try (cases h; done)
    rename_i f vs kws pos
    cases f <;> try (cases h; done)
    rename_i o m apos
    cases o <;> try (cases h; done)
    rename_i x px
    cases kws <;> try (cases h; done)
    obtain ⟨h, k7⟩ := andT h
    obtain ⟨h, k6⟩ := andT h
    obtain ⟨h, k5⟩ := andT h
    obtain ⟨h, k8⟩ := andT h
    obtain ⟨h, k4⟩ := andT h
    obtain ⟨h, k3⟩ := andT h
    obtain ⟨k1, k2⟩ := andT h
    obtain ⟨ka, kb⟩ := andT k8
    have kc := of_decide_eq_true kb
    obtain ⟨f, fd, ps, m1, m2, m3, m4⟩ := g.met cc k m k1
    obtain _ | ⟨e0, es⟩ := es
    · cases k3
    · obtain ⟨i, hi⟩ : ∃ i, e0 = Ex.own i := by cases e0 <;> first | exact ⟨_, rfl⟩ | (cases k3; done)
      subst hi
      have hd : ∀ j, posOf (Ex.own i :: es) j ≠ none → j ∉ bors (Ex.own i :: es) := fun i' hp => by
        obtain ⟨j, hj⟩ := Option.ne_none_iff_exists'.mp hp
        have := List.all_eq_true.mp k6 _ (List.mem_of_getElem? (posOf_some hj))
        intro z
        have := notT this
        rw [List.contains_iff_mem.mpr z] at this; cases this
      have hm : m ∉ clFd cc := fun z => by
        have := notT k2
        rw [List.contains_iff_mem.mpr z] at this; cases this
      have hst := chks_star k4
      obtain ⟨_, k4'⟩ := andT k4
      have hio : io k = ownPos (Ex.own i :: es) 0 := by rw [← g.tio]; exact beq_iff_eq.mp k7
      have hv : SemO X xv Wx (tVar i) (some i) (ev F (.own i)) := SemO.var
      cases vs with
      | nil =>
        cases es with
        | cons _ _ => cases k4'
        | nil =>
          have sm := sem_callM (c := cc) (m := m) (ar := ar k) (io := io k) (g := F k) (SemA.cons hv SemA.nil) (fun as => g.ars k as) hd (uniq_pos k5) hio hm
          exact .mk' rfl (pe_methC0 (g.name k3) m1.1 m2 m4 g.rm m3 (fun σ => passAt g.tk σ) (meth_ht (base_of rfl) rfl ka)) sm
      | cons v vs =>
        have pl := backTo_plain (env := X.env) (pos := pos) (es := v :: vs) fun e he => hst e (List.mem_cons_of_mem _ he)
        have sm := sem_callM (c := cc) (m := m) (ar := ar k) (io := io k) (g := F k) (SemA.cons hv (tA.sem (X := X) (xv := xv) (Wx := Wx) (bs := es.map Ex.bo) (f := evp F es))) (fun as => g.ars k as) hd (uniq_pos k5) hio hm
        exact .mk' rfl (pe_methC (g.name k3) m1.1 m2 m4 g.rm m3 (fun σ => passAt g.tk σ) (sndL es _ g k4').2 (star_of (hst v (by simp))) (backTo_plain fun e he => hst e (List.mem_cons_of_mem _ (List.mem_cons_of_mem _ he))) (meth_ht (base_of rfl) (by
          unfold methodCallForm
          rw [plain_all pl]
          simp only [List.length_cons] at kc
          simp [backToKw, keywordEach]
          omega) ka)) sm
  | .lrng a, e, c, X, Wx, g, h => by
    cases e <;> try (cases h; done)
    rename_i f vs kws pos
    cases f <;> try (cases h; done)
    rename_i x p
    obtain _ | ⟨v, _ | ⟨_, _⟩⟩ := vs <;> try (cases h; done)
    · cases v <;> try (cases h; done)
      rename_i f2 vs2 kws2 pos2
      cases f2 <;> try (cases h; done)
      rename_i y p2
      obtain _ | ⟨w, _ | ⟨_, _⟩⟩ := vs2 <;> try (cases h; done)
      cases kws2 <;> try (cases h; done)
      cases kws <;> try (cases h; done)
      obtain ⟨h, k7⟩ := andT h
      obtain ⟨h, k6⟩ := andT h
      obtain ⟨h, k5⟩ := andT h
      obtain ⟨h, k4⟩ := andT h
      obtain ⟨h, k3⟩ := andT h
      obtain ⟨k1, k2⟩ := andT h
      cases (beq_iff_eq.mp k3); cases (beq_iff_eq.mp k4)
      obtain ⟨a1, _, _⟩ := g.gn k1
      obtain ⟨b1, _, _⟩ := g.gn k2
      exact .mk' rfl (pe_listRg g.calm a1 (g.blt _ (by decide +kernel)) (prg_1 b1 (g.blt _ (by decide +kernel)) ((sndE a w g k7).none k6) (star_of (notT k5))) (star_of rfl)) (sem_lrng tO.sem)
    · cases v <;> try (cases h; done)
      rename_i f2 vs2 kws2 pos2
      cases f2 <;> try (cases h; done)
      obtain _ | ⟨w, _ | ⟨_, _⟩⟩ := vs2 <;> try (cases h; done)
      cases kws2 <;> cases h
  | .lrev a, e, c, X, Wx, g, h => by
    cases e <;> try (cases h; done)
    rename_i f vs kws pos
    cases f <;> try (cases h; done)
    rename_i x p
    obtain _ | ⟨v, _ | ⟨_, _⟩⟩ := vs <;> try (cases h; done)
    · cases v <;> try (cases h; done)
      rename_i f2 vs2 kws2 pos2
      cases f2 <;> try (cases h; done)
      rename_i y p2
      obtain _ | ⟨w, _ | ⟨_, _⟩⟩ := vs2 <;> try (cases h; done)
      cases kws2 <;> try (cases h; done)
      cases kws <;> try (cases h; done)
      obtain ⟨h, k6⟩ := andT h
      obtain ⟨h, k5⟩ := andT h
      obtain ⟨h, k4⟩ := andT h
      obtain ⟨h, k3⟩ := andT h
      obtain ⟨k1, k2⟩ := andT h
      cases (beq_iff_eq.mp k3); cases (beq_iff_eq.mp k4)
      obtain ⟨a1, _, _⟩ := g.gn k1
      obtain ⟨b1, _, _⟩ := g.gn k2
      exact .mk' rfl (RT.pe_lstRev g.calm a1 (g.blt _ (by decide +kernel)) b1 (g.blt _ (by decide +kernel)) (sndE a w g k6).o (star_of (notT k5)) rfl) (sem_lrev tO.sem)
    · cases v <;> try (cases h; done)
      rename_i f2 vs2 kws2 pos2
      cases f2 <;> try (cases h; done)
      obtain _ | ⟨w, _ | ⟨_, _⟩⟩ := vs2 <;> try (cases h; done)
      cases kws2 <;> cases h
  | .rep a k, e, c, X, Wx, g, h => by
    cases e <;> try (cases h; done)
    rename_i l o r pos
    cases l <;> try (cases o <;> cases h; done)
    rename_i ls lp
    obtain _ | ⟨e0, _ | ⟨_, _⟩⟩ := ls <;> try (cases o <;> cases h; done)
    cases o <;> try (cases h; done)
    obtain ⟨h, k5⟩ := andT h
    obtain ⟨h, k4⟩ := andT h
    obtain ⟨h, k3⟩ := andT h
    obtain ⟨k1, k2⟩ := andT h
    exact .mk' rfl (pe_op op_rep (pe_lst (pa_cons ((sndE a e0 g k4).none k1) pa_nil (star_of (notT k3)))) ((sndE k r g k5).none k2)) (sem_rep tO.sem tO.sem)
  | .compO elt tg one it, e, c, X, Wx, g, h => by
    cases e <;> try (cases h; done)
    rename_i e1 gens scope pos
    obtain _ | ⟨⟨tgt, iter, ifs, as⟩, _ | ⟨_, _⟩⟩ := gens <;> try first | (cases h; done) | (cases ifs <;> (cases as with | ofNat k => (cases k <;> cases h; done) | negSucc k => (cases h; done)))
    cases ifs with
    | cons _ _ => (cases as with | ofNat k => (cases k <;> cases h) | negSucc k => cases h)
    | nil =>
    have has : as = 0 := by
      by_cases z : as = 0
      · exact z
      · exfalso
        cases as with
        | ofNat k => cases k with
          | zero => exact z rfl
          | succ k => cases h
        | negSucc k => cases h
    subst has
    obtain ⟨h, k11⟩ := andT h
    obtain ⟨h, k10⟩ := andT h
    obtain ⟨h, k8⟩ := andT h
    obtain ⟨h, k5⟩ := andT h
    obtain ⟨h, k4⟩ := andT h
    obtain ⟨h, k3⟩ := andT h
    obtain ⟨k1, k2⟩ := andT h
    cases en : tgNames tgt with
    | none => rw [en] at k1; cases k1
    | some ns =>
      rw [en] at k1
      obtain ⟨j1, j2⟩ := andT k1
      have hl := of_decide_eq_true j1
      have hown : (ns.zip tg).map (·.2) = tg := by
        rw [List.map_snd_zip]
        omega
      have ht : itNeeds it tgt := by
        cases it <;> try exact trivial
        all_goals
          cases one with
          | true => cases k11
          | false =>
            cases tgt <;> try (cases k3; done)
            all_goals first
              | exact ⟨_, _, _, rfl⟩
              | (cases k10; done)
      have pI := sndI it iter tgt g ht k2 (Wx := Wx)
      have gb := fun (s : Shared) (H : Hp) (C : Addr) (cl : List (Str × Addr)) (fp : List Addr) => g.block s H C cl fp scope
      have sm : SemE X xv Wx (tLc (tI X.K xv Wx (evI F it)) (gOf X.K tg one) (tT X.K xv (fun _ _ _ _ => False) (fun σ => .ok true σ)) (tE X.K xv (fun _ _ _ _ => False) (ev F elt)) tg) (ev F (.compO elt tg one it)) :=
        sem_compO (Xb := X) rfl (fi := evI F it) (fe := ev F elt) tI.sem semG_of tT.sem tE.sem
      have key : CompP F xv X Wx (.compO elt tg one it) (.ListComp e1 [⟨tgt, iter, [], 0⟩] scope pos) := by
        refine ⟨tgt, iter, [], _, gOf X.K tg one, _, _, ns.zip tg, rfl, pI, ?_, fun s H C cl fp => (Good.target (gb s H C cl fp) k4).1, fun s H C cl fp => ?_, fun s H C cl fp => ?_, folded_of (notT k5), by rw [hown]; exact sm⟩
        · rw [g.hN, g.hsc]
          exact blkOk_by j2
        · refine ⟨fun pins s0 τ H0 Q I ⟨G, W, σ, S, cc⟩ => pts_nil.run pins s0 τ H0 Q I ?_⟩
          exact cc G W H0 true S (Ext.refl _ _ _) rfl
        · exact (sndE elt e1 (gb s H C cl fp) k8).v
      obtain ⟨_, _, _, wi, gg, tt, te, own, hg, p1, p2, p3, p4, p5, p6, p7⟩ := key
      injection hg with hg1 _
      injection hg1 with h1 h2 h3
      subst h1
      subst h2
      subst h3
      exact .mk' rfl (pe_lc g.calm g.nd p1 p2 p3 p4 p5 p6) p7 (isTrue_of rfl) ⟨_, _, _, wi, gg, tt, te, own, rfl, p1, p2, p3, p4, p5, p6, p7⟩
theorem sndP {i : Nat} : ∀ (ks : List Ex) (e : Expr) {c : CC} {X : Cx} {Wx : WX}, Good T ar io F n xv X c Wx → chkP T c i ks e = true → ∃ ts, PE X e (tPathR X.K i ts) ∧ SemP X xv Wx ts (evF F ks)
  | [], e, c, X, Wx, g, h => by
    cases e <;> try (cases h; done)
    exact ⟨[], g.name h, .nil⟩
  | k :: ks, e, c, X, Wx, g, h => by
    cases e <;> try (cases k <;> cases h; done)
    · rename_i l m pos
      cases k <;> try (cases h; done)
      obtain ⟨h, k3⟩ := andT h
      obtain ⟨k1, k2⟩ := andT h
      obtain ⟨ts, p1, p2⟩ := sndP ks l g k3 (Wx := Wx)
      exact ⟨_, pe_fld p1 (base_of (notT k2)), .fld (beq_iff_eq.mp k1) p2⟩
    · rename_i l ke pos
      have h' : (!isSlice ke && k.bo.isNone && (match k with | .fld _ _ => false | _ => true) && chk T c k ke && chkP T c i ks l) = true := by
        cases k <;> first | exact h | (cases h; done)
      obtain ⟨h, k4⟩ := andT h'
      obtain ⟨h, k3⟩ := andT h
      obtain ⟨h, k5⟩ := andT h
      obtain ⟨k1, k2⟩ := andT h
      obtain ⟨ts, p1, p2⟩ := sndP ks l g k4 (Wx := Wx)
      have ef : evF F (k :: ks) = .ix (ev F k) :: evF F ks := by
        cases k <;> first | rfl | (cases k5; done)
      rw [ef]
      exact ⟨_, pe_ix ix_seq p1 ((sndE k ke g k3).none k2) (plainIx_of (notT k1)), .cons tO.sem p2⟩
theorem sndL : ∀ (as : List Ex) (es : List Expr) {c : CC} {X : Cx} {Wx : WX}, Good T ar io F n xv X c Wx → chks T c as es = true → PA X es (tL X.K xv Wx (evs F as)) ∧ PA X es (tA X.K xv Wx (as.map Ex.bo) (evp F as))
  | [], [], c, X, Wx, g, h => ⟨PV.PA.canL pa_nil SemL.nil, PV.PA.canA pa_nil SemA.nil⟩
  | a :: as, e :: es, c, X, Wx, g, h => by
    obtain ⟨h1, h2⟩ := andT h
    obtain ⟨h3, h4⟩ := andT h1
    have q := sndE a e g h4 (Wx := Wx)
    obtain ⟨r1, r2⟩ := sndL as es g h2 (Wx := Wx)
    have st := star_of (env := X.env) (es := es) (notT h3)
    refine ⟨?_, PV.PA.canA (pa_cons q.o r2 st) (SemA.cons tO.sem tA.sem)⟩
    exact PV.PA.canL (pa_cons (PV.PE.canO q.v tE.sem.opd) r1 st) (SemL.cons tO.sem tL.sem)
  | [], _ :: _, c, X, Wx, g, h => by cases h
  | _ :: _, [], c, X, Wx, g, h => by cases h
theorem sndAnd : ∀ (es : List Ex) (vs : List Expr) {c : CC} {X : Cx} {Wx : WX} {pos : Pos}, Good T ar io F n xv X c Wx → es ≠ [] → chks T c es vs = true →
    PE X (.BoolOp .And vs pos) (tE X.K xv Wx (fun σ => vb (evAnd F es σ))) ∧ PW X (.BoolOp .And vs pos) (tT X.K xv Wx (evAnd F es))
  | [], vs, c, X, Wx, pos, g, ne, h => absurd rfl ne
  | [a], vs, c, X, Wx, pos, g, ne, h => by
    obtain _ | ⟨v, _ | ⟨w, vs⟩⟩ := vs
    · cases h
    · have q := sndE a v g (andT (andT h).1).2 (Wx := Wx)
      exact ⟨PV.PE.can (pe_one q.v) tE.sem.boolOnly, PV.PW.can (pw_and1 q.t) tT.sem⟩
    · cases (andT h).2
  | a :: b :: as, vs, c, X, Wx, pos, g, ne, h => by
    obtain _ | ⟨v, _ | ⟨w, vs⟩⟩ := vs
    · cases h
    · cases (andT h).2
    · have q := sndE a v g (andT (andT h).1).2 (Wx := Wx)
      have r := sndAnd (b :: as) (w :: vs) g (by simp) (andT h).2 (Wx := Wx) (pos := pos)
      exact ⟨PV.PE.can (pe_and q.v r.1) (SemE.and tE.sem tE.sem), PV.PW.can (pw_and q.t r.2) (SemT.and tT.sem tT.sem)⟩
theorem sndOr : ∀ (es : List Ex) (vs : List Expr) {c : CC} {X : Cx} {Wx : WX} {pos : Pos}, Good T ar io F n xv X c Wx → es ≠ [] → chks T c es vs = true →
    PE X (.BoolOp .Or vs pos) (tE X.K xv Wx (fun σ => vb (evOr F es σ))) ∧ PW X (.BoolOp .Or vs pos) (tT X.K xv Wx (evOr F es))
  | [], vs, c, X, Wx, pos, g, ne, h => absurd rfl ne
  | [a], vs, c, X, Wx, pos, g, ne, h => by
    obtain _ | ⟨v, _ | ⟨w, vs⟩⟩ := vs
    · cases h
    · have q := sndE a v g (andT (andT h).1).2 (Wx := Wx)
      exact ⟨PV.PE.can (pe_one q.v) tE.sem.boolOnly, PV.PW.can (pw_or1 q.t) tT.sem⟩
    · cases (andT h).2
  | a :: b :: as, vs, c, X, Wx, pos, g, ne, h => by
    obtain _ | ⟨v, _ | ⟨w, vs⟩⟩ := vs
    · cases h
    · cases (andT h).2
    · have q := sndE a v g (andT (andT h).1).2 (Wx := Wx)
      have r := sndOr (b :: as) (w :: vs) g (by simp) (andT h).2 (Wx := Wx) (pos := pos)
      exact ⟨PV.PE.can (pe_or q.v r.1) (SemE.or tE.sem tE.sem), PV.PW.can (pw_or q.t r.2) (SemT.or tT.sem tT.sem)⟩
theorem sndI : ∀ (a : Ex) (e : Expr) (tg : Expr) {c : CC} {X : Cx} {Wx : WX}, Good T ar io F n xv X c Wx → itNeeds a tg → chkI T c a e = true → PI X tg e (tI X.K xv Wx (evI F a))
  | .seq a, e, tg, c, X, Wx, g, ht, h => by
    obtain ⟨h1, h2⟩ := andT h
    exact PV.PI.can (pi_seq ((sndE a e g h2).none h1)) (semI_seq tO.sem)
  | .rng es, e, tg, c, X, Wx, g, ht, h => by
    cases e <;> try (cases h; done)
    rename_i f vs kws pos
    cases f <;> try (cases h; done)
    rename_i x p
    cases kws <;> try (cases h; done)
    obtain ⟨h, k4⟩ := andT h
    obtain ⟨h, k3⟩ := andT h
    obtain ⟨k1, k2⟩ := andT h
    obtain ⟨q1, q2, q3⟩ := g.gn k1
    cases (beq_iff_eq.mp k2)
    have hs := chks_star k4
    have pa := (sndL es vs g k4 (Wx := Wx)).1
    have hl := chks_len k4
    rw [Bool.or_eq_true, Bool.or_eq_true, decide_eq_true_eq, decide_eq_true_eq, decide_eq_true_eq] at k3
    have evl : ∀ σ, (∀ ds σ', evs F es σ = .ok ds σ' → ds.length = es.length) := fun σ => evs_len es σ
    rcases k3 with (k3 | k3) | k3
    · obtain ⟨v, rfl⟩ := lst1 k3
      refine PV.PI.can (pi_range1 q1 (g.blt _ (by decide +kernel)) pa (star_of (hs v (by simp)))) ?_
      have e1 : ∀ σ, evI F (.rng es) σ = (evs F es σ).bind fun ds σ' => lift σ' (match ds with | [.int j] => rngD [.int j] | _ => none) := by
        intro σ
        show (evs F es σ).bind _ = _
        cases er : evs F es σ with
        | bad => rfl
        | exc _ _ => rfl
        | ok ds σ' =>
          have := evl σ ds σ' er
          rw [hl, k3] at this
          obtain ⟨d, rfl⟩ := lst1 this
          cases d <;> rfl
      have := semI_rng1 (tL.sem (X := X) (xv := xv) (Wx := Wx) (f := evs F es))
      rw [show (evI F (.rng es)) = _ from funext e1]
      exact this
    · obtain ⟨v, w, rfl⟩ : ∃ v w, vs = [v, w] := by
        obtain _ | ⟨v, _ | ⟨w, _ | ⟨_, _⟩⟩⟩ := vs <;> simp at k3
        exact ⟨v, w, rfl⟩
      refine PV.PI.can (pi_range2 q1 (g.blt _ (by decide +kernel)) pa (by rw [star_of (hs v (by simp)), star_of (hs w (by simp))]; rfl) (star_of (hs w (by simp)))) ?_
      have e1 : ∀ σ, evI F (.rng es) σ = (evs F es σ).bind fun ds σ' => lift σ' (match ds with | [.int i, .int j] => rngD [.int i, .int j] | _ => none) := by
        intro σ
        show (evs F es σ).bind _ = _
        cases er : evs F es σ with
        | bad => rfl
        | exc _ _ => rfl
        | ok ds σ' =>
          have := evl σ ds σ' er
          rw [hl, k3] at this
          obtain _ | ⟨a, _ | ⟨b, _ | ⟨_, _⟩⟩⟩ := ds <;> simp at this
          cases a <;> cases b <;> rfl
      have := semI_rng2 (tL.sem (X := X) (xv := xv) (Wx := Wx) (f := evs F es))
      rw [show (evI F (.rng es)) = _ from funext e1]
      exact this
    · obtain ⟨v, w, z, rfl⟩ : ∃ v w z, vs = [v, w, z] := by
        obtain _ | ⟨v, _ | ⟨w, _ | ⟨z, _ | ⟨_, _⟩⟩⟩⟩ := vs <;> simp at k3
        exact ⟨v, w, z, rfl⟩
      refine PV.PI.can (pi_range3 q1 (g.blt _ (by decide +kernel)) pa (star_of (hs v (by simp))) (by rw [star_of (hs w (by simp)), star_of (hs z (by simp))]; rfl)) ?_
      have e1 : ∀ σ, evI F (.rng es) σ = (evs F es σ).bind fun ds σ' => lift σ' (match ds with | [.int i, .int j, .int c] => rngD [.int i, .int j, .int c] | _ => none) := by
        intro σ
        show (evs F es σ).bind _ = _
        cases er : evs F es σ with
        | bad => rfl
        | exc _ _ => rfl
        | ok ds σ' =>
          have := evl σ ds σ' er
          rw [hl, k3] at this
          obtain _ | ⟨a, _ | ⟨b, _ | ⟨d, _ | ⟨_, _⟩⟩⟩⟩ := ds <;> simp at this
          cases a <;> cases b <;> cases d <;> rfl
      have := semI_rng3 (tL.sem (X := X) (xv := xv) (Wx := Wx) (f := evs F es))
      rw [show (evI F (.rng es)) = _ from funext e1]
      exact this
  | .enum a, e, tg, c, X, Wx, g, ht, h => by
    cases e <;> try (cases h; done)
    rename_i f vs kws pos
    cases f <;> try (cases h; done)
    rename_i x p
    obtain _ | ⟨v, _ | ⟨_, _⟩⟩ := vs <;> try (cases h; done)
    cases kws <;> try (cases h; done)
    obtain ⟨h, k5⟩ := andT h
    obtain ⟨h, k4⟩ := andT h
    obtain ⟨h, k3⟩ := andT h
    obtain ⟨k1, k2⟩ := andT h
    obtain ⟨q1, q2, q3⟩ := g.gn k1
    cases (beq_iff_eq.mp k2)
    obtain ⟨es, k, pt, rfl⟩ := ht
    exact PV.PI.can (pi_enum q1 (g.blt _ (by decide +kernel)) (pa_cons ((sndE a v g k5).none k4) pa_nil (star_of (notT k3))) (star_of (notT k3))) (semI_enum tO.sem)
  | .zip a b, e, tg, c, X, Wx, g, ht, h => by
    cases e <;> try (cases h; done)
    rename_i f vs kws pos
    cases f <;> try (cases h; done)
    rename_i x p
    obtain _ | ⟨v, _ | ⟨w, _ | ⟨_, _⟩⟩⟩ := vs <;> try (cases h; done)
    cases kws <;> try (cases h; done)
    obtain ⟨h, k8⟩ := andT h
    obtain ⟨h, k7⟩ := andT h
    obtain ⟨h, k6⟩ := andT h
    obtain ⟨h, k5⟩ := andT h
    obtain ⟨h, k4⟩ := andT h
    obtain ⟨h, k3⟩ := andT h
    obtain ⟨k1, k2⟩ := andT h
    obtain ⟨q1, q2, q3⟩ := g.gn k1
    cases (beq_iff_eq.mp k2)
    obtain ⟨es, k, pt, rfl⟩ := ht
    exact PV.PI.can (pi_zipM q1 (g.blt _ (by decide +kernel)) (pa_cons ((sndE a v g k7).none k5) (pa_cons ((sndE b w g k8).none k6) pa_nil (star_of (notT k4))) (star_of (notT k3))) (star_of (notT k3)) (backTo_plain fun e he => by
      have : e = w := by simpa using he
      rw [this]; exact notT k4)) (semI_zip tO.sem tO.sem)
  | .rev a, e, tg, c, X, Wx, g, ht, h => by
    cases e <;> try (cases h; done)
    rename_i f vs kws pos
    cases f <;> try (cases h; done)
    rename_i x p
    obtain _ | ⟨v, _ | ⟨_, _⟩⟩ := vs <;> try (cases h; done)
    cases kws <;> try (cases h; done)
    obtain ⟨h, k5⟩ := andT h
    obtain ⟨h, k4⟩ := andT h
    obtain ⟨h, k3⟩ := andT h
    obtain ⟨k1, k2⟩ := andT h
    obtain ⟨q1, q2, q3⟩ := g.gn k1
    cases (beq_iff_eq.mp k2)
    exact PV.PI.can (pi_reversed q1 (g.blt _ (by decide +kernel)) (pa_cons ((sndE a v g k5).none k4) pa_nil (star_of (notT k3))) (star_of (notT k3))) (semI_rev tO.sem)
  | .c _, e, tg, c, X, Wx, g, ht, h => by cases e <;> cases h
  | .var _, e, tg, c, X, Wx, g, ht, h => by cases e <;> cases h
  | .frz _, e, tg, c, X, Wx, g, ht, h => by cases e <;> cases h
  | .bor _, e, tg, c, X, Wx, g, ht, h => by cases e <;> cases h
  | .glb _ _, e, tg, c, X, Wx, g, ht, h => by cases e <;> cases h
  | .bin _ _ _, e, tg, c, X, Wx, g, ht, h => by cases e <;> cases h
  | .cmp _ _ _, e, tg, c, X, Wx, g, ht, h => by cases e <;> cases h
  | .chain _ _ _ _ _, e, tg, c, X, Wx, g, ht, h => by cases e <;> cases h
  | .chain3 _ _ _ _ _ _ _, e, tg, c, X, Wx, g, ht, h => by cases e <;> cases h
  | .not _, e, tg, c, X, Wx, g, ht, h => by cases e <;> cases h
  | .neg _, e, tg, c, X, Wx, g, ht, h => by cases e <;> cases h
  | .and _, e, tg, c, X, Wx, g, ht, h => by cases e <;> cases h
  | .or _, e, tg, c, X, Wx, g, ht, h => by cases e <;> cases h
  | .tup _, e, tg, c, X, Wx, g, ht, h => by cases e <;> cases h
  | .lst _, e, tg, c, X, Wx, g, ht, h => by cases e <;> cases h
  | .ix _ _, e, tg, c, X, Wx, g, ht, h => by cases e <;> cases h
  | .sl _ _ _, e, tg, c, X, Wx, g, ht, h => by cases e <;> cases h
  | .no, e, tg, c, X, Wx, g, ht, h => by cases e <;> cases h
  | .call _ _, e, tg, c, X, Wx, g, ht, h => by cases e <;> cases h
  | .bf _ _, e, tg, c, X, Wx, g, ht, h => by cases e <;> cases h
  | .isi _ _, e, tg, c, X, Wx, g, ht, h => by cases e <;> cases h
  | .mt _ _ _, e, tg, c, X, Wx, g, ht, h => by cases e <;> cases h
  | .pop _, e, tg, c, X, Wx, g, ht, h => by cases e <;> cases h
  | .fz _, e, tg, c, X, Wx, g, ht, h => by cases e <;> cases h
  | .own _, e, tg, c, X, Wx, g, ht, h => by cases e <;> cases h
  | .callO _ _, e, tg, c, X, Wx, g, ht, h => by cases e <;> cases h
  | .dnew _, e, tg, c, X, Wx, g, ht, h => by cases e <;> cases h
  | .dget _ _, e, tg, c, X, Wx, g, ht, h => by cases e <;> cases h
  | .din _ _, e, tg, c, X, Wx, g, ht, h => by cases e <;> cases h
  | .dnin _ _, e, tg, c, X, Wx, g, ht, h => by cases e <;> cases h
  | .dix _ _, e, tg, c, X, Wx, g, ht, h => by cases e <;> cases h
  | .dsk _, e, tg, c, X, Wx, g, ht, h => by cases e <;> cases h
  | .mv _, e, tg, c, X, Wx, g, ht, h => by cases e <;> cases h
  | .frzT _, e, tg, c, X, Wx, g, ht, h => by cases e <;> cases h
  | .lnP _ _, e, tg, c, X, Wx, g, ht, h => by cases e <;> cases h
  | .trev _, e, tg, c, X, Wx, g, ht, h => by cases e <;> cases h
  | .comp _ _ _ _ _, e, tg, c, X, Wx, g, ht, h => by cases e <;> cases h
  | .compH _ _ _ _ _, e, tg, c, X, Wx, g, ht, h => by cases e <;> cases h
  | .skey _, e, tg, c, X, Wx, g, ht, h => by cases e <;> cases h
  | .lvals _, e, tg, c, X, Wx, g, ht, h => by cases e <;> cases h
  | .sset _, e, tg, c, X, Wx, g, ht, h => by cases e <;> cases h
  | .dnew1 _ _, e, tg, c, X, Wx, g, ht, h => by cases e <;> cases h
  | .fld _ _, e, tg, c, X, Wx, g, ht, h => by cases e <;> cases h
  | .ixP _ _ _, e, tg, c, X, Wx, g, ht, h => by cases e <;> cases h
  | .dgetP _ _ _, e, tg, c, X, Wx, g, ht, h => by cases e <;> cases h
  | .dinP _ _ _, e, tg, c, X, Wx, g, ht, h => by cases e <;> cases h
  | .dninP _ _ _, e, tg, c, X, Wx, g, ht, h => by cases e <;> cases h
  | .lstP _ _, e, tg, c, X, Wx, g, ht, h => by cases e <;> cases h
  | .mvF _ _ _, e, tg, c, X, Wx, g, ht, h => by cases e <;> cases h
  | .mk _ _ _, e, tg, c, X, Wx, g, ht, h => by cases e <;> cases h
  | .callM _ _ _, e, tg, c, X, Wx, g, ht, h => by cases e <;> cases h
  | .rep _ _, e, tg, c, X, Wx, g, ht, h => by cases e <;> cases h
  | .compO _ _ _ _, e, tg, c, X, Wx, g, ht, h => by cases e <;> cases h
  | .lrng _, e, tg, c, X, Wx, g, ht, h => by cases e <;> cases h
  | .lrev _, e, tg, c, X, Wx, g, ht, h => by cases e <;> cases h
end
end
end PV
set_option maxRecDepth 100000
set_option maxHeartbeats 4000000
namespace PV
open PySem PySem.Spec PyProof.Rows L2
def toSlot (W : Own?) (i : Nat) : Own? := fun b => match W b with
  | some (0 :: r) => some ((i + 1) :: r)
  | x => x
theorem toSlot_none {W : Own?} {i : Nat} {a : Addr} {p : List Nat} (e : toSlot W i a = some p) : ∃ q, W a = some q := by
  unfold toSlot at e
  split at e
  · rename_i r h; exact ⟨_, h⟩
  · exact ⟨_, e⟩
theorem toSlot_ne {W : Own?} {i : Nat} {a : Addr} (e : toSlot W i a ≠ none) : W a ≠ none := by
  obtain ⟨p, h⟩ := Option.ne_none_iff_exists'.mp e
  obtain ⟨q, h⟩ := toSlot_none h
  rw [h]; simp
theorem Sim.setO {K : PySem.W.Frag} {G H : Hp} {W : Own?} {σ : Sg} {τ : LS} {o : O} {v : V} (S : Sim K G W H σ τ) (i : Nat) (p : Own K G H W [0] o v) :
    ∃ W', Sim K G W' H (σ.set i (some o)) (τ.set i (some v)) ∧ Ext G W H G W' H := by
  have keep : ∀ j o' v', Own K G H W [j + 1] o' v' → Own K G H (toSlot W i) [j + 1] o' v' := fun j o' v' h => h.ren (Same.refl _) fun a q e => ⟨by unfold toSlot; rw [e]; rfl, rfl⟩
  refine ⟨toSlot W i, ⟨S.gh, fun b p e => ?_, fun b p e => ?_, fun j o' ej => ?_, by rw [List.length_set, List.length_set]; exact S.len⟩, ⟨Same.refl _, fun _ _ _ => rfl, fun _ h => h, fun b hb => .inl (toSlot_ne hb), fun b hb => .inl hb⟩⟩
  · obtain ⟨q, h⟩ := toSlot_none e
    exact S.gw _ _ h
  · obtain ⟨q, h⟩ := toSlot_none e
    exact S.hw _ _ h
  · by_cases hi : i < σ.length
    · by_cases z : i = j
      · subst z
        rw [getO_set hi] at ej
        cases ej
        exact ⟨_, by rw [List.getElem?_set_self (by rw [← S.len]; exact hi)], p.ren (Same.refl _) fun a q e => ⟨by unfold toSlot; rw [e]; rfl, rfl⟩⟩
      · rw [getO_set_ne z] at ej
        obtain ⟨v', h1, h2⟩ := S.sl j o' ej
        exact ⟨v', by rw [List.getElem?_set_ne z]; exact h1, keep _ _ _ h2⟩
    · rw [List.set_eq_of_length_le (by omega)] at ej
      rw [List.set_eq_of_length_le (by rw [← S.len]; omega)]
      obtain ⟨v', h1, h2⟩ := S.sl j o' ej
      exact ⟨v', h1, keep _ _ _ h2⟩
def chkXs (T : Tb) (c : CC) : List (List Nat) → List Expr → Bool
  | [], [] => true
  | ks :: r, .Name x _ :: es => gnOk c x && T.xi.contains (x, ks) && chkXs T c r es
  | _, _ => false
mutual
def chkU (T : Tb) (c : CC) (i : Nat) : SuE → Expr → Bool
  | .isx ks, .Call (.Name f _) [.Name n _, .Name x _] [] _ => f == ("isinstance" : Str) && gnOk c f && nmOk c i n && gnOk c x && T.xi.contains (x, ks)
  | .isxs kss, .Call (.Name f _) [.Name n _, .Tuple vs _ _] [] _ => f == ("isinstance" : Str) && gnOk c f && nmOk c i n && chkXs T c kss vs && decide (kss.length ≤ 100)
  | .bl b, .Constant (.bool b') _ _ => b == b'
  | .var j, .Name x _ => nmOk c j x
  | .not e, .UnaryOp .Not v _ => chkU T c i e v
  | .and es, .BoolOp .And vs _ => !es.isEmpty && chkUs T c i es vs
  | _, _ => false
termination_by structural x => x
def chkUs (T : Tb) (c : CC) (i : Nat) : List SuE → List Expr → Bool
  | [], [] => true
  | a :: as, e :: es => !isStar e && chkU T c i a e && chkUs T c i as es
  | _, _ => false
termination_by structural x => x
end
def okSet (c : CC) (i j : Nat) (x : Str) : Bool := stOk c j x && !c.fx.contains j && !(j == i)
def chkV (T : Tb) (c : CC) (i : Nat) : SuS → Stmt → Bool
  | .set j e, .Assign [.Name x _] v _ => okSet c i j x && !isComp v && chkU T c i e v
  | .lst j es, .Assign [.Name x _] (.List vs _) _ => okSet c i j x && chkUs T c i es vs
  | .add j es, .Assign [.Name x _] (.BinOp (.Name y _) .Add (.List vs _) _) _ => okSet c i j x && nmOk c j y && chkUs T c i es vs
  | .str j s, .Assign [.Name x _] (.Constant (.str z) _ _) _ => okSet c i j x && sOf s == z
  | _, _ => false
def chkVs (T : Tb) (c : CC) (i : Nat) : List SuS → List Stmt → Bool
  | [], [] => true
  | a :: as, e :: es => chkV T c i a e && chkVs T c i as es
  | _, _ => false
structure ExF (T : Tb) (K : PySem.W.Frag) (mg : Str → Option Value) (xv : ExV) : Prop where
  xe : ∀ k y, T.xs.lookup k = some y → ∃ D, xv k = .ref D ∧ L2.ExcC K D
  xi : ∀ x ks, T.xi.contains (x, ks) = true → ∃ (v : V) (cv : Value), ClsV v cv ∧ (mg x = some cv ∨ (mg x = none ∧ bootBuiltins x = some cv)) ∧ ∀ k y, T.xs.lookup k = some y → PySem.W.kitOne K (xv k) cv = some (ks.contains k)
  hd : ∀ x ks, T.hd.contains (x, ks) = true → ∃ c, mg x = some c ∧ ∀ k, ks.contains k = true → (∃ y, T.xs.lookup k = some y) ∧ PySem.W.exmOne K (xv k) c = some true
theorem _root_.L2.ClsV.rel {v : V} {u : Value} (h : ClsV v u) : RelV v u := by cases h <;> rfl
mutual
def tauE (k : Nat) (τ : LS) : SuE → Option Bool
  | .isx ks => some (ks.contains k)
  | .isxs kss => some (kss.any fun ks => ks.contains k)
  | .bl b => some b
  | .var j => match τ[j]? with
    | some (some (.bl b)) => some b
    | _ => none
  | .not e => (tauE k τ e).map (!·)
  | .and es => tauA k τ es
def tauA (k : Nat) (τ : LS) : List SuE → Option Bool
  | [] => some true
  | e :: es => match tauE k τ e, tauA k τ es with
    | some a, some b => some (a && b)
    | _, _ => none
end
def tauL (k : Nat) (τ : LS) : List SuE → Option (List Bool)
  | [] => some []
  | e :: es => match tauE k τ e, tauL k τ es with
    | some a, some b => some (a :: b)
    | _, _ => none
def More (H H' : Hp) : Prop := ∀ a, H a ≠ none → H' a = H a
theorem More.refl (H : Hp) : More H H := fun _ _ => rfl
theorem More.trans {H H1 H2 : Hp} (a : More H H1) (b : More H1 H2) : More H H2 := fun x h => by rw [b x (by rw [a x h]; exact h), a x h]
theorem More.upd {H : Hp} {p : Addr} (o : HO) (h : H p = none) : More H (upd H p o) := fun x hx => upd_ne fun z => hx (by rw [z]; exact h)
theorem Sim.more {K : PySem.W.Frag} {G H H' : Hp} {W : Own?} {σ : Sg} {τ : LS} (S : Sim K G W H σ τ) (m : More H H') : Grow G W H G W H' :=
  ⟨Same.refl _, fun a u e => by
    have := S.gh a u e
    rw [m a (by rw [this]; simp)]; exact this, m, fun _ _ h => h, fun _ h => .inl h, fun _ h => .inl h, S.gw, fun a p e => by
    have := S.hw a p e
    rw [m a this]; exact this⟩
section
variable {X : Cx} {e : Expr} {es : List Expr} {t t' : TE} {u u' : TA} {s : Stmt} {q q' : TS}
theorem weakE (h : PE X e t) (w : ∀ τ H Q, t' τ H Q → t τ H Q) : PE X e t' := ⟨fun pins s τ H Q I z => h.run pins s τ H Q I (w τ H Q z)⟩
theorem weakA (h : PA X es u) (w : ∀ τ H Q, u' τ H Q → u τ H Q) : PA X es u' := ⟨fun pos pins s τ H Q I z => h.run pos pins s τ H Q I (w τ H Q z)⟩
theorem weakS (h : PS X s q) (w : ∀ D τ H, q' D τ H → q D τ H) : PS X s q' := ⟨fun pins s τ H D I z => h.run pins s τ H D I (w D τ H z)⟩
end
def rdE (i : Nat) (a : Addr) (k : Nat) (e : SuE) : TE := fun τ H Q => τ[i]? = some (some (.ref a)) ∧ ∃ b, tauE k τ e = some b ∧ ∀ H', More H H' → Q (.bl b) H'
def rdA (i : Nat) (a : Addr) (k : Nat) (es : List SuE) : TE := fun τ H Q => τ[i]? = some (some (.ref a)) ∧ ∃ b, tauA k τ es = some b ∧ ∀ H', More H H' → Q (.bl b) H'
def rdL (i : Nat) (a : Addr) (k : Nat) (es : List SuE) : TA := fun τ H Q => τ[i]? = some (some (.ref a)) ∧ ∃ bs, tauL k τ es = some bs ∧ ∀ H', More H H' → Q (bs.map .bl) H'
theorem call_isET {X : Cx} {a D : Addr} {oe : Obj} {pn : List (Addr × Obj)} (C : ExcC X.K D) (hz : Zc (.ref D) none oe) (hf : ∃ vs, oe.data = .fields vs) : CallR (X.suite a ((a, oe) :: pn)) (.builtin "isinstance")
    (fun xs H Q => ∃ tp cs us b, xs = [.ref a, .ref tp] ∧ H tp = some (.tup cs) ∧ Paired ClsV cs us ∧ PySem.W.kitAny X.K (.ref D) us = some b ∧ Q (.bl b) H) := by
  intro pins s σ H xs us Q I r h
  obtain ⟨tp, cs, ws, b, rfl, hT, k, e, q⟩ := h
  obtain ⟨u1, u2, rfl, r1, r2⟩ := vals2 r
  cases (show u2 = Value.ref tp from r2)
  cases (show u1 = Value.ref a from r1)
  obtain ⟨_, its, rv, o, h1, h2, n, h3⟩ := (show ObjOk X.prog X.w H s.heap tp (.tup cs) from I.hok tp _ hT)
  have e3 := ClsV.all k rv
  subst e3
  obtain ⟨oc, od, dt, sl⟩ := o
  simp only at h2 h3
  subst h2 h3
  obtain ⟨hget, _⟩ := I.pin (a, oe) (List.mem_append.mpr (.inl List.mem_cons_self))
  obtain ⟨vs, hv⟩ := hf
  have J : PySem.W.InstAt s.heap a oe D none := by
    obtain ⟨oc, od, oda, osl⟩ := oe
    obtain ⟨z1, z2⟩ := hz
    dsimp only at z1 z2 hv
    subst z1 z2 hv
    exact ⟨hget, rfl, rfl, trivial⟩
  exact PySem.W.kia_tup (PySem.W.handS_kitx_exc C.hg C.hk C.hs C.hd C.ha C.hn C.ht C.hm) I.kIn J h1 e (fun z => nomatch z) fun tk => ⟨.bl b, H, I.kept (t' := tk) fun _ _ z => z, rfl, q⟩
section
variable {T : Tb} {ar : Nat → Nat} {io : Nat → List Nat} {F : Fn} {n : Nat} {xv : ExV} {X : Cx} {c : CC} {Wx : WX}
variable (g : Good T ar io F n xv X c Wx) (ef : ExF T X.K X.mg xv) {i k : Nat} {a D : Addr} {oe : Obj} {pn : List (Addr × Obj)} {y : Str}
include g
theorem su_name {j : Nat} {x : Str} {pos : Pos} (h : nmOk c j x = true) : PE (X.suite a ((a, oe) :: pn)) (.Name x pos) (tVar j) := by
  unfold nmOk at h
  obtain ⟨h, h4⟩ := andT h
  obtain ⟨h, h3⟩ := andT h
  obtain ⟨h1, h2⟩ := andT h
  exact pe_var (X := X.suite a ((a, oe) :: pn)) (by show X.N[j]? = _; rw [g.hN]; exact beq_iff_eq.mp h1) (g.vis h2) (notT h3) (notT h4)
include ef
theorem su_cls {x : Str} {pos : Pos} {ks : List Nat} (h1 : gnOk c x = true) (h2 : T.xi.contains (x, ks) = true) (hy : T.xs.lookup k = some y) : ∃ v cv, ClsV v cv ∧ PE (X.suite a ((a, oe) :: pn)) (.Name x pos) (tC v) ∧ PySem.W.kitOne X.K (xv k) cv = some (ks.contains k) := by
  obtain ⟨v, cv, q1, q2, q3⟩ := ef.xi x ks h2
  obtain ⟨p1, p2, p3⟩ := g.gn h1
  refine ⟨v, cv, q1, ?_, q3 k y hy⟩
  rcases q2 with m | ⟨m, b⟩
  · exact pe_glob (X := X.suite a ((a, oe) :: pn)) p1 m q1.rel p2
  · exact pe_bltn (X := X.suite a ((a, oe) :: pn)) p1 m b q1.rel p3 p2
theorem su_clss (hy : T.xs.lookup k = some y) : ∀ (kss : List (List Nat)) (vs : List Expr), chkXs T c kss vs = true → ∃ cs us, cs.length = kss.length ∧ Paired ClsV cs us ∧ PA (X.suite a ((a, oe) :: pn)) vs (fun _ H Q => Q cs H) ∧ PySem.W.kitAny X.K (xv k) us = some (kss.any fun ks => ks.contains k)
  | [], [], _ => ⟨[], [], rfl, .nil, pa_nil, rfl⟩
  | [], _ :: _, h => by cases h
  | _ :: _, [], h => by cases h
  | ks :: r, e :: es, h => by
    cases e <;> try (cases h; done)
    obtain ⟨h, h3⟩ := andT h
    obtain ⟨h1, h2⟩ := andT h
    obtain ⟨v, cv, q1, q2, q3⟩ := su_cls g ef (oe := oe) (pn := pn) (a := a) h1 h2 hy
    obtain ⟨cs, us, l, p, pa, ka⟩ := su_clss hy r es h3
    refine ⟨v :: cs, cv :: us, by simp [l], .cons q1 p, weakA (pa_cons q2 pa rfl) fun _ _ _ z => z, ?_⟩
    cases hb : ks.contains k with
    | true =>
      rw [hb] at q3
      refine kitAny_cons q3 (fun z => nomatch z) fun _ => ?_
      rw [List.any_cons, hb]; rfl
    | false =>
      rw [hb] at q3
      refine kitAny_cons q3 (fun _ => ?_) (fun z => nomatch z)
      rw [ka, List.any_cons, hb]; rfl
omit ef in
theorem su_pair {tb : TE} {e : Expr} {x : Str} {p : Pos} (hx : nmOk c i x = true) (hb : PE (X.suite a ((a, oe) :: pn)) e tb) (hs : isStar e = false) : PA (X.suite a ((a, oe) :: pn)) [.Name x p, e] (tCons (tVar i) (tCons tb tNil)) :=
  pa_cons (su_name g hx) (pa_cons hb pa_nil (star_of hs)) rfl
mutual
theorem sndU (hx : xv k = .ref D) (C : ExcC X.K D) (hz : Zc (.ref D) none oe) (hf : ∃ vs, oe.data = .fields vs) (hy : T.xs.lookup k = some y) : ∀ (u : SuE) (e : Expr), chkU T c i u e = true → PE (X.suite a ((a, oe) :: pn)) e (rdE i a k u)
  | .isx ks, e, h => by
    cases e <;> try (cases h; done)
    rename_i f vs kws pos
    cases f <;> try (cases h; done)
    obtain _ | ⟨v, _ | ⟨w, _ | ⟨_, _⟩⟩⟩ := vs <;> try (cases h; done)
    · cases v <;> cases h
    · cases v <;> try (cases h; done)
      cases w <;> try (cases h; done)
      cases kws <;> try (cases h; done)
      obtain ⟨h, h5⟩ := andT h
      obtain ⟨h, h4⟩ := andT h
      obtain ⟨h, h3⟩ := andT h
      obtain ⟨h1, h2⟩ := andT h
      obtain ⟨p1, p2, p3⟩ := g.gn h2
      cases (beq_iff_eq.mp h1)
      obtain ⟨v, cv, q1, q2, q3⟩ := su_cls g ef (oe := oe) (pn := pn) (a := a) h4 h5 hy
      rw [hx] at q3
      refine weakE (pe_callB (X := X.suite a ((a, oe) :: pn)) (call_isE C hz hf) p1 (g.blt _ (by decide +kernel)) PyProof.Rows.boot_isinstance (su_pair g h3 q2 rfl) p3 p2 rfl rfl) fun τ H Q ⟨w1, b, w2, w3⟩ => ?_
      cases w2
      exact ⟨_, w1, v, cv, _, rfl, fun u r => q1.eq r, q3, w3 H (More.refl H)⟩
    · cases v <;> try (cases h; done)
      cases w <;> cases h
  | .isxs kss, e, h => by
    cases e <;> try (cases h; done)
    rename_i f vs kws pos
    cases f <;> try (cases h; done)
    obtain _ | ⟨v, _ | ⟨w, _ | ⟨_, _⟩⟩⟩ := vs <;> try (cases h; done)
    · cases v <;> cases h
    · cases v <;> try (cases h; done)
      cases w <;> try (cases h; done)
      cases kws <;> try (cases h; done)
      obtain ⟨h, h5⟩ := andT h
      obtain ⟨h, h4⟩ := andT h
      obtain ⟨h, h3⟩ := andT h
      obtain ⟨h1, h2⟩ := andT h
      obtain ⟨p1, p2, p3⟩ := g.gn h2
      cases (beq_iff_eq.mp h1)
      obtain ⟨cs, us, l, p, pa, ka⟩ := su_clss g ef (oe := oe) (pn := pn) (a := a) hy _ _ h4
      rw [hx] at ka
      have hl := of_decide_eq_true h5
      refine weakE (pe_callB (X := X.suite a ((a, oe) :: pn)) (call_isET C hz hf) p1 (g.blt _ (by decide +kernel)) PyProof.Rows.boot_isinstance (su_pair g h3 (pe_tup pa) rfl) p3 p2 rfl rfl) fun τ H Q ⟨w1, b, w2, w3⟩ => ?_
      cases w2
      exact ⟨_, w1, by rw [szl, l]; show _ ≤ 16777216; omega, fun tp htp => ⟨tp, cs, us, _, rfl, upd_same, p, ka, w3 _ (More.upd _ htp)⟩⟩
    · cases v <;> try (cases h; done)
      cases w <;> cases h
  | .bl b, e, h => by
    cases e <;> try (cases h; done)
    rename_i kc _ _
    cases kc <;> try (cases h; done)
    cases (beq_iff_eq.mp h)
    refine weakE pe_bl fun τ H Q ⟨w1, b, w2, w3⟩ => ?_
    cases w2
    exact w3 H (More.refl H)
  | .var j, e, h => by
    cases e <;> try (cases h; done)
    refine weakE (su_name g h) fun τ H Q ⟨w1, b, w2, w3⟩ => ?_
    unfold tauE at w2
    split at w2
    · rename_i b' ej
      cases w2
      exact ⟨_, ej, w3 H (More.refl H)⟩
    · cases w2
  | .not u, e, h => by
    cases e <;> try (cases h; done)
    rename_i op v pos
    cases op <;> try (cases h; done)
    refine weakE (pe_not (sndU hx C hz hf hy u v h)) fun τ H Q ⟨w1, b, w2, w3⟩ => ?_
    unfold tauE at w2
    obtain ⟨b', e1, rfl⟩ := Option.map_eq_some_iff.mp w2
    exact ⟨w1, b', e1, fun H' m => ⟨b', rfl, w3 H' m⟩⟩
  | .and us, e, h => by
    cases e <;> try (cases h; done)
    rename_i op vs pos
    cases op <;> try (cases h; done)
    obtain ⟨h1, h2⟩ := andT h
    have ne : us ≠ [] := fun z => by rw [z] at h1; cases h1
    exact weakE (sndUa hx C hz hf hy us vs pos ne h2) fun τ H Q w => w
theorem sndUa (hx : xv k = .ref D) (C : ExcC X.K D) (hz : Zc (.ref D) none oe) (hf : ∃ vs, oe.data = .fields vs) (hy : T.xs.lookup k = some y) : ∀ (us : List SuE) (es : List Expr) (pos : Pos), us ≠ [] → chkUs T c i us es = true → PE (X.suite a ((a, oe) :: pn)) (.BoolOp .And es pos) (rdA i a k us)
  | [], _, _, hn, _ => absurd rfl hn
  | _ :: _, [], _, _, h => by cases h
  | u :: us, e :: es, pos, _, h => by
    obtain ⟨h, h3⟩ := andT h
    obtain ⟨h1, h2⟩ := andT h
    have pu := sndU hx C hz hf hy u e h2
    cases us with
    | nil =>
      cases es with
      | cons _ _ => cases h3
      | nil =>
        refine weakE (pe_one pu) fun τ H Q ⟨w1, b, w2, w3⟩ => ?_
        simp only [tauA] at w2
        split at w2
        · rename_i x z ex ez
          cases ez
          cases w2
          rw [Bool.and_true] at w3
          exact ⟨w1, x, ex, w3⟩
        · cases w2
    | cons u2 us =>
      cases es with
      | nil => cases h3
      | cons e2 es =>
        refine weakE (pe_and pu (sndUa hx C hz hf hy (u2 :: us) (e2 :: es) pos (by simp) h3)) fun τ H Q ⟨w1, b, w2, w3⟩ => ?_
        rw [tauA] at w2
        split at w2
        · rename_i x z ex ez
          cases w2
          refine ⟨w1, x, ex, fun H' m => ⟨x, rfl, ?_⟩⟩
          cases x with
          | true => exact ⟨w1, z, ez, fun H2 m2 => w3 H2 (m.trans m2)⟩
          | false => exact w3 H' m
        · cases w2
end
theorem sndUl (hx : xv k = .ref D) (C : ExcC X.K D) (hz : Zc (.ref D) none oe) (hf : ∃ vs, oe.data = .fields vs) (hy : T.xs.lookup k = some y) : ∀ (us : List SuE) (es : List Expr), chkUs T c i us es = true → PA (X.suite a ((a, oe) :: pn)) es (rdL i a k us)
  | [], [], _ => weakA pa_nil fun τ H Q ⟨w1, b, w2, w3⟩ => by
      cases w2
      exact w3 H (More.refl H)
  | [], _ :: _, h => by cases h
  | _ :: _, [], h => by cases h
  | u :: us, e :: es, h => by
    obtain ⟨h, h3⟩ := andT h
    obtain ⟨h1, h2⟩ := andT h
    refine weakA (pa_cons (sndU g ef hx C hz hf hy u e h2) (sndUl hx C hz hf hy us es h3) (star_of (notT h1))) fun τ H Q ⟨w1, b, w2, w3⟩ => ?_
    rw [tauL] at w2
    split at w2
    · rename_i x z ex ez
      cases w2
      exact ⟨w1, x, ex, fun H' m => ⟨w1, z, ez, fun H2 m2 => w3 H2 (m.trans m2)⟩⟩
    · cases w2
end
def rdV (K : PySem.W.Frag) (i : Nat) (a : Addr) (k : Nat) : SuS → TS
  | .set j e => fun D τ H => τ[i]? = some (some (.ref a)) ∧ ∃ b, tauE k τ e = some b ∧ ∀ H', More H H' → D.nx (τ.set j (some (.bl b))) H'
  | .lst j es => fun D τ H => τ[i]? = some (some (.ref a)) ∧ ∃ bs, tauL k τ es = some bs ∧ bs.length ≤ sizeLine ∧ ∀ H', More H H' → ∀ p, H' p = none → D.nx (τ.set j (some (.ref p))) (upd H' p (.lst (bs.map .bl)))
  | .add j es => fun D τ H => τ[i]? = some (some (.ref a)) ∧ ∃ bs l vs, tauL k τ es = some bs ∧ τ[j]? = some (some (.ref l)) ∧ SqL K H l vs ∧ vs.length + bs.length ≤ sizeLine ∧ ∀ H', More H H' → ∀ p, H' p = none → D.nx (τ.set j (some (.ref p))) (upd H' p (.lst (vs ++ bs.map .bl)))
  | .str j s => fun D τ H => D.nx (τ.set j (some (.str (sOf s)))) H
def rdVs (K : PySem.W.Frag) (i : Nat) (a : Addr) (k : Nat) : List SuS → TS
  | [] => tNext
  | s :: ss => tSeq (rdV K i a k s) (rdVs K i a k ss)
theorem seq_more {K : PySem.W.Frag} {H H' : Hp} {l : Addr} {vs : List V} (m : More H H') (h : SqL K H l vs) : SqL K H' l vs := by
  have s : Same H H' := fun b u e => by rw [m b (by rw [e]; simp)]; exact e
  exact s.seq h
section
variable {T : Tb} {ar : Nat → Nat} {io : Nat → List Nat} {F : Fn} {n : Nat} {xv : ExV} {X : Cx} {c : CC} {Wx : WX}
variable (g : Good T ar io F n xv X c Wx) (ef : ExF T X.K X.mg xv) {i k : Nat} {a D : Addr} {oe : Obj} {pn : List (Addr × Obj)} {y : Str}
include g
theorem su_set {j : Nat} {x : Str} {e : Expr} {te : TE} {p pos : Pos} (h : okSet c i j x = true) (hc : isComp e = false) (he : PE (X.suite a ((a, oe) :: pn)) e te) : PS (X.suite a ((a, oe) :: pn)) (.Assign [.Name x p] e pos) (tAsg te (gName j)) := by
  obtain ⟨h, _⟩ := andT h
  obtain ⟨h, _⟩ := andT h
  obtain ⟨q1, q2⟩ := andT h
  obtain ⟨s1, s2⟩ := g.sto q2
  have hN : X.N[j]? = some x := by rw [g.hN]; exact beq_iff_eq.mp q1
  exact ps_set (X := X.suite a ((a, oe) :: pn)) g.nd hN s1 he (swaps_of hc) s2
include ef
theorem sndV (hx : xv k = .ref D) (C : ExcC X.K D) (hz : Zc (.ref D) none oe) (hf : ∃ vs, oe.data = .fields vs) (hy : T.xs.lookup k = some y) : ∀ (u : SuS) (s : Stmt), chkV T c i u s = true → PS (X.suite a ((a, oe) :: pn)) s (rdV X.K i a k u)
  | .set j e, s, h => by
    cases s <;> try (cases h; done)
    rename_i ts v pos
    obtain _ | ⟨t, _ | ⟨_, _⟩⟩ := ts <;> try (cases h; done)
    · cases t <;> try (cases h; done)
      obtain ⟨h, h3⟩ := andT h
      obtain ⟨h1, h2⟩ := andT h
      exact weakS (su_set g h1 (notT h2) (sndU g ef hx C hz hf hy e v h3)) fun D τ H w => w
    · cases t <;> cases h
  | .lst j es, s, h => by
    cases s <;> try (cases h; done)
    rename_i ts v pos
    obtain _ | ⟨t, _ | ⟨_, _⟩⟩ := ts <;> try (cases h; done)
    · cases t <;> try (cases h; done)
      cases v <;> try (cases h; done)
      obtain ⟨h1, h2⟩ := andT h
      refine weakS (su_set g h1 rfl (pe_lst (sndUl g ef hx C hz hf hy es _ h2))) fun D τ H ⟨w1, bs, w2, w3, w4⟩ => ?_
      exact ⟨w1, bs, w2, fun H' m => ⟨by rw [List.length_map]; exact w3, fun p hp => w4 H' m p hp⟩⟩
    · cases t <;> cases h
  | .add j es, s, h => by
    cases s <;> try (cases h; done)
    rename_i ts v pos
    obtain _ | ⟨t, _ | ⟨_, _⟩⟩ := ts <;> try (cases h; done)
    · cases t <;> try (cases h; done)
      cases v <;> try (cases h; done)
      rename_i l o r p2
      cases l <;> try (cases h; done)
      cases o <;> try (cases h; done)
      cases r <;> try (cases h; done)
      obtain ⟨h, h3⟩ := andT h
      obtain ⟨h1, h2⟩ := andT h
      refine weakS (su_set g h1 rfl (pe_op op_catL (su_name g h2) (pe_lst (sndUl g ef hx C hz hf hy es _ h3)))) fun D τ H ⟨w1, bs, l, vs, w2, wj, wl, w3, w4⟩ => ?_
      refine ⟨_, wj, w1, bs, w2, fun H' m => ⟨by rw [List.length_map]; omega, fun p hp => ?_⟩⟩
      exact ⟨l, p, vs, bs.map .bl, rfl, rfl, seq_more (m.trans (More.upd _ hp)) wl, .of upd_same, by rw [List.length_map]; exact w3, fun p2 hp2 => w4 _ (m.trans (More.upd _ hp)) p2 hp2⟩
    · cases t <;> cases h
  | .str j z, s, h => by
    cases s <;> try (cases h; done)
    rename_i ts v pos
    obtain _ | ⟨t, _ | ⟨_, _⟩⟩ := ts <;> try (cases h; done)
    · cases t <;> try (cases h; done)
      cases v <;> try (cases h; done)
      rename_i kc _ _
      cases kc <;> try (cases h; done)
      obtain ⟨h1, h2⟩ := andT h
      cases (beq_iff_eq.mp h2)
      exact weakS (su_set g h1 rfl pe_str) fun D τ H w => w
    · cases t <;> cases h
theorem sndVs (hx : xv k = .ref D) (C : ExcC X.K D) (hz : Zc (.ref D) none oe) (hf : ∃ vs, oe.data = .fields vs) (hy : T.xs.lookup k = some y) : ∀ (us : List SuS) (ss : List Stmt), chkVs T c i us ss = true → PSs (X.suite a ((a, oe) :: pn)) ss (rdVs X.K i a k us)
  | [], [], _ => pss_nil
  | [], _ :: _, h => by cases h
  | _ :: _, [], h => by cases h
  | u :: us, s :: ss, h => by
    obtain ⟨h1, h2⟩ := andT h
    exact pss_cons (sndV g ef hx C hz hf hy u s h1) (sndVs hx C hz hf hy us ss h2)
end
section
variable {K : PySem.W.Frag} {G H : Hp} {W : Own?} {σ : Sg} {τ : LS} {k : Nat}
mutual
theorem tau_of (S : Sim K G W H σ τ) : ∀ (e : SuE) (b : Bool), suE k σ e = some b → tauE k τ e = some b
  | .isx ks, b, h => h
  | .isxs kss, b, h => h
  | .bl b', b, h => h
  | .var j, b, h => by
    unfold suE at h
    split at h
    · rename_i b' ej
      cases h
      obtain ⟨v, h1, h2⟩ := S.sl j _ ej
      cases h2 with
      | val r =>
        cases r
        unfold tauE
        rw [h1]
    · cases h
  | .not e, b, h => by
    unfold suE at h
    obtain ⟨b', e1, rfl⟩ := Option.map_eq_some_iff.mp h
    unfold tauE
    rw [tau_of S e b' e1]; rfl
  | .and es, b, h => tau_ofA S es b h
theorem tau_ofA (S : Sim K G W H σ τ) : ∀ (es : List SuE) (b : Bool), suA k σ es = some b → tauA k τ es = some b
  | [], b, h => h
  | e :: es, b, h => by
    unfold suA at h
    split at h
    · rename_i x z ex ez
      cases h
      unfold tauA
      rw [tau_of S e x ex, tau_ofA S es z ez]
    · cases h
end
theorem tau_ofL (S : Sim K G W H σ τ) : ∀ (es : List SuE) (bs : List Bool), suL k σ es = some bs → tauL k τ es = some bs
  | [], b, h => h
  | e :: es, b, h => by
    unfold suL at h
    split at h
    · rename_i x z ex ez
      cases h
      unfold tauL
      rw [tau_of S e x ex, tau_ofL S es z ez]
    · cases h
theorem reps_bl {G : Hp} : ∀ bs : List Bool, Reps K G (bs.map D.bl) (bs.map V.bl)
  | [] => .nil
  | b :: bs => .cons (.bl b) (reps_bl bs)
theorem su_one {a : Addr} {i : Nat} {fx : List Nat} (s : SuS) {σ2 : Sg} (S : Sim K G W H σ τ) (hi : τ[i]? = some (some (.ref a))) (hj : s.slot ≠ i ∧ s.slot ∉ fx) (e : suS k s σ = some σ2) {D : Ends}
    (h : ∀ G' W' H' τ', Sim K G' W' H' σ2 τ' → Ext G W H G' W' H' → (∀ j ∈ i :: fx, τ'[j]? = τ[j]?) → D.nx τ' H') : rdV K i a k s D τ H := by
  have st : ∀ {G1 W1 H1} {o : O} {v : V} (S1 : Sim K G1 W1 H1 σ τ) (E1 : Ext G W H G1 W1 H1) (p : Own K G1 H1 W1 [0] o v) (j : Nat), s.slot = j → σ2 = σ.set j (some o) → D.nx (τ.set j (some v)) H1 := fun {G1 W1 H1 o v} S1 E1 p j hs e2 => by
    obtain ⟨W2, S2, E2⟩ := S1.setO j p
    rw [← e2] at S2
    refine h _ _ _ _ S2 (E1.trans E2) fun x hx => List.getElem?_set_ne fun z => ?_
    rw [← hs] at z
    rcases List.mem_cons.mp hx with q | q
    · exact hj.1 (by rw [z, q])
    · exact hj.2 (by rw [z]; exact q)
  cases s with
  | set j e1 =>
    simp only [suS] at e
    obtain ⟨b, eb, rfl⟩ := Option.map_eq_some_iff.mp e
    exact ⟨hi, b, tau_of S e1 b eb, fun H' m => st (S.grow (S.more m)) (S.more m).ext (.val (.bl b)) j rfl rfl⟩
  | lst j es =>
    simp only [suS] at e
    split at e
    · rename_i bs eb
      split at e
      · rename_i hz
        cases e
        refine ⟨hi, bs, tau_ofL S es bs eb, by rw [szl]; exact hz, fun H' m p hp => ?_⟩
        have S1 := S.grow (S.more m)
        have g2 := Grow.hand S1 hp (.lst (bs.map .bl))
        exact st (S1.grow g2) ((S.more m).ext.trans g2.ext) (.lst own_same upd_same (reps_bl bs)) j rfl rfl
      · cases e
    · cases e
  | add j es =>
    simp only [suS] at e
    split at e
    · rename_i xs bs ej eb
      split at e
      · rename_i hz
        cases e
        obtain ⟨o, eo, ed⟩ := Option.bind_eq_some_iff.mp ej
        obtain ⟨v, h1, h2⟩ := S.sl j o eo
        have h3 := h2.toH S.gh (d := .lst xs) (by
          cases o <;> first | (cases ed; rfl) | (exact ed) | (cases ed; done))
        obtain ⟨l, vs, rfl, hl, hr⟩ := h3
        refine ⟨hi, bs, l, vs, tau_ofL S es bs eb, h1, hl, by rw [szl, ← hr.len]; exact hz, fun H' m p hp => ?_⟩
        have S1 := S.grow (S.more m)
        have g2 := Grow.hand S1 hp (.lst (vs ++ bs.map .bl))
        exact st (S1.grow g2) ((S.more m).ext.trans g2.ext) (.lst own_same upd_same (hr.app (reps_bl bs))) j rfl rfl
      · cases e
    · cases e
  | str j z =>
    cases e
    exact st S (Ext.refl _ _ _) (.val (.str z)) j rfl rfl
theorem su_all {a : Addr} {i : Nat} {fx : List Nat} : ∀ (ss : List SuS) {G H : Hp} {W : Own?} {σ σ2 : Sg} {τ : LS}, Sim K G W H σ τ → τ[i]? = some (some (.ref a)) → (∀ s ∈ ss, s.slot ≠ i ∧ s.slot ∉ fx) → suSs k ss σ = some σ2 → ∀ {D : Ends},
    (∀ G' W' H' τ', Sim K G' W' H' σ2 τ' → Ext G W H G' W' H' → (∀ j ∈ i :: fx, τ'[j]? = τ[j]?) → D.nx τ' H') → rdVs K i a k ss D τ H
  | [], G, H, W, σ, σ2, τ, S, hi, hj, e, D, h => by
    cases e
    exact h _ _ _ _ S (Ext.refl _ _ _) fun _ _ => rfl
  | s :: ss, G, H, W, σ, σ2, τ, S, hi, hj, e, D, h => by
    unfold suSs at e
    obtain ⟨σ1, e1, e2⟩ := Option.bind_eq_some_iff.mp e
    refine su_one s S hi (hj s (by simp)) e1 (D := { D with nx := rdVs K i a k ss D }) fun G1 W1 H1 τ1 S1 E1 f1 => ?_
    refine su_all ss S1 ((f1 i (by simp)).trans hi) (fun x hx => hj x (List.mem_cons_of_mem _ hx)) e2 fun G2 W2 H2 τ2 S2 E2 f2 => ?_
    exact h _ _ _ _ S2 (E1.trans E2) fun j hj' => (f2 j hj').trans (f1 j hj')
end
theorem okSet_slot {c : CC} {i j : Nat} {x : Str} (h : okSet c i j x = true) : j ≠ i ∧ j ∉ c.fx := by
  obtain ⟨h, h3⟩ := andT h
  obtain ⟨h1, h2⟩ := andT h
  refine ⟨fun z => by rw [z] at h3; simp at h3, fun z => ?_⟩
  have := notT h2
  rw [List.contains_iff_mem.mpr z] at this; cases this
theorem chkV_slot {T : Tb} {c : CC} {i : Nat} : ∀ (u : SuS) (s : Stmt), chkV T c i u s = true → u.slot ≠ i ∧ u.slot ∉ c.fx
  | .set j e, s, h => by
    cases s <;> try (cases h; done)
    rename_i ts v pos
    obtain _ | ⟨t, _ | ⟨_, _⟩⟩ := ts <;> try (cases h; done)
    · cases t <;> try (cases h; done)
      obtain ⟨h, h3⟩ := andT h
      obtain ⟨h1, h2⟩ := andT h
      exact okSet_slot h1
    · cases t <;> cases h
  | .lst j es, s, h => by
    cases s <;> try (cases h; done)
    rename_i ts v pos
    obtain _ | ⟨t, _ | ⟨_, _⟩⟩ := ts <;> try (cases h; done)
    · cases t <;> try (cases h; done)
      cases v <;> try (cases h; done)
      exact okSet_slot (andT h).1
    · cases t <;> cases h
  | .add j es, s, h => by
    cases s <;> try (cases h; done)
    rename_i ts v pos
    obtain _ | ⟨t, _ | ⟨_, _⟩⟩ := ts <;> try (cases h; done)
    · cases t <;> try (cases h; done)
      cases v <;> try (cases h; done)
      rename_i l o r p2
      cases l <;> try (cases h; done)
      cases o <;> try (cases h; done)
      cases r <;> try (cases h; done)
      exact okSet_slot (andT (andT h).1).1
    · cases t <;> cases h
  | .str j z, s, h => by
    cases s <;> try (cases h; done)
    rename_i ts v pos
    obtain _ | ⟨t, _ | ⟨_, _⟩⟩ := ts <;> try (cases h; done)
    · cases t <;> try (cases h; done)
      cases v <;> try (cases h; done)
      rename_i kc _ _
      cases kc <;> try (cases h; done)
      exact okSet_slot (andT h).1
    · cases t <;> cases h
theorem chkVs_slot {T : Tb} {c : CC} {i : Nat} : ∀ (us : List SuS) (ss : List Stmt), chkVs T c i us ss = true → ∀ u ∈ us, u.slot ≠ i ∧ u.slot ∉ c.fx
  | [], _, _ => by simp
  | _ :: _, [], h => by cases h
  | u :: us, s :: ss, h => by
    obtain ⟨h1, h2⟩ := andT h
    intro x hx
    rcases List.mem_cons.mp hx with z | z
    · rw [z]; exact chkV_slot u s h1
    · exact chkVs_slot us ss h2 x z
end PV
set_option maxRecDepth 100000
set_option maxHeartbeats 4000000
namespace PV
open PySem PySem.Spec PyProof.Rows L2
section
variable {X : Cx} {xv : ExV} {Wx : WX} {fx : List Nat} {t : TE} {f : Sg → R O}
theorem sem_set {i : Nat} (hi : i ∉ fx) (h : SemE X xv Wx t f) : SemS X xv Wx fx (tAsg t (gName i)) (fun σ => (f σ).bind fun o σ' => .ok .nx (σ'.set i (some o))) := by
  intro G W H σ τ D S en
  refine EndS.of_at (h G W H σ τ S) en fun o σ' G' W' H' v _ S' _ p en' => ?_
  obtain ⟨W2, S2, E2⟩ := S'.setO i p
  exact en' G' W2 H' _ S2 E2 fun j hj => List.getElem?_set_ne fun z => hi (by rw [z]; exact hj)
theorem sem_unp {is : List Nat} {g : TG} {one : Bool} (hi : ∀ j ∈ fx, j ∉ is) (h : SemO X xv Wx t none f) (hg : SemG X is one g) : SemS X xv Wx fx (tAsg t g) (fun σ => (pre none (f σ) σ).bind fun d σ' => match d with
    | some d => match store is one d σ' with
      | some σ2 => .ok .nx σ2
      | none => .bad
    | none => .bad) := by
  intro G W H σ τ D S en
  refine EndS.of_at (h G W H σ τ S) en fun d σ' G' W' H' v _ S' _ p en' => ?_
  obtain ⟨x, rfl, r⟩ := p
  replace en' : EndS X.K xv Wx fx D G' W' H' τ (match store is one x σ' with | some σ2 => .ok .nx σ2 | none => .bad) := en'
  cases es : store is one x σ' with
  | none => rw [es] at en'; exact en'.elim
  | some σ2 =>
    rw [es] at en'
    exact hg G' W' H' σ' τ x v σ2 _ S' r es fun τ2 S2 f2 _ => en' G' W' H' τ2 S2 (Ext.refl _ _ _) fun j hj => f2 j (hi j hj)
theorem sem_ex (h : SemE X xv Wx t f) : SemS X xv Wx fx (tDrop t) (fun σ => (f σ).bind fun _ σ' => .ok .nx σ') := by
  intro G W H σ τ D S en
  refine EndS.of_at (h G W H σ τ S) en fun o σ' G' W' H' v _ S' _ p en' => ?_
  exact en' G' W' H' τ S' (Ext.refl _ _ _) fun _ _ => rfl
theorem sem_ret (h : SemE X xv Wx t f) : SemS X xv Wx fx (tRet t) (fun σ => (f σ).bind fun o σ' => .ok (.ret o) σ') := by
  intro G W H σ τ D S en
  refine EndS.of_at (h G W H σ τ S) en fun o σ' G' W' H' v _ S' _ p en' => ?_
  exact en' G' W' H' τ v S' (Ext.refl _ _ _) (fun _ _ => rfl) p
theorem sem_if {c : TT} {ta tb : TS} {fc : Sg → R Bool} {fa fb : Sg → R Fl} (hc : SemT X xv Wx c fc) (ha : SemS X xv Wx fx ta fa) (hb : SemS X xv Wx fx tb fb) : SemS X xv Wx fx (tIfS c ta tb) (fun σ => (fc σ).bind fun c σ' => if c = true then fa σ' else fb σ') := by
  intro G W H σ τ D S en
  refine EndS.of_at (hc G W H σ τ S) en fun b σ' G' W' H' v _ S' _ p en' => ?_
  subst p
  cases b with
  | true => exact ha G' W' H' σ' τ D S' en'
  | false => exact hb G' W' H' σ' τ D S' en'
theorem sem_next : SemS X xv Wx fx tNext (fun σ => .ok .nx σ) := fun G W H σ τ D S en => en G W H τ S (Ext.refl _ _ _) fun _ _ => rfl
theorem sem_seq {ta tb : TS} {fa fb : Sg → R Fl} (ha : SemS X xv Wx fx ta fa) (hb : SemS X xv Wx fx tb fb) : SemS X xv Wx fx (tSeq ta tb) (fun σ => (fa σ).bind fun f σ' => match f with
    | .nx => fb σ'
    | .ret o => .ok (.ret o) σ') := by
  intro G W H σ τ D S en
  refine ha G W H σ τ _ S ?_
  dsimp only at en
  cases e : fa σ with
  | bad => rw [e] at en; exact en.elim
  | exc c σ' => rw [e] at en; exact en
  | ok fl σ' =>
    rw [e] at en
    cases fl with
    | ret o => exact en
    | nx =>
      intro G' W' H' τ' S' E' f'
      exact hb G' W' H' σ' τ' D S' (EndS.later (show EndS X.K xv Wx fx D G W H τ (fb σ') from en) E' f')
end
def isSD : Expr → Bool
  | .SetComp .. => true
  | .DictComp .. => true
  | _ => false
theorem sole_of {t v : Expr} {l : Nat} {env : PySem.Env} (h : isComp v = false) : swapsWithSole [t] v l env = pure false := by
  unfold swapsWithSole
  exact swaps_of h
mutual
def chkS (T : Tb) (c : CC) : Sm → Stmt → Bool
  | .set i e, .Assign [.Name x _] v _ => stOk c i x && !c.fx.contains i && chk T c e v && !isSD v
  | .unp is e, .Assign [tgt] v _ => (match tgt with | .Tuple .. => true | _ => false) && chkG c is false tgt && c.fx.all (fun j => !is.contains j) && e.bo.isNone && !isTupE v && !isComp v && chk T c e v
  | .app i e, .Expr (.Call (.Attribute (.Name x _) m apos) [v] [] cpos) _ => m == ("append" : Str) && apos.endLine == cpos.line && nmOk c i x && !isStar v && e.bo.isNone && chk T c e v
  | .setIx i k v, .Assign [.Subscript (.Name x _) ke _] ve _ => !isSlice ke && nmOk c i x && k.bo.isNone && v.bo.isNone && !isComp ve && chk T c k ke && chk T c v ve
  | .ex e, .Expr v _ => isCall v && chk T c e v
  | .ret e, .Return (some v) _ => chk T c e v
  | .iff t a b, .If te as bs _ => chk T c t te && chkSs T c a as && chkSs T c b bs
  | .for_ tg one it body, .For tgt iter bs [] _ => chkI T c it iter && (match tgt with | .List .. => false | _ => true) && (one || isTupE tgt) && (match it with | .enum _ => !one | .zip _ _ => !one | _ => true) && chkG c tg one tgt && !isSet iter && c.fx.all (fun j => !tg.contains j) && chkSs T c body bs
  | .wh t body, .While te bs [] _ => chk T c t te && chkSs T c body bs
  | .raise k, .Raise (some (.Call (.Name x _) [.Constant (.str _) _ _] [] _)) none _ => T.xs.lookup k == some x && gnOk c x
  | .pass, .Pass _ => true
  | .never, _ => true
  | .dset i k v, .Assign [.Subscript (.Name x _) ke _] ve _ => nmOk c i x && k.bo.isNone && v.bo.isNone && !isComp ve && chk T c k ke && chk T c v ve
  | .appP i ks e, .Expr (.Call (.Attribute o m apos) [v] [] cpos) _ => m == ("append" : Str) && apos.endLine == cpos.line && !isCall o && chkP T c i ks o && !isStar v && e.bo.isNone && chk T c e v
  | .appN i e, .Expr (.Call (.Attribute (.Name x _) m apos) [.List [.List [] _, v] _] [] cpos) _ => m == ("append" : Str) && apos.endLine == cpos.line && nmOk c i x && !isStar v && e.bo.isNone && chk T c e v
  | .appT i a b, .Expr (.Call (.Attribute (.Name x _) m apos) [.Tuple [u, v] _ _] [] cpos) _ => m == ("append" : Str) && apos.endLine == cpos.line && nmOk c i x && !isStar u && !isStar v && b.bo.isNone && chk T c a u && chk T c b v
  | .ins i k v, .Expr (.Call (.Attribute (.Name x _) m apos) [a, b] [] cpos) _ => m == ("insert" : Str) && apos.endLine == cpos.line && nmOk c i x && !isStar a && !isStar b && k.bo.isNone && v.bo.isNone && chk T c k a && chk T c v b
  | .setP i ks k v, .Assign [.Subscript o ke _] ve _ => !isSlice ke && chkP T c i ks o && k.bo.isNone && v.bo.isNone && !isComp ve && chk T c k ke && chk T c v ve
  | .dsetP i ks k v, .Assign [.Subscript o ke _] ve _ => !isSlice ke && chkP T c i ks o && k.bo.isNone && v.bo.isNone && !isComp ve && chk T c k ke && chk T c v ve
  | .setF i cc f e, .Assign [.Attribute (.Name x _) m _] ve _ => nmOk c i x && (clFd cc)[f]? == some m && chk T c e ve
  | .try_ i hs body su, .Try bs [.ExceptHandler (some (.Name x _)) (some nm) (b₀ :: ss) _] [] [] _ => T.hd.contains (x, hs) && gnOk c x && c.N[i]? == some nm && c.sc.names.lookup nm == some .local && !c.fx.contains i && chkVs T c i su (b₀ :: ss) && chkSs T c body bs
  | _, _ => false
termination_by structural x => x
def chkSs (T : Tb) (c : CC) : List Sm → List Stmt → Bool
  | [], [] => true
  | a :: as, s :: ss => chkS T c a s && chkSs T c as ss
  | _, _ => false
termination_by structural x => x
end
structure GoodS (T : Tb) (ar : Nat → Nat) (io : Nat → List Nat) (F : Fn) (n : Nat) (xv : ExV) (X : Cx) (c : CC) (Wx : WX) : Prop where
  g : Good T ar io F n xv X c Wx
  hp : PassesOwn (model X.prog X.w) X.A X.env X.xe
  exs : ∀ k x, T.xs.lookup k = some x → ∃ (C : Addr) (bmB : List Value) (B newId initId : String), ExcBaseFacts B newId initId bmB ∧ PySem.W.excIn X.K C bmB newId = true ∧ X.mg x = some (.ref C) ∧ PySem.W.keepIn X.K (.ref C) = true ∧ Raises X (.ref C) ∧ xv k = .ref C
  stk : X.stack = X.env :: X.outer
  frm : X.env.frame = some X.env.locals
  ef : ExF T X.K X.mg xv
section
variable {T : Tb} {ar : Nat → Nat} {io : Nat → List Nat} {F : Fn} {n N : Nat} {xv : ExV} {X : Cx} {c : CC} {Wx : WX}
theorem swaps_lc {elt : Expr} {gs : List Comprehension} {scope : Scope} {pos py : Pos} {y : Str} {l : Nat} {env : PySem.Env} : swapsWith (.ListComp elt gs scope pos) (some (.Name y py)) l env =
    pure (env.blockKind == .function && env.kindOf y == some .local && py.line == pos.line && !(scope.names.any fun (n, k) => n == y && (k == .local || k == .cell))) := rfl
theorem snd_set (g : Good T ar io F n xv X c Wx) {i : Nat} {a : Ex} {x : Str} {v : Expr} {p pos : Pos} (h1 : stOk c i x = true) (h2 : i ∉ c.fx) (h3 : chk T c a v = true) (h4 : isSD v = false) : PS X (.Assign [.Name x p] v pos) (tS X.K xv Wx c.fx (ex F N (.set i a))) := by
  obtain ⟨q1, q2⟩ := andT h1
  obtain ⟨s1, s2⟩ := g.sto q2
  have hN : X.N[i]? = some x := by rw [g.hN]; exact beq_iff_eq.mp q1
  have q := sndE a v g h3 (Wx := Wx)
  by_cases hc : isComp v = false
  · exact PV.PS.can (ps_set g.nd hN s1 q.v (swaps_of hc) s2) (sem_set h2 tE.sem)
  · cases v <;> try (exact absurd rfl hc)
    · rename_i elt gens scope vp
      obtain ⟨tgt, iter, ifs, wi, gg, tt, te, own, rfl, p1, p2, p3, p4, p5, p6, p7⟩ := (show CompP F xv X Wx a (.ListComp elt gens scope vp) from q.k)
      cases eb : (X.env.blockKind == .function && X.env.kindOf x == some .local && p.line == vp.line && !(scope.names.any fun (n, k) => n == x && (k == .local || k == .cell))) with
      | false => exact PV.PS.can (ps_set g.nd hN s1 q.v (by rw [swaps_lc, eb]) s2) (sem_set h2 tE.sem)
      | true =>
        have hl : X.env.scope.names.lookup x = some .local := by
          obtain ⟨e1, _⟩ := andT eb
          obtain ⟨e2, _⟩ := andT e1
          obtain ⟨_, e3⟩ := andT e2
          exact beq_iff_eq.mp e3
        exact PV.PS.can (ps_setLc g.calm g.nd hN hl (by rw [swaps_lc, eb]) p1 p2 p3 p4 p5 p6) (sem_set h2 p7)
    · cases h4
    · cases h4
theorem asg_sub {o i : Expr} {pos : Pos} {env : PySem.Env} (h : isSlice i = false) : ∀ v, assign (.Subscript o i pos) env v = (do
      let ov ← holding [v] (eval o env)
      let iv ← holding [v, ov] (eval i env)
      standAt pos
      holding [v, ov, iv] (setItem ov iv v)
      release [v, ov, iv] []) := by
  intro v
  cases i <;> first | rfl | cases h
theorem Sim.forget {K : PySem.W.Frag} {G H : Hp} {W : Own?} {σ : Sg} {τ : LS} (S : Sim K G W H σ τ) (i : Nat) (x : Option V) : Sim K G W H (σ.set i none) (τ.set i x) := by
  refine ⟨S.gh, S.gw, S.hw, fun j o e => ?_, by rw [List.length_set, List.length_set]; exact S.len⟩
  by_cases hi : i < σ.length
  · by_cases z : i = j
    · subst z
      unfold getO at e
      rw [List.getElem?_set_self hi] at e
      cases e
    · rw [getO_set_ne z] at e
      rw [List.getElem?_set_ne z]
      exact S.sl j o e
  · rw [List.set_eq_of_length_le (by omega)] at e
    rw [List.set_eq_of_length_le (by rw [← S.len]; omega)]
    exact S.sl j o e
def tsOf (T : Tb) (K : PySem.W.Frag) (xv : ExV) (i : Nat) (su : List SuS) (a : Addr) (cls : Value) (d : Option Addr) : TS := fun D τ H => ∃ k y D0, T.xs.lookup k = some y ∧ cls = xv k ∧ d = none ∧ xv k = .ref D0 ∧ ExcC K D0 ∧ rdVs K i a k su D τ H
theorem sem_try {i : Nat} {hs fx : List Nat} {su : List SuS} {fb : Sg → R Fl} {cv : Value} (ef : ExF T X.K X.mg xv) (hi : i ∉ fx) (hh : ∀ k, hs.contains k = true → (∃ y, T.xs.lookup k = some y) ∧ PySem.W.exmOne X.K (xv k) cv = some true) (hsl : ∀ u ∈ su, u.slot ≠ i ∧ u.slot ∉ fx) :
    SemS X xv Wx fx (fun D σ H => tS X.K xv (wAs X.K cv i (tsOf T X.K xv i su) Wx D) fx fb D σ H) (fun σ => tryR hs i su (fb σ)) := by
  intro G W H σ τ D S en
  refine ⟨G, W, σ, S, ?_⟩
  dsimp only at en
  cases e : fb σ with
  | bad => rw [e] at en; exact en
  | ok fl σ' =>
    rw [e] at en
    cases fl <;> exact en
  | exc k σ' =>
    rw [e] at en
    replace en : EndS X.K xv Wx fx D G W H τ (if hs.contains k = true ∧ i < σ'.length then (match suSs k su (σ'.set i none) with
      | some σ2 => .ok .nx (σ2.set i none)
      | none => .bad) else .bad) := en
    by_cases c : hs.contains k = true ∧ i < σ'.length
    · rw [if_pos c] at en
      cases e2 : suSs k su (σ'.set i none) with
      | none => rw [e2] at en; exact en.elim
      | some σ2 =>
        rw [e2] at en
        intro G' W' H' τ' S' E' f'
        obtain ⟨⟨y, hy⟩, hx⟩ := hh k c.1
        obtain ⟨D0, e3, C⟩ := ef.xe k y hy
        refine ⟨true, hx, fun _ a ha => ⟨k, y, D0, hy, rfl, rfl, e3, C, ?_⟩, fun z => nomatch z⟩
        refine su_all su (S'.forget i (some (.ref a))) (List.getElem?_set_self (by rw [← S'.len]; exact c.2)) hsl e2 fun G2 W2 H2 τ2 S2 E2 f2 => ?_
        refine en G2 W2 H2 (τ2.set i none) (S2.forget i none) (E'.trans E2) fun j hj => ?_
        have ne : i ≠ j := fun z => hi (by rw [z]; exact hj)
        rw [List.getElem?_set_ne ne, f2 j (List.mem_cons_of_mem _ hj), List.getElem?_set_ne ne]
        exact f' j hj
    · rw [if_neg c] at en; exact en.elim
theorem GoodS.tr (g : GoodS T ar io F n xv X c Wx) (pn : List (Addr × Obj)) (xe : Value → Shared → Prop) {W : WX} (tk : Takes (X.tr pn xe) W) (hp : PassesOwn (model X.prog X.w) X.A X.env xe) : GoodS T ar io F n xv (X.tr pn xe) c W :=
  ⟨⟨g.g.calm, g.g.room, tk, g.g.nd, g.g.hN, g.g.hsc, g.g.hfn, g.g.blt, g.g.fns, g.g.ars, g.g.tio, g.g.cst, g.g.ini, g.g.met⟩, hp, g.exs, g.stk, g.frm, g.ef⟩
mutual
theorem sndS : ∀ (a : Sm) (s : Stmt) {c : CC} {X : Cx} {Wx : WX}, GoodS T ar io F n xv X c Wx → chkS T c a s = true → PS X s (tS X.K xv Wx c.fx (ex F N a))
  | .set i e, s, c, X, Wx, g, h => by
    cases s <;> try (cases h; done)
    rename_i ts v pos
    obtain _ | ⟨t, _ | ⟨_, _⟩⟩ := ts <;> try (cases h; done)
    · cases t <;> try (cases h; done)
      obtain ⟨h, k4⟩ := andT h
      obtain ⟨h, k3⟩ := andT h
      obtain ⟨k1, k2⟩ := andT h
      exact snd_set g.g k1 (fun z => by have := notT k2; rw [List.contains_iff_mem.mpr z] at this; cases this) k3 (notT k4)
    · cases t <;> cases h
  | .unp is e, s, c, X, Wx, g, h => by
    cases s <;> try (cases h; done)
    rename_i ts v pos
    obtain _ | ⟨t, _ | ⟨_, _⟩⟩ := ts <;> try (cases h; done)
    obtain ⟨h, k7⟩ := andT h
    obtain ⟨h, k6⟩ := andT h
    obtain ⟨h, k5⟩ := andT h
    obtain ⟨h, k4⟩ := andT h
    obtain ⟨h, k3⟩ := andT h
    obtain ⟨k1, k2⟩ := andT h
    cases t <;> try (cases k1; done)
    have hw : ∀ es kk pp, swappedStores [.Tuple es kk pp] v X.env = pure none := fun es kk pp => by
      have := notT k5
      cases v <;> first | rfl | (cases this; done)
    exact PV.PS.can (ps_asg ((sndE e v g.g k7).none k4) (Good.target g.g k2).1 (sole_of (notT k6)) (hw _ _ _) rfl) (sem_unp (fun j hj => by
      have := List.all_eq_true.mp k3 j hj
      have := notT this
      intro z
      rw [List.contains_iff_mem.mpr z] at this; cases this) tO.sem semG_of)
  | .app i e, s, c, X, Wx, g, h => by
    cases s <;> try (cases h; done)
    rename_i v pos
    cases v <;> try (cases h; done)
    rename_i f vs kws cpos
    cases f <;> try (cases h; done)
    rename_i o m apos
    cases o <;> try (cases h; done)
    rename_i x p
    obtain _ | ⟨v, _ | ⟨_, _⟩⟩ := vs <;> try (cases h; done)
    cases kws <;> try (cases h; done)
    obtain ⟨h, k6⟩ := andT h
    obtain ⟨h, k5⟩ := andT h
    obtain ⟨h, k4⟩ := andT h
    obtain ⟨h, k3⟩ := andT h
    obtain ⟨k1, k2⟩ := andT h
    cases (beq_iff_eq.mp k1)
    exact PV.PS.can (ps_expr (pe_bm PySem.F.plainAttrs_list PySem.F.slot_list_append PySem.F.type_list_append mt_append (g.g.name k3) (pa_cons ((sndE e v g.g k6).none k5) pa_nil (star_of (notT k4))) (base_of rfl) (by rw [star_of (notT k4)]; rfl) (by rw [k2]) (star_of (notT k4)) rfl) (swaps_of rfl)) (sem_app tO.sem)
  | .setIx i k v, s, c, X, Wx, g, h => by
    cases s <;> try (cases h; done)
    rename_i ts ve pos
    obtain _ | ⟨t, _ | ⟨_, _⟩⟩ := ts <;> try (cases h; done)
    · cases t <;> try (cases h; done)
      rename_i o ke p2
      cases o <;> try (cases h; done)
      rename_i x p
      obtain ⟨h, k6⟩ := andT h
      obtain ⟨h, k5⟩ := andT h
      obtain ⟨h, k4⟩ := andT h
      obtain ⟨h, k3⟩ := andT h
      obtain ⟨h, k2⟩ := andT h
      obtain ⟨k0, k1⟩ := andT h
      exact PV.PS.can (ps_asg ((sndE v ve g.g k6).none k3) (pg_sub (g.g.name k1) ((sndE k ke g.g k5).none k2) set_list (asg_sub (notT k0))) (sole_of (notT k4)) rfl rfl) (sem_setIx tO.sem tO.sem)
    · cases t <;> try (cases h; done)
      rename_i o ke p2
      cases o <;> cases h
  | .ex e, s, c, X, Wx, g, h => by
    cases s <;> try (cases h; done)
    rename_i v pos
    obtain ⟨k1, k2⟩ := andT h
    have hc : isComp v = false := by cases v <;> first | rfl | (cases k1; done)
    exact PV.PS.can (ps_expr (sndE e v g.g k2).v (swaps_of hc)) (sem_ex tE.sem)
  | .ret e, s, c, X, Wx, g, h => by
    cases s <;> try (cases h; done)
    rename_i v pos
    cases v <;> try (cases h; done)
    exact PV.PS.can (ps_ret (sndE e _ g.g h).v) (sem_ret tE.sem)
  | .iff t a b, s, c, X, Wx, g, h => by
    cases s <;> try (cases h; done)
    obtain ⟨h, k3⟩ := andT h
    obtain ⟨k1, k2⟩ := andT h
    exact PV.PS.can (ps_if (sndE t _ g.g k1).t (sndSs a _ g k2) (sndSs b _ g k3)) (sem_if tT.sem tS.sem tS.sem)
  | .for_ tg one it body, s, c, X, Wx, g, h => by
    cases s <;> try (cases h; done)
    rename_i tgt iter bs os pos
    cases os <;> try (cases h; done)
    obtain ⟨h, k8⟩ := andT h
    obtain ⟨h, k7⟩ := andT h
    obtain ⟨h, k6⟩ := andT h
    obtain ⟨h, k5⟩ := andT h
    obtain ⟨h, k4⟩ := andT h
    obtain ⟨h, k3⟩ := andT h
    obtain ⟨k1, k2⟩ := andT h
    have ht : itNeeds it tgt := by
      cases it <;> try exact trivial
      all_goals
        cases one with
        | true => cases k4
        | false =>
          cases tgt <;> try (cases k3; done)
          all_goals first
            | exact ⟨_, _, _, rfl⟩
            | (cases k2; done)
    exact PV.PS.can (ps_for g.hp g.g.calm (sndI it iter tgt g.g ht k1) (Good.target g.g k5).1 (sndSs body bs g k8) (folded_of (notT k6))) (sem_for tI.sem semG_of (fun j hj => by
      have := List.all_eq_true.mp k7 j hj
      have := notT this
      intro z
      rw [List.contains_iff_mem.mpr z] at this; cases this) tS.sem)
  | .wh t body, s, c, X, Wx, g, h => by
    cases s <;> try (cases h; done)
    rename_i te bs os pos
    cases os <;> try (cases h; done)
    obtain ⟨k1, k2⟩ := andT h
    exact PV.PS.can (ps_while g.hp (sndE t _ g.g k1).t (sndSs body bs g k2)) (sem_while tT.sem tS.sem)
  | .raise k, s, c, X, Wx, g, h => by
    cases s <;> try (cases h; done)
    rename_i e ca pos
    cases e <;> try (cases h; done)
    rename_i e
    cases e <;> try (cases h; done)
    rename_i f vs kws p2
    cases f <;> try (cases h; done)
    rename_i x p
    obtain _ | ⟨v, _ | ⟨_, _⟩⟩ := vs <;> try (cases h; done)
    · cases v <;> try (cases h; done)
      rename_i kc _ _
      cases kc <;> try (cases h; done)
      cases kws <;> try (cases h; done)
      cases ca <;> try (cases h; done)
      obtain ⟨k1, k2⟩ := andT h
      obtain ⟨q1, q2, q3⟩ := g.g.gn k2
      obtain ⟨C, bmB, B, newId, initId, e1, e2, e3, e4, e5, e6⟩ := g.exs k x (beq_iff_eq.mp k1)
      refine PV.PS.can (ps_raise g.g.calm g.g.tk (pmk_own e1 e2 e3 e4 e5 q1 q2)) fun G W H σ τ D S en => ?_
      have := en G W H τ S (Ext.refl _ _ _) fun _ _ => rfl
      rw [e6] at this
      exact this
    · cases v <;> try (cases h; done)
      rename_i kc _ _
      cases kc <;> cases h
  | .try_ i hs body su, s, c, X, Wx, g, h => by
    cases s <;> try (cases h; done)
    rename_i bs hds os fs pos
    obtain _ | ⟨hd, _ | ⟨_, _⟩⟩ := hds <;> try (cases h; done)
    · obtain ⟨t, nm, ss, p2⟩ := hd
      cases t <;> try (cases h; done)
      rename_i t
      cases t <;> try (cases h; done)
      rename_i x p3
      cases nm <;> try (cases h; done)
      rename_i nm
      cases ss <;> try (cases h; done)
      rename_i b₀ ss
      cases os <;> try (cases h; done)
      cases fs <;> try (cases h; done)
      obtain ⟨h, k7⟩ := andT h
      obtain ⟨h, k6⟩ := andT h
      obtain ⟨h, k5⟩ := andT h
      obtain ⟨h, k4⟩ := andT h
      obtain ⟨h, k3⟩ := andT h
      obtain ⟨k1, k2⟩ := andT h
      obtain ⟨cv, hm, hh⟩ := g.ef.hd x hs k1
      obtain ⟨q1, q2, q3⟩ := g.g.gn k2
      have hN : X.N[i]? = some nm := by rw [g.g.hN]; exact beq_iff_eq.mp k3
      have hl : X.env.kindOf nm = some .local := by
        show X.env.scope.names.lookup nm = _
        rw [g.g.hsc]; exact beq_iff_eq.mp k4
      have hi : i ∉ c.fx := fun z => by have := notT k5; rw [List.contains_iff_mem.mpr z] at this; cases this
      exact PV.PS.can (ps_try_as (i := i) (Wout := Wx) (tb := fun W => tS X.K xv W c.fx (exs F N body)) (ts := tsOf T X.K xv i su) g.stk g.frm g.g.nd hN hl ⟨q1, q2, .inl hm⟩ g.g.tk (fun W pn xe tk hp => sndSs body bs (g.tr pn xe tk hp) k7)
        (fun a oe cls d pn hz hf => ⟨fun pins s0 τ H D I ⟨k, y, D0, hy, e1, e2, e3, C, w⟩ => by
          subst e1 e2
          rw [e3] at hz
          exact (sndVs g.g g.ef e3 C hz hf hy su _ k6).run pins s0 τ H D I w⟩)) (sem_try g.ef hi hh (chkVs_slot su _ k6))
    · obtain ⟨t, nm, ss, p2⟩ := hd
      cases t <;> try (cases h; done)
      rename_i t
      cases t <;> try (cases h; done)
      cases nm <;> try (cases h; done)
      cases ss <;> cases h
  | .never, s, c, X, Wx, g, h => ⟨fun _ _ _ _ _ _ ⟨_, _, _, _, e⟩ => e.elim⟩
  | .pass, s, c, X, Wx, g, h => by
    cases s <;> try (cases h; done)
    exact PV.PS.can ps_pass sem_next
  | .dset i k v, s, c, X, Wx, g, h => by
    cases s <;> try (cases h; done)
    rename_i ts ve pos
    obtain _ | ⟨t, _ | ⟨_, _⟩⟩ := ts <;> try (cases h; done)
    · cases t <;> try (cases h; done)
      rename_i o ke p2
      cases o <;> try (cases h; done)
      obtain ⟨h, k6⟩ := andT h
      obtain ⟨h, k5⟩ := andT h
      obtain ⟨h, k4⟩ := andT h
      obtain ⟨h, k3⟩ := andT h
      obtain ⟨k1, k2⟩ := andT h
      exact PV.PS.can (ps_dput (by have := g.g.hu; omega) (g.g.name k1) ((sndE k ke g.g k5).none k2) ((sndE v ve g.g k6).none k3) (swaps_of (notT k4))) (sem_dset tO.sem tO.sem)
    · cases t <;> try (cases h; done)
      rename_i o ke p2
      cases o <;> cases h
  | .appP i ks e, s, c, X, Wx, g, h => by
    cases s <;> try (cases h; done)
    rename_i v pos
    cases v <;> try (cases h; done)
    rename_i f vs kws cpos
    cases f <;> try (cases h; done)
    rename_i o m apos
    obtain _ | ⟨v, _ | ⟨_, _⟩⟩ := vs <;> try (cases h; done)
    cases kws <;> try (cases h; done)
    obtain ⟨h, k7⟩ := andT h
    obtain ⟨h, k6⟩ := andT h
    obtain ⟨h, k5⟩ := andT h
    obtain ⟨h, k4⟩ := andT h
    obtain ⟨h, k3⟩ := andT h
    obtain ⟨k1, k2⟩ := andT h
    cases (beq_iff_eq.mp k1)
    obtain ⟨ts, p1, p2⟩ := sndP ks o g.g k4 (Wx := Wx)
    exact PV.PS.can (ps_expr (pe_bm PySem.F.plainAttrs_list PySem.F.slot_list_append PySem.F.type_list_append mt_append p1 (pa_cons ((sndE e v g.g k7).none k6) pa_nil (star_of (notT k5))) (base_of (notT k3)) (by rw [star_of (notT k5)]; rfl) (by rw [k2]) (star_of (notT k5)) rfl) (swaps_of rfl)) (sem_appP p2 tO.sem)
  | .appN i e, s, c, X, Wx, g, h => by
    cases s <;> try (cases h; done)
    rename_i v pos
    cases v <;> try (cases h; done)
    rename_i f vs kws cpos
    cases f <;> try (cases h; done)
    rename_i o m apos
    cases o <;> try (cases h; done)
    rename_i x p
    obtain _ | ⟨v, _ | ⟨_, _⟩⟩ := vs <;> try (cases h; done)
    · cases v <;> try (cases h; done)
      rename_i ls lp
      obtain _ | ⟨l0, _ | ⟨v, _ | ⟨_, _⟩⟩⟩ := ls <;> try (cases h; done)
      · cases l0 <;> try (cases h; done)
        rename_i ls0 lp0
        cases ls0 <;> cases kws <;> cases h
      · cases l0 <;> try (cases h; done)
        rename_i ls0 lp0
        cases ls0 <;> try (cases h; done)
        cases kws <;> try (cases h; done)
        obtain ⟨h, k6⟩ := andT h
        obtain ⟨h, k5⟩ := andT h
        obtain ⟨h, k4⟩ := andT h
        obtain ⟨h, k3⟩ := andT h
        obtain ⟨k1, k2⟩ := andT h
        cases (beq_iff_eq.mp k1)
        exact PV.PS.can (ps_expr (pe_bm PySem.F.plainAttrs_list PySem.F.slot_list_append PySem.F.type_list_append mt_append (g.g.name k3) (pa_cons (pe_lst (pa_cons (pe_lst pa_nil) (pa_cons ((sndE e v g.g k6).none k5) pa_nil (star_of (notT k4))))) pa_nil rfl) (base_of rfl) rfl (by rw [k2]) rfl rfl) (swaps_of rfl)) (sem_appN tO.sem)
      · cases l0 <;> try (cases h; done)
        rename_i ls0 lp0
        cases ls0 <;> cases kws <;> cases h
    · cases v <;> try (cases h; done)
      rename_i ls lp
      obtain _ | ⟨l0, _ | ⟨v, _ | ⟨_, _⟩⟩⟩ := ls <;> try (cases h; done)
      all_goals
        cases l0 <;> try (cases h; done)
        rename_i ls0 lp0
        cases ls0 <;> cases kws <;> cases h
  | .appT i a b, s, c, X, Wx, g, h => by
    cases s <;> try (cases h; done)
    rename_i v0 pos
    cases v0 <;> try (cases h; done)
    rename_i f vs kws cpos
    cases f <;> try (cases h; done)
    rename_i o m apos
    cases o <;> try (cases h; done)
    rename_i x p
    obtain _ | ⟨w, _ | ⟨_, _⟩⟩ := vs <;> try (cases h; done)
    · cases w <;> try (cases h; done)
      rename_i ls ctx lp
      obtain _ | ⟨u, _ | ⟨v, _ | ⟨_, _⟩⟩⟩ := ls <;> try (cases h; done)
      cases kws <;> try (cases h; done)
      obtain ⟨h, k8⟩ := andT h
      obtain ⟨h, k7⟩ := andT h
      obtain ⟨h, k6⟩ := andT h
      obtain ⟨h, k5⟩ := andT h
      obtain ⟨h, k4⟩ := andT h
      obtain ⟨h, k3⟩ := andT h
      obtain ⟨k1, k2⟩ := andT h
      cases (beq_iff_eq.mp k1)
      exact PV.PS.can (ps_expr (pe_bm PySem.F.plainAttrs_list PySem.F.slot_list_append PySem.F.type_list_append mt_append (g.g.name k3) (pa_cons (pe_tup (pa_cons ((sndE a u g.g k7).v) (pa_cons ((sndE b v g.g k8).none k6) pa_nil (star_of (notT k5))) (star_of (notT k4)))) pa_nil rfl) (base_of rfl) rfl (by rw [k2]) rfl rfl) (swaps_of rfl)) (sem_appT tE.sem tO.sem)
    · cases w <;> try (cases h; done)
      rename_i ls ctx lp
      obtain _ | ⟨_, _ | ⟨_, _ | ⟨_, _⟩⟩⟩ := ls <;> cases kws <;> cases h
  | .ins i k v, s, c, X, Wx, g, h => by
    cases s <;> try (cases h; done)
    rename_i v0 pos
    cases v0 <;> try (cases h; done)
    rename_i f vs kws cpos
    cases f <;> try (cases h; done)
    rename_i o m apos
    cases o <;> try (cases h; done)
    rename_i x p
    obtain _ | ⟨a, _ | ⟨b, _ | ⟨_, _⟩⟩⟩ := vs <;> try (cases h; done)
    cases kws <;> try (cases h; done)
    obtain ⟨h, k9⟩ := andT h
    obtain ⟨h, k8⟩ := andT h
    obtain ⟨h, k7⟩ := andT h
    obtain ⟨h, k6⟩ := andT h
    obtain ⟨h, k5⟩ := andT h
    obtain ⟨h, k4⟩ := andT h
    obtain ⟨h, k3⟩ := andT h
    obtain ⟨k1, k2⟩ := andT h
    cases (beq_iff_eq.mp k1)
    exact PV.PS.can (ps_expr (pe_bm PySem.F.plainAttrs_list PySem.F.slot_list_insert PySem.F.type_list_insert mt_insert (g.g.name k3) (pa_cons ((sndE k a g.g k8).none k6) (pa_cons ((sndE v b g.g k9).none k7) pa_nil (star_of (notT k5))) (star_of (notT k4))) (base_of rfl) (by rw [star_of (notT k4), star_of (notT k5)]; rfl) (by rw [k2]) (star_of (notT k4)) (by rw [star_of (notT k5)]; rfl)) (swaps_of rfl)) (sem_ins tO.sem tO.sem)
  | .setP i ks k v, s, c, X, Wx, g, h => by
    cases s <;> try (cases h; done)
    rename_i ts ve pos
    obtain _ | ⟨t, _ | ⟨_, _⟩⟩ := ts <;> try (cases h; done)
    · cases t <;> try (cases h; done)
      rename_i o ke p2
      obtain ⟨h, k7⟩ := andT h
      obtain ⟨h, k6⟩ := andT h
      obtain ⟨h, k5⟩ := andT h
      obtain ⟨h, k4⟩ := andT h
      obtain ⟨h, k3⟩ := andT h
      obtain ⟨k1, k2⟩ := andT h
      obtain ⟨ts, p1, p2⟩ := sndP ks o g.g k2 (Wx := Wx)
      exact PV.PS.can (ps_asg ((sndE v ve g.g k7).none k4) (pg_sub p1 ((sndE k ke g.g k6).none k3) set_list (asg_sub (notT k1))) (sole_of (notT k5)) rfl rfl) (sem_setP p2 tO.sem tO.sem set_ixS)
    · cases t <;> try (cases h; done)
  | .dsetP i ks k v, s, c, X, Wx, g, h => by
    cases s <;> try (cases h; done)
    rename_i ts ve pos
    obtain _ | ⟨t, _ | ⟨_, _⟩⟩ := ts <;> try (cases h; done)
    · cases t <;> try (cases h; done)
      rename_i o ke p2
      obtain ⟨h, k7⟩ := andT h
      obtain ⟨h, k6⟩ := andT h
      obtain ⟨h, k5⟩ := andT h
      obtain ⟨h, k4⟩ := andT h
      obtain ⟨h, k3⟩ := andT h
      obtain ⟨k1, k2⟩ := andT h
      obtain ⟨ts, p1, p2⟩ := sndP ks o g.g k2 (Wx := Wx)
      exact PV.PS.can (ps_asg ((sndE v ve g.g k7).none k4) (pg_sub p1 ((sndE k ke g.g k6).none k3) (set_dict (by have := g.g.hu; omega)) (asg_sub (notT k1))) (sole_of (notT k5)) rfl rfl) (sem_setP p2 tO.sem tO.sem set_dcS)
    · cases t <;> try (cases h; done)
  | .setF i cc f e, s, c, X, Wx, g, h => by
    cases s <;> try (cases h; done)
    rename_i ts ve pos
    obtain _ | ⟨t, _ | ⟨_, _⟩⟩ := ts <;> try (cases h; done)
    · cases t <;> try (cases h; done)
      rename_i o m p2
      cases o <;> try (cases h; done)
      obtain ⟨h, k3⟩ := andT h
      obtain ⟨k1, k2⟩ := andT h
      refine PV.PS.can (ps_fld (g.g.name k1) (sndE e ve g.g k3).v ?_) (sem_setF (beq_iff_eq.mp k2) tE.sem)
      cases ve <;> rfl
    · cases t <;> try (cases h; done)
      rename_i o m p2
      cases o <;> cases h
theorem sndSs : ∀ (as : List Sm) (ss : List Stmt) {c : CC} {X : Cx} {Wx : WX}, GoodS T ar io F n xv X c Wx → chkSs T c as ss = true → PSs X ss (tS X.K xv Wx c.fx (exs F N as))
  | [], [], c, X, Wx, g, h => PV.PSs.can pss_nil sem_next
  | a :: as, s :: ss, c, X, Wx, g, h => by
    obtain ⟨h1, h2⟩ := andT h
    exact PV.PSs.can (pss_cons (sndS a s g h1) (sndSs as ss g h2)) (sem_seq tS.sem tS.sem)
  | [], _ :: _, c, X, Wx, g, h => by cases h
  | _ :: _, [], c, X, Wx, g, h => by cases h
end
end
end PV
set_option maxRecDepth 100000
set_option maxHeartbeats 4000000
namespace PV
open PySem PySem.Spec PyProof.Rows L2
structure Row where
  g : Nat
  x : Str
  st : Stmt
  ps : List Str
  N : List Str
  cls : Option Nat
  q : Str
def Row.ok (T : Tb) (Dd : Nat → Df) (r : Row) : Bool :=
  decide ((Dd r.g).ar = r.ps.length) && decide ((Dd r.g).n = r.N.length) && (Dd r.g).io.all (fun i => decide (i < r.ps.length)) && chkSs T ⟨defScope r.st, fun _ => true, r.N, (Dd r.g).io⟩ (Dd r.g).body (defBody r.st)
def FAt (K : PySem.W.Frag) (mg : Str → Option Value) (r : Row) (f : Addr) : Prop := match r.cls with
  | none => mg r.x = some (.ref f)
  | some c => PySem.W.findIn K (.ref (clA K c)) r.x = some (some (.ref f)) ∧ PySem.W.isFn K (.ref f) = true
structure TopR (K : PySem.W.Frag) (mg : Str → Option Value) (r : Row) : Prop where
  ex : ∃ f fd, FAt K mg r f ∧ Fun K r.x r.q r.st f fd ∧ ∀ us : List Value, us.length = r.ps.length → bindArgs fd ⟨us, []⟩ = pure (r.ps.zip us)
  sc : FnScope r.N r.ps (defScope r.st)
structure Top (T : Tb) (Dd : Nat → Df) (Rs : List Row) (K : PySem.W.Frag) (mg : Str → Option Value) (xv : ExV) : Prop where
  fs : ∀ g x, T.fs.lookup g = some x → ∃ r ∈ Rs, r.g = g ∧ r.x = x ∧ r.cls = none
  rs : ∀ r ∈ Rs, TopR K mg r
  ck : ∀ r ∈ Rs, r.ok T Dd = true
  blt : ∀ x ∈ bltNames, mg x = none
  tio : ∀ g, T.io g = (Dd g).io
  cst : ∀ x d, (x, d) ∈ T.cs → ∃ u v, mg x = some u ∧ RelV v u ∧ ∀ G, Rep K G d v
  exs : ∀ k x, T.xs.lookup k = some x → ∃ (C : Addr) (bmB : List Value) (B newId initId : String), ExcBaseFacts B newId initId bmB ∧ PySem.W.excIn K C bmB newId = true ∧ mg x = some (.ref C) ∧ PySem.W.keepIn K (.ref C) = true ∧ (∀ X : Cx, X.K = K → Raises X (.ref C)) ∧ xv k = .ref C
  ini : ∀ cc g, (cc, g) ∈ T.ini → ClK K cc ∧ mg (clNm cc) = some (.ref (clA K cc)) ∧ PySem.W.makesIn K (clA K cc) = true ∧ PySem.W.keepIn K (.ref (clA K cc)) = true ∧ ∃ r ∈ Rs, r.g = g ∧ r.cls = some cc ∧ r.x = "__init__"
  met : ∀ cc g m, (cc, g, m) ∈ T.met → ClK K cc ∧ ∃ r ∈ Rs, r.g = g ∧ r.cls = some cc ∧ r.x = m
  ef : ExF T K mg xv
section
variable {P : Program} {w : World} {K : PySem.W.Frag} {mg : Str → Option Value} {base : Heap} {xv : ExV} {T : Tb} {Dd : Nat → Df} {Rs : List Row} {N : Nat}
theorem run_ar (n : Nat) (g : Nat) (as : List O) : (∀ r os, run Dd N n g as = .ok r os → as.length = (Dd g).ar) ∧ ∀ c os, run Dd N n g as = .exc c os → as.length = (Dd g).ar := by
  cases n with
  | zero => exact ⟨fun _ _ h => (by cases h), fun _ _ h => (by cases h)⟩
  | succ n =>
    by_cases h : as.length = (Dd g).ar
    · exact ⟨fun _ _ _ => h, fun _ _ _ => h⟩
    · have : run Dd N (n + 1) g as = .bad := by
        show runDf _ _ _ _ = _
        unfold runDf
        rw [if_neg h]
      rw [this]
      exact ⟨fun _ _ h => (by cases h), fun _ _ h => (by cases h)⟩
theorem sim_start {G H : Hp} {W : Own?} {as : List O} {vs : List V} {nms : List Str} (f : Fine G W H) (ow : Owns K G H W 0 as vs) (n : Nat) (hn : n = nms.length) : Sim K G W H (as.map some ++ List.replicate (n - as.length) none) (L2.start nms vs) := by
  refine ⟨f.gh, f.gw, f.hw, fun i o e => ?_, ?_⟩
  · unfold getO at e
    by_cases hi : i < as.length
    · rw [List.getElem?_append_left (by simpa using hi), List.getElem?_map] at e
      have e' : as[i]? = some o := by
        cases q : as[i]? with
        | none => rw [q] at e; cases e
        | some a => rw [q] at e; simpa using e
      obtain ⟨v, h1, h2⟩ := ow.get e'
      refine ⟨v, ?_, by rw [Nat.zero_add] at h2; exact h2⟩
      unfold L2.start
      have : i < vs.length := by rw [← ow.len]; exact hi
      rw [List.getElem?_append_left (by simpa using this), List.getElem?_map, h1]
      rfl
    · rw [List.getElem?_append_right (by simpa using hi), List.getElem?_replicate] at e
      split at e <;> cases e
  · unfold L2.start
    simp [ow.len, hn]
theorem fn_all (Tp : Top T Dd Rs K mg xv) : ∀ n, ∀ r ∈ Rs, ∀ f fd, FAt K mg r f → Fun K r.x r.q r.st f fd → FnOk P w K mg base (L2.CX P w) (2 * n) f fd r.ps (spOf K xv (Dd r.g).ar (Dd r.g).io (run Dd N n r.g))
  | 0, r, hr, f, fd, hm, F => by
    have no : ∀ vs H Q E, ¬ spOf K xv (Dd r.g).ar (Dd r.g).io (run Dd N 0 r.g) vs H Q E := fun vs H Q E h => by
      obtain ⟨_, _, _, _, _, _, h⟩ := h
      exact h
    exact ⟨fun vs H Q E h => absurd h (no vs H Q E), fun A outer s H args us vs Q E _ _ _ _ h => absurd h (no vs H Q E)⟩
  | n + 1, r, hr, f, fd, hm, F => by
    have S := (Tp.rs r hr).sc
    have ck := Tp.ck r hr
    unfold Row.ok at ck
    obtain ⟨ck, k4⟩ := andT ck
    obtain ⟨ck, k3⟩ := andT ck
    obtain ⟨k1, k2⟩ := andT ck
    replace k1 := of_decide_eq_true k1
    replace k2 := of_decide_eq_true k2
    refine Fun.okX (k := 2 * n + 1) F S (fun vs H Q E h => h.1.trans k1) fun cdv A outer s H vs Q E hrm h => ?_
    obtain ⟨hl, G, W, as, fi, ow, m⟩ := h
    have g : GoodS T (fun g => (Dd g).ar) (fun g => (Dd g).io) (run Dd N n) (2 * n) xv (cxOf (L2.CX P w) P w K mg base r.N r.q (defScope r.st) f cdv A outer s H E) ⟨defScope r.st, fun _ => true, r.N, (Dd r.g).io⟩ (fun cls d _ H => E cls d H) := by
      refine ⟨⟨rfl, hrm, takes_of rfl rfl rfl rfl, S.nd, rfl, rfl, rfl, Tp.blt, fun k x hk => ?_, fun k as => run_ar n k as, Tp.tio, Tp.cst, fun cc k hk => ?_, fun cc k m hk => ?_⟩, passes_of rfl, fun k x hk => ?_, rfl, rfl, Tp.ef⟩
      · obtain ⟨r', h1, rfl, rfl, hc⟩ := Tp.fs k x hk
        obtain ⟨f', fd', e1, F', b'⟩ := (Tp.rs r' h1).ex
        have e2 : mg r'.x = some (.ref f') := by
          unfold FAt at e1
          rw [hc] at e1
          exact e1
        exact ⟨f', fd', r'.ps, e2, F'.kp, .all b', fn_all Tp n r' h1 f' fd' e1 F'⟩
      · obtain ⟨i1, i2, i3, i4, r', h1, rfl, hc, hx⟩ := Tp.ini cc k (List.contains_iff_mem.mp hk)
        obtain ⟨f', fd', e1, F', b'⟩ := (Tp.rs r' h1).ex
        have e2 := e1
        unfold FAt at e2
        rw [hc, hx] at e2
        exact ⟨f', fd', r'.ps, i1, i2, ⟨i3, e2.1, e2.2, i4⟩, .all b', fn_all Tp n r' h1 f' fd' e1 F'⟩
      · obtain ⟨i1, r', h1, rfl, hc, rfl⟩ := Tp.met cc k m (List.contains_iff_mem.mp hk)
        obtain ⟨f', fd', e1, F', b'⟩ := (Tp.rs r' h1).ex
        have e2 := e1
        unfold FAt at e2
        rw [hc] at e2
        exact ⟨f', fd', r'.ps, i1, ⟨e2.1, e2.2, F'.kp⟩, .all b', fn_all Tp n r' h1 f' fd' e1 F'⟩
      · obtain ⟨C, bmB, B, a, b, h1, h2, h3, h4, h5, h6⟩ := Tp.exs k x hk
        exact ⟨C, bmB, B, a, b, h1, h2, h3, h4, h5 _ rfl, h6⟩
    refine ⟨_, sndSs (N := N) _ _ g k4, ?_⟩
    have iok : ∀ τ' : LS, (∀ j ∈ (Dd r.g).io, τ'[j]? = (L2.start r.N vs)[j]?) → ∀ j ∈ (Dd r.g).io, ∃ v, vs[j]? = some v ∧ τ'[j]? = some (some v) := fun τ' q j hj => by
      have lt : j < vs.length := by
        have := of_decide_eq_true (List.all_eq_true.mp k3 j hj)
        rw [hl, k1]; exact this
      refine ⟨vs[j], List.getElem?_eq_getElem lt, (q j hj).trans ?_⟩
      unfold L2.start
      rw [List.getElem?_append_left (by simpa using lt), List.getElem?_map, List.getElem?_eq_getElem lt]
      rfl
    have hla : as.length = (Dd r.g).ar := ow.len.trans hl
    refine ⟨G, W, _, sim_start fi ow (Dd r.g).n k2, ?_⟩
    have m' : (match runDf (run Dd N n) N (Dd r.g) as with
      | .ok r' os => ∀ G' W' H' v, Ext G W H G' W' H' → Fine G' W' H' → Own K G' H' W' [0] r' v → IoOwn K G' H' W' vs (Dd r.g).io os → Q v H'
      | .exc c os => ∀ G' W' H', Ext G W H G' W' H' → Fine G' W' H' → IoOwn K G' H' W' vs (Dd r.g).io os → E (xv c) none H'
      | .bad => False) := m
    unfold runDf at m'
    rw [if_pos hla] at m'
    cases e : exs (run Dd N n) N (Dd r.g).body (as.map some ++ List.replicate ((Dd r.g).n - as.length) none) with
    | bad => rw [e] at m'; exact m'.elim
    | exc c σ =>
      rw [e] at m'
      dsimp only at m'
      cases eo : ioOut (Dd r.g).io σ with
      | none => rw [eo] at m'; exact m'.elim
      | some os =>
        rw [eo] at m'
        intro G' W' H' τ' S' x' q
        exact m' G' W' H' x' ⟨S'.gh, S'.gw, S'.hw⟩ (ioOut_own S' (iok τ' q) eo)
    | ok fl σ =>
      rw [e] at m'
      cases fl with
      | nx =>
        dsimp only at m'
        cases eo : ioOut (Dd r.g).io σ with
        | none => rw [eo] at m'; exact m'.elim
        | some os =>
          rw [eo] at m'
          intro G' W' H' τ' S' x' q
          exact m' G' W' H' .non x' ⟨S'.gh, S'.gw, S'.hw⟩ (.val .non) (ioOut_own S' (iok τ' q) eo)
      | ret o =>
        dsimp only at m'
        cases eo : ioOut (Dd r.g).io σ with
        | none => rw [eo] at m'; exact m'.elim
        | some os =>
          rw [eo] at m'
          intro G' W' H' τ' v S' x' q p
          exact m' G' W' H' v x' ⟨S'.gh, S'.gw, S'.hw⟩ p (ioOut_own S' (iok τ' q) eo)
theorem reps_intsL {G : Hp} : ∀ ns : List Int, Reps K G (ns.map D.int) (ns.map V.int)
  | [] => .nil
  | i :: r => .cons (.int i) (reps_intsL r)
def Says (Dd : Nat → Df) (N n g : Nat) : Prop := ∀ ns : List Int, ns.length ≤ 63 → ∃ os, run Dd N n g [.val (.lst (ns.map .int))] = .ok (.val (.bl true)) os
theorem sp_law {g n : Nat} {io : List Nat} (h : Says Dd N n g) (xv : ExV) (H : Hp) (a : Addr) (ns : List Int) (hl : ns.length ≤ 63) (hs : SqL K H a (ns.map V.int)) : spOf K xv 1 io (run Dd N n g) [.ref a] H (fun v _ => v = .bl true) (fun _ _ _ => False) := by
  obtain ⟨os, e⟩ := h ns hl
  refine ⟨rfl, H, fun _ => none, [.val (.lst (ns.map .int))], ⟨Same.refl _, fun _ _ e => (by cases e), fun _ _ e => (by cases e)⟩, ⟨.val (.lst hs (reps_intsL ns)), trivial⟩, ?_⟩
  rw [e]
  intro G' W' H' v _ _ ow _
  cases ow with
  | val r => cases r; rfl
theorem cx_none {H : Hp} {s : Shared} {e : Value} {s' : Shared} (h : L2.CX P w [] H s (fun _ _ _ => False) e s') : False := by
  obtain ⟨_, _, _, _, _, _, _, _, _, _, _, _, z⟩ := h
  exact z
end
def xvOf (xs : List (Nat × Str)) (K : PySem.W.Frag) : ExV := fun k => match xs.lookup k with
  | some x => (match PySem.W.nsIn K mainGlobals x with
    | some (some v) => v
    | _ => .none)
  | none => .none
theorem xv_at {T : Tb} {K : PySem.W.Frag} {k : Nat} {x : Str} {v : Value} (h : T.xs.lookup k = some x) (e : PySem.W.nsIn K mainGlobals x = some (some v)) : xvOf T.xs K k = v := by
  unfold xvOf
  rw [h]
  dsimp only
  rw [e]
theorem xs_mem {xs : List (Nat × Str)} {k : Nat} {x : Str} (h : xs.lookup k = some x) : (k, x) ∈ xs := by
  induction xs with
  | nil => cases h
  | cons p xs ih =>
    obtain ⟨a, b⟩ := p
    rw [List.lookup_cons] at h
    cases e : (k == a) with
    | true =>
      rw [e] at h
      cases (beq_iff_eq.mp e)
      cases h
      exact List.mem_cons_self
    | false =>
      rw [e] at h
      exact List.mem_cons_of_mem _ (ih h)
theorem walk {l : PySem.W.OpenLaw} {q : Program} {loose : List Str} {XP : (Str → Option Value) → Heap → Prop} {YP : World → Heap → Prop} {d : DefRec} {K : Params → PySem.W.Frag} {T : Tb} {Dd : Nat → Df} {Rs : List Row} (xv : PySem.W.Frag → ExV) (N n : Nat) (r : Row) (hr : r ∈ Rs)
    (hcl : r.cls = none) (hps : r.ps = [("script" : Str)]) (har : (Dd r.g).ar = 1) (says : Says Dd N n r.g) (hrm : Room (2 * n) callerA) (hn : l.most = some 63) (hdf : d.params.defaults = []) (hd : d.name = r.x)
    (hY : ∀ (w : World) (h : Heap), YP w h → (K w.params).In h)
    (F : ∀ (w : World) (mg : Str → Option Value) (h : Heap), (K w.params).In h → h.Ns mainGlobals mg → Top T Dd Rs (K w.params) mg (xv (K w.params))) :
    PySem.W.WalkO q loose XP YP l.row.toRowW d [] (fun f vs => PySem.call f vs) := by
  refine L2.walk_of (n := 63) (k := 2 * n) (x := "script") (CX := fun w => L2.CX l.prog w) (sp := fun w => spOf (K w.params) (xv (K w.params)) 1 (Dd r.g).io (run Dd N n r.g)) hn (by decide) hdf hrm hY (fun w mg fa h KX G hm => ?_) (fun w H a ns hl _ hS => sp_law says _ H a ns hl hS) fun _ _ _ _ _ z => cx_none z
  rw [hd] at hm
  have Tp := F w mg h KX G
  obtain ⟨f, fd, e, Fn, b⟩ := (Tp.rs r hr).ex
  have e' := e
  unfold FAt at e'
  rw [hcl] at e'
  cases hm.symm.trans e'
  refine ⟨fd, fun s u => ?_, fun base _ _ => ?_⟩
  · have := b [u] (by rw [hps]; rfl)
    rw [hps] at this
    exact .of_eq this
  · have := fn_all (P := l.prog) (w := w) (base := base) (N := N) Tp n r hr fa fd e Fn
    rw [hps, har] at this
    exact this
end PV
set_option maxRecDepth 100000
set_option maxHeartbeats 4000000
namespace PV
section
variable (F : Fn) (N : Nat) (σ : Sg)
noncomputable section
def forStep (tg : List Nat) (one : Bool) (body : List Sm) : D → Sg → R Fl := fun x σ => match store tg one x σ with
  | some σ2 => exs F N body σ2
  | none => .bad
def compStep (elt : Ex) (tg : List Nat) (one : Bool) (cond : Ex) : D → Sg → R (Option D) := fun x σ => match store tg one x (wipes tg σ) with
  | some σ2 => (tst cond.isNo (ev F cond σ2) σ2).bind fun b σ3 => if b = true then (pre none (ev F elt σ3) σ3).bind fun d σ4 => .ok d σ4 else .ok none σ3
  | none => .bad
def compStepO (elt : Ex) (tg : List Nat) (one : Bool) : D → Sg → R (Option D) := fun x σ => match store tg one x (wipes tg σ) with
  | some σ2 => (ev F elt σ2).bind fun o σ3 => match o with
    | .lst ys => .ok (some (.lst ys)) σ3
    | _ => .bad
  | none => .bad
def compEndO (tg : List Nat) (σ1 : Sg) (r : R (List D)) : R O := noExc (r.bind fun ys σ2 => match unwipe tg σ1 (wipes tg σ2) with
  | some σ4 => if ys.length ≤ SZ then .ok (.tr (ys.map asL)) σ4 else .bad
  | none => .bad)
def compEnd (tg : List Nat) (σ1 : Sg) (r : R (List D)) : R O := noExc (r.bind fun ys σ2 => match unwipe tg σ1 (wipes tg σ2) with
  | some σ4 => if ys.length ≤ SZ then .ok (.lst ys) σ4 else .bad
  | none => .bad)
end
namespace E
@[scoped simp] theorem _root_.PV.Jc {i e} : ex F N (.set i e) σ = (ev F e σ).bind fun o σ' => .ok .nx (σ'.set i (some o)) := rfl
@[scoped simp] theorem _root_.PV.Jd {is e} : ex F N (.unp is e) σ = (pre none (ev F e σ) σ).bind fun d σ' => match d with
    | some d => match store is false d σ' with
      | some σ2 => .ok .nx σ2
      | none => .bad
    | none => .bad := rfl
@[scoped simp] theorem _root_.PV.Je {i e} : ex F N (.app i e) σ = match getO σ i with
    | some (.lst _) => (pre none (ev F e σ) σ).bind fun d σ' => match d, getO σ' i with
      | some x, some (.lst xs) => if xs.length < SZ then .ok .nx (σ'.set i (some (.lst (xs ++ [x])))) else .bad
      | _, _ => .bad
    | _ => .bad := rfl
@[scoped simp] theorem _root_.PV.Jf {i k v} : ex F N (.setIx i k v) σ = (pre none (ev F v σ) σ).bind fun dv σ1 => match getO σ1 i with
    | some _ => (pre none (ev F k σ1) σ1).bind fun dk σ2 => match dv, dk, getO σ2 i with
      | some y, some (.int j), some (.lst xs) => match L2.ixN xs.length j with
        | some n => .ok .nx (σ2.set i (some (.lst (xs.set n y))))
        | none => .bad
      | _, _, _ => .bad
    | none => .bad := rfl
@[scoped simp] theorem _root_.PV.Jg {e} : ex F N (.ex e) σ = (ev F e σ).bind fun _ σ' => .ok .nx σ' := rfl
@[scoped simp] theorem _root_.PV.Jh {e} : ex F N (.ret e) σ = (ev F e σ).bind fun o σ' => .ok (.ret o) σ' := rfl
@[scoped simp] theorem _root_.PV.Ji {t a b} : ex F N (.iff t a b) σ = (tb (ev F t σ)).bind fun c σ' => if c = true then exs F N a σ' else exs F N b σ' := rfl
@[scoped simp] theorem _root_.PV.Jj {tg one it body} : ex F N (.for_ tg one it body) σ = (evI F it σ).bind fun xs σ1 => forLoop (forStep F N tg one body) xs σ1 := rfl
@[scoped simp] theorem _root_.PV.Jk {t body} : ex F N (.wh t body) σ = whLoop (fun σ => tb (ev F t σ)) (fun σ => exs F N body σ) N σ := rfl
@[scoped simp] theorem _root_.PV.Jl {c} : ex F N (.raise c) σ = .exc c σ := rfl
@[scoped simp] theorem _root_.PV.Jn {i hs body su} : ex F N (.try_ i hs body su) σ = tryR hs i su (exs F N body σ) := rfl
@[scoped simp] theorem _root_.PV.Jm : ex F N .pass σ = .ok .nx σ := rfl
@[scoped simp] theorem _root_.PV.Ja : exs F N [] σ = .ok .nx σ := rfl
@[scoped simp] theorem _root_.PV.Jb {s ss} : exs F N (s :: ss) σ = (ex F N s σ).bind fun f σ' => match f with
    | .nx => exs F N ss σ'
    | .ret o => .ok (.ret o) σ' := rfl
@[scoped simp] theorem _root_.PV.Jo {d} : ev F (.c d) σ = .ok (.val d) σ := rfl
@[scoped simp] theorem _root_.PV.Jp {i} : ev F (.var i) σ = match getO σ i with
    | some (.val d) => .ok (.val d) σ
    | _ => .bad := rfl
@[scoped simp] theorem _root_.PV.Jq {i} : ev F (.frz i) σ = match (getO σ i).bind O.toD with
    | some d => .ok (.val d) (σ.set i (some (.val d)))
    | none => .bad := rfl
@[scoped simp] theorem _root_.PV.Jr {x d} : ev F (.glb x d) σ = .ok (.val d) σ := rfl
@[scoped simp] theorem _root_.PV.Js {op a b} : ev F (.bin op a b) σ = op2 (binD op) a.bo b.bo (ev F a) (ev F b) σ := rfl
@[scoped simp] theorem _root_.PV.Jt {op a b} : ev F (.cmp op a b) σ = vb (op2 (cmpD op) a.bo b.bo (ev F a) (ev F b) σ) := rfl
@[scoped simp] theorem _root_.PV.Ju {a} : ev F (.not a) σ = (tb (ev F a σ)).bind fun b σ' => .ok (.val (.bl (!b))) σ' := rfl
@[scoped simp] theorem _root_.PV.Jv {a} : ev F (.neg a) σ = op1 (fun d => match d with | .int i => some (O.val (.int (-i))) | _ => none) none (ev F a) σ := rfl
@[scoped simp] theorem _root_.PV.Jw {es} : ev F (.and es) σ = vb (evAnd F es σ) := rfl
@[scoped simp] theorem _root_.PV.Jx {es} : ev F (.or es) σ = vb (evOr F es σ) := rfl
@[scoped simp] theorem _root_.PV.Jy {es} : ev F (.tup es) σ = (evs F es σ).bind fun ds σ' => if ds.length ≤ SZ then .ok (.val (.tup ds)) σ' else .bad := rfl
@[scoped simp] theorem _root_.PV.Jz {es} : ev F (.lst es) σ = (evs F es σ).bind fun ds σ' => if ds.length ≤ SZ then .ok (.lst ds) σ' else .bad := rfl
@[scoped simp] theorem _root_.PV.J0 {a b} : ev F (.ix a b) σ = op2 (fun x y => (ixD x y).map O.val) a.bo b.bo (ev F a) (ev F b) σ := rfl
@[scoped simp] theorem _root_.PV.J1 {a lo hi} : ev F (.sl a lo hi) σ = (pre a.bo (ev F a σ) σ).bind fun da σ1 => (bnd lo.isNo (ev F lo σ1) σ1).bind fun l σ2 => (bnd hi.isNo (ev F hi σ2) σ2).bind fun h σ3 => match fin a.bo da σ3 with
    | some x => lift σ3 (slD x l h)
    | none => .bad := rfl
@[scoped simp] theorem _root_.PV.J2 {g es} : ev F (.call g es) σ = (evs F es σ).bind fun ds σ' => match F g (ds.map O.val) with
    | .ok r _ => .ok r σ'
    | .exc c _ => .exc c σ'
    | .bad => .bad := rfl
@[scoped simp] theorem _root_.PV.J3 {b es} : ev F (.bf b es) σ = (evp F es σ).bind fun ds σ' => match fins (es.map Ex.bo) ds σ' with
    | some xs => lift σ' (bfD b xs)
    | none => .bad := rfl
@[scoped simp] theorem _root_.PV.J4 {a t} : ev F (.isi a t) σ = op1 (fun d => if (dTy d).isSome then some (O.val (.bl (isTy t d))) else none) a.bo (ev F a) σ := rfl
@[scoped simp] theorem _root_.PV.J5 {m a es} : ev F (.mt m a es) σ = (pre a.bo (ev F a σ) σ).bind fun da σ1 => match fin a.bo da σ1 with
    | some z => if recvOk m z = true then (evp F es σ1).bind fun ds σ2 => match fin a.bo da σ2, fins (es.map Ex.bo) ds σ2 with
      | some x, some xs => lift σ2 (mtD m x xs)
      | _, _ => .bad
      else .bad
    | none => .bad := rfl
@[scoped simp] theorem _root_.PV.J6 {i} : ev F (.pop i) σ = popO i σ := rfl
@[scoped simp] theorem _root_.PV.J7 {elt tg one it cond} : ev F (.comp elt tg one it cond) σ = (evI F it σ).bind fun xs σ1 => compEnd tg σ1 (compLoop (compStep F elt tg one cond) xs σ1) := rfl
@[scoped simp] theorem _root_.PV.Ka {i} : ev F (.lvals i) σ = match getO σ i with
    | some (.dic _ kvs) => .ok (.lst (kvs.map Prod.snd)) σ
    | _ => .bad := rfl
@[scoped simp] theorem _root_.PV.J9 {i} : ev F (.skey i) σ = match getO σ i with
    | some (.dic false kvs) => match keysD kvs with
      | some ks => if ks.length ≤ SZ then .ok (.lst ((srtI ks).map .int)) σ else .bad
      | none => match keysX kvs with
        | some ks => if ks.length ≤ SZ then .ok (.lst ((srtX ks).map .str)) σ else .bad
        | none => .bad
    | _ => .bad := rfl
@[scoped simp] theorem _root_.PV.Kb {a} : ev F (.sset a) σ = op1 sortSetD none (ev F a) σ := rfl
@[scoped simp] theorem _root_.PV.Kc {i b} : ev F (.dnew1 i b) σ = match getO σ i with
    | some (.val (.int k)) => .ok (.dic false [(.int k, .bl b)]) σ
    | _ => .bad := rfl
end E
@[simp] theorem bo_fld {a b : Nat} : Ex.bo (.fld a b) = none := rfl
@[simp] theorem bo_ixP {a : Nat} {b : List Ex} {c : Ex} : Ex.bo (.ixP a b c) = none := rfl
@[simp] theorem bo_dgetP {a : Nat} {b : List Ex} {c : Ex} : Ex.bo (.dgetP a b c) = none := rfl
@[simp] theorem bo_dinP {a : Nat} {b : List Ex} {c : Ex} : Ex.bo (.dinP a b c) = none := rfl
@[simp] theorem bo_dninP {a : Nat} {b : List Ex} {c : Ex} : Ex.bo (.dninP a b c) = none := rfl
@[simp] theorem bo_lstP {a : Nat} {b : List Ex} : Ex.bo (.lstP a b) = none := rfl
@[simp] theorem bo_mvF {a b c : Nat} : Ex.bo (.mvF a b c) = none := rfl
@[simp] theorem bo_mk {a b : Nat} {c : List Ex} : Ex.bo (.mk a b c) = none := rfl
@[simp] theorem bo_callM {a b : Nat} {c : List Ex} : Ex.bo (.callM a b c) = none := rfl
@[simp] theorem bo_lrng {a : Ex} : Ex.bo (.lrng a) = none := rfl
@[simp] theorem bo_lrev {a : Ex} : Ex.bo (.lrev a) = none := rfl
@[simp] theorem lrev_lst {xs : List D} : lrevD (.lst xs) = some (.lst xs.reverse) := rfl
@[simp] theorem bo_rep {a b : Ex} : Ex.bo (.rep a b) = none := rfl
@[simp] theorem bo_compO {b : Ex} {c : List Nat} {d : Bool} {e : Ex} : Ex.bo (.compO b c d e) = none := rfl
@[simp] theorem bo_compH {a : Nat} {b : Ex} {c : List Nat} {d : Bool} {e : Ex} : Ex.bo (.compH a b c d e) = none := rfl
@[simp] theorem bo_lvals {a : Nat} : Ex.bo (.lvals a) = none := rfl
@[simp] theorem bo_skey {a : Nat} : Ex.bo (.skey a) = none := rfl
@[simp] theorem bo_sset {a : Ex} : Ex.bo (.sset a) = none := rfl
namespace E
@[scoped simp] theorem _root_.PV.J8 {k elt tg one cond} : ev F (.compH k elt tg one cond) σ = compHD k tg (compStep F elt tg one cond) σ := rfl
@[scoped simp] theorem _root_.PV.Kd {a} : ev F (.fz a) σ = (pre none (ev F a σ) σ).bind fun d σ' => match d with
    | some d => .ok (.val d) σ'
    | none => .bad := rfl
@[scoped simp] theorem _root_.PV.Kf {g es} : ev F (.callO g es) σ = (evp F es σ).bind fun ds σ' => match argsO es ds σ' with
    | some as => match F g as with
      | .ok r os => match outO es os σ' with
        | some σ2 => if (!lent es || (r.flat && os.all O.flat)) = true then .ok r σ2 else .bad
        | none => .bad
      | .exc c os => match outO es os σ' with
        | some σ2 => if (!lent es || os.all O.flat) = true then .exc c σ2 else .bad
        | none => .bad
      | .bad => .bad
    | none => .bad := rfl
@[scoped simp] theorem _root_.PV.Ke {i} : ev F (.mv i) σ = match getO σ i with
    | some o => .ok o (σ.set i none)
    | none => .bad := rfl
@[scoped simp] theorem _root_.PV.Kg {i} : ev F (.frzT i) σ = match (getO σ i).bind deepD with
    | some d => .ok (.val d) (σ.set i (some (.val d)))
    | none => .bad := rfl
@[scoped simp] theorem _root_.PV.Kh {i ks} : ev F (.lnP i ks) σ = lenP i (evF F ks) σ := rfl
@[scoped simp] theorem _root_.PV.Ki {a} : ev F (.trev a) σ = op1 revD a.bo (ev F a) σ := rfl
@[scoped simp] theorem _root_.PV.Kj {i ks e} : ex F N (.appP i ks e) σ = appP i (evF F ks) (ev F e) σ := rfl
@[scoped simp] theorem _root_.PV.Kk {i e} : ex F N (.appN i e) σ = appN i (ev F e) σ := rfl
@[scoped simp] theorem _root_.PV.ex_appT {i a b} : ex F N (.appT i a b) σ = appT i (ev F a) (ev F b) σ := rfl
@[scoped simp] theorem _root_.PV.Kl : evF F [] = [] := rfl
@[scoped simp] theorem _root_.PV.Kn {d : D} {ks : List Ex} : evF F (.c d :: ks) = .ix (ev F (.c d)) :: evF F ks := rfl
@[scoped simp] theorem _root_.PV.Ko {i : Nat} {ks : List Ex} : evF F (.var i :: ks) = .ix (ev F (.var i)) :: evF F ks := rfl
@[scoped simp] theorem _root_.PV.Kp {i : Nat} {ks : List Ex} : evF F (.frz i :: ks) = .ix (ev F (.frz i)) :: evF F ks := rfl
@[scoped simp] theorem _root_.PV.Kq {a : Ex} {ks : List Ex} : evF F (.neg a :: ks) = .ix (ev F (.neg a)) :: evF F ks := rfl
@[scoped simp] theorem _root_.PV.Kr {o : Bn} {a b : Ex} {ks : List Ex} : evF F (.bin o a b :: ks) = .ix (ev F (.bin o a b)) :: evF F ks := rfl
@[scoped simp] theorem _root_.PV.Ks {a b : Ex} {ks : List Ex} : evF F (.ix a b :: ks) = .ix (ev F (.ix a b)) :: evF F ks := rfl
@[scoped simp] theorem _root_.PV.Kt {g : Nat} {es : List Ex} {ks : List Ex} : evF F (.call g es :: ks) = .ix (ev F (.call g es)) :: evF F ks := rfl
@[scoped simp] theorem _root_.PV.Ku {b : Bf} {es : List Ex} {ks : List Ex} : evF F (.bf b es :: ks) = .ix (ev F (.bf b es)) :: evF F ks := rfl
@[scoped simp] theorem _root_.PV.Kv {i : Nat} {js : List Ex} {k : Ex} {ks : List Ex} : evF F (.dgetP i js k :: ks) = .ix (ev F (.dgetP i js k)) :: evF F ks := rfl
@[scoped simp] theorem _root_.PV.Kw {i : Nat} {js : List Ex} {k : Ex} {ks : List Ex} : evF F (.ixP i js k :: ks) = .ix (ev F (.ixP i js k)) :: evF F ks := rfl
@[scoped simp] theorem _root_.PV.Km {c n ks} : evF F (.fld c n :: ks) = .fd c n :: evF F ks := rfl
end E
namespace E
@[scoped simp] theorem _root_.PV.Kx {i ks k} : ev F (.ixP i ks k) σ = getP i (evF F ks) (ev F k) ixG σ := rfl
@[scoped simp] theorem _root_.PV.Ky {i ks k} : ev F (.dgetP i ks k) σ = getP i (evF F ks) (ev F k) dgG σ := rfl
@[scoped simp] theorem _root_.PV.Kz {i ks k} : ev F (.dinP i ks k) σ = vb (PV.dinP i (evF F ks) (ev F k) σ) := rfl
@[scoped simp] theorem _root_.PV.K0 {i ks k} : ev F (.dninP i ks k) σ = (PV.dinP i (evF F ks) (ev F k) σ).bind fun b σ' => .ok (.val (.bl (!b))) σ' := rfl
@[scoped simp] theorem _root_.PV.K1 {i ks} : ev F (.lstP i ks) σ = PV.lstP i (evF F ks) σ := rfl
@[scoped simp] theorem _root_.PV.K2 {i c f} : ev F (.mvF i c f) σ = PV.mvF i c f σ := rfl
@[scoped simp] theorem _root_.PV.K3 {c g es} : ev F (.mk c g es) σ = (evs F es σ).bind fun ds σ' => match F g (.ins c [] :: ds.map O.val) with
    | .ok (.val .non) [o] => .ok o σ'
    | _ => .bad := rfl
@[scoped simp] theorem _root_.PV.K4 {c g es} : ev F (.callM c g es) σ = if isIns c es σ = true then ((evp F es σ).bind fun ds σ' => match argsO es ds σ' with
    | some as => match F g as with
      | .ok r os => match outO es os σ' with
        | some σ2 => if (!lent es || (r.flat && os.all O.flat)) = true then .ok r σ2 else .bad
        | none => .bad
      | .exc c os => match outO es os σ' with
        | some σ2 => if (!lent es || os.all O.flat) = true then .exc c σ2 else .bad
        | none => .bad
      | .bad => .bad
    | none => .bad) else .bad := rfl
@[scoped simp] theorem _root_.PV.K6 {a} : ev F (.lrng a) σ = op1 lrngD none (ev F a) σ := rfl
@[scoped simp] theorem _root_.PV.K7 {a} : ev F (.lrev a) σ = op1 lrevD a.bo (ev F a) σ := rfl
@[scoped simp] theorem _root_.PV.K5 {a n} : ev F (.rep a n) σ = op2 repD none none (ev F a) (ev F n) σ := rfl
@[scoped simp] theorem _root_.PV.K8 {elt tg one it} : ev F (.compO elt tg one it) σ = (evI F it σ).bind fun xs σ1 => compEndO tg σ1 (compLoop (compStepO F elt tg one) xs σ1) := rfl
@[scoped simp] theorem _root_.PV.K9 {i ks k v} : ex F N (.setP i ks k v) σ = PV.setP i (evF F ks) (ev F k) (ev F v) ixS σ := rfl
@[scoped simp] theorem _root_.PV.Qa {i ks k v} : ex F N (.dsetP i ks k v) σ = PV.setP i (evF F ks) (ev F k) (ev F v) dcS σ := rfl
@[scoped simp] theorem _root_.PV.Qb {i c f e} : ex F N (.setF i c f e) σ = PV.setF i c f (ev F e) σ := rfl
@[scoped simp] theorem _root_.PV.Qc {t} : ev F (.dnew t) σ = .ok (.dic t []) σ := rfl
@[scoped simp] theorem _root_.PV.Qd {i k} : ev F (.dget i k) σ = (atD i lookD (ev F k) σ).bind fun d σ' => .ok (.val d) σ' := rfl
@[scoped simp] theorem _root_.PV.Qe {i k} : ev F (.din i k) σ = vb (inDk i (ev F k) σ) := rfl
@[scoped simp] theorem _root_.PV.Qf {i k} : ev F (.dnin i k) σ = (inDk i (ev F k) σ).bind fun b σ' => .ok (.val (.bl (!b))) σ' := rfl
@[scoped simp] theorem _root_.PV.Qg {kvs k} : ev F (.dix kvs k) σ = (pre none (ev F k σ) σ).bind fun dk σ' => match dk with
    | some (.str x) => match (kvs.reverse.find? fun p => p.1 == x) with
      | some p => .ok (.val (.str p.2)) σ'
      | none => .bad
    | _ => .bad := rfl
@[scoped simp] theorem _root_.PV.Qh {i k v} : ex F N (.dset i k v) σ = (pre none (ev F v σ) σ).bind fun dv σ1 => match slotD σ1 i with
    | some _ => (pre none (ev F k σ1) σ1).bind fun dk σ2 => match dv, dk, slotD σ2 i with
      | some y, some k, some (t, kvs) => if isKey t k = true ∧ kvs.length < SZ then .ok .nx (σ2.set i (some (.dic t (putD kvs k y)))) else .bad
      | _, _, _ => .bad
    | none => .bad := rfl
@[scoped simp] theorem _root_.PV.Qi {i k v} : ex F N (.ins i k v) σ = match getO σ i with
    | some (.lst _) => (pre none (ev F k σ) σ).bind fun dk σ1 => (pre none (ev F v σ1) σ1).bind fun dv σ2 => match dk, dv, getO σ2 i with
      | some (.int j), some y, some (.lst xs) => if xs.length < SZ ∧ 0 ≤ j ∧ j ≤ xs.length then .ok .nx (σ2.set i (some (.lst (xs.take j.toNat ++ y :: xs.drop j.toNat)))) else .bad
      | _, _, _ => .bad
    | _ => .bad := rfl
@[scoped simp] theorem _root_.PV.Qj : evs F [] σ = .ok [] σ := rfl
@[scoped simp] theorem _root_.PV.Qk {e es} : evs F (e :: es) σ = (pre none (ev F e σ) σ).bind fun d σ1 => match d with
    | some x => (evs F es σ1).bind fun xs σ2 => .ok (x :: xs) σ2
    | none => .bad := rfl
@[scoped simp] theorem _root_.PV.Ql : evp F [] σ = .ok [] σ := rfl
@[scoped simp] theorem _root_.PV.Qm {e es} : evp F (e :: es) σ = (pre e.bo (ev F e σ) σ).bind fun d σ1 => (evp F es σ1).bind fun ds σ2 => .ok (d :: ds) σ2 := rfl
@[scoped simp] theorem _root_.PV.Qn {e} : evAnd F [e] σ = tb (ev F e σ) := rfl
@[scoped simp] theorem _root_.PV.Qo {e a es} : evAnd F (e :: a :: es) σ = (tb (ev F e σ)).bind fun b σ' => if b = true then evAnd F (a :: es) σ' else .ok false σ' := rfl
@[scoped simp] theorem _root_.PV.Qp {e} : evOr F [e] σ = tb (ev F e σ) := rfl
@[scoped simp] theorem _root_.PV.Qq {e a es} : evOr F (e :: a :: es) σ = (tb (ev F e σ)).bind fun b σ' => if b = true then .ok true σ' else evOr F (a :: es) σ' := rfl
@[scoped simp] theorem _root_.PV.Qr {a} : evI F (.seq a) σ = op1 seqD none (ev F a) σ := rfl
@[scoped simp] theorem _root_.PV.Qs {es} : evI F (.rng es) σ = (evs F es σ).bind fun ds σ' => lift σ' (rngD ds) := rfl
@[scoped simp] theorem _root_.PV.Qt {a} : evI F (.enum a) σ = op1 (lstOnly (enumD 0)) none (ev F a) σ := rfl
@[scoped simp] theorem _root_.PV.Qu {a b} : evI F (.zip a b) σ = op2 zipOnly none none (ev F a) (ev F b) σ := rfl
@[scoped simp] theorem _root_.PV.Qv {a} : evI F (.rev a) σ = op1 (lstOnly List.reverse) none (ev F a) σ := rfl
end E
end
section
variable {α β : Type} {σ : Sg} {a : α} {c : Nat}
@[simp] theorem tryR_ok {hs : List Nat} {i : Nat} {su : List SuS} {fl : Fl} {σ : Sg} : tryR hs i su (.ok fl σ) = .ok fl σ := rfl
@[simp] theorem tryR_exc {hs : List Nat} {i k : Nat} {su : List SuS} {σ : Sg} : tryR hs i su (.exc k σ) = if hs.contains k = true ∧ i < σ.length then (match suSs k su (σ.set i none) with
    | some σ2 => .ok .nx (σ2.set i none)
    | none => .bad) else .bad := rfl
@[simp] theorem bind_ok {f : α → Sg → R β} : (R.ok a σ).bind f = f a σ := rfl
@[simp] theorem bind_exc {f : α → Sg → R β} : (R.exc c σ : R α).bind f = .exc c σ := rfl
@[simp] theorem bind_bad {f : α → Sg → R β} : (R.bad : R α).bind f = .bad := rfl
namespace E
@[scoped simp] theorem _root_.PV.Q0 {p : Prop} [Decidable p] {x y : R α} {f : α → Sg → R β} : (if p then x else y).bind f = if p then x.bind f else y.bind f := by split <;> rfl
end E
@[simp] theorem tb_bl {b : Bool} : tb (.ok (.val (.bl b)) σ) = .ok b σ := rfl
@[simp] theorem tb_bad : tb .bad = .bad := rfl
@[simp] theorem tb_exc : tb (.exc c σ) = .exc c σ := rfl
namespace E
@[scoped simp] theorem _root_.PV.Q1 {p : Prop} [Decidable p] {x y : R O} : tb (if p then x else y) = if p then tb x else tb y := by split <;> rfl
end E
@[simp] theorem vb_ok {b : Bool} : vb (.ok b σ) = .ok (.val (.bl b)) σ := rfl
@[simp] theorem vb_bad : vb .bad = .bad := rfl
@[simp] theorem vb_exc : vb (.exc c σ) = .exc c σ := rfl
namespace E
@[scoped simp] theorem _root_.PV.Q2 {p : Prop} [Decidable p] {x y : R Bool} : vb (if p then x else y) = if p then vb x else vb y := by split <;> rfl
end E
@[simp] theorem pre_val {d : D} {s : Sg} : pre none (.ok (.val d) σ) s = .ok (some d) σ := rfl
@[simp] theorem pre_lst {xs : List D} {s : Sg} : pre none (.ok (.lst xs) σ) s = .ok (some (.lst xs)) σ := rfl
@[simp] theorem pre_bad {s : Sg} : pre none .bad s = .bad := rfl
@[simp] theorem pre_exc {s : Sg} : pre none (.exc c σ) s = .exc c σ := rfl
namespace E
@[scoped simp] theorem _root_.PV.Qz {i : Nat} {r : R O} : pre (some i) r σ = match getO σ i with
    | some _ => .ok none σ
    | none => .bad := rfl
@[scoped simp] theorem _root_.PV.Q3 {p : Prop} [Decidable p] {x y : R O} {s : Sg} : pre none (if p then x else y) s = if p then pre none x s else pre none y s := by split <;> rfl
end E
@[simp] theorem fin_none {d : Option D} : fin none d σ = d := rfl
@[simp] theorem fin_some {i : Nat} {d : Option D} : fin (some i) d σ = (getO σ i).bind O.toD := rfl
@[simp] theorem toD_val {d : D} : O.toD (.val d) = some d := rfl
@[simp] theorem toD_lst {xs : List D} : O.toD (.lst xs) = some (.lst xs) := rfl
@[simp] theorem toD_dic {kvs : List (D × D)} : O.toD (.dic false kvs) = some (.dic kvs) := rfl
@[simp] theorem toL_val {d : D} : O.toL (.val d) = some d := rfl
@[simp] theorem toL_lst {xs : List D} : O.toL (.lst xs) = some (.lst xs) := rfl
namespace E
@[scoped simp] theorem _root_.PV.Qy {f : D → D → Option α} {ba bb : Option Nat} {fa fb : Sg → R O} : op2 f ba bb fa fb σ = (pre ba (fa σ) σ).bind fun da σ1 => (pre bb (fb σ1) σ1).bind fun db σ2 => match fin ba da σ2, fin bb db σ2 with
  | some a, some b => lift σ2 (f a b)
  | _, _ => .bad := rfl
@[scoped simp] theorem _root_.PV.Qx {f : D → Option α} {ba : Option Nat} {fa : Sg → R O} : op1 f ba fa σ = (pre ba (fa σ) σ).bind fun da σ1 => match fin ba da σ1 with
  | some a => lift σ1 (f a)
  | _ => .bad := rfl
end E
@[simp] theorem lift_some : lift σ (some a) = .ok a σ := rfl
@[simp] theorem lift_none : lift σ (none : Option α) = .bad := rfl
namespace E
@[scoped simp] theorem _root_.PV.Q4 {p : Prop} [Decidable p] {x y : Option α} : lift σ (if p then x else y) = if p then lift σ x else lift σ y := by split <;> rfl
end E
@[simp] theorem fins_nil : fins [] [] σ = some [] := rfl
@[simp] theorem fins_cons {b : Option Nat} {bs d ds} : fins (b :: bs) (d :: ds) σ = match fin b d σ, fins bs ds σ with
  | some x, some xs => some (x :: xs)
  | _, _ => none := rfl
@[simp] theorem bnd_no {r : R O} : bnd true r σ = .ok none σ := rfl
@[simp] theorem bnd_int {i : Int} {s : Sg} : bnd false (.ok (.val (.int i)) σ) s = .ok (some i) σ := rfl
@[simp] theorem tst_no {r : R O} : tst true r σ = .ok true σ := rfl
@[simp] theorem tst_yes {r : R O} : tst false r σ = tb r := rfl
@[simp] theorem bo_c {d} : Ex.bo (.c d) = none := rfl
@[simp] theorem bo_var {i} : Ex.bo (.var i) = none := rfl
@[simp] theorem bo_frz {i} : Ex.bo (.frz i) = none := rfl
@[simp] theorem bo_bor {i} : Ex.bo (.bor i) = some i := rfl
@[simp] theorem bo_glb {x d} : Ex.bo (.glb x d) = none := rfl
@[simp] theorem bo_bin {o a b} : Ex.bo (.bin o a b) = none := rfl
@[simp] theorem bo_cmp {o a b} : Ex.bo (.cmp o a b) = none := rfl
@[simp] theorem bo_chain {o o' a b d} : Ex.bo (.chain o o' a b d) = none := rfl
@[simp] theorem bo_chain3 {o o' o2 a b d f} : Ex.bo (.chain3 o o' o2 a b d f) = none := rfl
@[simp] theorem bo_not {a} : Ex.bo (.not a) = none := rfl
@[simp] theorem bo_neg {a} : Ex.bo (.neg a) = none := rfl
@[simp] theorem bo_and {a} : Ex.bo (.and a) = none := rfl
@[simp] theorem bo_or {a} : Ex.bo (.or a) = none := rfl
@[simp] theorem bo_tup {a} : Ex.bo (.tup a) = none := rfl
@[simp] theorem bo_lst {a} : Ex.bo (.lst a) = none := rfl
@[simp] theorem bo_ix {a b} : Ex.bo (.ix a b) = none := rfl
@[simp] theorem bo_sl {a b d} : Ex.bo (.sl a b d) = none := rfl
@[simp] theorem bo_no : Ex.bo .no = none := rfl
@[simp] theorem bo_call {g a} : Ex.bo (.call g a) = none := rfl
@[simp] theorem bo_bf {g a} : Ex.bo (.bf g a) = none := rfl
@[simp] theorem bo_isi {g a} : Ex.bo (.isi g a) = none := rfl
@[simp] theorem bo_mt {g a b} : Ex.bo (.mt g a b) = none := rfl
@[simp] theorem bo_pop {g} : Ex.bo (.pop g) = none := rfl
@[simp] theorem bo_fz {a} : Ex.bo (.fz a) = none := rfl
@[simp] theorem bo_own {a} : Ex.bo (.own a) = some a := rfl
@[simp] theorem bo_callO {g a} : Ex.bo (.callO g a) = none := rfl
@[simp] theorem bo_mv {g} : Ex.bo (.mv g) = none := rfl
@[simp] theorem bo_frzT {g} : Ex.bo (.frzT g) = none := rfl
@[simp] theorem bo_lnP {g h} : Ex.bo (.lnP g h) = none := rfl
@[simp] theorem bo_trev {g} : Ex.bo (.trev g) = none := rfl
@[simp] theorem bo_dnew {g} : Ex.bo (.dnew g) = none := rfl
@[simp] theorem bo_dget {g a} : Ex.bo (.dget g a) = none := rfl
@[simp] theorem bo_din {g a} : Ex.bo (.din g a) = none := rfl
@[simp] theorem bo_dnin {g a} : Ex.bo (.dnin g a) = none := rfl
@[simp] theorem bo_dix {g a} : Ex.bo (.dix g a) = none := rfl
@[simp] theorem bo_comp {a b d e f} : Ex.bo (.comp a b d e f) = none := rfl
section
variable {i j : Int} {x y : Tx} {xs ys : List D} {b b' : Bool} {d e : D}
@[simp] theorem add_int : binD .add (.int i) (.int j) = some (.val (.int (i + j))) := rfl
@[simp] theorem add_str : binD .add (.str x) (.str y) = if x.length + y.length ≤ SZ then some (.val (.str (x ++ y))) else none := rfl
@[simp] theorem add_lst : binD .add (.lst xs) (.lst ys) = if xs.length + ys.length ≤ SZ then some (.lst (xs ++ ys)) else none := rfl
@[simp] theorem add_tup : binD .add (.tup xs) (.tup ys) = if xs.length + ys.length ≤ SZ then some (.val (.tup (xs ++ ys))) else none := rfl
@[simp] theorem sub_int : binD .sub (.int i) (.int j) = some (.val (.int (i - j))) := rfl
@[simp] theorem mul_int : binD .mul (.int i) (.int j) = if i.natAbs < 2 ^ 64 ∨ j.natAbs < 2 ^ 64 then some (.val (.int (i * j))) else none := rfl
@[simp] theorem mod_int : binD .mod (.int i) (.int j) = if 0 < j then some (.val (.int (i % j))) else none := rfl
@[simp] theorem div_int : binD .div (.int i) (.int j) = if 0 < j ∧ j.natAbs < 1073741824 then some (.val (.int (i / j))) else none := rfl
@[simp] theorem pow_int : binD .pow (.int i) (.int j) = if 0 ≤ j ∧ j.natAbs ≤ 1000000 ∧ i.natAbs < 2 ^ 64 then some (.val (.int (i ^ j.toNat))) else none := rfl
@[simp] theorem xor_int : binD .xor (.int i) (.int j) = some (.val (.int (PySem.Builtin.bitXor i j))) := rfl
@[simp] theorem eqD_str : eqD (.str x) (.str y) = some (x == y) := rfl
@[simp] theorem eqD_int : eqD (.int i) (.int j) = some (i == j) := rfl
@[simp] theorem eqD_bl : eqD (.bl b) (.bl b') = some (b == b') := rfl
@[simp] theorem cmp_eq : cmpD .eq d e = eqD d e := rfl
@[simp] theorem cmp_ne : cmpD .ne d e = (eqD d e).map (!·) := rfl
@[simp] theorem cmp_lt : cmpD .lt (.int i) (.int j) = some (decide (i < j)) := rfl
@[simp] theorem cmp_le : cmpD .le (.int i) (.int j) = some (decide (i ≤ j)) := rfl
@[simp] theorem cmp_gt : cmpD .gt (.int i) (.int j) = some (decide (j < i)) := rfl
@[simp] theorem cmp_ge : cmpD .ge (.int i) (.int j) = some (decide (j ≤ i)) := rfl
@[simp] theorem cmp_lts : cmpD .lt (.str x) (.str y) = some (decide (x < y)) := rfl
@[simp] theorem cmp_gts : cmpD .gt (.str x) (.str y) = some (decide (y < x)) := rfl
@[simp] theorem cmp_ges : cmpD .ge (.str x) (.str y) = some (!decide (x < y)) := rfl
@[simp] theorem cmp_les : cmpD .le (.str x) (.str y) = some (!decide (y < x)) := rfl
@[simp] theorem cmp_isn : cmpD .is d .non = some (match d with | .non => true | _ => false) := rfl
@[simp] theorem cmp_nisn : cmpD .nis d .non = some (match d with | .non => false | _ => true) := rfl
@[simp] theorem cmp_in : cmpD .isin d e = inD d e := rfl
@[simp] theorem cmp_nin : cmpD .nin d e = (inD d e).map (!·) := rfl
@[simp] theorem inD_str {c : Nat} : inD (.str [c]) (.str y) = some (decide (c ∈ y)) := rfl
@[simp] theorem ix_dic {kvs : List (D × D)} {k : D} : ixD (.dic kvs) k = if isKey1 k = true then lookD kvs k else none := rfl
@[simp] theorem inD_dic {kvs : List (D × D)} {k : D} : inD k (.dic kvs) = if isKey1 k = true then some (hasD kvs k) else none := rfl
@[simp] theorem ix_lst : ixD (.lst xs) (.int i) = at? xs i := rfl
@[simp] theorem ix_tup : ixD (.tup xs) (.int i) = at? xs i := rfl
@[simp] theorem ix_str : ixD (.str x) (.int i) = if x.length ≤ SZ then (at? x i).map fun c => .str [c] else none := rfl
@[simp] theorem sl_lst {lo hi} : slD (.lst xs) lo hi = some (.lst (cut xs lo hi)) := rfl
@[simp] theorem sl_str {lo hi} : slD (.str x) lo hi = if x.length ≤ SZ then some (.val (.str (cut x lo hi))) else none := rfl
@[simp] theorem sl_tup {lo hi} : slD (.tup xs) lo hi = some (.val (.tup (cut xs lo hi))) := rfl
@[simp] theorem len_lst : bfD .len [.lst xs] = some (.val (.int xs.length)) := rfl
@[simp] theorem len_tup : bfD .len [.tup xs] = some (.val (.int xs.length)) := rfl
@[simp] theorem len_str' : bfD .len [.str x] = if x.length ≤ SZ then some (.val (.int x.length)) else none := by simp only [bfD, lenD]; split <;> rfl
@[simp] theorem list_lst : bfD .list [.lst xs] = some (.lst xs) := rfl
@[simp] theorem list_tup : bfD .list [.tup xs] = some (.lst xs) := rfl
@[simp] theorem tuple_lst : bfD .tuple [.lst xs] = some (.val (.tup xs)) := rfl
@[simp] theorem tuple_tup : bfD .tuple [.tup xs] = some (.val (.tup xs)) := rfl
@[simp] theorem int_int : bfD .int [.int i] = some (.val (.int i)) := rfl
@[simp] theorem int_bl : bfD .int [.bl b] = some (.val (.int (if b then 1 else 0))) := rfl
@[simp] theorem max_int : bfD .max [.int i, .int j] = some (.val (.int (if j > i then j else i))) := rfl
@[simp] theorem min_int : bfD .min [.int i, .int j] = some (.val (.int (if j < i then j else i))) := rfl
theorem bf_max : bfD .max [.lst xs] = match intsD xs with
    | some ns => if ns.isEmpty then none else some (.val (.int (maxI ns)))
    | none => none := rfl
theorem bf_sum : bfD .sum [.lst xs] = (intsD xs).map fun ns => .val (.int ns.sum) := rfl
theorem rng_one : rngD [.int j] = if j.natAbs < 2 ^ 62 then some (rangeD 0 j.toNat) else none := rfl
@[simp] theorem seq_lst : seqD (.lst xs) = some xs := rfl
@[simp] theorem seq_tup : seqD (.tup xs) = some xs := rfl
@[simp] theorem seq_str : seqD (.str x) = some (x.map fun c => .str [c]) := rfl
@[simp] theorem lstOnly_lst {g : List D → List D} : lstOnly g (.lst xs) = some (g xs) := rfl
@[simp] theorem zipOnly_lst : zipOnly (.lst xs) (.lst ys) = some (zipD xs ys) := rfl
@[simp] theorem zipOnly_tup : zipOnly (.tup xs) (.lst ys) = some (zipD xs ys) := rfl
@[simp] theorem ioOut_nil : ioOut [] σ = some [] := rfl
@[simp] theorem ioOut_cons {k : Nat} {ks : List Nat} : ioOut (k :: ks) σ = match getO σ k, ioOut ks σ with
  | some o, some os => some (o :: os)
  | _, _ => none := rfl
@[simp] theorem store_one {k : Nat} : store [k] true d σ = some (σ.set k (some (.val d))) := rfl
end
end
def outR (d : Df) (r : R Fl) : FR := match r with
    | .ok .nx σ => match ioOut d.io σ with
      | some os => .ok (.val .non) os
      | none => .bad
    | .ok (.ret o) σ => match ioOut d.io σ with
      | some os => .ok o os
      | none => .bad
    | .exc c σ => match ioOut d.io σ with
      | some os => .exc c os
      | none => .bad
    | .bad => .bad
namespace E
@[scoped simp] theorem _root_.PV.Qw {F : Fn} {N : Nat} {d : Df} {as : List O} : runDf F N d as = if as.length = d.ar then outR d (exs F N d.body (as.map some ++ List.replicate (d.n - as.length) none)) else .bad := rfl
end E
@[simp] theorem outR_nx {d : Df} {σ : Sg} : outR d (.ok .nx σ) = match ioOut d.io σ with
      | some os => .ok (.val .non) os
      | none => .bad := rfl
@[simp] theorem outR_ret {d : Df} {o : O} {σ : Sg} : outR d (.ok (.ret o) σ) = match ioOut d.io σ with
      | some os => .ok o os
      | none => .bad := rfl
@[simp] theorem outR_exc {d : Df} {c : Nat} {σ : Sg} : outR d (.exc c σ) = match ioOut d.io σ with
      | some os => .exc c os
      | none => .bad := rfl
namespace E
@[scoped simp] theorem _root_.PV.Q5 {d : Df} {p : Prop} [Decidable p] {x y : R Fl} : outR d (if p then x else y) = if p then outR d x else outR d y := by split <;> rfl
end E
theorem one_lt (a b : Nat) : ([a] < [b]) ↔ a < b := by simp [List.cons_lt_cons_iff]
namespace E
@[scoped simp] theorem _root_.PV.Q6 {F : Fn} {N i : Nat} {body : List Sm} {x : D} {σ : Sg} : forStep F N [i] true body x σ = exs F N body (σ.set i (some (.val x))) := rfl
@[scoped simp] theorem _root_.PV.Q7 {F : Fn} {N i j : Nat} {body : List Sm} {x y : D} {σ : Sg} : forStep F N [i, j] false body (.tup [x, y]) σ = exs F N body ((σ.set i (some (.val x))).set j (some (.val y))) := rfl
end E
theorem forLoop_all {f : D → Sg → R Fl} {r : O} (p : D → Bool) (I : Sg → Prop) : ∀ (xs : List D) (σ : Sg), I σ → (∀ x ∈ xs, ∀ σ, I σ → ∃ σ', I σ' ∧ f x σ = if p x = true then .ok .nx σ' else .ok (.ret r) σ') →
    ∃ σ', I σ' ∧ forLoop f xs σ = if xs.all p = true then .ok .nx σ' else .ok (.ret r) σ'
  | [], σ, h, _ => ⟨σ, h, rfl⟩
  | x :: xs, σ, h, hf => by
    obtain ⟨σ1, h1, e1⟩ := hf x (by simp) σ h
    by_cases hp : p x = true
    · rw [if_pos hp] at e1
      obtain ⟨σ2, h2, e2⟩ := forLoop_all p I xs σ1 h1 fun y hy => hf y (List.mem_cons_of_mem _ hy)
      refine ⟨σ2, h2, ?_⟩
      unfold forLoop
      rw [e1]
      simp only [R.bind, List.all_cons, hp, Bool.true_and]
      exact e2
    · rw [if_neg hp] at e1
      refine ⟨σ1, h1, ?_⟩
      unfold forLoop
      rw [e1]
      simp [R.bind, hp]
theorem forLoop_n {f : D → Sg → R Fl} (I : Nat → Sg → Prop) : ∀ (xs : List D) (k : Nat) (σ : Sg), I k σ → (∀ i x, xs[i]? = some x → ∀ σ, I (k + i) σ → ∃ σ', I (k + i + 1) σ' ∧ f x σ = .ok .nx σ') →
    ∃ σ', I (k + xs.length) σ' ∧ forLoop f xs σ = .ok .nx σ'
  | [], k, σ, h, _ => ⟨σ, h, rfl⟩
  | x :: xs, k, σ, h, hf => by
    obtain ⟨σ1, h1, e1⟩ := hf 0 x rfl σ h
    obtain ⟨σ2, h2, e2⟩ := forLoop_n I xs (k + 1) σ1 h1 fun i y e => by
      have := hf (i + 1) y (by simpa using e)
      rw [show k + 1 + i = k + (i + 1) by omega]
      exact this
    refine ⟨σ2, by rw [List.length_cons, show k + (xs.length + 1) = k + 1 + xs.length by omega]; exact h2, ?_⟩
    unfold forLoop
    rw [e1]
    exact e2
theorem forLoop_inv {f : D → Sg → R Fl} (I : Sg → Prop) (xs : List D) (σ : Sg) (h : I σ) (hf : ∀ x ∈ xs, ∀ σ, I σ → ∃ σ', I σ' ∧ f x σ = .ok .nx σ') : ∃ σ', I σ' ∧ forLoop f xs σ = .ok .nx σ' := by
  obtain ⟨σ', h1, h2⟩ := forLoop_all (f := f) (r := .val .non) (fun _ => true) I xs σ h fun x hx σ hσ => by simpa using hf x hx σ hσ
  exact ⟨σ', h1, by simpa using h2⟩
theorem comp_ok {α : Type} {F : Fn} {elt cond : Ex} {tg : List Nat} {one : Bool} {σ1 : Sg} (f : α → D) (g : α → Option D) (xs : List α) (hb : ∀ x ∈ xs, ∃ σx, wipes tg σx = wipes tg σ1 ∧ ∀ σ, wipes tg σ = wipes tg σ1 → compStep F elt tg one cond (f x) σ = .ok (g x) σx)
    (hu : unwipe tg σ1 (wipes tg σ1) = some σ1) (hl : xs.length ≤ SZ) : compEnd tg σ1 (compLoop (compStep F elt tg one cond) (xs.map f) σ1) = .ok (.lst (xs.filterMap g)) σ1 := by
  have key : ∀ (xs : List α) (σ : Sg), wipes tg σ = wipes tg σ1 → (∀ x ∈ xs, ∃ σx, wipes tg σx = wipes tg σ1 ∧ ∀ σ, wipes tg σ = wipes tg σ1 → compStep F elt tg one cond (f x) σ = .ok (g x) σx) → ∃ σ', wipes tg σ' = wipes tg σ1 ∧ compLoop (compStep F elt tg one cond) (xs.map f) σ = .ok (xs.filterMap g) σ' := by
    intro xs
    induction xs with
    | nil => exact fun σ h _ => ⟨σ, h, rfl⟩
    | cons x xs ih =>
      intro σ h hb
      obtain ⟨σx, h1, h2⟩ := hb x (by simp)
      obtain ⟨σ', h3, h4⟩ := ih σx h1 fun y hy => hb y (List.mem_cons_of_mem _ hy)
      refine ⟨σ', h3, ?_⟩
      rw [List.map_cons]
      unfold compLoop
      rw [h2 σ h]
      simp only [R.bind, h4, List.filterMap_cons]
      cases g x <;> rfl
  obtain ⟨σ', h1, h2⟩ := key xs σ1 rfl hb
  unfold compEnd
  rw [h2]
  simp only [R.bind, h1, hu]
  rw [if_pos (Nat.le_trans (List.length_filterMap_le _ _) hl)]
  rfl
theorem at_nat {α : Type} (xs : List α) (k : Nat) : at? xs (k : Int) = xs[k]? := by
  by_cases h : k < xs.length
  · rw [List.getElem?_eq_getElem h]
    exact L2.atI_nat (List.getElem?_eq_getElem h)
  · unfold at? L2.atI L2.ixN
    rw [if_pos (by omega), if_neg (by omega), List.getElem?_eq_none (by omega)]
    rfl
theorem at_int {α : Type} (xs : List α) {i : Int} (h0 : 0 ≤ i) (h : i < xs.length) : ∃ x ∈ xs, at? xs i = some x ∧ xs[i.toNat]? = some x := by
  have e : i = (i.toNat : Int) := by omega
  have hk : i.toNat < xs.length := by omega
  refine ⟨xs[i.toNat], List.getElem_mem hk, ?_, List.getElem?_eq_getElem hk⟩
  have := at_nat xs i.toNat
  rw [← e] at this
  exact this.trans (List.getElem?_eq_getElem hk)
theorem at_mod {α : Type} (xs : List α) (i : Int) {n : Int} (hn : n = xs.length) (h : 0 < xs.length) : ∃ x ∈ xs, at? xs (i % n) = some x := by
  subst hn
  obtain ⟨x, h1, h2, _⟩ := at_int xs (i := i % (xs.length : Int)) (Int.emod_nonneg _ (by omega)) (Int.emod_lt_of_pos _ (by omega))
  exact ⟨x, h1, h2⟩
theorem rng_i (j : Int) (h : -1000000 ≤ j ∧ j ≤ 1000000) : rngD [.int j] = some (rangeD 0 j.toNat) := by
  rw [rng_one, if_pos (by omega)]
theorem rng_n (j : Nat) (h : j ≤ 1000000) : rngD [.int (j : Int)] = some (rangeD 0 j) := by
  rw [rng_one, if_pos (by omega)]; rfl
theorem unwipe_one {i : Nat} {σ1 : Sg} (h : getO σ1 i = none ∨ ∃ d, getO σ1 i = some (.val d)) (hi : i < σ1.length) : unwipe [i] σ1 (wipes [i] σ1) = some σ1 := by
  show (match getO σ1 i with
    | none => (some (σ1.set i none)).map fun (s : Sg) => s.set i none
    | some (.val d) => (some (σ1.set i none)).map fun (s : Sg) => s.set i (some (.val d))
    | _ => none) = _
  have key : σ1.set i (getO σ1 i) = σ1 := by
    unfold getO
    rw [List.getElem?_eq_getElem hi]
    show σ1.set i (σ1[i]) = σ1
    exact List.set_getElem_self hi
  rcases h with h | ⟨d, h⟩
  · rw [h] at key ⊢
    simp only [Option.map_some, List.set_set, key]
  · rw [h] at key ⊢
    simp only [Option.map_some, List.set_set, key]
theorem comp_fm {α : Type} {F : Fn} {elt cond : Ex} {i : Nat} {σ1 : Sg} (f : α → D) (g : α → Option D) (xs : List α) (h0 : getO σ1 i = none ∨ ∃ d, getO σ1 i = some (.val d)) (hi : i < σ1.length) (hl : xs.length ≤ SZ)
    (hb : ∀ x ∈ xs, (tst cond.isNo (ev F cond (σ1.set i (some (.val (f x))))) (σ1.set i (some (.val (f x))))).bind (fun b σ3 => if b = true then (pre none (ev F elt σ3) σ3).bind fun d σ4 => .ok d σ4 else .ok none σ3) = .ok (g x) (σ1.set i (some (.val (f x))))) :
    compEnd [i] σ1 (compLoop (compStep F elt [i] true cond) (xs.map f) σ1) = .ok (.lst (xs.filterMap g)) σ1 := by
  refine comp_ok f g xs (fun x hx => ⟨σ1.set i (some (.val (f x))), ?_, fun σ e => ?_⟩) (unwipe_one h0 hi) hl
  · show (σ1.set i _).set i none = σ1.set i none
    rw [List.set_set]
  · have e' : σ.set i none = σ1.set i none := e
    show (tst cond.isNo (ev F cond ((σ.set i none).set i _)) ((σ.set i none).set i _)).bind _ = _
    rw [e', List.set_set]
    exact hb x hx
theorem comp_map {α : Type} {F : Fn} {elt : Ex} {i : Nat} {σ1 : Sg} (f : α → D) (h : α → D) (xs : List α) (h0 : getO σ1 i = none ∨ ∃ d, getO σ1 i = some (.val d)) (hi : i < σ1.length) (hl : xs.length ≤ SZ)
    (hb : ∀ x ∈ xs, pre none (ev F elt (σ1.set i (some (.val (f x))))) (σ1.set i (some (.val (f x)))) = .ok (some (h x)) (σ1.set i (some (.val (f x))))) : compEnd [i] σ1 (compLoop (compStep F elt [i] true .no) (xs.map f) σ1) = .ok (.lst (xs.map h)) σ1 := by
  rw [comp_fm f (fun x => some (h x)) xs h0 hi hl fun x hx => ?_]
  · rw [List.filterMap_eq_map']
  · show (pre none (ev F elt (σ1.set i (some (.val (f x))))) (σ1.set i (some (.val (f x))))).bind (fun d σ4 => .ok d σ4) = _
    rw [hb x hx]
    rfl
theorem cut_drop {α : Type} (xs : List α) (k : Nat) (h : k ≤ xs.length) : cut xs (some (k : Int)) none = xs.drop k := by
  unfold cut
  have e : HT.sIx xs.length 0 (some (k : Int)) = k := by rw [HT.sIx_nat]; omega
  rw [e]
  have e2 : HT.sIx xs.length xs.length none = xs.length := by simp [HT.sIx]
  rw [e2]
  exact List.take_of_length_le (by simp)
theorem cut_neg {α : Type} (xs : List α) (k : Nat) (h0 : 0 < k) (h : k ≤ xs.length) : cut xs (some (-(k : Int))) none = xs.drop (xs.length - k) ∧ cut xs none (some (-(k : Int))) = xs.take (xs.length - k) := by
  have e : ∀ d, HT.sIx xs.length d (some (-(k : Int))) = xs.length - k := fun d => by
    show (if -(k : Int) < 0 then (-(k : Int) + (xs.length : Int)).toNat else min (-(k : Int)).toNat xs.length) = _
    rw [if_pos (by omega)]
    omega
  have e2 : HT.sIx xs.length xs.length none = xs.length := by simp [HT.sIx]
  have e3 : HT.sIx xs.length 0 none = 0 := by simp [HT.sIx]
  unfold cut
  rw [e, e, e2, e3]
  exact ⟨List.take_of_length_le (by simp), by simp⟩
end PV
set_option maxRecDepth 100000
set_option maxHeartbeats 4000000
namespace GV
open PV PySem L2
def b_is_name_1 : List Sm := [
    .iff (.or [.cmp .lt (.var 1) (.c (.str [97])), .cmp .gt (.var 1) (.c (.str [122]))]) [
      .ret (.c (.bl false))] []]
def d_is_name : Df := ⟨2, 1, [], [
    .iff (.or [.cmp .lt (.bf .len [.var 0]) (.glb [83, 72, 79, 82, 84, 69, 83, 84] (.int 1)), .cmp .gt (.bf .len [.var 0]) (.glb [76, 79, 78, 71, 69, 83, 84] (.int 8)), .cmp .eq (.var 0) (.c (.str [110, 111, 110, 101])), .cmp .eq (.var 0) (.c (.str [97, 108, 108]))]) [
      .ret (.c (.bl false))] [],
    .for_ [1] true (.seq (.var 0)) b_is_name_1,
    .ret (.c (.bl true))]⟩
def d_is_leaf : Df := ⟨1, 1, [], [
    .ret (.or [.cmp .eq (.ix (.var 0) (.c (.int 0))) (.c (.str [110, 111, 110, 101])), .cmp .eq (.ix (.var 0) (.c (.int 0))) (.c (.str [97, 108, 108])), .cmp .eq (.ix (.var 0) (.c (.int 0))) (.c (.str [110, 97, 109, 101]))])]⟩
def d_leaves : Df := ⟨2, 1, [], [
    .iff (.call 19 [.var 0]) [
      .ret (.c (.int 1))] [],
    .ret (.bf .sum [.comp (.call 108 [.var 1]) [1] true (.seq (.sl (.var 0) (.c (.int 1)) .no)) .no])]⟩
def d_shown : Df := ⟨3, 1, [], [
    .iff (.or [.cmp .eq (.ix (.var 0) (.c (.int 0))) (.c (.str [110, 111, 110, 101])), .cmp .eq (.ix (.var 0) (.c (.int 0))) (.c (.str [97, 108, 108]))]) [
      .ret (.ix (.var 0) (.c (.int 0)))] [],
    .iff (.cmp .eq (.ix (.var 0) (.c (.int 0))) (.c (.str [110, 97, 109, 101]))) [
      .ret (.ix (.var 0) (.c (.int 1)))] [],
    .iff (.cmp .eq (.ix (.var 0) (.c (.int 0))) (.c (.str [110, 111, 116]))) [
      .ret (.bin .add (.c (.str [33])) (.call 23 [.ix (.var 0) (.c (.int 1))]))] [],
    .set 1 (.fz (.comp (.call 23 [.var 2]) [2] true (.seq (.sl (.var 0) (.c (.int 1)) .no)) .no)),
    .iff (.cmp .eq (.ix (.var 0) (.c (.int 0))) (.c (.str [98, 111, 116, 104]))) [
      .ret (.bin .add (.bin .add (.c (.str [40])) (.mt .join (.c (.str [32, 38, 32])) [.var 1])) (.c (.str [41])))] [],
    .ret (.bin .add (.bin .add (.c (.str [40])) (.mt .join (.c (.str [32, 124, 32])) [.var 1])) (.c (.str [41])))]⟩
def d_shown_saying : Df := ⟨1, 1, [], [
    .ret (.bin .add (.bin .add (.call 23 [.ix (.var 0) (.c (.int 0))]) (.c (.str [32, 60, 32]))) (.call 23 [.ix (.var 0) (.c (.int 1))]))]⟩
def d_shown_rule : Df := ⟨3, 1, [], [
    .iff (.cmp .eq (.bf .len [.ix (.var 0) (.c (.int 0))]) (.c (.int 0))) [
      .ret (.call 24 [.ix (.var 0) (.c (.int 1))])] [],
    .set 1 (.fz (.comp (.call 24 [.var 2]) [2] true (.seq (.ix (.var 0) (.c (.int 0)))) .no)),
    .ret (.bin .add (.bin .add (.mt .join (.c (.str [44, 32])) [.var 1]) (.c (.str [32, 61, 62, 32]))) (.call 24 [.ix (.var 0) (.c (.int 1))]))]⟩
def b_word_at_1 : List Sm := [
    .set 2 (.bin .add (.var 2) (.c (.int 1)))]
def d_word_at : Df := ⟨4, 2, [], [
    .set 2 (.var 1),
    .wh (.and [.cmp .lt (.var 2) (.bf .len [.var 0]), .chain .le .le (.c (.str [97])) (.ix (.var 0) (.var 2)) (.c (.str [122]))]) b_word_at_1,
    .set 3 (.fz (.sl (.var 0) (.var 1) (.var 2))),
    .iff (.or [.cmp .eq (.var 3) (.c (.str [110, 111, 110, 101])), .cmp .eq (.var 3) (.c (.str [97, 108, 108]))]) [
      .ret (.tup [.tup [.var 3], .var 2])] [],
    .iff (.not (.call 1 [.var 3])) [
      .raise 135] [],
    .ret (.tup [.tup [.c (.str [110, 97, 109, 101]), .var 3], .var 2])]⟩
def b_parts_at_1 : List Sm := [
    .set 6 (.call 129 [.var 0, .bin .add (.var 1) (.c (.int 3)), .var 2]),
    .app 4 (.ix (.var 6) (.c (.int 0))),
    .set 1 (.ix (.var 6) (.c (.int 1)))]
def d_parts_at : Df := ⟨7, 3, [], [
    .set 3 (.call 129 [.var 0, .var 1, .var 2]),
    .set 4 (.lst [.ix (.var 3) (.c (.int 0))]),
    .set 1 (.ix (.var 3) (.c (.int 1))),
    .set 5 (.fz (.sl (.var 0) (.var 1) (.bin .add (.var 1) (.c (.int 3))))),
    .iff (.and [.cmp .ne (.var 5) (.c (.str [32, 38, 32])), .cmp .ne (.var 5) (.c (.str [32, 124, 32]))]) [
      .raise 135] [],
    .wh (.cmp .eq (.sl (.var 0) (.var 1) (.bin .add (.var 1) (.c (.int 3)))) (.var 5)) b_parts_at_1,
    .iff (.cmp .ne (.sl (.var 0) (.var 1) (.bin .add (.var 1) (.c (.int 1)))) (.c (.str [41]))) [
      .raise 135] [],
    .iff (.cmp .eq (.var 5) (.c (.str [32, 38, 32]))) [
      .ret (.tup [.bin .add (.tup [.c (.str [98, 111, 116, 104])]) (.bf .tuple [.bor 4]), .bin .add (.var 1) (.c (.int 1))])] [],
    .ret (.tup [.bin .add (.tup [.c (.str [101, 105, 116, 104, 101, 114])]) (.bf .tuple [.bor 4]), .bin .add (.var 1) (.c (.int 1))])]⟩
def d_term_at : Df := ⟨5, 3, [], [
    .set 3 (.fz (.sl (.var 0) (.var 1) (.bin .add (.var 1) (.c (.int 1))))),
    .iff (.and [.cmp .ne (.var 3) (.c (.str [33])), .cmp .ne (.var 3) (.c (.str [40]))]) [
      .ret (.call 127 [.var 0, .var 1])] [],
    .iff (.cmp .eq (.var 2) (.c (.int 0))) [
      .raise 135] [],
    .iff (.cmp .eq (.var 3) (.c (.str [40]))) [
      .ret (.call 128 [.var 0, .bin .add (.var 1) (.c (.int 1)), .bin .sub (.var 2) (.c (.int 1))])] [],
    .set 4 (.call 129 [.var 0, .bin .add (.var 1) (.c (.int 1)), .bin .sub (.var 2) (.c (.int 1))]),
    .ret (.tup [.tup [.c (.str [110, 111, 116]), .ix (.var 4) (.c (.int 0))], .ix (.var 4) (.c (.int 1))])]⟩
def d_read : Df := ⟨2, 1, [], [
    .iff (.or [.not (.isi (.var 0) .str), .cmp .gt (.bf .len [.var 0]) (.c (.int 400))]) [
      .raise 135] [],
    .set 1 (.call 129 [.var 0, .c (.int 0), .glb [68, 69, 69, 80, 69, 83, 84] (.int 20)]),
    .iff (.or [.cmp .ne (.ix (.var 1) (.c (.int 1))) (.bf .len [.var 0]), .cmp .gt (.call 108 [.ix (.var 1) (.c (.int 0))]) (.glb [77, 79, 83, 84, 95, 76, 69, 65, 86, 69, 83] (.int 60))]) [
      .raise 135] [],
    .ret (.ix (.var 1) (.c (.int 0)))]⟩
def d_read_saying : Df := ⟨2, 1, [], [
    .iff (.or [.not (.isi (.var 0) .str), .cmp .gt (.bf .len [.var 0]) (.c (.int 900))]) [
      .raise 135] [],
    .set 1 (.fz (.mt .split (.var 0) [.c (.str [32, 60, 32])])),
    .iff (.cmp .ne (.bf .len [.var 1]) (.c (.int 2))) [
      .raise 135] [],
    .ret (.tup [.call 130 [.ix (.var 1) (.c (.int 0))], .call 130 [.ix (.var 1) (.c (.int 1))]])]⟩
def d_read_rule : Df := ⟨4, 1, [], [
    .iff (.or [.not (.isi (.var 0) .str), .cmp .gt (.bf .len [.var 0]) (.c (.int 3000))]) [
      .raise 135] [],
    .set 1 (.fz (.mt .split (.var 0) [.c (.str [32, 61, 62, 32])])),
    .iff (.cmp .eq (.bf .len [.var 1]) (.c (.int 1))) [
      .ret (.tup [.lst [], .call 131 [.var 0]])] [],
    .set 2 (.fz (.mt .split (.ix (.var 1) (.c (.int 0))) [.c (.str [44, 32])])),
    .iff (.or [.cmp .ne (.bf .len [.var 1]) (.c (.int 2)), .cmp .gt (.bf .len [.var 2]) (.glb [77, 79, 83, 84, 95, 80, 82, 69, 77, 73, 83, 69, 83] (.int 5))]) [
      .raise 135] [],
    .ret (.tup [.comp (.call 131 [.var 3]) [3] true (.seq (.var 2)) .no, .call 131 [.ix (.var 1) (.c (.int 1))]])]⟩
def d__law_cell_at : Df := ⟨2, 2, [], [
    .iff (.cmp .lt (.var 1) (.bf .len [.var 0])) [
      .ret (.ix (.var 0) (.var 1))] [],
    .ret (.c (.int 0))]⟩
def b__law_name_by_1 : List Sm := [
    .set 3 (.bin .add (.var 3) (.ix (.var 2) (.bin .mod (.var 4) (.c (.int 26))))),
    .set 4 (.bin .div (.var 4) (.c (.int 26)))]
def d__law_name_by : Df := ⟨6, 2, [], [
    .set 2 (.c (.str [97, 98, 99, 100, 101, 102, 103, 104, 105, 106, 107, 108, 109, 110, 111, 112, 113, 114, 115, 116, 117, 118, 119, 120, 121, 122])),
    .set 3 (.c (.str [])),
    .set 4 (.bin .mod (.var 0) (.bin .pow (.c (.int 26)) (.c (.int 8)))),
    .for_ [5] true (.rng [.bin .add (.c (.int 1)) (.bin .mod (.var 1) (.c (.int 8)))]) b__law_name_by_1,
    .iff (.or [.cmp .eq (.var 3) (.c (.str [110, 111, 110, 101])), .cmp .eq (.var 3) (.c (.str [97, 108, 108]))]) [
      .set 3 (.bin .add (.var 3) (.c (.str [120])))] [],
    .ret (.var 3)]⟩
def d__law_pool : Df := ⟨5, 1, [], [
    .set 1 (.call 2 [.var 0, .c (.int 0)]),
    .set 2 (.call 2 [.var 0, .c (.int 1)]),
    .set 3 (.call 2 [.var 0, .c (.int 2)]),
    .set 4 (.lst [.call 10 [.var 1, .bin .mod (.bin .div (.var 1) (.c (.int 7))) (.c (.int 1009))], .call 10 [.var 2, .bin .mod (.bin .div (.var 2) (.c (.int 5))) (.c (.int 1013))]]),
    .iff (.cmp .eq (.bin .mod (.var 3) (.c (.int 3))) (.c (.int 0))) [
      .app 4 (.call 10 [.var 1, .bin .add (.bin .mod (.bin .div (.var 1) (.c (.int 7))) (.c (.int 1009))) (.c (.int 1))])] [
      .app 4 (.call 10 [.bin .div (.var 3) (.c (.int 3)), .bin .mod (.bin .div (.var 3) (.c (.int 11))) (.c (.int 1019))])],
    .ret (.frz 4)]⟩
def d__law_leaf : Df := ⟨3, 2, [], [
    .set 2 (.bin .mod (.var 0) (.c (.int 8))),
    .iff (.cmp .eq (.var 2) (.c (.int 0))) [
      .ret (.tup [.c (.str [110, 111, 110, 101])])] [],
    .iff (.cmp .eq (.var 2) (.c (.int 1))) [
      .ret (.tup [.c (.str [97, 108, 108])])] [],
    .ret (.tup [.c (.str [110, 97, 109, 101]), .ix (.var 1) (.bin .mod (.bin .div (.var 0) (.c (.int 8))) (.bf .len [.var 1]))])]⟩
def b__law_stack_1 : List Sm := [
    .set 5 (.bin .mod (.var 4) (.c (.int 9))),
    .iff (.and [.cmp .eq (.var 5) (.c (.int 0)), .cmp .gt (.bf .len [.bor 2]) (.c (.int 0)), .cmp .lt (.ix (.bor 3) (.neg (.c (.int 1)))) (.c (.int 17))]) [
      .app 2 (.tup [.c (.str [110, 111, 116]), .pop 2]),
      .app 3 (.bin .add (.pop 3) (.c (.int 1)))] [
      .iff (.and [.cmp .lt (.var 5) (.c (.int 5)), .cmp .gt (.var 5) (.c (.int 0)), .cmp .gt (.bf .len [.bor 2]) (.bin .add (.bin .div (.var 5) (.c (.int 3))) (.c (.int 1))), .cmp .lt (.bf .max [.sl (.bor 3) (.bin .sub (.bin .sub (.c (.int 0)) (.c (.int 2))) (.bin .div (.var 5) (.c (.int 3)))) .no]) (.c (.int 17))]) [
        .set 6 (.fz (.sl (.bor 2) (.bin .sub (.bin .sub (.c (.int 0)) (.c (.int 2))) (.bin .div (.var 5) (.c (.int 3)))) .no)),
        .set 7 (.bf .max [.sl (.bor 3) (.bin .sub (.bin .sub (.c (.int 0)) (.c (.int 2))) (.bin .div (.var 5) (.c (.int 3)))) .no]),
        .set 2 (.bin .add (.sl (.bor 2) .no (.bin .sub (.bin .sub (.c (.int 0)) (.c (.int 2))) (.bin .div (.var 5) (.c (.int 3))))) (.lst [.bin .add (.tup [.ix (.lst [.c (.str [98, 111, 116, 104]), .c (.str [101, 105, 116, 104, 101, 114])]) (.bin .mod (.var 5) (.c (.int 2)))]) (.bf .tuple [.var 6])])),
        .set 3 (.bin .add (.sl (.bor 3) .no (.bin .sub (.bin .sub (.c (.int 0)) (.c (.int 2))) (.bin .div (.var 5) (.c (.int 3))))) (.lst [.bin .add (.var 7) (.c (.int 1))]))] [
        .app 2 (.call 12 [.bin .div (.var 4) (.c (.int 9)), .var 1]),
        .app 3 (.c (.int 0))]]]
def d__law_stack : Df := ⟨8, 2, [], [
    .set 2 (.lst []),
    .set 3 (.lst []),
    .for_ [4] true (.seq (.var 0)) b__law_stack_1,
    .iff (.cmp .eq (.bf .len [.bor 2]) (.c (.int 0))) [
      .app 2 (.tup [.c (.str [97, 108, 108])])] [],
    .ret (.frz 2)]⟩
def d__law_whole_term : Df := ⟨1, 1, [], [
    .iff (.cmp .eq (.bf .len [.var 0]) (.c (.int 1))) [
      .ret (.ix (.var 0) (.c (.int 0)))] [],
    .ret (.bin .add (.tup [.c (.str [98, 111, 116, 104])]) (.bf .tuple [.var 0]))]⟩
def b__law_alike_1 : List Sm := [
    .iff (.not (.call 15 [.ix (.var 0) (.var 2), .ix (.var 1) (.var 2)])) [
      .ret (.c (.bl false))] []]
def d__law_alike : Df := ⟨3, 2, [], [
    .iff (.isi (.var 1) .bool) [
      .ret (.and [.isi (.var 0) .bool, .cmp .eq (.var 0) (.var 1)])] [],
    .iff (.isi (.var 1) .int) [
      .ret (.and [.isi (.var 0) .int, .not (.isi (.var 0) .bool), .cmp .eq (.var 0) (.var 1)])] [],
    .iff (.isi (.var 1) .str) [
      .ret (.and [.isi (.var 0) .str, .cmp .eq (.var 0) (.var 1)])] [],
    .iff (.cmp .is (.var 1) (.c (.non))) [
      .ret (.cmp .is (.var 0) (.c (.non)))] [],
    .iff (.isi (.var 1) .tuple) [
      .iff (.not (.isi (.var 0) .tuple)) [
        .ret (.c (.bl false))] []] [
      .iff (.not (.isi (.var 0) .list)) [
        .ret (.c (.bl false))] []],
    .iff (.cmp .ne (.bf .len [.var 0]) (.bf .len [.var 1])) [
      .ret (.c (.bl false))] [],
    .for_ [2] true (.rng [.bf .len [.var 1]]) b__law_alike_1,
    .ret (.c (.bl true))]⟩
def b__law_written_1 : List Sm := [
    .set 2 (.bin .add (.bin .add (.var 2) (.var 1)) (.call 26 [.var 3]))]
def d__law_written : Df := ⟨4, 1, [], [
    .iff (.cmp .eq (.ix (.var 0) (.c (.int 0))) (.c (.str [110, 97, 109, 101]))) [
      .ret (.ix (.var 0) (.c (.int 1)))] [],
    .iff (.cmp .eq (.bf .len [.var 0]) (.c (.int 1))) [
      .ret (.ix (.var 0) (.c (.int 0)))] [],
    .iff (.cmp .eq (.ix (.var 0) (.c (.int 0))) (.c (.str [110, 111, 116]))) [
      .ret (.bin .add (.c (.str [33])) (.call 26 [.ix (.var 0) (.c (.int 1))]))] [],
    .set 1 (.c (.str [32, 38, 32])),
    .iff (.cmp .eq (.ix (.var 0) (.c (.int 0))) (.c (.str [101, 105, 116, 104, 101, 114]))) [
      .set 1 (.c (.str [32, 124, 32]))] [],
    .set 2 (.bin .add (.c (.str [40])) (.call 26 [.ix (.var 0) (.c (.int 1))])),
    .for_ [3] true (.seq (.sl (.var 0) (.c (.int 2)) .no)) b__law_written_1,
    .ret (.bin .add (.var 2) (.c (.str [41])))]⟩
def d__law_written_saying : Df := ⟨1, 1, [], [
    .ret (.bin .add (.bin .add (.call 26 [.ix (.var 0) (.c (.int 0))]) (.c (.str [32, 60, 32]))) (.call 26 [.ix (.var 0) (.c (.int 1))]))]⟩
def b__law_written_rule_1 : List Sm := [
    .iff (.cmp .ne (.var 1) (.c (.str []))) [
      .set 1 (.bin .add (.var 1) (.c (.str [44, 32])))] [],
    .set 1 (.bin .add (.var 1) (.call 27 [.var 2]))]
def d__law_written_rule : Df := ⟨3, 1, [], [
    .set 1 (.c (.str [])),
    .for_ [2] true (.seq (.ix (.var 0) (.c (.int 0)))) b__law_written_rule_1,
    .iff (.cmp .gt (.bf .len [.ix (.var 0) (.c (.int 0))]) (.c (.int 0))) [
      .set 1 (.bin .add (.var 1) (.c (.str [32, 61, 62, 32])))] [],
    .ret (.bin .add (.var 1) (.call 27 [.ix (.var 0) (.c (.int 1))]))]⟩
def b__law_rule_1 : List Sm := [
    .set 7 (.bin .add (.bin .add (.var 2) (.c (.int 1))) (.bin .mul (.c (.int 4)) (.var 5))),
    .app 4 (.call 14 [.call 13 [.comp (.call 2 [.var 0, .bin .add (.var 7) (.var 8)]) [8] true (.rng [.c (.int 4)]) .no, .var 1]])]
def d__law_rule : Df := ⟨9, 3, [], [
    .set 3 (.bin .mod (.call 2 [.var 0, .var 2]) (.c (.int 6))),
    .set 4 (.lst []),
    .for_ [5] true (.rng [.bin .add (.bin .mul (.c (.int 2)) (.var 3)) (.c (.int 2))]) b__law_rule_1,
    .set 6 (.fz (.comp (.tup [.ix (.bor 4) (.bin .mul (.c (.int 2)) (.var 5)), .ix (.bor 4) (.bin .add (.bin .mul (.c (.int 2)) (.var 5)) (.c (.int 1)))]) [5] true (.rng [.var 3]) .no)),
    .ret (.tup [.var 6, .tup [.ix (.bor 4) (.bin .mul (.c (.int 2)) (.var 3)), .ix (.bor 4) (.bin .add (.bin .mul (.c (.int 2)) (.var 3)) (.c (.int 1)))]])]⟩
def d_law06 : Df := ⟨6, 1, [], [
    .set 1 (.call 11 [.var 0]),
    .set 2 (.call 14 [.call 13 [.sl (.var 0) (.c (.int 3)) (.c (.int 31)), .var 1]]),
    .set 3 (.call 29 [.var 0, .var 1, .c (.int 3)]),
    .set 4 (.fz (.lst [.call 26 [.var 2], .call 27 [.ix (.var 3) (.c (.int 1))], .call 28 [.var 3]])),
    .set 5 (.tup [.call 130 [.ix (.var 4) (.c (.int 0))], .call 131 [.ix (.var 4) (.c (.int 1))], .call 132 [.ix (.var 4) (.c (.int 2))]]),
    .iff (.not (.call 15 [.var 5, .tup [.var 2, .ix (.var 3) (.c (.int 1)), .var 3]])) [
      .ret (.c (.bl false))] [],
    .ret (.call 15 [.lst [.call 23 [.ix (.var 5) (.c (.int 0))], .call 24 [.ix (.var 5) (.c (.int 1))], .call 25 [.ix (.var 5) (.c (.int 2))]], .var 4])]⟩
end GV
set_option maxRecDepth 100000
set_option maxHeartbeats 4000000
namespace K06
open PV
def Dd : Nat → Df := fun g => match g with
  | 1 => GV.d_is_name
  | 19 => GV.d_is_leaf
  | 108 => GV.d_leaves
  | 23 => GV.d_shown
  | 24 => GV.d_shown_saying
  | 25 => GV.d_shown_rule
  | 127 => GV.d_word_at
  | 128 => GV.d_parts_at
  | 129 => GV.d_term_at
  | 130 => GV.d_read
  | 131 => GV.d_read_saying
  | 132 => GV.d_read_rule
  | 2 => GV.d__law_cell_at
  | 10 => GV.d__law_name_by
  | 11 => GV.d__law_pool
  | 12 => GV.d__law_leaf
  | 13 => GV.d__law_stack
  | 14 => GV.d__law_whole_term
  | 15 => GV.d__law_alike
  | 26 => GV.d__law_written
  | 27 => GV.d__law_written_saying
  | 28 => GV.d__law_written_rule
  | 29 => GV.d__law_rule
  | 133 => GV.d_law06
  | _ => ⟨0, 0, [], []⟩
def lawId : Nat := 133
end K06
set_option maxRecDepth 100000
set_option maxHeartbeats 4000000
namespace GT
open PV PySem L2
def d__law_cell_at : Df := ⟨2, 2, [], [
    .iff (.cmp .lt (.var 1) (.bf .len [.var 0])) [
      .ret (.ix (.var 0) (.var 1))] [],
    .ret (.c (.int 0))]⟩
def b__law_name_by_1 : List Sm := [
    .set 3 (.bin .add (.var 3) (.ix (.var 2) (.bin .mod (.var 4) (.c (.int 26))))),
    .set 4 (.bin .div (.var 4) (.c (.int 26)))]
def d__law_name_by : Df := ⟨6, 2, [], [
    .set 2 (.c (.str [97, 98, 99, 100, 101, 102, 103, 104, 105, 106, 107, 108, 109, 110, 111, 112, 113, 114, 115, 116, 117, 118, 119, 120, 121, 122])),
    .set 3 (.c (.str [])),
    .set 4 (.bin .mod (.var 0) (.bin .pow (.c (.int 26)) (.c (.int 8)))),
    .for_ [5] true (.rng [.bin .add (.c (.int 1)) (.bin .mod (.var 1) (.c (.int 8)))]) b__law_name_by_1,
    .iff (.or [.cmp .eq (.var 3) (.c (.str [110, 111, 110, 101])), .cmp .eq (.var 3) (.c (.str [97, 108, 108]))]) [
      .set 3 (.bin .add (.var 3) (.c (.str [120])))] [],
    .ret (.var 3)]⟩
def d__law_pool : Df := ⟨5, 1, [], [
    .set 1 (.call 2 [.var 0, .c (.int 0)]),
    .set 2 (.call 2 [.var 0, .c (.int 1)]),
    .set 3 (.call 2 [.var 0, .c (.int 2)]),
    .set 4 (.lst [.call 10 [.var 1, .bin .mod (.bin .div (.var 1) (.c (.int 7))) (.c (.int 1009))], .call 10 [.var 2, .bin .mod (.bin .div (.var 2) (.c (.int 5))) (.c (.int 1013))]]),
    .iff (.cmp .eq (.bin .mod (.var 3) (.c (.int 3))) (.c (.int 0))) [
      .app 4 (.call 10 [.var 1, .bin .add (.bin .mod (.bin .div (.var 1) (.c (.int 7))) (.c (.int 1009))) (.c (.int 1))])] [
      .app 4 (.call 10 [.bin .div (.var 3) (.c (.int 3)), .bin .mod (.bin .div (.var 3) (.c (.int 11))) (.c (.int 1019))])],
    .ret (.frz 4)]⟩
def d__law_leaf : Df := ⟨3, 2, [], [
    .set 2 (.bin .mod (.var 0) (.c (.int 8))),
    .iff (.cmp .eq (.var 2) (.c (.int 0))) [
      .ret (.tup [.c (.str [110, 111, 110, 101])])] [],
    .iff (.cmp .eq (.var 2) (.c (.int 1))) [
      .ret (.tup [.c (.str [97, 108, 108])])] [],
    .ret (.tup [.c (.str [110, 97, 109, 101]), .ix (.var 1) (.bin .mod (.bin .div (.var 0) (.c (.int 8))) (.bf .len [.var 1]))])]⟩
def b__law_stack_1 : List Sm := [
    .set 5 (.bin .mod (.var 4) (.c (.int 9))),
    .iff (.and [.cmp .eq (.var 5) (.c (.int 0)), .cmp .gt (.bf .len [.bor 2]) (.c (.int 0)), .cmp .lt (.ix (.bor 3) (.neg (.c (.int 1)))) (.c (.int 17))]) [
      .app 2 (.tup [.c (.str [110, 111, 116]), .pop 2]),
      .app 3 (.bin .add (.pop 3) (.c (.int 1)))] [
      .iff (.and [.cmp .lt (.var 5) (.c (.int 5)), .cmp .gt (.var 5) (.c (.int 0)), .cmp .gt (.bf .len [.bor 2]) (.bin .add (.bin .div (.var 5) (.c (.int 3))) (.c (.int 1))), .cmp .lt (.bf .max [.sl (.bor 3) (.bin .sub (.bin .sub (.c (.int 0)) (.c (.int 2))) (.bin .div (.var 5) (.c (.int 3)))) .no]) (.c (.int 17))]) [
        .set 6 (.fz (.sl (.bor 2) (.bin .sub (.bin .sub (.c (.int 0)) (.c (.int 2))) (.bin .div (.var 5) (.c (.int 3)))) .no)),
        .set 7 (.bf .max [.sl (.bor 3) (.bin .sub (.bin .sub (.c (.int 0)) (.c (.int 2))) (.bin .div (.var 5) (.c (.int 3)))) .no]),
        .set 2 (.bin .add (.sl (.bor 2) .no (.bin .sub (.bin .sub (.c (.int 0)) (.c (.int 2))) (.bin .div (.var 5) (.c (.int 3))))) (.lst [.bin .add (.tup [.ix (.lst [.c (.str [98, 111, 116, 104]), .c (.str [101, 105, 116, 104, 101, 114])]) (.bin .mod (.var 5) (.c (.int 2)))]) (.bf .tuple [.var 6])])),
        .set 3 (.bin .add (.sl (.bor 3) .no (.bin .sub (.bin .sub (.c (.int 0)) (.c (.int 2))) (.bin .div (.var 5) (.c (.int 3))))) (.lst [.bin .add (.var 7) (.c (.int 1))]))] [
        .app 2 (.call 12 [.bin .div (.var 4) (.c (.int 9)), .var 1]),
        .app 3 (.c (.int 0))]]]
def d__law_stack : Df := ⟨8, 2, [], [
    .set 2 (.lst []),
    .set 3 (.lst []),
    .for_ [4] true (.seq (.var 0)) b__law_stack_1,
    .iff (.cmp .eq (.bf .len [.bor 2]) (.c (.int 0))) [
      .app 2 (.tup [.c (.str [97, 108, 108])])] [],
    .ret (.frz 2)]⟩
def d__law_whole_term : Df := ⟨1, 1, [], [
    .iff (.cmp .eq (.bf .len [.var 0]) (.c (.int 1))) [
      .ret (.ix (.var 0) (.c (.int 0)))] [],
    .ret (.bin .add (.tup [.c (.str [98, 111, 116, 104])]) (.bf .tuple [.var 0]))]⟩
def b__law_alike_1 : List Sm := [
    .iff (.not (.call 15 [.ix (.var 0) (.var 2), .ix (.var 1) (.var 2)])) [
      .ret (.c (.bl false))] []]
def d__law_alike : Df := ⟨3, 2, [], [
    .iff (.isi (.var 1) .bool) [
      .ret (.and [.isi (.var 0) .bool, .cmp .eq (.var 0) (.var 1)])] [],
    .iff (.isi (.var 1) .int) [
      .ret (.and [.isi (.var 0) .int, .not (.isi (.var 0) .bool), .cmp .eq (.var 0) (.var 1)])] [],
    .iff (.isi (.var 1) .str) [
      .ret (.and [.isi (.var 0) .str, .cmp .eq (.var 0) (.var 1)])] [],
    .iff (.cmp .is (.var 1) (.c (.non))) [
      .ret (.cmp .is (.var 0) (.c (.non)))] [],
    .iff (.isi (.var 1) .tuple) [
      .iff (.not (.isi (.var 0) .tuple)) [
        .ret (.c (.bl false))] []] [
      .iff (.not (.isi (.var 0) .list)) [
        .ret (.c (.bl false))] []],
    .iff (.cmp .ne (.bf .len [.var 0]) (.bf .len [.var 1])) [
      .ret (.c (.bl false))] [],
    .for_ [2] true (.rng [.bf .len [.var 1]]) b__law_alike_1,
    .ret (.c (.bl true))]⟩
def d_is_leaf : Df := ⟨1, 1, [], [
    .ret (.or [.cmp .eq (.ix (.var 0) (.c (.int 0))) (.c (.str [110, 111, 110, 101])), .cmp .eq (.ix (.var 0) (.c (.int 0))) (.c (.str [97, 108, 108])), .cmp .eq (.ix (.var 0) (.c (.int 0))) (.c (.str [110, 97, 109, 101]))])]⟩
def d_shown : Df := ⟨3, 1, [], [
    .iff (.or [.cmp .eq (.ix (.var 0) (.c (.int 0))) (.c (.str [110, 111, 110, 101])), .cmp .eq (.ix (.var 0) (.c (.int 0))) (.c (.str [97, 108, 108]))]) [
      .ret (.ix (.var 0) (.c (.int 0)))] [],
    .iff (.cmp .eq (.ix (.var 0) (.c (.int 0))) (.c (.str [110, 97, 109, 101]))) [
      .ret (.ix (.var 0) (.c (.int 1)))] [],
    .iff (.cmp .eq (.ix (.var 0) (.c (.int 0))) (.c (.str [110, 111, 116]))) [
      .ret (.bin .add (.c (.str [33])) (.call 23 [.ix (.var 0) (.c (.int 1))]))] [],
    .set 1 (.fz (.comp (.call 23 [.var 2]) [2] true (.seq (.sl (.var 0) (.c (.int 1)) .no)) .no)),
    .iff (.cmp .eq (.ix (.var 0) (.c (.int 0))) (.c (.str [98, 111, 116, 104]))) [
      .ret (.bin .add (.bin .add (.c (.str [40])) (.mt .join (.c (.str [32, 38, 32])) [.var 1])) (.c (.str [41])))] [],
    .ret (.bin .add (.bin .add (.c (.str [40])) (.mt .join (.c (.str [32, 124, 32])) [.var 1])) (.c (.str [41])))]⟩
def d_shown_saying : Df := ⟨1, 1, [], [
    .ret (.bin .add (.bin .add (.call 23 [.ix (.var 0) (.c (.int 0))]) (.c (.str [32, 60, 32]))) (.call 23 [.ix (.var 0) (.c (.int 1))]))]⟩
def d_shown_rule : Df := ⟨3, 1, [], [
    .iff (.cmp .eq (.bf .len [.ix (.var 0) (.c (.int 0))]) (.c (.int 0))) [
      .ret (.call 24 [.ix (.var 0) (.c (.int 1))])] [],
    .set 1 (.fz (.comp (.call 24 [.var 2]) [2] true (.seq (.ix (.var 0) (.c (.int 0)))) .no)),
    .ret (.bin .add (.bin .add (.mt .join (.c (.str [44, 32])) [.var 1]) (.c (.str [32, 61, 62, 32]))) (.call 24 [.ix (.var 0) (.c (.int 1))]))]⟩
def b__law_written_1 : List Sm := [
    .set 2 (.bin .add (.bin .add (.var 2) (.var 1)) (.call 26 [.var 3]))]
def d__law_written : Df := ⟨4, 1, [], [
    .iff (.cmp .eq (.ix (.var 0) (.c (.int 0))) (.c (.str [110, 97, 109, 101]))) [
      .ret (.ix (.var 0) (.c (.int 1)))] [],
    .iff (.cmp .eq (.bf .len [.var 0]) (.c (.int 1))) [
      .ret (.ix (.var 0) (.c (.int 0)))] [],
    .iff (.cmp .eq (.ix (.var 0) (.c (.int 0))) (.c (.str [110, 111, 116]))) [
      .ret (.bin .add (.c (.str [33])) (.call 26 [.ix (.var 0) (.c (.int 1))]))] [],
    .set 1 (.c (.str [32, 38, 32])),
    .iff (.cmp .eq (.ix (.var 0) (.c (.int 0))) (.c (.str [101, 105, 116, 104, 101, 114]))) [
      .set 1 (.c (.str [32, 124, 32]))] [],
    .set 2 (.bin .add (.c (.str [40])) (.call 26 [.ix (.var 0) (.c (.int 1))])),
    .for_ [3] true (.seq (.sl (.var 0) (.c (.int 2)) .no)) b__law_written_1,
    .ret (.bin .add (.var 2) (.c (.str [41])))]⟩
def d__law_written_saying : Df := ⟨1, 1, [], [
    .ret (.bin .add (.bin .add (.call 26 [.ix (.var 0) (.c (.int 0))]) (.c (.str [32, 60, 32]))) (.call 26 [.ix (.var 0) (.c (.int 1))]))]⟩
def b__law_written_rule_1 : List Sm := [
    .iff (.cmp .ne (.var 1) (.c (.str []))) [
      .set 1 (.bin .add (.var 1) (.c (.str [44, 32])))] [],
    .set 1 (.bin .add (.var 1) (.call 27 [.var 2]))]
def d__law_written_rule : Df := ⟨3, 1, [], [
    .set 1 (.c (.str [])),
    .for_ [2] true (.seq (.ix (.var 0) (.c (.int 0)))) b__law_written_rule_1,
    .iff (.cmp .gt (.bf .len [.ix (.var 0) (.c (.int 0))]) (.c (.int 0))) [
      .set 1 (.bin .add (.var 1) (.c (.str [32, 61, 62, 32])))] [],
    .ret (.bin .add (.var 1) (.call 27 [.ix (.var 0) (.c (.int 1))]))]⟩
def b__law_rule_1 : List Sm := [
    .set 7 (.bin .add (.bin .add (.var 2) (.c (.int 1))) (.bin .mul (.c (.int 4)) (.var 5))),
    .app 4 (.call 14 [.call 13 [.comp (.call 2 [.var 0, .bin .add (.var 7) (.var 8)]) [8] true (.rng [.c (.int 4)]) .no, .var 1]])]
def d__law_rule : Df := ⟨9, 3, [], [
    .set 3 (.bin .mod (.call 2 [.var 0, .var 2]) (.c (.int 6))),
    .set 4 (.lst []),
    .for_ [5] true (.rng [.bin .add (.bin .mul (.c (.int 2)) (.var 3)) (.c (.int 2))]) b__law_rule_1,
    .set 6 (.fz (.comp (.tup [.ix (.bor 4) (.bin .mul (.c (.int 2)) (.var 5)), .ix (.bor 4) (.bin .add (.bin .mul (.c (.int 2)) (.var 5)) (.c (.int 1)))]) [5] true (.rng [.var 3]) .no)),
    .ret (.tup [.var 6, .tup [.ix (.bor 4) (.bin .mul (.c (.int 2)) (.var 3)), .ix (.bor 4) (.bin .add (.bin .mul (.c (.int 2)) (.var 3)) (.c (.int 1)))]])]⟩
def d_law05 : Df := ⟨7, 1, [], [
    .set 1 (.call 11 [.var 0]),
    .set 2 (.call 14 [.call 13 [.sl (.var 0) (.c (.int 3)) (.c (.int 63)), .var 1]]),
    .set 3 (.call 29 [.var 0, .var 1, .c (.int 3)]),
    .set 4 (.tup [.bf .list [.ix (.var 3) (.c (.int 0))], .ix (.var 3) (.c (.int 1))]),
    .set 5 (.tup [.call 23 [.var 2], .call 24 [.ix (.var 3) (.c (.int 1))], .call 25 [.var 4]]),
    .set 6 (.tup [.call 26 [.var 2], .call 27 [.ix (.var 3) (.c (.int 1))], .call 28 [.var 3]]),
    .ret (.and [.call 15 [.var 5, .var 6], .call 15 [.var 4, .var 3]])]⟩
end GT
set_option maxRecDepth 100000
set_option maxHeartbeats 4000000
namespace K05
open PV
def Dd : Nat → Df := fun g => match g with
  | 23 => GT.d_shown
  | 24 => GT.d_shown_saying
  | 25 => GT.d_shown_rule
  | 2 => GT.d__law_cell_at
  | 10 => GT.d__law_name_by
  | 11 => GT.d__law_pool
  | 12 => GT.d__law_leaf
  | 13 => GT.d__law_stack
  | 14 => GT.d__law_whole_term
  | 15 => GT.d__law_alike
  | 26 => GT.d__law_written
  | 27 => GT.d__law_written_saying
  | 28 => GT.d__law_written_rule
  | 29 => GT.d__law_rule
  | 30 => GT.d_law05
  | _ => ⟨0, 0, [], []⟩
def lawId : Nat := 30
end K05
set_option maxRecDepth 100000
set_option maxHeartbeats 4000000
namespace TM
open PV GT
inductive Tm where
  | non | all | name (s : Tx) | not (t : Tm) | op (b : Bool) (ts : List Tm)
  deriving Inhabited
def opW (b : Bool) : Tx := if b then [98, 111, 116, 104] else [101, 105, 116, 104, 101, 114]
mutual
def enc : Tm → D
  | .non => .tup [.str [110, 111, 110, 101]]
  | .all => .tup [.str [97, 108, 108]]
  | .name s => .tup [.str [110, 97, 109, 101], .str s]
  | .not t => .tup [.str [110, 111, 116], enc t]
  | .op b ts => .tup (.str (opW b) :: encs ts)
def encs : List Tm → List D
  | [] => []
  | t :: ts => enc t :: encs ts
end
theorem encs_map : ∀ ts, encs ts = ts.map enc
  | [] => rfl
  | t :: ts => congrArg (enc t :: ·) (encs_map ts)
mutual
def dep : Tm → Nat
  | .not t => dep t + 1
  | .op _ ts => deps ts + 1
  | _ => 0
def deps : List Tm → Nat
  | [] => 0
  | t :: ts => max (dep t) (deps ts)
end
theorem dep_mem : ∀ {ts : List Tm} {t : Tm}, t ∈ ts → dep t ≤ deps ts
  | t :: ts, x, h => by
    rcases List.mem_cons.mp h with rfl | h
    · exact Nat.le_max_left _ _
    · exact Nat.le_trans (dep_mem h) (Nat.le_max_right _ _)
mutual
def wt : Tm → Nat
  | .not t => wt t + 1
  | .op _ ts => wts ts + 2
  | _ => 8
def wts : List Tm → Nat
  | [] => 0
  | t :: ts => (wt t + 3) + wts ts
end
theorem wts_app : ∀ xs ys : List Tm, wts (xs ++ ys) = wts xs + wts ys
  | [], ys => by simp [wts]
  | x :: xs, ys => by simp [wts, wts_app xs ys]; omega
theorem wt_mem : ∀ {ts : List Tm} {t : Tm}, t ∈ ts → wt t + 3 ≤ wts ts
  | t :: ts, x, h => by
    rcases List.mem_cons.mp h with rfl | h
    · simp [wts]
    · have := wt_mem h; simp [wts]; omega
mutual
def ok (P : Tx → Prop) : Tm → Prop
  | .name s => P s
  | .not t => ok P t
  | .op _ ts => 2 ≤ ts.length ∧ oks P ts
  | _ => True
def oks (P : Tx → Prop) : List Tm → Prop
  | [] => True
  | t :: ts => ok P t ∧ oks P ts
end
theorem oks_mem {P : Tx → Prop} : ∀ {ts : List Tm}, oks P ts ↔ ∀ t ∈ ts, ok P t
  | [] => by simp [oks]
  | t :: ts => by simp [oks, oks_mem (ts := ts)]
variable {T : Nat → Df} {N : Nat}
def cell (ns : List Int) (k : Nat) : Int := ns.getD k 0
theorem cell_ok (F : Fn) (ns : List Int) (k : Nat) : runDf F N d__law_cell_at [.val (.lst (ns.map .int)), .val (.int k)] = .ok (.val (.int (cell ns k))) [] := by
  by_cases h : k < ns.length
  · (open PV.E in simp [getO, Ex.isNo, isTy, dTy, SZ, d__law_cell_at, h, at_nat, cell])
  · (open PV.E in simp [getO, Ex.isNo, isTy, dTy, SZ, d__law_cell_at, h, cell])
def nmOk (s : Tx) : Prop := 1 ≤ s.length ∧ s.length ≤ 8 ∧ ∀ c ∈ s, 97 ≤ c ∧ c ≤ 122 ∧ s ≠ [110, 111, 110, 101] ∧ s ≠ [97, 108, 108]
theorem nmOk.strict {s : Tx} (h : nmOk s) : s ≠ [110, 111, 110, 101] ∧ s ≠ [97, 108, 108] := by
  obtain ⟨h1, _, h3⟩ := h
  cases s with
  | nil => simp at h1
  | cons c r => exact (h3 c (by simp)).2.2
theorem name_ok (F : Fn) (c m : Int) : ∃ s, nmOk s ∧ runDf F N d__law_name_by [.val (.int c), .val (.int m)] = .ok (.val (.str s)) [] := by
  have hm : 0 ≤ m % 8 ∧ m % 8 < 8 := ⟨Int.emod_nonneg _ (by omega), Int.emod_lt_of_pos _ (by omega)⟩
  generalize hz : m % 8 = z at hm
  have r1 := rng_i (1 + z) (by omega)
  obtain ⟨σ', h1, h2⟩ := forLoop_n (f := forStep F N [5] true b__law_name_by_1) (fun k σ => ∃ (s : Tx) (r : Int) (o : Option O), s.length = k ∧ (∀ c ∈ s, 97 ≤ c ∧ c ≤ 122) ∧ σ = [some (.val (.int c)), some (.val (.int m)), some (.val (.str [97, 98, 99, 100, 101, 102, 103, 104, 105, 106, 107, 108, 109, 110, 111, 112, 113, 114, 115, 116, 117, 118, 119, 120, 121, 122])), some (.val (.str s)), some (.val (.int r)), o]) (rangeD 0 (1 + z).toNat) 0
    [some (.val (.int c)), some (.val (.int m)), some (.val (.str [97, 98, 99, 100, 101, 102, 103, 104, 105, 106, 107, 108, 109, 110, 111, 112, 113, 114, 115, 116, 117, 118, 119, 120, 121, 122])), some (.val (.str [])), some (.val (.int (c % 208827064576))), none] ⟨[], _, _, rfl, by simp, rfl⟩ (by
    intro i x hx σ ⟨s, r, o, hs, hc, e⟩
    obtain ⟨hi, rfl⟩ := rangeD_get _ _ _ _ hx
    subst e
    obtain ⟨c, hcm, e⟩ := at_mod ([97, 98, 99, 100, 101, 102, 103, 104, 105, 106, 107, 108, 109, 110, 111, 112, 113, 114, 115, 116, 117, 118, 119, 120, 121, 122] : Tx) r (n := 26) (by decide) (by decide)
    have hz : s.length + 1 ≤ 16777216 := by omega
    refine ⟨_, ⟨s ++ [c], r / 26, some (.val (.int (0 + (i : Int)))), by simp [hs], fun d hd => ?_, rfl⟩, ?_⟩
    · rcases List.mem_append.mp hd with q | q
      · exact hc d q
      · have : d = c := by simpa using q
        subst this
        simp only [List.mem_cons, List.not_mem_nil, or_false] at hcm
        omega
    · (open PV.E in simp [getO, Ex.isNo, isTy, dTy, SZ, b__law_name_by_1, e, hz]))
  obtain ⟨s, r, o, hs, hc, e⟩ := h1
  subst e
  rw [rangeD_len] at hs
  have hl : s.length ≤ 8 := by omega
  have hl1 : s.length + 1 ≤ 16777216 := by omega
  by_cases a1 : s = [110, 111, 110, 101]
  · subst a1
    refine ⟨[110, 111, 110, 101, 120], ⟨by decide, by decide, by decide⟩, ?_⟩
    (open PV.E in simp [getO, Ex.isNo, isTy, dTy, SZ, d__law_name_by, h2, r1, hz])
  · by_cases a2 : s = [97, 108, 108]
    · subst a2
      refine ⟨[97, 108, 108, 120], ⟨by decide, by decide, by decide⟩, ?_⟩
      (open PV.E in simp [getO, Ex.isNo, isTy, dTy, SZ, d__law_name_by, h2, r1, hz])
    · refine ⟨s, ⟨by omega, hl, fun d hd => ⟨(hc d hd).1, (hc d hd).2, a1, a2⟩⟩, ?_⟩
      (open PV.E in simp [getO, Ex.isNo, isTy, dTy, SZ, d__law_name_by, h2, r1, hz, a1, a2])
theorem pool_ok (F : Fn) (ns : List Int) (h2 : ∀ k : Nat, F 2 [.val (.lst (ns.map .int)), .val (.int k)] = .ok (.val (.int (cell ns k))) []) (h10 : ∀ c m : Int, ∃ s, nmOk s ∧ F 10 [.val (.int c), .val (.int m)] = .ok (.val (.str s)) []) :
    ∃ a b c, nmOk a ∧ nmOk b ∧ nmOk c ∧ runDf F N d__law_pool [.val (.lst (ns.map .int))] = .ok (.val (.lst [.str a, .str b, .str c])) [] := by
  have q0 : F 2 [.val (.lst (ns.map .int)), .val (.int 0)] = _ := h2 0
  have q1 : F 2 [.val (.lst (ns.map .int)), .val (.int 1)] = _ := h2 1
  have q2 : F 2 [.val (.lst (ns.map .int)), .val (.int 2)] = _ := h2 2
  generalize cell ns 0 = c0 at q0
  generalize cell ns 1 = c1 at q1
  generalize cell ns 2 = c2 at q2
  obtain ⟨a, ha, ea⟩ := h10 c0 (c0 / 7 % 1009)
  obtain ⟨b, hb, eb⟩ := h10 c1 (c1 / 5 % 1013)
  by_cases hc : c2 % 3 = 0
  · obtain ⟨c, hcn, ec⟩ := h10 c0 (c0 / 7 % 1009 + 1)
    refine ⟨a, b, c, ha, hb, hcn, ?_⟩
    (open PV.E in simp [getO, Ex.isNo, isTy, dTy, SZ, d__law_pool, q0, q1, q2, ea, eb, ec, hc])
  · obtain ⟨c, hcn, ec⟩ := h10 (c2 / 3) (c2 / 11 % 1019)
    refine ⟨a, b, c, ha, hb, hcn, ?_⟩
    (open PV.E in simp [getO, Ex.isNo, isTy, dTy, SZ, d__law_pool, q0, q1, q2, ea, eb, ec, hc])
theorem leaf_ok (F : Fn) (i : Int) {a b c : Tx} (ha : nmOk a) (hb : nmOk b) (hc : nmOk c) : ∃ t, ok nmOk t ∧ dep t = 0 ∧ wt t = 8 ∧ runDf F N d__law_leaf [.val (.int i), .val (.lst [.str a, .str b, .str c])] = .ok (.val (enc t)) [] := by
  by_cases h0 : i % 8 = 0
  · exact ⟨.non, trivial, rfl, rfl, by (open PV.E in simp [getO, Ex.isNo, isTy, dTy, SZ, d__law_leaf, h0, enc])⟩
  · by_cases h1 : i % 8 = 1
    · exact ⟨.all, trivial, rfl, rfl, by (open PV.E in simp [getO, Ex.isNo, isTy, dTy, SZ, d__law_leaf, h0, h1, enc])⟩
    · obtain ⟨x, hx, e⟩ := at_mod [D.str a, D.str b, D.str c] (i / 8) (n := 3) rfl (by simp)
      have : ∃ s, x = .str s ∧ nmOk s := by
        simp only [List.mem_cons, List.not_mem_nil, or_false] at hx
        rcases hx with rfl | rfl | rfl
        · exact ⟨_, rfl, ha⟩
        · exact ⟨_, rfl, hb⟩
        · exact ⟨_, rfl, hc⟩
      obtain ⟨s, rfl, hs⟩ := this
      exact ⟨.name s, hs, rfl, rfl, by (open PV.E in simp [getO, Ex.isNo, isTy, dTy, SZ, d__law_leaf, h0, h1, enc, e])⟩
end TM
set_option maxRecDepth 100000
set_option maxHeartbeats 4000000
set_option pp.maxSteps 600
namespace TM
open PV GT
variable {T : Nat → Df} {N : Nat}
def depD (t : Tm) : D := .int (dep t)
theorem ints_dep : ∀ ts : List Tm, intsD (ts.map depD) = some (ts.map fun t => (dep t : Int))
  | [] => rfl
  | t :: ts => by simp [intsD, depD, ints_dep ts]
theorem max_dep : ∀ ts : List Tm, ts ≠ [] → maxI (ts.map fun t => (dep t : Int)) = deps ts
  | [], h => absurd rfl h
  | [t], _ => by simp [maxI, deps]
  | t :: u :: ts, _ => by
    have := max_dep (u :: ts) (by simp)
    show max (dep t : Int) (maxI ((u :: ts).map fun t => (dep t : Int))) = _
    rw [this]
    simp only [deps]
    omega
structure St (k : Nat) (ts : List Tm) : Prop where
  g : ∀ t ∈ ts, ok nmOk t
  d : ∀ t ∈ ts, dep t ≤ 17
  w : wts ts ≤ 11 * k
  l : ts.length ≤ k
theorem St.leaf {k : Nat} {ts : List Tm} {t : Tm} (h : St k ts) (h1 : ok nmOk t) (h2 : dep t = 0) (h3 : wt t = 8) : St (k + 1) (ts ++ [t]) := by
  refine ⟨fun x hx => ?_, fun x hx => ?_, ?_, by have := h.l; simp; omega⟩
  · rcases List.mem_append.mp hx with q | q
    · exact h.g x q
    · rw [List.mem_singleton.mp q]; exact h1
  · rcases List.mem_append.mp hx with q | q
    · exact h.d x q
    · rw [List.mem_singleton.mp q]; omega
  · have := h.w; rw [wts_app]; simp [wts]; omega
theorem St.not {k : Nat} {ts : List Tm} {t : Tm} (h : St k (ts ++ [t])) (h1 : dep t < 17) : St (k + 1) (ts ++ [.not t]) := by
  refine ⟨fun x hx => ?_, fun x hx => ?_, ?_, by have := h.l; simp at this ⊢; omega⟩
  · rcases List.mem_append.mp hx with q | q
    · exact h.g x (by simp [q])
    · rw [List.mem_singleton.mp q]; exact h.g t (by simp)
  · rcases List.mem_append.mp hx with q | q
    · exact h.d x (by simp [q])
    · rw [List.mem_singleton.mp q]; simp [dep]; omega
  · have := h.w; rw [wts_app] at this ⊢; simp [wts, wt] at this ⊢; omega
theorem St.op {k : Nat} {xs ys : List Tm} (b : Bool) (h : St k (xs ++ ys)) (h0 : 2 ≤ ys.length) (h1 : deps ys < 17) : St (k + 1) (xs ++ [.op b ys]) := by
  refine ⟨fun x hx => ?_, fun x hx => ?_, ?_, by have := h.l; simp at this ⊢; omega⟩
  · rcases List.mem_append.mp hx with q | q
    · exact h.g x (by simp [q])
    · rw [List.mem_singleton.mp q]; exact ⟨h0, oks_mem.mpr fun t ht => h.g t (by simp [ht])⟩
  · rcases List.mem_append.mp hx with q | q
    · exact h.d x (by simp [q])
    · rw [List.mem_singleton.mp q]; simp [dep]; omega
  · have := h.w; rw [wts_app] at this ⊢; simp [wts, wt] at this ⊢; omega
def stkI (cs : List D) (a b c : Tx) (k : Nat) (σ : Sg) : Prop := ∃ (ts : List Tm) (o4 o5 o6 o7 : Option O), St k ts ∧ σ = [some (.val (.lst cs)), some (.val (.lst [.str a, .str b, .str c])), some (.lst (ts.map enc)), some (.lst (ts.map depD)), o4, o5, o6, o7]
theorem stack_turn (F : Fn) {a b c : Tx} (hF : ∀ i : Int, ∃ t, ok nmOk t ∧ dep t = 0 ∧ wt t = 8 ∧ F 12 [.val (.int i), .val (.lst [.str a, .str b, .str c])] = .ok (.val (enc t)) []) (cs : List D) (k : Nat) (hk : k ≤ 63) (i : Int) (σ : Sg) (h : stkI cs a b c k σ) :
    ∃ σ', stkI cs a b c (k + 1) σ' ∧ forStep F N [4] true b__law_stack_1 (.int i) σ = .ok .nx σ' := by
  obtain ⟨ts, o4, o5, o6, o7, hst, rfl⟩ := h
  have hl := hst.l
  have z1 : ts.length + 1 ≤ 16777216 := by omega
  have z2 : ts.length < 16777216 := by omega
  obtain ⟨w0, w1⟩ : 0 ≤ i % 9 ∧ i % 9 < 9 := ⟨Int.emod_nonneg _ (by omega), Int.emod_lt_of_pos _ (by omega)⟩
  obtain ⟨t, ht1, ht2, ht3, eL⟩ := hF (i / 9)
  have leafI : stkI cs a b c (k + 1) [some (.val (.lst cs)), some (.val (.lst [.str a, .str b, .str c])), some (.lst (ts.map enc ++ [enc t])), some (.lst (ts.map depD ++ [.int 0])), some (.val (.int i)), some (.val (.int (i % 9))), o6, o7] :=
    ⟨ts ++ [t], some (.val (.int i)), some (.val (.int (i % 9))), o6, o7, hst.leaf ht1 ht2 ht3, by simp [depD, ht2]⟩
  generalize hw : i % 9 = w at w0 w1 leafI
  have hwc : w = 0 ∨ (w = 1 ∨ w = 2 ∨ w = 3 ∨ w = 4) ∨ 5 ≤ w := by omega
  have two : ∀ (m : Nat) (b' : Bool), 2 ≤ m → m ≤ ts.length → ∃ xs ys, ts = xs ++ ys ∧ ys.length = m ∧ cut (ts.map enc) (some (-(m : Int))) none = ys.map enc ∧ cut (ts.map depD) (some (-(m : Int))) none = ys.map depD ∧ cut (ts.map enc) none (some (-(m : Int))) = xs.map enc ∧ cut (ts.map depD) none (some (-(m : Int))) = xs.map depD := fun m b' hm hmt => by
    refine ⟨ts.take (ts.length - m), ts.drop (ts.length - m), (List.take_append_drop _ _).symm, by simp; omega, ?_, ?_, ?_, ?_⟩
    · rw [(cut_neg _ m (by omega) (by simpa using hmt)).1, List.length_map, List.map_drop]
    · rw [(cut_neg _ m (by omega) (by simpa using hmt)).1, List.length_map, List.map_drop]
    · rw [(cut_neg _ m (by omega) (by simpa using hmt)).2, List.length_map, List.map_take]
    · rw [(cut_neg _ m (by omega) (by simpa using hmt)).2, List.length_map, List.map_take]
  rcases hwc with rfl | hwc
  · by_cases he : ts = []
    · subst he
      refine ⟨_, leafI, ?_⟩
      (open PV.E in simp [getO, Ex.isNo, isTy, dTy, SZ, b__law_stack_1, hw, eL])
    · obtain ⟨xs, u, rfl⟩ : ∃ xs u, ts = xs ++ [u] := ⟨ts.dropLast, ts.getLast he, (List.dropLast_concat_getLast he).symm⟩
      have la : at? (List.map depD xs ++ [D.int (dep u)]) (-1) = some (D.int (dep u)) := L2.atI_last _ _
      by_cases hd : (dep u : Int) < 17
      · refine ⟨[some (.val (.lst cs)), some (.val (.lst [.str a, .str b, .str c])), some (.lst ((xs ++ [Tm.not u]).map enc)), some (.lst ((xs ++ [Tm.not u]).map depD)), some (.val (.int i)), some (.val (.int 0)), o6, o7], ⟨xs ++ [.not u], _, _, _, _, hst.not (by omega), rfl⟩, ?_⟩
        have z3 : xs.length < 16777216 := by simp at z2; omega
        have z4 : 0 < (xs.length : Int) + 1 := by omega
        (open PV.E in simp [getO, Ex.isNo, isTy, dTy, SZ, b__law_stack_1, hw, la, depD, hd, popO, z3, z4, enc, dep])
      · refine ⟨_, leafI, ?_⟩
        have z4 : 0 < (xs.length : Int) + 1 := by omega
        have z3 : xs.length + 1 < 16777216 := by simp at z2; omega
        (open PV.E in simp [getO, Ex.isNo, isTy, dTy, SZ, b__law_stack_1, hw, la, depD, hd, eL, z3, z4])
  · rcases hwc with (rfl | rfl | rfl | rfl) | h5
    · by_cases hm : 2 ≤ ts.length
      · obtain ⟨xs, ys, rfl, hy, e1, e2, e3, e4⟩ := two 2 false (by omega) hm
        have hne : ys ≠ [] := fun z => by rw [z] at hy; cases hy
        have e1' : cut (xs.map enc ++ ys.map enc) (some (-2)) none = ys.map enc := by rw [← List.map_append]; exact e1
        have e2' : cut (xs.map depD ++ ys.map depD) (some (-2)) none = ys.map depD := by rw [← List.map_append]; exact e2
        have e3' : cut (xs.map enc ++ ys.map enc) none (some (-2)) = xs.map enc := by rw [← List.map_append]; exact e3
        have e4' : cut (xs.map depD ++ ys.map depD) none (some (-2)) = xs.map depD := by rw [← List.map_append]; exact e4
        have mx : bfD .max [.lst (ys.map depD)] = some (.val (.int (deps ys))) := by
          rw [bf_max, ints_dep]
          simp [hne, max_dep ys hne]
        have hlen : (xs ++ ys).length = xs.length + 2 := by simp [hy]
        have l1 : (1 : Int) < (xs.length : Int) + (ys.length : Int) := by omega
        have z3 : xs.length + 1 ≤ 16777216 := by omega
        have z3' : xs.length < 16777216 := by omega
        have z5 : 1 + ys.length ≤ 16777216 := by omega
        have z6 : xs.length + ys.length < 16777216 := by omega
        have a0 : at? [D.str [98, 111, 116, 104], D.str [101, 105, 116, 104, 101, 114]] 1 = some (D.str [101, 105, 116, 104, 101, 114]) := rfl
        by_cases hd : (deps ys : Int) < 17
        · refine ⟨[some (.val (.lst cs)), some (.val (.lst [.str a, .str b, .str c])), some (.lst ((xs ++ [Tm.op false ys]).map enc)), some (.lst ((xs ++ [Tm.op false ys]).map depD)), some (.val (.int i)), some (.val (.int 1)), some (.val (.lst (ys.map enc))), some (.val (.int (deps ys)))], ⟨xs ++ [Tm.op false ys], _, _, _, _, hst.op false (by omega) (by omega), rfl⟩, ?_⟩
          have dd : depD (.op false ys) = .int ((deps ys : Int) + 1) := by simp [depD, dep]
          (open PV.E in simp [getO, Ex.isNo, isTy, dTy, SZ, b__law_stack_1, hw, l1, e1', e2', e3', e4', mx, hd, z3, z3', z5, z6, a0, enc, opW, encs_map, dd])
        · refine ⟨_, leafI, ?_⟩
          (open PV.E in simp [getO, Ex.isNo, isTy, dTy, SZ, b__law_stack_1, hw, l1, e1', e2', mx, hd, eL, z6])
      · have l1 : ¬ (1 : Int) < (ts.length : Int) := by omega
        refine ⟨_, leafI, ?_⟩
        (open PV.E in simp [getO, Ex.isNo, isTy, dTy, SZ, b__law_stack_1, hw, l1, eL, z2])
    · by_cases hm : 2 ≤ ts.length
      · obtain ⟨xs, ys, rfl, hy, e1, e2, e3, e4⟩ := two 2 true (by omega) hm
        have hne : ys ≠ [] := fun z => by rw [z] at hy; cases hy
        have e1' : cut (xs.map enc ++ ys.map enc) (some (-2)) none = ys.map enc := by rw [← List.map_append]; exact e1
        have e2' : cut (xs.map depD ++ ys.map depD) (some (-2)) none = ys.map depD := by rw [← List.map_append]; exact e2
        have e3' : cut (xs.map enc ++ ys.map enc) none (some (-2)) = xs.map enc := by rw [← List.map_append]; exact e3
        have e4' : cut (xs.map depD ++ ys.map depD) none (some (-2)) = xs.map depD := by rw [← List.map_append]; exact e4
        have mx : bfD .max [.lst (ys.map depD)] = some (.val (.int (deps ys))) := by
          rw [bf_max, ints_dep]
          simp [hne, max_dep ys hne]
        have hlen : (xs ++ ys).length = xs.length + 2 := by simp [hy]
        have l1 : (1 : Int) < (xs.length : Int) + (ys.length : Int) := by omega
        have z3 : xs.length + 1 ≤ 16777216 := by omega
        have z3' : xs.length < 16777216 := by omega
        have z5 : 1 + ys.length ≤ 16777216 := by omega
        have z6 : xs.length + ys.length < 16777216 := by omega
        have a0 : at? [D.str [98, 111, 116, 104], D.str [101, 105, 116, 104, 101, 114]] 0 = some (D.str [98, 111, 116, 104]) := rfl
        by_cases hd : (deps ys : Int) < 17
        · refine ⟨[some (.val (.lst cs)), some (.val (.lst [.str a, .str b, .str c])), some (.lst ((xs ++ [Tm.op true ys]).map enc)), some (.lst ((xs ++ [Tm.op true ys]).map depD)), some (.val (.int i)), some (.val (.int 2)), some (.val (.lst (ys.map enc))), some (.val (.int (deps ys)))], ⟨xs ++ [Tm.op true ys], _, _, _, _, hst.op true (by omega) (by omega), rfl⟩, ?_⟩
          have dd : depD (.op true ys) = .int ((deps ys : Int) + 1) := by simp [depD, dep]
          (open PV.E in simp [getO, Ex.isNo, isTy, dTy, SZ, b__law_stack_1, hw, l1, e1', e2', e3', e4', mx, hd, z3, z3', z5, z6, a0, enc, opW, encs_map, dd])
        · refine ⟨_, leafI, ?_⟩
          (open PV.E in simp [getO, Ex.isNo, isTy, dTy, SZ, b__law_stack_1, hw, l1, e1', e2', mx, hd, eL, z6])
      · have l1 : ¬ (1 : Int) < (ts.length : Int) := by omega
        refine ⟨_, leafI, ?_⟩
        (open PV.E in simp [getO, Ex.isNo, isTy, dTy, SZ, b__law_stack_1, hw, l1, eL, z2])
    · by_cases hm : 3 ≤ ts.length
      · obtain ⟨xs, ys, rfl, hy, e1, e2, e3, e4⟩ := two 3 false (by omega) hm
        have hne : ys ≠ [] := fun z => by rw [z] at hy; cases hy
        have e1' : cut (xs.map enc ++ ys.map enc) (some (-3)) none = ys.map enc := by rw [← List.map_append]; exact e1
        have e2' : cut (xs.map depD ++ ys.map depD) (some (-3)) none = ys.map depD := by rw [← List.map_append]; exact e2
        have e3' : cut (xs.map enc ++ ys.map enc) none (some (-3)) = xs.map enc := by rw [← List.map_append]; exact e3
        have e4' : cut (xs.map depD ++ ys.map depD) none (some (-3)) = xs.map depD := by rw [← List.map_append]; exact e4
        have mx : bfD .max [.lst (ys.map depD)] = some (.val (.int (deps ys))) := by
          rw [bf_max, ints_dep]
          simp [hne, max_dep ys hne]
        have hlen : (xs ++ ys).length = xs.length + 3 := by simp [hy]
        have l1 : (2 : Int) < (xs.length : Int) + (ys.length : Int) := by omega
        have z3 : xs.length + 1 ≤ 16777216 := by omega
        have z3' : xs.length < 16777216 := by omega
        have z5 : 1 + ys.length ≤ 16777216 := by omega
        have z6 : xs.length + ys.length < 16777216 := by omega
        have a0 : at? [D.str [98, 111, 116, 104], D.str [101, 105, 116, 104, 101, 114]] 1 = some (D.str [101, 105, 116, 104, 101, 114]) := rfl
        by_cases hd : (deps ys : Int) < 17
        · refine ⟨[some (.val (.lst cs)), some (.val (.lst [.str a, .str b, .str c])), some (.lst ((xs ++ [Tm.op false ys]).map enc)), some (.lst ((xs ++ [Tm.op false ys]).map depD)), some (.val (.int i)), some (.val (.int 3)), some (.val (.lst (ys.map enc))), some (.val (.int (deps ys)))], ⟨xs ++ [Tm.op false ys], _, _, _, _, hst.op false (by omega) (by omega), rfl⟩, ?_⟩
          have dd : depD (.op false ys) = .int ((deps ys : Int) + 1) := by simp [depD, dep]
          (open PV.E in simp [getO, Ex.isNo, isTy, dTy, SZ, b__law_stack_1, hw, l1, e1', e2', e3', e4', mx, hd, z3, z3', z5, z6, a0, enc, opW, encs_map, dd])
        · refine ⟨_, leafI, ?_⟩
          (open PV.E in simp [getO, Ex.isNo, isTy, dTy, SZ, b__law_stack_1, hw, l1, e1', e2', mx, hd, eL, z6])
      · have l1 : ¬ (2 : Int) < (ts.length : Int) := by omega
        refine ⟨_, leafI, ?_⟩
        (open PV.E in simp [getO, Ex.isNo, isTy, dTy, SZ, b__law_stack_1, hw, l1, eL, z2])
    · by_cases hm : 3 ≤ ts.length
      · obtain ⟨xs, ys, rfl, hy, e1, e2, e3, e4⟩ := two 3 true (by omega) hm
        have hne : ys ≠ [] := fun z => by rw [z] at hy; cases hy
        have e1' : cut (xs.map enc ++ ys.map enc) (some (-3)) none = ys.map enc := by rw [← List.map_append]; exact e1
        have e2' : cut (xs.map depD ++ ys.map depD) (some (-3)) none = ys.map depD := by rw [← List.map_append]; exact e2
        have e3' : cut (xs.map enc ++ ys.map enc) none (some (-3)) = xs.map enc := by rw [← List.map_append]; exact e3
        have e4' : cut (xs.map depD ++ ys.map depD) none (some (-3)) = xs.map depD := by rw [← List.map_append]; exact e4
        have mx : bfD .max [.lst (ys.map depD)] = some (.val (.int (deps ys))) := by
          rw [bf_max, ints_dep]
          simp [hne, max_dep ys hne]
        have hlen : (xs ++ ys).length = xs.length + 3 := by simp [hy]
        have l1 : (2 : Int) < (xs.length : Int) + (ys.length : Int) := by omega
        have z3 : xs.length + 1 ≤ 16777216 := by omega
        have z3' : xs.length < 16777216 := by omega
        have z5 : 1 + ys.length ≤ 16777216 := by omega
        have z6 : xs.length + ys.length < 16777216 := by omega
        have a0 : at? [D.str [98, 111, 116, 104], D.str [101, 105, 116, 104, 101, 114]] 0 = some (D.str [98, 111, 116, 104]) := rfl
        by_cases hd : (deps ys : Int) < 17
        · refine ⟨[some (.val (.lst cs)), some (.val (.lst [.str a, .str b, .str c])), some (.lst ((xs ++ [Tm.op true ys]).map enc)), some (.lst ((xs ++ [Tm.op true ys]).map depD)), some (.val (.int i)), some (.val (.int 4)), some (.val (.lst (ys.map enc))), some (.val (.int (deps ys)))], ⟨xs ++ [Tm.op true ys], _, _, _, _, hst.op true (by omega) (by omega), rfl⟩, ?_⟩
          have dd : depD (.op true ys) = .int ((deps ys : Int) + 1) := by simp [depD, dep]
          (open PV.E in simp [getO, Ex.isNo, isTy, dTy, SZ, b__law_stack_1, hw, l1, e1', e2', e3', e4', mx, hd, z3, z3', z5, z6, a0, enc, opW, encs_map, dd])
        · refine ⟨_, leafI, ?_⟩
          (open PV.E in simp [getO, Ex.isNo, isTy, dTy, SZ, b__law_stack_1, hw, l1, e1', e2', mx, hd, eL, z6])
      · have l1 : ¬ (2 : Int) < (ts.length : Int) := by omega
        refine ⟨_, leafI, ?_⟩
        (open PV.E in simp [getO, Ex.isNo, isTy, dTy, SZ, b__law_stack_1, hw, l1, eL, z2])
    · have c1 : ¬ w = 0 := by omega
      have c2 : ¬ w < 5 := by omega
      refine ⟨_, leafI, ?_⟩
      (open PV.E in simp [getO, Ex.isNo, isTy, dTy, SZ, b__law_stack_1, hw, eL, c1, c2, z1, z2])
end TM
set_option maxRecDepth 100000
set_option maxHeartbeats 4000000
set_option pp.maxSteps 600
namespace TM
open PV GT
variable {T : Nat → Df} {N : Nat}
structure Stk (ts : List Tm) : Prop where
  ne : ts ≠ []
  g : ∀ t ∈ ts, ok nmOk t
  d : ∀ t ∈ ts, dep t ≤ 17
  w : wts ts ≤ 800
  l : ts.length ≤ 64
theorem stack_fine (F : Fn) {a b c : Tx} (hF : ∀ i : Int, ∃ t, ok nmOk t ∧ dep t = 0 ∧ wt t = 8 ∧ F 12 [.val (.int i), .val (.lst [.str a, .str b, .str c])] = .ok (.val (enc t)) []) (ns : List Int) (hn : ns.length ≤ 63) :
    ∃ ts, Stk ts ∧ wts ts ≤ 11 * ns.length + 11 ∧ runDf F N d__law_stack [.val (.lst (ns.map .int)), .val (.lst [.str a, .str b, .str c])] = .ok (.val (.lst (ts.map enc))) [] := by
  obtain ⟨σ', ⟨ts, o4, o5, o6, o7, hst, e⟩, h2⟩ := forLoop_n (f := forStep F N [4] true b__law_stack_1) (stkI (ns.map .int) a b c) (ns.map .int) 0 [some (.val (.lst (ns.map .int))), some (.val (.lst [.str a, .str b, .str c])), some (.lst []), some (.lst []), none, none, none, none]
    ⟨[], none, none, none, none, ⟨by simp, by simp, by simp [wts], by simp⟩, rfl⟩ (fun i x hx σ h => by
      rw [List.getElem?_map] at hx
      cases q : ns[i]? with
      | none => rw [q] at hx; cases hx
      | some v =>
        rw [q] at hx
        cases hx
        have hi := (List.getElem?_eq_some_iff.mp q).1
        exact stack_turn F hF (ns.map .int) (0 + i) (by omega) v σ h)
  subst e
  have hl := hst.l
  have hw := hst.w
  rw [List.length_map] at hl hw
  by_cases he : ts = []
  · subst he
    refine ⟨[.all], ⟨by simp, by simp [ok], by simp [dep], by simp [wts, wt], by simp⟩, by simp [wts, wt], ?_⟩
    (open PV.E in simp [getO, Ex.isNo, isTy, dTy, SZ, d__law_stack, h2, enc])
  · refine ⟨ts, ⟨he, hst.g, hst.d, by omega, by omega⟩, by omega, ?_⟩
    (open PV.E in simp [getO, Ex.isNo, isTy, dTy, SZ, d__law_stack, h2, he])
theorem stack_ok (F : Fn) {a b c : Tx} (hF : ∀ i : Int, ∃ t, ok nmOk t ∧ dep t = 0 ∧ wt t = 8 ∧ F 12 [.val (.int i), .val (.lst [.str a, .str b, .str c])] = .ok (.val (enc t)) []) (ns : List Int) (hn : ns.length ≤ 63) :
    ∃ ts, Stk ts ∧ runDf F N d__law_stack [.val (.lst (ns.map .int)), .val (.lst [.str a, .str b, .str c])] = .ok (.val (.lst (ts.map enc))) [] := by
  obtain ⟨ts, h1, _, h2⟩ := stack_fine (N := N) F hF ns hn
  exact ⟨ts, h1, h2⟩
def whole : List Tm → Tm
  | [t] => t
  | ts => .op true ts
theorem whole_ok (F : Fn) {ts : List Tm} (h : Stk ts) : runDf F N d__law_whole_term [.val (.lst (ts.map enc))] = .ok (.val (enc (whole ts))) [] ∧ ok nmOk (whole ts) ∧ dep (whole ts) ≤ 18 ∧ wt (whole ts) ≤ 802 := by
  have hw := h.w
  have hl := h.l
  match ts, h with
  | [], h => exact absurd rfl h.ne
  | [t], h => exact ⟨by (open PV.E in simp [getO, Ex.isNo, isTy, dTy, SZ, d__law_whole_term, L2.atI, L2.ixN, whole]), h.g t (by simp), Nat.le_trans (h.d t (by simp)) (by omega), by simp [wts] at hw; simp [whole]; omega⟩
  | t :: u :: ts, h =>
    have c : ¬ ((ts.length : Int) + 1 + 1 = 1) := by omega
    have z : 1 + (ts.length + 1 + 1) ≤ 16777216 := by simp at hl; omega
    refine ⟨by (open PV.E in simp [getO, Ex.isNo, isTy, dTy, SZ, d__law_whole_term, whole, enc, encs, encs_map, opW, c, z]), ⟨by simp, oks_mem.mpr h.g⟩, ?_, by simp [whole, wt]; omega⟩
    have : deps (t :: u :: ts) ≤ 17 := by
      have hd := h.d
      generalize t :: u :: ts = l at hd
      induction l with
      | nil => simp [deps]
      | cons x l ih =>
        have h1 := hd x (by simp)
        have h2 := ih fun y hy => hd y (List.mem_cons_of_mem _ hy)
        simp [deps]; omega
    simp [whole, dep]; omega
mutual
def pl : D → Bool
  | .tup xs => decide (xs.length ≤ 1000000) && pls xs
  | .lst xs => decide (xs.length ≤ 1000000) && pls xs
  | .dic _ => false
  | _ => true
def pls : List D → Bool
  | [] => true
  | x :: xs => pl x && pls xs
end
theorem pls_mem : ∀ {xs : List D} {x : D}, pls xs = true → x ∈ xs → pl x = true
  | y :: ys, x, h, hx => by
    obtain ⟨h1, h2⟩ := andT h
    rcases List.mem_cons.mp hx with rfl | hx
    · exact h1
    · exact pls_mem h2 hx
theorem deps_mem : ∀ {xs : List D} {x : D}, x ∈ xs → x.dep ≤ D.deps xs
  | y :: ys, x, hx => by
    rcases List.mem_cons.mp hx with rfl | hx
    · exact Nat.le_max_left _ _
    · exact Nat.le_trans (deps_mem hx) (Nat.le_max_right _ _)
theorem alike_ok (h15 : T 15 = d__law_alike) : ∀ (n : Nat) (d : D), pl d = true → d.dep < n → run T N n 15 [.val d, .val d] = .ok (.val (.bl true)) []
  | 0, d, _, h => absurd h (by omega)
  | n + 1, d, hp, h => by
    show runDf (run T N n) N (T 15) _ = _
    rw [h15]
    have ih := alike_ok h15 n
    generalize run T N n = F at *
    have loop : ∀ (d : D) (xs : List D), (d = .tup xs ∨ d = .lst xs) → (∀ x ∈ xs, F 15 [.val x, .val x] = .ok (.val (.bl true)) []) → ∃ o, forLoop (forStep F N [2] true b__law_alike_1) (rangeD 0 xs.length) [some (.val d), some (.val d), none] = .ok .nx [some (.val d), some (.val d), o] := fun d xs hd hx => by
      obtain ⟨σ', ⟨o, e⟩, h2⟩ := forLoop_inv (f := forStep F N [2] true b__law_alike_1) (fun σ => ∃ o, σ = [some (.val d), some (.val d), o]) (rangeD 0 xs.length) [some (.val d), some (.val d), none] ⟨_, rfl⟩ (fun x hr σ ⟨o, e⟩ => by
        obtain ⟨i, hi⟩ := List.mem_iff_getElem?.mp hr
        obtain ⟨hlt, rfl⟩ := rangeD_get _ _ _ _ hi
        subst e
        obtain ⟨x, hxm, ea, _⟩ := at_int xs (i := 0 + (i : Int)) (by omega) (by omega)
        refine ⟨_, ⟨some (.val (.int (0 + (i : Int)))), rfl⟩, ?_⟩
        have hc := hx x hxm
        rcases hd with rfl | rfl
        · (open PV.E in simp [getO, Ex.isNo, isTy, dTy, SZ, b__law_alike_1, hc])
          rw [Int.zero_add] at ea
          (open PV.E in simp [getO, Ex.isNo, isTy, dTy, SZ, ea, hc])
        · (open PV.E in simp [getO, Ex.isNo, isTy, dTy, SZ, b__law_alike_1, hc])
          rw [Int.zero_add] at ea
          (open PV.E in simp [getO, Ex.isNo, isTy, dTy, SZ, ea, hc]))
      subst e
      exact ⟨o, h2⟩
    cases d with
    | non => (open PV.E in simp [getO, Ex.isNo, isTy, dTy, SZ, d__law_alike])
    | bl b => (open PV.E in simp [getO, Ex.isNo, isTy, dTy, SZ, d__law_alike])
    | int i => (open PV.E in simp [getO, Ex.isNo, isTy, dTy, SZ, d__law_alike])
    | str s => (open PV.E in simp [getO, Ex.isNo, isTy, dTy, SZ, d__law_alike])
    | dic _ => cases hp
    | tup xs =>
      obtain ⟨p1, p2⟩ := andT hp
      have p1 := of_decide_eq_true p1
      obtain ⟨o, hl⟩ := loop _ xs (.inl rfl) fun x hx => ih x (pls_mem p2 hx) (by have := deps_mem hx; simp [D.dep] at h; omega)
      have r := rng_n xs.length p1
      (open PV.E in simp [getO, Ex.isNo, isTy, dTy, SZ, d__law_alike, r, hl])
    | lst xs =>
      obtain ⟨p1, p2⟩ := andT hp
      have p1 := of_decide_eq_true p1
      obtain ⟨o, hl⟩ := loop _ xs (.inr rfl) fun x hx => ih x (pls_mem p2 hx) (by have := deps_mem hx; simp [D.dep] at h; omega)
      have r := rng_n xs.length p1
      (open PV.E in simp [getO, Ex.isNo, isTy, dTy, SZ, d__law_alike, r, hl])
end TM
set_option maxRecDepth 100000
set_option maxHeartbeats 4000000
set_option pp.maxSteps 600
namespace TM
open PV GT
variable {T : Nat → Df} {N : Nat}
theorem forLoop_map {α : Type} {f : D → Sg → R Fl} (e : α → D) (I : List α → Sg → Prop) : ∀ (xs : List α) (done : List α) (σ : Sg), I done σ → (∀ a x b, done ++ xs = a ++ x :: b → ∀ σ, I a σ → ∃ σ', I (a ++ [x]) σ' ∧ f (e x) σ = .ok .nx σ') →
    ∃ σ', I (done ++ xs) σ' ∧ forLoop f (xs.map e) σ = .ok .nx σ'
  | [], done, σ, h, _ => ⟨σ, by simpa using h, rfl⟩
  | x :: xs, done, σ, h, hf => by
    obtain ⟨σ1, h1, e1⟩ := hf done x xs rfl σ h
    obtain ⟨σ2, h2, e2⟩ := forLoop_map e I xs (done ++ [x]) σ1 h1 fun a y b q => hf a y b (by simpa using q)
    refine ⟨σ2, by simpa using h2, ?_⟩
    rw [List.map_cons]
    unfold forLoop
    rw [e1]
    exact e2
theorem at0 {α : Type} {x : α} {xs : List α} : at? (x :: xs) 0 = some x := at_nat (x :: xs) 0
theorem at1 {α : Type} {x y : α} {xs : List α} : at? (x :: y :: xs) 1 = some y := at_nat (x :: y :: xs) 1
theorem at2 {α : Type} {x y z : α} {xs : List α} : at? (x :: y :: z :: xs) 2 = some z := at_nat (x :: y :: z :: xs) 2
theorem sl_tail {x : D} {xs : List D} : slD (.tup (x :: xs)) (some 1) none = some (.val (.tup xs)) := by
  have e : HT.sIx (x :: xs).length 0 (some (1 : Int)) = 1 := by
    have := HT.sIx_nat (x :: xs).length 0 1
    rw [show ((1 : Nat) : Int) = 1 from rfl] at this
    rw [this]; simp
  have c := cut_drop (x :: xs) 1 (by simp)
  rw [show ((1 : Nat) : Int) = 1 from rfl] at c
  rw [sl_tup, c]
  rfl
theorem sl_tail2 {x y : D} {xs : List D} : slD (.tup (x :: y :: xs)) (some 2) none = some (.val (.tup xs)) := by
  have e : HT.sIx (x :: y :: xs).length 0 (some (2 : Int)) = 2 := by
    have := HT.sIx_nat (x :: y :: xs).length 0 2
    rw [show ((2 : Nat) : Int) = 2 from rfl] at this
    rw [this]; simp
  have c := cut_drop (x :: y :: xs) 2 (by simp)
  rw [show ((2 : Nat) : Int) = 2 from rfl] at c
  rw [sl_tup, c]
  rfl
theorem rangeD_map : ∀ (lo : Int) (n : Nat), rangeD lo n = (List.range n).map fun i => .int (lo + (i : Nat))
  | lo, 0 => rfl
  | lo, n + 1 => by
    rw [List.range_succ_eq_map, List.map_cons, List.map_map]
    show .int lo :: rangeD (lo + 1) n = _
    rw [rangeD_map (lo + 1) n]
    congr 1
    · simp
    · refine List.map_congr_left fun i _ => ?_
      simp only [Function.comp]
      congr 1
      omega
mutual
theorem pl_enc : ∀ t : Tm, wt t ≤ 1000000 → pl (enc t) = true
  | .non, _ => rfl
  | .all, _ => rfl
  | .name s, _ => rfl
  | .not t, h => by
    have := pl_enc t (by simp [wt] at h; omega)
    simp [enc, pl, pls, this]
  | .op b ts, h => by
    have h' : wts ts + 2 ≤ 1000000 := h
    have h1 := pls_enc ts (by omega)
    have h2 := len_wts ts
    have h3 : (encs ts).length = ts.length := by rw [encs_map, List.length_map]
    simp [enc, pl, pls, h1, h3]
    omega
theorem pls_enc : ∀ ts : List Tm, wts ts ≤ 1000000 → pls (encs ts) = true
  | [], _ => rfl
  | t :: ts, h => by
    have h' : (wt t + 3) + wts ts ≤ 1000000 := h
    simp [encs, pls, pl_enc t (by omega), pls_enc ts (by omega)]
theorem len_wts : ∀ ts : List Tm, ts.length ≤ wts ts
  | [] => by simp
  | t :: ts => by
    have := len_wts ts
    simp [wts]; omega
end
mutual
theorem dep_enc : ∀ t : Tm, (enc t).dep ≤ dep t + 1
  | .non => by simp [enc, D.dep, D.deps]
  | .all => by simp [enc, D.dep, D.deps]
  | .name s => by simp [enc, D.dep, D.deps]
  | .not t => by
    have := dep_enc t
    simp [enc, D.dep, D.deps, dep]; omega
  | .op b ts => by
    have := deps_enc ts
    simp [enc, D.dep, D.deps, dep]; omega
theorem deps_enc : ∀ ts : List Tm, D.deps (encs ts) ≤ deps ts + 1
  | [] => by simp [encs, D.deps]
  | t :: ts => by
    have h1 := dep_enc t
    have h2 := deps_enc ts
    simp [encs, D.deps, deps]; omega
end
structure Lv (T : Nat → Df) : Prop where
  h2 : T 2 = d__law_cell_at
  h10 : T 10 = d__law_name_by
  h11 : T 11 = d__law_pool
  h12 : T 12 = d__law_leaf
  h13 : T 13 = d__law_stack
  h14 : T 14 = d__law_whole_term
  h15 : T 15 = d__law_alike
variable (L : Lv T)
include L
theorem Lv.cell (n : Nat) (ns : List Int) (k : Nat) : run T N (n + 1) 2 [.val (.lst (ns.map .int)), .val (.int k)] = .ok (.val (.int (cell ns k))) [] := by
  show runDf _ _ (T 2) _ = _
  rw [L.h2]; exact cell_ok _ ns k
theorem Lv.cellI (n : Nat) (ns : List Int) (i : Int) (h : 0 ≤ i) : run T N (n + 1) 2 [.val (.lst (ns.map .int)), .val (.int i)] = .ok (.val (.int (TM.cell ns i.toNat))) [] := by
  have := L.cell (N := N) n ns i.toNat
  rw [show ((i.toNat : Nat) : Int) = i by omega] at this
  exact this
theorem Lv.name (n : Nat) (c m : Int) : ∃ s, nmOk s ∧ run T N (n + 1) 10 [.val (.int c), .val (.int m)] = .ok (.val (.str s)) [] := by
  show ∃ s, nmOk s ∧ runDf _ _ (T 10) _ = _
  rw [L.h10]; exact name_ok _ c m
theorem Lv.pool (n : Nat) (ns : List Int) : ∃ a b c, nmOk a ∧ nmOk b ∧ nmOk c ∧ run T N (n + 2) 11 [.val (.lst (ns.map .int))] = .ok (.val (.lst [.str a, .str b, .str c])) [] := by
  show ∃ a b c, nmOk a ∧ nmOk b ∧ nmOk c ∧ runDf (run T N (n + 1)) _ (T 11) _ = _
  rw [L.h11]; exact pool_ok _ ns (fun k => L.cell n ns k) (fun c m => L.name n c m)
theorem Lv.leaf (n : Nat) (i : Int) {a b c : Tx} (ha : nmOk a) (hb : nmOk b) (hc : nmOk c) : ∃ t, ok nmOk t ∧ dep t = 0 ∧ wt t = 8 ∧ run T N (n + 1) 12 [.val (.int i), .val (.lst [.str a, .str b, .str c])] = .ok (.val (enc t)) [] := by
  show ∃ t, ok nmOk t ∧ dep t = 0 ∧ wt t = 8 ∧ runDf _ _ (T 12) _ = _
  rw [L.h12]; exact leaf_ok _ i ha hb hc
theorem Lv.stack (n : Nat) (ns : List Int) (hn : ns.length ≤ 63) {a b c : Tx} (ha : nmOk a) (hb : nmOk b) (hc : nmOk c) : ∃ ts, Stk ts ∧ run T N (n + 2) 13 [.val (.lst (ns.map .int)), .val (.lst [.str a, .str b, .str c])] = .ok (.val (.lst (ts.map enc))) [] := by
  show ∃ ts, Stk ts ∧ runDf (run T N (n + 1)) _ (T 13) _ = _
  rw [L.h13]; exact stack_ok _ (fun i => L.leaf n i ha hb hc) ns hn
theorem Lv.stack_fine (n : Nat) (ns : List Int) (hn : ns.length ≤ 63) {a b c : Tx} (ha : nmOk a) (hb : nmOk b) (hc : nmOk c) : ∃ ts, Stk ts ∧ wts ts ≤ 11 * ns.length + 11 ∧ run T N (n + 2) 13 [.val (.lst (ns.map .int)), .val (.lst [.str a, .str b, .str c])] = .ok (.val (.lst (ts.map enc))) [] := by
  show ∃ ts, Stk ts ∧ wts ts ≤ 11 * ns.length + 11 ∧ runDf (run T N (n + 1)) _ (T 13) _ = _
  rw [L.h13]; exact TM.stack_fine _ (fun i => L.leaf n i ha hb hc) ns hn
theorem Lv.whole (n : Nat) {ts : List Tm} (h : Stk ts) : run T N (n + 1) 14 [.val (.lst (ts.map enc))] = .ok (.val (enc (TM.whole ts))) [] := by
  show runDf _ _ (T 14) _ = _
  rw [L.h14]; exact (whole_ok _ h).1
theorem Lv.alike (n : Nat) (d : D) (h : pl d = true) (h' : d.dep < n) : run T N n 15 [.val d, .val d] = .ok (.val (.bl true)) [] := alike_ok L.h15 n d h h'
end TM
set_option maxRecDepth 100000
set_option maxHeartbeats 4000000
set_option pp.maxSteps 600
namespace K05
open PV GT TM
variable {N : Nat}
def sep (b : Bool) : Tx := if b then [32, 38, 32] else [32, 124, 32]
mutual
def shw : Tm → Tx
  | .non => [110, 111, 110, 101]
  | .all => [97, 108, 108]
  | .name s => s
  | .not t => 33 :: shw t
  | .op b ts => 40 :: (TL.joinL (sep b) (shws ts) ++ [41])
def shws : List Tm → List Tx
  | [] => []
  | t :: ts => shw t :: shws ts
end
theorem shws_map : ∀ ts, shws ts = ts.map shw
  | [] => rfl
  | t :: ts => congrArg (shw t :: ·) (shws_map ts)
theorem join_flat (s : Tx) : ∀ (x : Tx) (ys : List Tx), TL.joinL s (x :: ys) = x ++ ys.flatMap (s ++ ·)
  | x, [] => by simp [TL.joinL]
  | x, y :: ys => by
    show x ++ (s ++ TL.joinL s (y :: ys)) = _
    rw [join_flat s y ys]
    simp
theorem sep_len (b : Bool) : (sep b).length = 3 := by cases b <;> rfl
mutual
theorem shw_len : ∀ t : Tm, ok nmOk t → (shw t).length ≤ wt t
  | .non, _ => by simp [shw, wt]
  | .all, _ => by simp [shw, wt]
  | .name s, h => by simp [shw, wt]; exact h.2.1
  | .not t, h => by
    have := shw_len t h
    simp [shw, wt]; exact this
  | .op b [], h => by have := h.1; simp at this
  | .op b (t :: ts), h => by
    have h1 := shw_len t h.2.1
    have h2 := shws_len b ts h.2.2
    simp only [shw, shws, join_flat, wt, wts, List.length_cons, List.length_append, List.length_nil]
    omega
theorem shws_len (b : Bool) : ∀ ts : List Tm, oks nmOk ts → ((shws ts).flatMap (sep b ++ ·)).length ≤ wts ts
  | [], _ => by simp [shws]
  | t :: ts, h => by
    have h1 := shw_len t h.1
    have h2 := shws_len b ts h.2
    simp only [shws, List.flatMap_cons, List.length_append, sep_len, wts]
    omega
end
def strD (t : Tm) : D := .str (shw t)
theorem txs_str : ∀ ts : List Tm, txsD (ts.map strD) = some (ts.map shw)
  | [] => rfl
  | t :: ts => by simp [txsD, strD, txs_str ts]
theorem sum_len (s : Tx) : ∀ (x : Tx) (ys : List Tx), (((x :: ys).map List.length).sum + s.length * (x :: ys).length) = (TL.joinL s (x :: ys)).length + s.length
  | x, [] => by simp [TL.joinL]
  | x, y :: ys => by
    have := sum_len s y ys
    show (x.length + ((y :: ys).map List.length).sum) + s.length * ((y :: ys).length + 1) = (x ++ (s ++ TL.joinL s (y :: ys))).length + s.length
    rw [List.length_append, List.length_append, Nat.mul_add, Nat.mul_one]
    omega
theorem mj (b : Bool) {ts : List Tm} (h : ok nmOk (.op b ts)) (hw : wts ts ≤ 100000) : mtD .join (.str (sep b)) [.lst (ts.map strD)] = some (.val (.str (TL.joinL (sep b) (ts.map shw)))) ∧ (TL.joinL (sep b) (ts.map shw)).length ≤ 100000 := by
  cases ts with
  | nil => have := h.1; simp at this
  | cons t ts =>
    have hl := shw_len _ h
    simp only [shw, wt, List.length_cons, List.length_append, shws_map] at hl
    refine ⟨?_, by omega⟩
    show (match txsD ((t :: ts).map strD) with
      | some ys => if ((ys.map List.length).sum + (sep b).length * ys.length) ≤ SZ then some (O.val (.str (TL.joinL (sep b) ys))) else none
      | none => none) = _
    rw [txs_str]
    have e := sum_len (sep b) (shw t) (ts.map shw)
    rw [← List.map_cons (f := shw)] at e
    dsimp only
    rw [if_pos]
    rw [e, sep_len]
    show _ ≤ 16777216
    omega
theorem shown_ok {T : Nat → Df} (h23 : T 23 = d_shown) : ∀ (n : Nat) (t : Tm), ok nmOk t → dep t < n → wt t ≤ 1000 → run T N n 23 [.val (enc t)] = .ok (.val (.str (shw t))) []
  | 0, t, _, h, _ => absurd h (by omega)
  | n + 1, t, ho, h, hw => by
    show runDf (run T N n) N (T 23) _ = _
    rw [h23]
    have ih := shown_ok h23 n
    generalize run T N n = F at *
    cases t with
    | non => (open PV.E in simp [getO, Ex.isNo, isTy, dTy, SZ, d_shown, enc, shw, at0, at1, at2])
    | all => (open PV.E in simp [getO, Ex.isNo, isTy, dTy, SZ, d_shown, enc, shw, at0, at1, at2])
    | name s => (open PV.E in simp [getO, Ex.isNo, isTy, dTy, SZ, d_shown, enc, shw, at0, at1, at2])
    | not t =>
      have e := ih t ho (by simp [dep] at h; omega) (by simp [wt] at hw; omega)
      have hl := shw_len t ho
      have z : 1 + (shw t).length ≤ 16777216 := by simp [wt] at hw; omega
      (open PV.E in simp [getO, Ex.isNo, isTy, dTy, SZ, d_shown, enc, shw, at0, at1, at2, e, z])
    | op b ts =>
      have hw' : wts ts + 2 ≤ 1000 := hw
      have hlen := len_wts ts
      obtain ⟨j1, j2⟩ := mj b ho (by omega)
      have hc := comp_map (F := F) (elt := .call 23 [.var 2]) (i := 2) (σ1 := [some (.val (.tup (.str (opW b) :: ts.map enc))), none, none]) enc strD ts (.inl rfl) (by simp) (by show _ ≤ 16777216; omega) (fun t ht => by
        have e := ih t (oks_mem.mp ho.2 t ht) (by have := dep_mem ht; simp [dep] at h; omega) (by have := wt_mem ht; omega)
        (open PV.E in simp [getO, Ex.isNo, isTy, dTy, SZ, e, strD]))
      have z1 : 1 + (TL.joinL (sep b) (ts.map shw)).length ≤ 16777216 := by omega
      have z2 : (TL.joinL (sep b) (ts.map shw)).length + 1 + 1 ≤ 16777216 := by omega
      cases b with
      | true =>
        simp only [opW, sep, if_true, Bool.false_eq_true, if_false] at *
        (open PV.E in simp [getO, Ex.isNo, isTy, dTy, SZ, -sl_tup, d_shown, enc, shw, encs_map, shws_map, at0, at1, at2, opW, sep, sl_tail, hc, recvOk, j1, z1, z2])
      | false =>
        simp only [opW, sep, if_true, Bool.false_eq_true, if_false] at *
        (open PV.E in simp [getO, Ex.isNo, isTy, dTy, SZ, -sl_tup, d_shown, enc, shw, encs_map, shws_map, at0, at1, at2, opW, sep, sl_tail, hc, recvOk, j1, z1, z2])
theorem written_ok {T : Nat → Df} (h26 : T 26 = d__law_written) : ∀ (n : Nat) (t : Tm), ok nmOk t → dep t < n → wt t ≤ 1000 → run T N n 26 [.val (enc t)] = .ok (.val (.str (shw t))) []
  | 0, t, _, h, _ => absurd h (by omega)
  | n + 1, t, ho, h, hw => by
    show runDf (run T N n) N (T 26) _ = _
    rw [h26]
    have ih := written_ok h26 n
    generalize run T N n = F at *
    cases t with
    | non => (open PV.E in simp [getO, Ex.isNo, isTy, dTy, SZ, d__law_written, enc, shw, at0, at1, at2])
    | all => (open PV.E in simp [getO, Ex.isNo, isTy, dTy, SZ, d__law_written, enc, shw, at0, at1, at2])
    | name s => (open PV.E in simp [getO, Ex.isNo, isTy, dTy, SZ, d__law_written, enc, shw, at0, at1, at2])
    | not t =>
      have e := ih t ho (by simp [dep] at h; omega) (by simp [wt] at hw; omega)
      have hl := shw_len t ho
      have z : 1 + (shw t).length ≤ 16777216 := by simp [wt] at hw; omega
      (open PV.E in simp [getO, Ex.isNo, isTy, dTy, SZ, d__law_written, enc, shw, at0, at1, at2, e, z])
    | op b ts =>
      cases ts with
      | nil => have := ho.1; simp at this
      | cons t ts =>
        have hw' : (wt t + 3) + wts ts + 2 ≤ 1000 := hw
        have e := ih t ho.2.1 (by simp [dep, deps] at h; omega) (by omega)
        have hl := shw_len t ho.2.1
        obtain ⟨σ', ⟨o, q⟩, h2⟩ := forLoop_map (f := forStep F N [3] true b__law_written_1) enc (fun done σ => ∃ o, σ = [some (.val (.tup (.str (opW b) :: enc t :: ts.map enc))), some (.val (.str (sep b))), some (.val (.str (40 :: (shw t ++ (done.map shw).flatMap (sep b ++ ·))))), o]) ts [] [some (.val (.tup (.str (opW b) :: enc t :: ts.map enc))), some (.val (.str (sep b))), some (.val (.str (40 :: shw t))), none] ⟨none, by simp⟩ (fun a x c hx σ ⟨o, q⟩ => by
          subst q
          have hx' : ts = a ++ x :: c := hx
          have hok := oks_mem.mp ho.2.2
          have ex := ih x (hok x (by rw [hx']; simp)) (by have := dep_mem (t := x) (ts := t :: ts) (by rw [hx']; simp); simp [dep] at h; omega) (by have := wt_mem (t := x) (ts := ts) (by rw [hx']; simp); omega)
          have l1 := shws_len b a (oks_mem.mpr fun y hy => hok y (by rw [hx']; simp [hy]))
          rw [shws_map] at l1
          have l2 : wts ts = wts a + ((wt x + 3) + wts c) := by rw [hx', wts_app]; rfl
          have l3 := shw_len x (hok x (by rw [hx']; simp))
          have l4 := sep_len b
          generalize hfl : (a.map shw).flatMap (sep b ++ ·) = fl at l1
          have z1 : (shw t).length + fl.length + 1 + (sep b).length ≤ 16777216 := by omega
          have z2 : (shw t).length + (fl.length + (sep b).length) + 1 + (shw x).length ≤ 16777216 := by omega
          refine ⟨_, ⟨some (.val (enc x)), rfl⟩, ?_⟩
          rw [List.map_append, List.flatMap_append, hfl]
          (open PV.E in simp [getO, Ex.isNo, isTy, dTy, SZ, b__law_written_1, ex, z1, z2]))
        subst q
        have l1 := shws_len b ts ho.2.2
        rw [shws_map] at l1
        have ejoin : TL.joinL (sep b) (shws (t :: ts)) = shw t ++ (ts.map shw).flatMap (sep b ++ ·) := by rw [shws_map, List.map_cons, join_flat]
        simp only [List.nil_append] at h2
        generalize hfl : (ts.map shw).flatMap (sep b ++ ·) = fl at l1 h2 ejoin
        have z0 : 1 + (shw t).length ≤ 16777216 := by omega
        have z1 : (shw t).length + fl.length + 1 + 1 ≤ 16777216 := by omega
        have c1 : ¬ ((ts.length : Int) + 1 + 1 = 1) := by omega
        cases b with
        | true =>
          simp only [opW, sep, if_true, Bool.false_eq_true, if_false] at *
          (open PV.E in simp [getO, Ex.isNo, isTy, dTy, SZ, -sl_tup, d__law_written, enc, shw, encs, encs_map, at0, at1, at2, opW, sep, sl_tail2, e, h2, ejoin, z0, z1, c1])
        | false =>
          simp only [opW, sep, if_true, Bool.false_eq_true, if_false] at *
          (open PV.E in simp [getO, Ex.isNo, isTy, dTy, SZ, -sl_tup, d__law_written, enc, shw, encs, encs_map, at0, at1, at2, opW, sep, sl_tail2, e, h2, ejoin, z0, z1, c1])
end K05
set_option maxRecDepth 100000
set_option maxHeartbeats 4000000
set_option pp.maxSteps 600
namespace K05
open PV GT TM
variable {N : Nat}
structure Gt (t : Tm) : Prop where
  o : ok nmOk t
  d : dep t ≤ 18
  w : wt t ≤ 802
abbrev Say := Tm × Tm
def encS (s : Say) : D := .tup [enc s.1, enc s.2]
def shwS (s : Say) : Tx := shw s.1 ++ ([32, 60, 32] ++ shw s.2)
def strS (s : Say) : D := .str (shwS s)
structure Gs (s : Say) : Prop where
  a : Gt s.1
  b : Gt s.2
theorem Gs.len {s : Say} (h : Gs s) : (shwS s).length ≤ 1607 := by
  have h1 := shw_len s.1 h.a.o
  have h2 := shw_len s.2 h.b.o
  have h3 := h.a.w
  have h4 := h.b.w
  simp [shwS]; omega
theorem say_ok (F : Fn) {s : Say} (h : Gs s) (h1 : F 23 [.val (enc s.1)] = .ok (.val (.str (shw s.1))) []) (h2 : F 23 [.val (enc s.2)] = .ok (.val (.str (shw s.2))) []) : runDf F N d_shown_saying [.val (encS s)] = .ok (.val (.str (shwS s))) [] := by
  have l1 := shw_len s.1 h.a.o
  have l2 := shw_len s.2 h.b.o
  have l3 := h.a.w
  have l4 := h.b.w
  have z1 : (shw s.1).length + 3 ≤ 16777216 := by omega
  have z2 : (shw s.1).length + 3 + (shw s.2).length ≤ 16777216 := by omega
  have z3 : (shw s.1).length + (3 + (shw s.2).length) ≤ 16777216 := by omega
  (open PV.E in simp [getO, Ex.isNo, isTy, dTy, SZ, d_shown_saying, encS, at0, at1, h1, h2, z1, z2, z3, shwS])
theorem wsay_ok (F : Fn) {s : Say} (h : Gs s) (h1 : F 26 [.val (enc s.1)] = .ok (.val (.str (shw s.1))) []) (h2 : F 26 [.val (enc s.2)] = .ok (.val (.str (shw s.2))) []) : runDf F N d__law_written_saying [.val (encS s)] = .ok (.val (.str (shwS s))) [] := by
  have l1 := shw_len s.1 h.a.o
  have l2 := shw_len s.2 h.b.o
  have l3 := h.a.w
  have l4 := h.b.w
  have z1 : (shw s.1).length + 3 ≤ 16777216 := by omega
  have z2 : (shw s.1).length + 3 + (shw s.2).length ≤ 16777216 := by omega
  have z3 : (shw s.1).length + (3 + (shw s.2).length) ≤ 16777216 := by omega
  (open PV.E in simp [getO, Ex.isNo, isTy, dTy, SZ, d__law_written_saying, encS, at0, at1, h1, h2, z1, z2, z3, shwS])
def encR (ps : List Say) (s : Say) : D := .tup [.lst (ps.map encS), encS s]
def shwR (ps : List Say) (s : Say) : Tx := match ps with
  | [] => shwS s
  | p :: ps => TL.joinL [44, 32] ((p :: ps).map shwS) ++ ([32, 61, 62, 32] ++ shwS s)
theorem txs_strS : ∀ ts : List Say, txsD (ts.map strS) = some (ts.map shwS)
  | [] => rfl
  | t :: ts => by simp [txsD, strS, txs_strS ts]
theorem join_len : ∀ ps : List Say, (∀ p ∈ ps, Gs p) → (TL.joinL [44, 32] (ps.map shwS)).length ≤ 1609 * ps.length
  | [], _ => by simp [TL.joinL]
  | [p], h => by
    have := (h p (by simp)).len
    simp [TL.joinL]; omega
  | p :: q :: ps, h => by
    have h1 := (h p (by simp)).len
    have h2 := join_len (q :: ps) fun x hx => h x (List.mem_cons_of_mem _ hx)
    show (shwS p ++ ([44, 32] ++ TL.joinL [44, 32] ((q :: ps).map shwS))).length ≤ _
    simp only [List.length_append, List.length_cons, List.length_nil] at *
    omega
theorem mjS {p : Say} {ps : List Say} (h : ∀ x ∈ p :: ps, Gs x) (hl : (p :: ps).length ≤ 100) : mtD .join (.str [44, 32]) [.lst ((p :: ps).map strS)] = some (.val (.str (TL.joinL [44, 32] ((p :: ps).map shwS)))) := by
  show (match txsD ((p :: ps).map strS) with
    | some ys => if ((ys.map List.length).sum + ([44, 32] : Tx).length * ys.length) ≤ SZ then some (O.val (.str (TL.joinL [44, 32] ys))) else none
    | none => none) = _
  rw [txs_strS]
  have e := sum_len [44, 32] (shwS p) (ps.map shwS)
  have := join_len (p :: ps) h
  rw [← List.map_cons (f := shwS)] at e
  dsimp only
  rw [if_pos]
  rw [e]
  show _ ≤ 16777216
  simp only [List.length_cons, List.length_nil] at *
  omega
theorem shown_rule_ok (F : Fn) (ps : List Say) (s : Say) (h : ∀ x ∈ ps, Gs x) (hs : Gs s) (hl : ps.length ≤ 100) (hF : ∀ x, Gs x → F 24 [.val (encS x)] = .ok (.val (.str (shwS x))) []) : runDf F N d_shown_rule [.val (encR ps s)] = .ok (.val (.str (shwR ps s))) [] := by
  have es := hF s hs
  cases ps with
  | nil => (open PV.E in simp [getO, Ex.isNo, isTy, dTy, SZ, d_shown_rule, encR, at0, at1, es, shwR])
  | cons p ps =>
    have hc := comp_map (F := F) (elt := .call 24 [.var 2]) (i := 2) (σ1 := [some (.val (encR (p :: ps) s)), none, none]) encS strS (p :: ps) (.inl rfl) (by simp) (by show _ ≤ 16777216; omega) (fun x hx => by
      have e := hF x (h x hx)
      (open PV.E in simp [getO, Ex.isNo, isTy, dTy, SZ, e, strS]))
    have j := mjS h hl
    have jl := join_len (p :: ps) h
    have sl := hs.len
    have c : ¬ ((ps.length : Int) + 1 = 0) := by omega
    simp only [List.map_cons] at hc j jl
    simp only [List.length_cons] at hl jl
    have z1 : (TL.joinL [44, 32] (shwS p :: ps.map shwS)).length + 4 ≤ 16777216 := by omega
    have z2 : (TL.joinL [44, 32] (shwS p :: ps.map shwS)).length + (4 + (shwS s).length) ≤ 16777216 := by omega
    have z3 : (TL.joinL [44, 32] (shwS p :: ps.map shwS)).length + 4 + (shwS s).length ≤ 16777216 := by omega
    simp only [encR, List.map_cons] at hc
    (open PV.E in simp [getO, Ex.isNo, isTy, dTy, SZ, d_shown_rule, encR, at0, at1, es, shwR, c, hc, recvOk, j, z1, z2, z3])
theorem shwS_ne (s : Say) : shwS s ≠ [] := by simp [shwS]
theorem join_snoc (sp : Tx) : ∀ (xs : List Tx) (y : Tx), xs ≠ [] → TL.joinL sp (xs ++ [y]) = TL.joinL sp xs ++ (sp ++ y)
  | [], y, h => absurd rfl h
  | x :: xs, y, _ => by
    rw [List.cons_append, join_flat, join_flat, List.flatMap_append]
    simp
theorem written_rule_ok (F : Fn) (ps : List Say) (s : Say) (h : ∀ x ∈ ps, Gs x) (hs : Gs s) (hl : ps.length ≤ 100) (hF : ∀ x, Gs x → F 27 [.val (encS x)] = .ok (.val (.str (shwS x))) []) : runDf F N d__law_written_rule [.val (encR ps s)] = .ok (.val (.str (shwR ps s))) [] := by
  have es := hF s hs
  obtain ⟨σ', ⟨o, q⟩, h2⟩ := forLoop_map (f := forStep F N [2] true b__law_written_rule_1) encS (fun done σ => ∃ o, σ = [some (.val (encR ps s)), some (.val (.str (TL.joinL [44, 32] (done.map shwS)))), o]) ps [] [some (.val (encR ps s)), some (.val (.str [])), none] ⟨none, rfl⟩ (fun a x c hx σ ⟨o, q⟩ => by
    subst q
    have hx' : ps = a ++ x :: c := hx
    have ex := hF x (h x (by rw [hx']; simp))
    have jl := join_len a fun y hy => h y (by rw [hx']; simp [hy])
    have xl := (h x (by rw [hx']; simp)).len
    have al : a.length ≤ 100 := by rw [hx'] at hl; simp at hl; omega
    refine ⟨_, ⟨some (.val (encS x)), rfl⟩, ?_⟩
    cases a with
    | nil =>
      have z : (shwS x).length ≤ 16777216 := by omega
      (open PV.E in simp [getO, Ex.isNo, isTy, dTy, SZ, b__law_written_rule_1, ex, TL.joinL, z])
    | cons u us =>
      have jn : TL.joinL [44, 32] ((u :: us).map shwS) ≠ [] := by
        rw [List.map_cons, join_flat]
        intro z
        exact shwS_ne u (List.append_eq_nil_iff.mp z).1
      have ej : TL.joinL [44, 32] (((u :: us) ++ [x]).map shwS) = TL.joinL [44, 32] ((u :: us).map shwS) ++ ([44, 32] ++ shwS x) := by
        rw [List.map_append]
        exact join_snoc _ _ _ (by simp)
      rw [ej]
      simp only [List.length_cons] at jl al
      generalize hJ : TL.joinL [44, 32] ((u :: us).map shwS) = J at *
      have z1 : J.length + 2 ≤ 16777216 := by omega
      have z2 : J.length + (2 + (shwS x).length) ≤ 16777216 := by omega
      have z3 : J.length + 2 + (shwS x).length ≤ 16777216 := by omega
      (open PV.E in simp [getO, Ex.isNo, isTy, dTy, SZ, b__law_written_rule_1, ex, jn, z1, z2, z3]))
  subst q
  have jl := join_len ps h
  have sl := hs.len
  rw [List.nil_append] at h2
  cases ps with
  | nil =>
    have z : (shwS s).length ≤ 16777216 := by omega
    simp only [encR, List.map_nil, TL.joinL] at h2
    (open PV.E in simp [getO, Ex.isNo, isTy, dTy, SZ, d__law_written_rule, encR, at0, at1, es, shwR, h2, z])
  | cons p ps =>
    have c : (0 : Int) < (ps.length : Int) + 1 := by omega
    simp only [List.length_cons] at hl jl
    simp only [List.map_cons] at jl
    have z1 : (TL.joinL [44, 32] (shwS p :: ps.map shwS)).length + 4 ≤ 16777216 := by omega
    have z2 : (TL.joinL [44, 32] (shwS p :: ps.map shwS)).length + (4 + (shwS s).length) ≤ 16777216 := by omega
    have z3 : (TL.joinL [44, 32] (shwS p :: ps.map shwS)).length + 4 + (shwS s).length ≤ 16777216 := by omega
    simp only [encR, List.map_cons] at h2
    (open PV.E in simp [getO, Ex.isNo, isTy, dTy, SZ, d__law_written_rule, encR, at0, at1, es, shwR, h2, c, z1, z2, z3])
end K05
set_option maxRecDepth 100000
set_option maxHeartbeats 4000000
set_option pp.maxSteps 600
namespace K05
open PV GT TM
variable {N : Nat}
theorem cut_map {α β : Type} (f : α → β) (xs : List α) (lo hi : Option Int) : cut (xs.map f) lo hi = (cut xs lo hi).map f := by
  unfold cut
  rw [List.length_map, List.map_take, List.map_drop]
theorem rng_r (n : Nat) (h : n ≤ 1000000) (i : Int) (e : i = (n : Int)) : rngD [.int i] = some ((List.range n).map fun k => D.int (k : Nat)) := by
  subst e
  rw [rng_n n h, rangeD_map]
  simp
theorem stk_gt {ts : List Tm} (h : Stk ts) : Gt (whole ts) := by
  obtain ⟨_, h2, h3, h4⟩ := whole_ok (N := 0) (fun _ _ => .bad) h
  exact ⟨h2, h3, h4⟩
end K05
set_option maxRecDepth 100000
set_option maxHeartbeats 4000000
set_option pp.maxSteps 600
namespace TP
open PV GV
open TM (Tm enc encs encs_map dep deps opW nmOk ok oks oks_mem dep_mem at0 at1 at2 wt wts wts_app wt_mem len_wts sl_tail)
variable {N : Nat}
mutual
def lfT : Tm → Nat
  | .not t => lfT t
  | .op _ ts => lfTs ts
  | _ => 1
def lfTs : List Tm → Nat
  | [] => 0
  | t :: ts => lfT t + lfTs ts
end
mutual
theorem lf_wt : ∀ t : Tm, 8 * lfT t ≤ wt t
  | .non => by simp [lfT, wt]
  | .all => by simp [lfT, wt]
  | .name s => by simp [lfT, wt]
  | .not t => by have := lf_wt t; simp [lfT, wt]; omega
  | .op b ts => by have := lfs_wt ts; simp [lfT, wt]; omega
theorem lfs_wt : ∀ ts : List Tm, 8 * lfTs ts ≤ wts ts
  | [] => by simp [lfTs]
  | t :: ts => by have := lf_wt t; have := lfs_wt ts; simp [lfTs, wts]; omega
end
def leafB : Tm → Bool
  | .not _ => false
  | .op _ _ => false
  | _ => true
theorem leaf_t (F : Fn) (t : Tm) : runDf F N d_is_leaf [.val (enc t)] = .ok (.val (.bl (leafB t))) [] := by
  unfold leafB
  cases t with
  | non => (open PV.E in simp [getO, Ex.isNo, isTy, dTy, SZ, d_is_leaf, enc, at0])
  | all => (open PV.E in simp [getO, Ex.isNo, isTy, dTy, SZ, d_is_leaf, enc, at0])
  | name s => (open PV.E in simp [getO, Ex.isNo, isTy, dTy, SZ, d_is_leaf, enc, at0])
  | not t => (open PV.E in simp [getO, Ex.isNo, isTy, dTy, SZ, d_is_leaf, enc, at0])
  | op b ts => cases b <;> (open PV.E in simp [getO, Ex.isNo, isTy, dTy, SZ, d_is_leaf, enc, at0, opW])
theorem ints_lf : ∀ ts : List Tm, intsD (ts.map fun t => D.int (lfT t : Nat)) = some (ts.map fun t => ((lfT t : Nat) : Int))
  | [] => rfl
  | t :: ts => by show (intsD (ts.map _)).map (_ :: ·) = _; rw [ints_lf ts]; rfl
theorem sum_lf : ∀ ts : List Tm, (ts.map fun t => ((lfT t : Nat) : Int)).sum = (lfTs ts : Nat)
  | [] => rfl
  | t :: ts => by rw [List.map_cons, List.sum_cons, sum_lf ts]; simp [lfTs]
theorem bf_sum (ts : List Tm) : bfD .sum [.lst (ts.map fun t => D.int (lfT t : Nat))] = some (.val (.int (lfTs ts : Nat))) := by
  show (intsD _).map _ = _
  rw [ints_lf]
  show some (O.val (D.int (List.sum _))) = _
  rw [sum_lf]
theorem leaves_run {T : Nat → Df} (h108 : T 108 = d_leaves) (h19 : T 19 = d_is_leaf) : ∀ (n : Nat) (t : Tm), dep t + 1 < n → wt t ≤ 1000000 → run T N n 108 [.val (enc t)] = .ok (.val (.int (lfT t : Nat))) []
  | 0, t, h, _ => absurd h (by omega)
  | 1, t, h, _ => absurd h (by omega)
  | n + 2, t, h, hw => by
    show runDf (run T N (n + 1)) N (T 108) _ = _
    rw [h108]
    have ih := leaves_run h108 h19 (n + 1)
    have e19 : run T N (n + 1) 19 [.val (enc t)] = .ok (.val (.bl (leafB t))) [] := by
      show runDf (run T N n) N (T 19) _ = _
      rw [h19]; exact leaf_t (N := N) (run T N n) t
    generalize run T N (n + 1) = F at *
    have comp : ∀ (w : Tx) (ts : List Tm), (∀ t ∈ ts, dep t < n) → wts ts ≤ 1000002 → _ := fun w ts hts hl =>
      comp_map (F := F) (elt := .call 108 [.var 1]) (i := 1) (σ1 := [some (.val (.tup (.str w :: ts.map enc))), none]) enc (fun t => D.int (lfT t : Nat)) ts (.inl rfl) (by simp) (by have := len_wts ts; show _ ≤ 16777216; omega) (fun t ht => by
        have e := ih t (by have := hts t ht; omega) (by have := wt_mem ht; omega)
        (open PV.E in simp [getO, Ex.isNo, isTy, dTy, SZ, e]))
    cases t with
    | non =>
      simp only [enc, leafB] at e19
      (open PV.E in simp [getO, Ex.isNo, isTy, dTy, SZ, d_leaves, enc, e19, lfT])
    | all =>
      simp only [enc, leafB] at e19
      (open PV.E in simp [getO, Ex.isNo, isTy, dTy, SZ, d_leaves, enc, e19, lfT])
    | name s =>
      simp only [enc, leafB] at e19
      (open PV.E in simp [getO, Ex.isNo, isTy, dTy, SZ, d_leaves, enc, e19, lfT])
    | not t =>
      have hc := comp [110, 111, 116] [t] (fun x hx => by rw [List.mem_singleton.mp hx]; simp [dep] at h; omega) (by have := hw; simp only [wt] at this; simp only [wts]; omega)
      have s1 := bf_sum [t]
      simp only [List.map_cons, List.map_nil, lfTs, Nat.add_zero] at hc s1
      simp only [enc, leafB] at e19
      (open PV.E in simp [getO, Ex.isNo, isTy, dTy, SZ, -sl_tup, d_leaves, enc, sl_tail, e19, hc, s1, lfT])
    | op b ts =>
      have hc := comp (opW b) ts (fun x hx => by have := dep_mem hx; simp [dep] at h; omega) (by have := hw; simp only [wt] at this; omega)
      have s1 := bf_sum ts
      cases b with
      | true =>
        simp only [enc, leafB, encs_map, opW, if_true] at hc e19
        (open PV.E in simp [getO, Ex.isNo, isTy, dTy, SZ, -sl_tup, d_leaves, enc, encs_map, sl_tail, e19, hc, s1, lfT, opW])
      | false =>
        simp only [enc, leafB, encs_map, opW, Bool.false_eq_true, if_false] at hc e19
        (open PV.E in simp [getO, Ex.isNo, isTy, dTy, SZ, -sl_tup, d_leaves, enc, encs_map, sl_tail, e19, hc, s1, lfT, opW])
def isL (c : Nat) : Bool := decide (97 ≤ c) && decide (c ≤ 122)
def isNm (s : Tx) : Bool := if (s.length : Int) < 1 then false else if 8 < (s.length : Int) then false else if s = [110, 111, 110, 101] then false else if s = [97, 108, 108] then false else s.all isL
theorem is_name_ok (F : Fn) (s : Tx) (hs : s.length ≤ 16777216) : runDf F N d_is_name [.val (.str s)] = .ok (.val (.bl (isNm s))) [] := by
  obtain ⟨σ', h1, h2⟩ := forLoop_all (f := forStep F N [1] true b_is_name_1) (r := .val (.bl false)) (fun d => match d with | .str [c] => isL c | _ => false) (fun σ => ∃ o, σ = [some (.val (.str s)), o]) (s.map fun c => .str [c]) [some (.val (.str s)), none] ⟨_, rfl⟩ (by
    intro x hx σ ⟨o, e⟩
    obtain ⟨c, hc, rfl⟩ := List.mem_map.mp hx
    subst e
    refine ⟨[some (.val (.str s)), some (.val (.str [c]))], ⟨_, rfl⟩, ?_⟩
    by_cases c1 : c < 97
    · (open PV.E in simp [getO, Ex.isNo, isTy, dTy, SZ, b_is_name_1, isL, c1, one_lt])
      omega
    · by_cases c2 : 122 < c
      · (open PV.E in simp [getO, Ex.isNo, isTy, dTy, SZ, b_is_name_1, isL, c1, c2, one_lt])
      · (open PV.E in simp [getO, Ex.isNo, isTy, dTy, SZ, b_is_name_1, isL, c1, c2, one_lt]))
  obtain ⟨o, rfl⟩ := h1
  have h3 : (s.map fun c => D.str [c]).all (fun d => match d with | .str [c] => isL c | _ => false) = s.all isL := by
    rw [List.all_map]; rfl
  rw [h3] at h2
  (open PV.E in simp [getO, Ex.isNo, isTy, dTy, SZ, d_is_name, hs, h2])
  simp only [isNm]
  repeat' split
  all_goals simp_all
  all_goals (repeat' split)
  all_goals simp_all
theorem isNm_ok {s : Tx} (h : isNm s = true) : nmOk s := by
  unfold isNm at h
  split at h
  · cases h
  · split at h
    · cases h
    · split at h
      · cases h
      · split at h
        · cases h
        · rename_i a b c d
          refine ⟨by omega, by omega, fun x hx => ?_⟩
          have := List.all_eq_true.mp h x hx
          simp only [isL, Bool.and_eq_true, decide_eq_true_eq] at this
          exact ⟨this.1, this.2, c, d⟩
theorem ok_isNm {s : Tx} (h : nmOk s) : isNm s = true ∧ s.all isL = true := by
  have a : s.all isL = true := List.all_eq_true.mpr fun x hx => by
    have := h.2.2 x hx
    simp only [isL, Bool.and_eq_true, decide_eq_true_eq]
    exact ⟨this.1, this.2.1⟩
  refine ⟨?_, a⟩
  unfold isNm
  have h1 := h.1
  have h2 := h.2.1
  rw [if_neg (by omega), if_neg (by omega), if_neg h.strict.1, if_neg h.strict.2]
  exact a
def pW (r : Tx) : Option (Tm × Tx) := if r.takeWhile isL = [110, 111, 110, 101] then some (.non, r.dropWhile isL) else if r.takeWhile isL = [97, 108, 108] then some (.all, r.dropWhile isL)
  else if isNm (r.takeWhile isL) = true then some (.name (r.takeWhile isL), r.dropWhile isL) else none
def loopP (f : Tx → Option (Tm × Tx)) (mark : Tx) : Nat → List Tm → Tx → Option (List Tm × Tx)
  | 0, _, _ => none
  | k + 1, acc, r => if r.take 3 = mark then (match f (r.drop 3) with
    | none => none
    | some p => loopP f mark k (acc ++ [p.1]) p.2) else some (acc, r)
def pP (f : Tx → Option (Tm × Tx)) (r : Tx) : Option (Tm × Tx) := match f r with
  | none => none
  | some p => if p.2.take 3 = [32, 38, 32] ∨ p.2.take 3 = [32, 124, 32] then (match loopP f (p.2.take 3) (p.2.length + 1) [p.1] p.2 with
      | none => none
      | some q => if q.2.take 1 = [41] then some (.op (decide (p.2.take 3 = [32, 38, 32])) q.1, q.2.drop 1) else none)
    else none
def pT : Nat → Tx → Option (Tm × Tx)
  | 0, r => if r.take 1 = [33] ∨ r.take 1 = [40] then none else pW r
  | m + 1, r => if r.take 1 = [33] then (match pT m (r.drop 1) with
      | none => none
      | some p => some (.not p.1, p.2))
    else if r.take 1 = [40] then pP (pT m) (r.drop 1) else pW r
def Suf (f : Tx → Option (Tm × Tx)) : Prop := ∀ r p, f r = some p → ∃ w, r = w ++ p.2
theorem pW_suf : Suf pW := fun r p h => by
  have e : r = r.takeWhile isL ++ r.dropWhile isL := List.takeWhile_append_dropWhile.symm
  unfold pW at h
  split at h
  · cases h; exact ⟨_, e⟩
  · split at h
    · cases h; exact ⟨_, e⟩
    · split at h
      · cases h; exact ⟨_, e⟩
      · cases h
theorem loop_suf {f : Tx → Option (Tm × Tx)} (hf : Suf f) {mark : Tx} (hm3 : mark.length = 3) : ∀ (k : Nat) (acc : List Tm) (r : Tx) (q : List Tm × Tx), loopP f mark k acc r = some q → (∃ w, r = w ++ q.2) ∧ acc.length ≤ q.1.length ∧ q.1.length + q.2.length ≤ acc.length + r.length
  | 0, _, _, _, h => by cases h
  | k + 1, acc, r, q, h => by
    unfold loopP at h
    split at h
    · rename_i hm
      cases e : f (r.drop 3) with
      | none => rw [e] at h; cases h
      | some p =>
        rw [e] at h
        obtain ⟨w, hw⟩ := hf _ _ e
        obtain ⟨⟨w2, hw2⟩, h3, h4⟩ := loop_suf hf hm3 k _ _ _ h
        refine ⟨⟨r.take 3 ++ (w ++ w2), ?_⟩, by simp at h3; omega, ?_⟩
        · rw [List.append_assoc, List.append_assoc, ← hw2, ← hw, List.take_append_drop]
        · have l1 := congrArg List.length hw
          have l2 := congrArg List.length hm
          rw [List.length_append, List.length_drop] at l1
          rw [List.length_take, hm3] at l2
          simp at h4; omega
    · cases h
      exact ⟨⟨[], rfl⟩, Nat.le_refl _, Nat.le_refl _⟩
theorem tail1 {r : Tx} {c : Nat} (h : r.take 1 = [c]) : r = c :: r.drop 1 := by
  cases r with
  | nil => cases h
  | cons a b => simp at h; simp [h]
theorem pP_suf {f : Tx → Option (Tm × Tx)} (hf : Suf f) : Suf (pP f) := fun r p h => by
  unfold pP at h
  cases e : f r with
  | none => rw [e] at h; cases h
  | some q =>
    rw [e] at h
    obtain ⟨w, hw⟩ := hf _ _ e
    dsimp only at h
    split at h
    · rename_i hm
      have hm3 : (q.2.take 3).length = 3 := by rcases hm with z | z <;> rw [z] <;> rfl
      cases e2 : loopP f (q.2.take 3) (q.2.length + 1) [q.1] q.2 with
      | none => rw [e2] at h; cases h
      | some z =>
        rw [e2] at h
        dsimp only at h
        obtain ⟨⟨w2, hw2⟩, _, _⟩ := loop_suf hf hm3 _ _ _ _ e2
        split at h
        · rename_i h1
          cases h
          refine ⟨w ++ (w2 ++ [41]), ?_⟩
          rw [hw, hw2]
          have t1 := tail1 h1
          generalize z.2.drop 1 = u at *
          rw [t1]
          simp
        · cases h
    · cases h
theorem pT_suf : ∀ m, Suf (pT m)
  | 0 => fun r p h => by
    unfold pT at h
    split at h
    · cases h
    · exact pW_suf r p h
  | m + 1 => fun r p h => by
    unfold pT at h
    split at h
    · rename_i h1
      cases e : pT m (r.drop 1) with
      | none => rw [e] at h; cases h
      | some q =>
        rw [e] at h
        cases h
        obtain ⟨w, hw⟩ := pT_suf m _ _ e
        refine ⟨33 :: w, ?_⟩
        have t1 := tail1 h1
        generalize r.drop 1 = u at *
        rw [t1, hw]
        rfl
    · split at h
      · rename_i h1
        obtain ⟨w, hw⟩ := pP_suf (pT_suf m) _ _ h
        refine ⟨40 :: w, ?_⟩
        have t1 := tail1 h1
        generalize r.drop 1 = u at *
        rw [t1, hw]
        rfl
      · exact pW_suf r p h
structure Gd (m : Nat) (r : Tx) (p : Tm × Tx) : Prop where
  o : ok nmOk p.1
  d : dep p.1 ≤ m
  w : wt p.1 + 3 + 11 * p.2.length ≤ 11 * r.length
theorem span_len (r : Tx) : (r.takeWhile isL).length + (r.dropWhile isL).length = r.length := by
  rw [← List.length_append, List.takeWhile_append_dropWhile]
theorem pW_gd {r : Tx} {p : Tm × Tx} (h : pW r = some p) : Gd 0 r p := by
  have l := span_len r
  unfold pW at h
  split at h
  · rename_i c
    cases h
    have := congrArg List.length c
    exact ⟨trivial, Nat.le_refl _, by simp only [wt]; simp at this; omega⟩
  · split at h
    · rename_i c
      cases h
      have := congrArg List.length c
      exact ⟨trivial, Nat.le_refl _, by simp only [wt]; simp at this; omega⟩
    · split at h
      · rename_i c
        cases h
        have g := isNm_ok c
        have := g.1
        exact ⟨g, Nat.le_refl _, by simp only [wt]; omega⟩
      · cases h
theorem loop_gd {m : Nat} {f : Tx → Option (Tm × Tx)} (hf : ∀ r p, f r = some p → Gd m r p) {mark : Tx} (hm3 : mark.length = 3) : ∀ (k : Nat) (acc : List Tm) (r : Tx) (q : List Tm × Tx), loopP f mark k acc r = some q → (∀ t ∈ acc, ok nmOk t ∧ dep t ≤ m) →
    (∀ t ∈ q.1, ok nmOk t ∧ dep t ≤ m) ∧ wts q.1 + 11 * q.2.length ≤ wts acc + 11 * r.length ∧ acc.length ≤ q.1.length ∧ (r.take 3 = mark → acc.length < q.1.length)
  | 0, _, _, _, h, _ => by cases h
  | k + 1, acc, r, q, h, ha => by
    unfold loopP at h
    split at h
    · rename_i hm
      cases e : f (r.drop 3) with
      | none => rw [e] at h; cases h
      | some p =>
        rw [e] at h
        have g := hf _ _ e
        obtain ⟨h1, h2, h3, _⟩ := loop_gd hf hm3 k _ _ _ h (fun t ht => by
          rcases List.mem_append.mp ht with z | z
          · exact ha t z
          · rw [List.mem_singleton.mp z]; exact ⟨g.o, g.d⟩)
        have l2 := congrArg List.length hm
        rw [List.length_take, hm3] at l2
        have gw := g.w
        rw [List.length_drop] at gw
        rw [wts_app] at h2
        simp only [wts] at h2
        refine ⟨h1, by omega, by simp at h3; omega, fun _ => by simp at h3; omega⟩
    · rename_i hm
      cases h
      exact ⟨ha, Nat.le_refl _, Nat.le_refl _, fun z => absurd z hm⟩
theorem deps_le {m : Nat} : ∀ {ts : List Tm}, (∀ t ∈ ts, dep t ≤ m) → deps ts ≤ m
  | [], _ => Nat.zero_le _
  | t :: ts, h => Nat.max_le.mpr ⟨h t (by simp), deps_le fun x hx => h x (List.mem_cons_of_mem _ hx)⟩
theorem pP_gd {m : Nat} {f : Tx → Option (Tm × Tx)} (hf : ∀ r p, f r = some p → Gd m r p) {r : Tx} {p : Tm × Tx} (h : pP f r = some p) : ok nmOk p.1 ∧ dep p.1 ≤ m + 1 ∧ wt p.1 + 3 + 11 * p.2.length ≤ 11 * r.length + 11 := by
  unfold pP at h
  cases e : f r with
  | none => rw [e] at h; cases h
  | some q =>
    rw [e] at h
    have g := hf _ _ e
    dsimp only at h
    split at h
    · rename_i hm
      have hm3 : (q.2.take 3).length = 3 := by rcases hm with z | z <;> rw [z] <;> rfl
      cases e2 : loopP f (q.2.take 3) (q.2.length + 1) [q.1] q.2 with
      | none => rw [e2] at h; cases h
      | some z =>
        rw [e2] at h
        dsimp only at h
        obtain ⟨h1, h2, _, h3⟩ := loop_gd hf hm3 _ _ _ _ e2 (fun t ht => by rw [List.mem_singleton.mp ht]; exact ⟨g.o, g.d⟩)
        have h3 := h3 rfl
        have gw := g.w
        simp only [wts] at h2
        split at h
        · rename_i c1
          cases h
          have l := congrArg List.length (tail1 c1)
          simp only [List.length_cons] at l
          refine ⟨⟨by simp at h3; omega, oks_mem.mpr fun t ht => (h1 t ht).1⟩, ?_, ?_⟩
          · simp only [dep]
            have := deps_le (m := m) fun t ht => (h1 t ht).2
            omega
          · simp only [wt]
            omega
        · cases h
    · cases h
theorem pT_gd : ∀ (m : Nat) (r : Tx) (p : Tm × Tx), pT m r = some p → Gd m r p
  | 0, r, p, h => by
    unfold pT at h
    split at h
    · cases h
    · exact pW_gd h
  | m + 1, r, p, h => by
    unfold pT at h
    split at h
    · rename_i c1
      cases e : pT m (r.drop 1) with
      | none => rw [e] at h; cases h
      | some q =>
        rw [e] at h
        cases h
        have g := pT_gd m _ _ e
        have l := congrArg List.length (tail1 c1)
        simp only [List.length_cons] at l
        have gw := g.w
        exact ⟨g.o, by simp only [dep]; have := g.d; omega, by simp only [wt]; omega⟩
    · split at h
      · rename_i c1
        obtain ⟨h1, h2, h3⟩ := pP_gd (pT_gd m) h
        have l := congrArg List.length (tail1 c1)
        simp only [List.length_cons] at l
        exact ⟨h1, h2, by omega⟩
      · have g := pW_gd h
        exact ⟨g.o, Nat.le_trans g.d (Nat.zero_le _), g.w⟩
theorem ev_chain {F : Fn} {o o' : Cp} {a b c : Ex} {σ : Sg} : ev F (.chain o o' a b c) σ = (pre none (ev F a σ) σ).bind fun da σ1 => (pre none (ev F b σ1) σ1).bind fun db σ2 => match da, db with
    | some x, some y => match cmpD o x y with
      | some true => (pre none (ev F c σ2) σ2).bind fun dc σ3 => match dc with
        | some z => (lift σ3 (cmpD o' y z)).bind fun b σ4 => .ok (.val (.bl b)) σ4
        | none => .bad
      | some false => .ok (.val (.bl false)) σ2
      | none => .bad
    | _, _ => .bad := rfl
theorem wh_succ {t : Sg → R Bool} {f : Sg → R Fl} {n : Nat} {σ : Sg} : whLoop t f (n + 1) σ = (t σ).bind fun b σ1 => if b = true then (f σ1).bind fun o σ2 => match o with
    | .nx => whLoop t f n σ2
    | .ret v => .ok (.ret v) σ2
    else .ok .nx σ1 := rfl
theorem at_app (q : Tx) (c : Nat) (r : Tx) : at? (q ++ c :: r) ((q.length : Nat) : Int) = some c := by
  rw [at_nat]; simp
theorem cut_mid {q r : Tx} {i j : Int} (k : Nat) (hi : i = (q.length : Nat)) (hj : j = (q.length : Nat) + (k : Nat)) : cut (q ++ r) (some i) (some j) = r.take k := by
  subst hi
  rw [show j = ((q.length + k : Nat) : Int) by omega]
  unfold cut
  rw [HT.sIx_nat, HT.sIx_nat, List.length_append]
  have e1 : min q.length (q.length + r.length) = q.length := by omega
  rw [e1, List.drop_left]
  by_cases c : k ≤ r.length
  · rw [show min (q.length + k) (q.length + r.length) - q.length = k by omega]
  · rw [show min (q.length + k) (q.length + r.length) - q.length = r.length by omega, List.take_length, List.take_of_length_le (by omega)]
def outT (x : Tx) : Option (Tm × Tx) → FR
  | none => .exc 135 []
  | some p => .ok (.val (.tup [enc p.1, .int ((x.length - p.2.length : Nat) : Int)])) []
noncomputable def wT (F : Fn) : Sg → R Bool := fun σ => tb (ev F (.and [.cmp .lt (.var 2) (.bf .len [.var 0]), .chain .le .le (.c (.str [97])) (.ix (.var 0) (.var 2)) (.c (.str [122]))]) σ)
noncomputable def wB (F : Fn) (N : Nat) : Sg → R Fl := fun σ => exs F N b_word_at_1 σ
theorem ex_w1 {F : Fn} {σ : Sg} : ex F N (.wh (.and [.cmp .lt (.var 2) (.bf .len [.var 0]), .chain .le .le (.c (.str [97])) (.ix (.var 0) (.var 2)) (.c (.str [122]))]) b_word_at_1) σ = whLoop (wT F) (wB F N) N σ := rfl
theorem word_loop (F : Fn) (o1 o3 : Option O) : ∀ (r q : Tx) (k : Nat), r.length < k → (q ++ r).length ≤ 3000 →
    whLoop (wT F) (wB F N) k [some (.val (.str (q ++ r))), o1, some (.val (.int (q.length : Nat))), o3] =
      .ok .nx [some (.val (.str (q ++ r))), o1, some (.val (.int ((q ++ r.takeWhile isL).length : Nat))), o3]
  | [], q, k, hk, hl => by
    obtain ⟨k, rfl⟩ : ∃ j, k = j + 1 := ⟨k - 1, by omega⟩
    rw [wh_succ]
    have z : q.length ≤ 16777216 := by simp at hl; omega
    unfold wT
    (open PV.E in simp [getO, Ex.isNo, isTy, dTy, SZ, z])
  | c :: r, q, k, hk, hl => by
    simp only [List.length_cons, List.length_append] at hk hl
    obtain ⟨k, rfl⟩ : ∃ j, k = j + 1 := ⟨k - 1, by omega⟩
    rw [wh_succ]
    have z : q.length + (r.length + 1) ≤ 16777216 := by omega
    have z2 : (q.length : Int) < (q.length : Int) + ((r.length : Int) + 1) := by omega
    have ea := at_app q c r
    by_cases c1 : isL c = true
    · have c2 := c1
      simp only [isL, Bool.and_eq_true, decide_eq_true_eq] at c2
      have ih := word_loop F o1 o3 r (q ++ [c]) k (by omega) (by simp; omega)
      have n1 : ¬ c < 97 := by omega
      have n2 : ¬ 122 < c := by omega
      have ex : q ++ [c] ++ r = q ++ c :: r := by simp
      have el : (((q ++ [c]).length : Nat) : Int) = (q.length : Int) + 1 := by simp
      rw [ex, el] at ih
      have et : (c :: r).takeWhile isL = c :: r.takeWhile isL := by rw [List.takeWhile_cons, c1]; rfl
      rw [et]
      have e2 : ((q ++ [c] ++ r.takeWhile isL).length) = (q ++ c :: r.takeWhile isL).length := by simp
      rw [e2] at ih
      generalize (q ++ c :: r.takeWhile isL).length = L at *
      generalize hX : q ++ c :: r = X at *
      have zX : X.length = q.length + (r.length + 1) := by rw [← hX]; simp
      generalize whLoop _ _ k = W at *
      unfold wT wB
      (open PV.E in simp [getO, Ex.isNo, isTy, dTy, SZ, ev_chain, b_word_at_1, ea, zX, z, z2, one_lt, n1, n2, ih])
    · have et : (c :: r).takeWhile isL = [] := by rw [List.takeWhile_cons]; simp [c1]
      rw [et, List.append_nil]
      generalize hX : q ++ c :: r = X at *
      have zX : X.length = q.length + (r.length + 1) := by rw [← hX]; simp
      simp only [isL, Bool.and_eq_true, decide_eq_true_eq] at c1
      generalize whLoop _ _ k = W at *
      unfold wT
      by_cases n1 : c < 97
      · (open PV.E in simp [getO, Ex.isNo, isTy, dTy, SZ, ev_chain, b_word_at_1, ea, zX, z, z2, one_lt, n1])
      · have n2 : 122 < c := by omega
        (open PV.E in simp [getO, Ex.isNo, isTy, dTy, SZ, ev_chain, b_word_at_1, ea, zX, z, z2, one_lt, n1, n2])
theorem take_of {w v r : Tx} (e : w ++ v = r) : r.take w.length = w := by subst e; exact List.take_left
theorem word_run (F : Fn) (h1 : ∀ s : Tx, s.length ≤ 16777216 → F 1 [.val (.str s)] = .ok (.val (.bl (isNm s))) []) {q r : Tx} (hl : (q ++ r).length ≤ 3000) (hN : 3001 ≤ N) :
    runDf F N d_word_at [.val (.str (q ++ r)), .val (.int (q.length : Nat))] = outT (q ++ r) (pW r) := by
  have hr : r.length < N := by simp at hl; omega
  have L := word_loop (N := N) F (some (.val (.int (q.length : Nat)))) none r q N hr hl
  have sp := span_len r
  have z : (q ++ r).length ≤ 16777216 := by omega
  have cw := cut_mid (q := q) (r := r) (r.takeWhile isL).length rfl rfl
  have tk : r.take (r.takeWhile isL).length = r.takeWhile isL := take_of List.takeWhile_append_dropWhile
  rw [tk] at cw
  have e1 := h1 (r.takeWhile isL) (by simp at hl; omega)
  have eo : (((q ++ r).length - (r.dropWhile isL).length : Nat) : Int) = (q.length : Int) + ((r.takeWhile isL).length : Nat) := by
    rw [List.length_append]; omega
  have en : (((q ++ r.takeWhile isL).length : Nat) : Int) = (q.length : Int) + ((r.takeWhile isL).length : Nat) := by simp
  rw [en] at L
  unfold pW outT
  generalize hw : r.takeWhile isL = w at *
  generalize r.dropWhile isL = v at *
  generalize q ++ r = X at *
  by_cases c1 : w = [110, 111, 110, 101]
  · subst c1
    have cw' : cut X (some (q.length : Int)) (some ((q.length : Int) + 4)) = [110, 111, 110, 101] := cw
    have eo' : ((X.length - v.length : Nat) : Int) = (q.length : Int) + 4 := eo
    rw [if_pos rfl]
    dsimp only
    rw [eo']
    (open PV.E in simp [getO, Ex.isNo, isTy, dTy, SZ, -Jk, d_word_at, ex_w1, L, z, cw', enc])
  · by_cases c2 : w = [97, 108, 108]
    · subst c2
      have cw' : cut X (some (q.length : Int)) (some ((q.length : Int) + 3)) = [97, 108, 108] := cw
      have eo' : ((X.length - v.length : Nat) : Int) = (q.length : Int) + 3 := eo
      rw [if_neg c1, if_pos rfl]
      dsimp only
      rw [eo']
      (open PV.E in simp [getO, Ex.isNo, isTy, dTy, SZ, -Jk, d_word_at, ex_w1, L, z, cw', enc])
    · rw [if_neg c1, if_neg c2]
      by_cases c3 : isNm w = true
      · rw [c3] at e1
        rw [if_pos c3]
        dsimp only
        rw [eo]
        (open PV.E in simp [getO, Ex.isNo, isTy, dTy, SZ, -Jk, d_word_at, ex_w1, L, z, cw, enc, c1, c2, e1])
      · rw [if_neg c3]
        have c3 : isNm w = false := by simpa using c3
        rw [c3] at e1
        (open PV.E in simp [getO, Ex.isNo, isTy, dTy, SZ, -Jk, d_word_at, ex_w1, L, z, cw, enc, c1, c2, e1])
noncomputable def vT (F : Fn) : Sg → R Bool := fun σ => tb (ev F (.cmp .eq (.sl (.var 0) (.var 1) (.bin .add (.var 1) (.c (.int 3)))) (.var 5)) σ)
noncomputable def vB (F : Fn) (N : Nat) : Sg → R Fl := fun σ => exs F N b_parts_at_1 σ
theorem ex_w2 {F : Fn} {σ : Sg} : ex F N (.wh (.cmp .eq (.sl (.var 0) (.var 1) (.bin .add (.var 1) (.c (.int 3)))) (.var 5)) b_parts_at_1) σ = whLoop (vT F) (vB F N) N σ := rfl
def Parses (F : Fn) (x : Tx) (m : Nat) (f : Tx → Option (Tm × Tx)) : Prop := ∀ q r : Tx, x = q ++ r → F 129 [.val (.str x), .val (.int (q.length : Nat)), .val (.int (m : Nat))] = outT x (f r)
theorem parts_loop (F : Fn) {x : Tx} (hx : x.length ≤ 3000) {m : Nat} {f : Tx → Option (Tm × Tx)} (hf : Suf f) (P : Parses F x m f) {mark : Tx} (hm3 : mark.length = 3) (o3 : Option O) :
    ∀ (j k : Nat) (acc : List Tm) (q r : Tx) (o6 : Option O), r.length < j → r.length < k → x = q ++ r → acc.length + r.length ≤ 4000 →
    match loopP f mark j acc r with
    | none => ∃ σ', whLoop (vT F) (vB F N) k [some (.val (.str x)), some (.val (.int (q.length : Nat))), some (.val (.int (m : Nat))), o3, some (.lst (acc.map enc)), some (.val (.str mark)), o6] = .exc 135 σ'
    | some p => ∃ q' o6', x = q' ++ p.2 ∧ whLoop (vT F) (vB F N) k [some (.val (.str x)), some (.val (.int (q.length : Nat))), some (.val (.int (m : Nat))), o3, some (.lst (acc.map enc)), some (.val (.str mark)), o6] =
        .ok .nx [some (.val (.str x)), some (.val (.int (q'.length : Nat))), some (.val (.int (m : Nat))), o3, some (.lst (p.1.map enc)), some (.val (.str mark)), o6']
  | 0, _, _, _, _, _, h, _, _, _ => absurd h (by omega)
  | j + 1, k, acc, q, r, o6, hj, hk, hq, hl => by
    obtain ⟨k, rfl⟩ : ∃ i, k = i + 1 := ⟨k - 1, by omega⟩
    have z : x.length ≤ 16777216 := by omega
    have cw : cut x (some (q.length : Int)) (some ((q.length : Int) + 3)) = r.take 3 := by
      rw [hq]; exact cut_mid 3 rfl rfl
    rw [wh_succ]
    unfold loopP
    by_cases c : r.take 3 = mark
    · rw [if_pos c]
      rw [c] at cw
      have l2 := congrArg List.length c
      rw [List.length_take, hm3] at l2
      have eq3 : x = (q ++ r.take 3) ++ r.drop 3 := by rw [List.append_assoc, List.take_append_drop]; exact hq
      have e := P _ _ eq3
      have el : (((q ++ r.take 3).length : Nat) : Int) = (q.length : Int) + 3 := by rw [List.length_append, List.length_take]; omega
      rw [el] at e
      have za : acc.length < 16777216 := by omega
      cases ef : f (r.drop 3) with
      | none =>
        rw [ef] at e
        simp only [outT] at e
        refine ⟨[some (.val (.str x)), some (.val (.int (q.length : Nat))), some (.val (.int (m : Nat))), o3, some (.lst (acc.map enc)), some (.val (.str mark)), o6], ?_⟩
        generalize whLoop _ _ k = W at *
        unfold vT vB
        (open PV.E in simp [getO, Ex.isNo, isTy, dTy, SZ, z, cw, b_parts_at_1, e])
      | some p =>
        rw [ef] at e
        simp only [outT] at e
        obtain ⟨w, hw⟩ := hf _ _ ef
        have lw := congrArg List.length hw
        rw [List.length_drop, List.length_append] at lw
        have ex1 : x = (q ++ r.take 3 ++ w) ++ p.2 := by rw [eq3, hw]; simp
        have lx := congrArg List.length ex1
        rw [List.length_append] at lx
        have ep : ((x.length - p.2.length : Nat) : Int) = (((q ++ r.take 3 ++ w).length : Nat) : Int) := by omega
        rw [ep] at e
        have ih := parts_loop F hx hf P hm3 o3 j k (acc ++ [p.1]) (q ++ r.take 3 ++ w) p.2 (some (.val (.tup [enc p.1, .int ((q ++ r.take 3 ++ w).length : Nat)]))) (by omega) (by omega) ex1 (by simp; omega)
        have em : (acc ++ [p.1]).map enc = acc.map enc ++ [enc p.1] := by simp
        rw [em] at ih
        dsimp only
        generalize (q ++ r.take 3 ++ w).length = L at *
        have st : ((vT F [some (.val (.str x)), some (.val (.int (q.length : Nat))), some (.val (.int (m : Nat))), o3, some (.lst (acc.map enc)), some (.val (.str mark)), o6]).bind fun b σ1 => if b = true then (vB F N σ1).bind fun o σ2 => match o with
            | .nx => whLoop (vT F) (vB F N) k σ2
            | .ret v => .ok (.ret v) σ2
            else .ok .nx σ1) = whLoop (vT F) (vB F N) k [some (.val (.str x)), some (.val (.int (L : Nat))), some (.val (.int (m : Nat))), o3, some (.lst (acc.map enc ++ [enc p.1])), some (.val (.str mark)), some (.val (.tup [enc p.1, .int (L : Nat)]))] := by
          clear ih
          generalize whLoop _ _ k = W at *
          unfold vT vB
          (open PV.E in simp [getO, Ex.isNo, isTy, dTy, SZ, z, cw, b_parts_at_1, e, za, at0, at1])
        rw [st]
        exact ih
    · rw [if_neg c]
      refine ⟨q, o6, hq, ?_⟩
      generalize whLoop _ _ k = W at *
      unfold vT
      (open PV.E in simp [getO, Ex.isNo, isTy, dTy, SZ, z, cw, c])
theorem parts_run (F : Fn) {x : Tx} (hx : x.length ≤ 3000) (hN : 3001 ≤ N) {m : Nat} {f : Tx → Option (Tm × Tx)} (hf : Suf f) (P : Parses F x m f) {q r : Tx} (hq : x = q ++ r) :
    runDf F N d_parts_at [.val (.str x), .val (.int (q.length : Nat)), .val (.int (m : Nat))] = outT x (pP f r) := by
  have z : x.length ≤ 16777216 := by omega
  have e := P q r hq
  unfold pP
  cases ef : f r with
  | none =>
    rw [ef] at e
    simp only [outT] at e
    (open PV.E in simp [getO, Ex.isNo, isTy, dTy, SZ, d_parts_at, e, outT])
  | some p =>
    rw [ef] at e
    simp only [outT] at e
    obtain ⟨w, hw⟩ := hf _ _ ef
    have ex1 : x = (q ++ w) ++ p.2 := by rw [hq, hw, List.append_assoc]
    have lx := congrArg List.length ex1
    rw [List.length_append] at lx
    have ep : ((x.length - p.2.length : Nat) : Int) = (((q ++ w).length : Nat) : Int) := by omega
    rw [ep] at e
    have cw : cut x (some ((q ++ w).length : Int)) (some (((q ++ w).length : Int) + 3)) = p.2.take 3 := by
      conv => lhs; rw [ex1]
      exact cut_mid 3 rfl rfl
    dsimp only
    by_cases c : p.2.take 3 = [32, 38, 32] ∨ p.2.take 3 = [32, 124, 32]
    · rw [if_pos c]
      have hm3 : (p.2.take 3).length = 3 := by rcases c with z | z <;> rw [z] <;> rfl
      have lp := parts_loop (N := N) F hx hf P hm3 (some (.val (.tup [enc p.1, .int ((q ++ w).length : Nat)]))) (p.2.length + 1) N [p.1] (q ++ w) p.2 none (by omega) (by omega) ex1 (by simp; omega)
      simp only [List.map_cons, List.map_nil] at lp
      have hn1 : ¬ (¬ p.2.take 3 = [32, 38, 32] ∧ ¬ p.2.take 3 = [32, 124, 32]) := by
        rcases c with z | z
        · exact fun h => h.1 z
        · exact fun h => h.2 z
      cases el : loopP f (p.2.take 3) (p.2.length + 1) [p.1] p.2 with
      | none =>
        rw [el] at lp
        obtain ⟨σ', lp⟩ := lp
        dsimp only
        generalize hmk : p.2.take 3 = mark at *
        generalize (q ++ w).length = L at *
        rcases c with c | c <;> subst c <;> (open PV.E in simp [getO, Ex.isNo, isTy, dTy, SZ, -Jk, d_parts_at, ex_w2, e, at0, at1, z, cw, lp, outT])
      | some u =>
        rw [el] at lp
        obtain ⟨q', o6', hx', lp⟩ := lp
        obtain ⟨_, _, hlen⟩ := loop_suf hf hm3 _ _ _ _ el
        dsimp only
        have cw2 : cut x (some (q'.length : Int)) (some ((q'.length : Int) + 1)) = u.2.take 1 := by
          conv => lhs; rw [hx']
          exact cut_mid 1 rfl rfl
        have lx' := congrArg List.length hx'
        rw [List.length_append] at lx'
        simp only [List.length_cons, List.length_nil] at hlen
        have zu : 1 + u.1.length ≤ 16777216 := by omega
        by_cases c1 : u.2.take 1 = [41]
        · rw [if_pos c1]
          rw [c1] at cw2
          have lu := congrArg List.length (tail1 c1)
          simp only [List.length_cons] at lu
          have ep2 : ((x.length - (u.2.drop 1).length : Nat) : Int) = (q'.length : Int) + 1 := by omega
          simp only [outT]
          rw [ep2]
          generalize hmk : p.2.take 3 = mark at *
          generalize (q ++ w).length = L at *
          rcases c with c | c
          · subst c
            (open PV.E in simp [getO, Ex.isNo, isTy, dTy, SZ, -Jk, d_parts_at, ex_w2, e, at0, at1, z, cw, lp, cw2, enc, encs_map, opW, zu])
          · subst c
            (open PV.E in simp [getO, Ex.isNo, isTy, dTy, SZ, -Jk, d_parts_at, ex_w2, e, at0, at1, z, cw, lp, cw2, enc, encs_map, opW, zu])
        · rw [if_neg c1]
          simp only [outT]
          generalize hmk : p.2.take 3 = mark at *
          generalize (q ++ w).length = L at *
          rcases c with c | c <;> subst c <;> (open PV.E in simp [getO, Ex.isNo, isTy, dTy, SZ, -Jk, d_parts_at, ex_w2, e, at0, at1, z, cw, lp, cw2, c1])
    · rw [if_neg c]
      simp only [not_or] at c
      obtain ⟨c1, c2⟩ := c
      simp only [outT]
      generalize (q ++ w).length = L at *
      (open PV.E in simp [getO, Ex.isNo, isTy, dTy, SZ, -Jk, d_parts_at, ex_w2, e, at0, at1, z, cw, c1, c2])
theorem term_run {T : Nat → Df} (h1 : T 1 = d_is_name) (h127 : T 127 = d_word_at) (h128 : T 128 = d_parts_at) (h129 : T 129 = d_term_at) (hN : 3001 ≤ N) {x : Tx} (hx : x.length ≤ 3000) : ∀ (m n : Nat), 2 * m + 3 ≤ n → Parses (run T N n) x m (pT m)
  | m, 0, h => absurd h (by omega)
  | m, 1, h => absurd h (by omega)
  | m, 2, h => absurd h (by omega)
  | m, n + 3, h => by
    intro q r hq
    show runDf (run T N (n + 2)) N (T 129) _ = _
    rw [h129]
    have z : x.length ≤ 16777216 := by omega
    have cw : cut x (some (q.length : Int)) (some ((q.length : Int) + 1)) = r.take 1 := by
      rw [hq]; exact cut_mid 1 rfl rfl
    have ew : run T N (n + 2) 127 [.val (.str x), .val (.int (q.length : Nat))] = outT x (pW r) := by
      show runDf (run T N (n + 1)) N (T 127) _ = _
      rw [h127]
      subst hq
      exact word_run (N := N) (run T N (n + 1)) (fun s hs => by
        show runDf (run T N n) N (T 1) _ = _
        rw [h1]; exact is_name_ok (N := N) _ s hs) hx hN
    by_cases c1 : r.take 1 = [33] ∨ r.take 1 = [40]
    · cases m with
      | zero =>
        have : pT 0 r = none := by unfold pT; rw [if_pos c1]
        rw [this]
        simp only [outT]
        clear ew
        generalize run T N (n + 2) = F at *
        rcases c1 with c1 | c1 <;> rw [c1] at cw <;> (open PV.E in simp [getO, Ex.isNo, isTy, dTy, SZ, d_term_at, z, cw])
      | succ m =>
        have mm : ((m + 1 : Nat) : Int) = (m : Int) + 1 := by omega
        have m1 : (m : Int) + 1 - 1 = (m : Int) := by omega
        have m0 : ¬ (m : Int) + 1 = 0 := by omega
        have el : ∀ c : Nat, r = c :: r.drop 1 → x = (q ++ [c]) ++ r.drop 1 := by
          intro c e
          rw [hq, List.append_assoc]
          exact congrArg (q ++ ·) e
        have ei : ∀ c : Nat, (((q ++ [c]).length : Nat) : Int) = (q.length : Int) + 1 := fun c => by simp
        by_cases c2 : r.take 1 = [33]
        · have hr := tail1 c2
          have ih := term_run h1 h127 h128 h129 hN hx m (n + 2) (by omega) (q ++ [33]) (r.drop 1) (el 33 hr)
          rw [ei] at ih
          have : pT (m + 1) r = (match pT m (r.drop 1) with | none => none | some p => some (.not p.1, p.2)) := by
            conv => lhs; unfold pT
            rw [if_pos c2]
          rw [this]
          rw [c2] at cw
          clear ew
          rw [mm]
          generalize run T N (n + 2) = F at *
          cases e : pT m (r.drop 1) with
          | none =>
            rw [e] at ih
            simp only [outT] at ih ⊢
            (open PV.E in simp [getO, Ex.isNo, isTy, dTy, SZ, d_term_at, z, cw, m0, m1, ih])
          | some p =>
            rw [e] at ih
            simp only [outT] at ih ⊢
            generalize ((x.length - p.2.length : Nat) : Int) = L at *
            (open PV.E in simp [getO, Ex.isNo, isTy, dTy, SZ, d_term_at, z, cw, m0, m1, ih, at0, at1, enc])
        · have c3 : r.take 1 = [40] := by
            rcases c1 with c1 | c1
            · exact absurd c1 c2
            · exact c1
          have hr := tail1 c3
          have hp : run T N (n + 2) 128 [.val (.str x), .val (.int ((q ++ [40]).length : Nat)), .val (.int (m : Nat))] = outT x (pP (pT m) (r.drop 1)) := by
            show runDf (run T N (n + 1)) N (T 128) _ = _
            rw [h128]
            exact parts_run (N := N) _ hx hN (pT_suf m) (term_run h1 h127 h128 h129 hN hx m (n + 1) (by omega)) (el 40 hr)
          rw [ei] at hp
          have : pT (m + 1) r = pP (pT m) (r.drop 1) := by
            conv => lhs; unfold pT
            rw [if_neg c2, if_pos c3]
          rw [this]
          rw [c3] at cw
          clear ew
          rw [mm]
          generalize run T N (n + 2) = F at *
          cases e : pP (pT m) (r.drop 1) with
          | none =>
            rw [e] at hp
            simp only [outT] at hp ⊢
            (open PV.E in simp [getO, Ex.isNo, isTy, dTy, SZ, d_term_at, z, cw, m0, m1, hp])
          | some p =>
            rw [e] at hp
            simp only [outT] at hp ⊢
            generalize ((x.length - p.2.length : Nat) : Int) = L at *
            (open PV.E in simp [getO, Ex.isNo, isTy, dTy, SZ, d_term_at, z, cw, m0, m1, hp])
    · have c2 := not_or.mp c1
      have : pT m r = pW r := by
        cases m with
        | zero => unfold pT; rw [if_neg c1]
        | succ m => unfold pT; rw [if_neg c2.1, if_neg c2.2]
      rw [this]
      obtain ⟨c2, c3⟩ := c2
      generalize run T N (n + 2) = F at *
      cases e : pW r with
      | none =>
        rw [e] at ew
        simp only [outT] at ew ⊢
        (open PV.E in simp [getO, Ex.isNo, isTy, dTy, SZ, d_term_at, z, cw, c2, c3, ew])
      | some p =>
        rw [e] at ew
        simp only [outT] at ew ⊢
        generalize ((x.length - p.2.length : Nat) : Int) = L at *
        (open PV.E in simp [getO, Ex.isNo, isTy, dTy, SZ, d_term_at, z, cw, c2, c3, ew])
def rd (x : Tx) : Option Tm := if 400 < x.length then none else match pT 20 x with
  | none => none
  | some p => if p.2 ≠ [] ∨ 60 < lfT p.1 then none else some p.1
def outM : Option Tm → FR
  | none => .exc 135 []
  | some t => .ok (.val (enc t)) []
theorem read_run {T : Nat → Df} (h1 : T 1 = d_is_name) (h19 : T 19 = d_is_leaf) (h108 : T 108 = d_leaves) (h127 : T 127 = d_word_at) (h128 : T 128 = d_parts_at) (h129 : T 129 = d_term_at) (h130 : T 130 = d_read) (hN : 3001 ≤ N) (x : Tx) (hx : x.length ≤ 3000) (n : Nat) (hn : 43 ≤ n) :
    run T N (n + 1) 130 [.val (.str x)] = outM (rd x) := by
  show runDf (run T N n) N (T 130) _ = _
  rw [h130]
  have z : x.length ≤ 16777216 := by omega
  unfold rd
  by_cases c : 400 < x.length
  · rw [if_pos c]
    have cI : (400 : Int) < (x.length : Int) := by omega
    simp only [outM]
    (open PV.E in simp [getO, Ex.isNo, isTy, dTy, SZ, d_read, z, cI])
  · rw [if_neg c]
    have cI : ¬ (400 : Int) < (x.length : Int) := by omega
    have e := term_run h1 h127 h128 h129 hN hx 20 n (by omega) [] x rfl
    have e' : run T N n 129 [.val (.str x), .val (.int 0), .val (.int 20)] = _ := e
    cases ep : pT 20 x with
    | none =>
      rw [ep] at e'
      simp only [outT, outM] at e' ⊢
      generalize run T N n = F at *
      (open PV.E in simp [getO, Ex.isNo, isTy, dTy, SZ, d_read, z, cI, e'])
    | some p =>
      rw [ep] at e'
      have g := pT_gd 20 x p ep
      have gw := g.w
      have lv := leaves_run (N := N) h108 h19 n p.1 (by have := g.d; omega) (by omega)
      obtain ⟨w, hw⟩ := pT_suf 20 x p ep
      have lw := congrArg List.length hw
      rw [List.length_append] at lw
      dsimp only
      simp only [outT] at e'
      generalize run T N n = F at *
      by_cases c1 : p.2 = []
      · have el : ((x.length - p.2.length : Nat) : Int) = (x.length : Int) := by rw [c1]; rfl
        rw [el] at e'
        by_cases c2 : 60 < lfT p.1
        · rw [if_pos (.inr c2)]
          have c2' : (60 : Int) < (lfT p.1 : Int) := by omega
          simp only [outM]
          (open PV.E in simp [getO, Ex.isNo, isTy, dTy, SZ, d_read, z, cI, e', at0, at1, lv, c2'])
        · rw [if_neg (not_or.mpr ⟨fun h => h c1, c2⟩)]
          have c2' : ¬ (60 : Int) < (lfT p.1 : Int) := by omega
          simp only [outM]
          (open PV.E in simp [getO, Ex.isNo, isTy, dTy, SZ, d_read, z, cI, e', at0, at1, lv, c2'])
      · rw [if_pos (.inl c1)]
        have : p.2.length ≠ 0 := fun h => c1 (List.eq_nil_of_length_eq_zero h)
        have el : ¬ ((x.length - p.2.length : Nat) : Int) = (x.length : Int) := by omega
        simp only [outM]
        generalize ((x.length - p.2.length : Nat) : Int) = L at *
        (open PV.E in simp [getO, Ex.isNo, isTy, dTy, SZ, d_read, z, cI, e', at0, at1, el])
end TP
set_option maxRecDepth 100000
set_option maxHeartbeats 4000000
set_option pp.maxSteps 600
namespace TP
open PV GV
open TM (Tm enc encs encs_map dep deps opW nmOk ok oks oks_mem dep_mem at0 at1 at2 wt wts)
open K05 (shw shws shws_map sep sep_len join_flat shw_len shwS shwR encS encR Say)
variable {N : Nat}
theorem spl_mem (S : Tx) : ∀ (l : Tx) (k : Nat) (acc y : Tx), y ∈ TL.spl S k acc l → y.length ≤ acc.length + l.length
  | [], k, acc, y, h => by
    rw [TL.spl_nil, List.mem_singleton] at h
    rw [h]; simp
  | c :: r, k + 1, acc, y, h => by
    have := spl_mem S r k acc y h
    simp; omega
  | c :: r, 0, acc, y, h => by
    by_cases hp : TL.pre S (c :: r) = true
    · rw [TL.spl_hit hp] at h
      rcases List.mem_cons.mp h with z | z
      · rw [z]; simp
      · have := spl_mem S r _ _ y z
        simp at this ⊢; omega
    · rw [TL.spl_miss (by simpa using hp)] at h
      have := spl_mem S r _ _ y h
      simp at this ⊢; omega
theorem no_pre {s0 s1 : Nat} {S p rest : Tx} (hne : s0 ≠ s1) (h : s1 ∉ p) : ∀ i, i < p.length → TL.pre (s0 :: s1 :: S) ((p ++ (s0 :: s1 :: S ++ rest)).drop i) = false := fun i hi => by
  cases e : TL.pre (s0 :: s1 :: S) ((p ++ (s0 :: s1 :: S ++ rest)).drop i) with
  | false => rfl
  | true =>
    exfalso
    have e1 : ((p ++ (s0 :: s1 :: S ++ rest)).drop i).take (s0 :: s1 :: S).length = s0 :: s1 :: S := eq_of_beq e
    have e2 := congrArg (·[1]?) e1
    simp only [List.length_cons, List.getElem?_cons_succ, List.getElem?_cons_zero] at e2
    rw [List.getElem?_take_of_lt (by omega), List.getElem?_drop] at e2
    by_cases c : i + 1 < p.length
    · rw [List.getElem?_append_left c] at e2
      exact h (List.mem_of_getElem? e2)
    · rw [List.getElem?_append_right (by omega), show i + 1 - p.length = 0 by omega] at e2
      simp at e2
      exact hne e2
theorem no_preL {s0 s1 : Nat} {S p : Tx} (h : s1 ∉ p) : ∀ i, i < p.length → TL.pre (s0 :: s1 :: S) (p.drop i) = false := fun i hi => by
  cases e : TL.pre (s0 :: s1 :: S) (p.drop i) with
  | false => rfl
  | true =>
    exfalso
    have e1 : (p.drop i).take (s0 :: s1 :: S).length = s0 :: s1 :: S := eq_of_beq e
    have e2 := congrArg (·[1]?) e1
    simp only [List.length_cons, List.getElem?_cons_succ, List.getElem?_cons_zero] at e2
    rw [List.getElem?_take_of_lt (by omega), List.getElem?_drop] at e2
    exact h (List.mem_of_getElem? e2)
def rdS (x : Tx) : Option Say := if 900 < x.length then none else match TL.spl [32, 60, 32] 0 [] x with
  | [a, b] => (match rd a, rd b with
    | some s, some t => some (s, t)
    | _, _ => none)
  | _ => none
def outS : Option Say → FR
  | none => .exc 135 []
  | some s => .ok (.val (encS s)) []
theorem say_run (F : Fn) (hF : ∀ y : Tx, y.length ≤ 3000 → F 130 [.val (.str y)] = outM (rd y)) (x : Tx) (hx : x.length ≤ 3000) : runDf F N d_read_saying [.val (.str x)] = outS (rdS x) := by
  have z : x.length ≤ 16777216 := by omega
  unfold rdS
  by_cases c : 900 < x.length
  · rw [if_pos c]
    have cI : (900 : Int) < (x.length : Int) := by omega
    simp only [outS]
    (open PV.E in simp [getO, Ex.isNo, isTy, dTy, SZ, d_read_saying, z, cI])
  · rw [if_neg c]
    have cI : ¬ (900 : Int) < (x.length : Int) := by omega
    have sp : mtD .split (.str x) [.str [32, 60, 32]] = some (.lst ((TL.spl [32, 60, 32] 0 [] x).map .str)) := by
      show (if _ then _ else _) = _
      rw [if_pos ⟨rfl, rfl, by show _ ≤ 16777216; omega⟩]
    have hm := spl_mem [32, 60, 32] x 0 []
    generalize TL.spl [32, 60, 32] 0 [] x = L at *
    match L, hm, sp with
    | [], hm, sp => simp only [outS]; (open PV.E in simp [getO, Ex.isNo, isTy, dTy, SZ, d_read_saying, z, cI, sp, recvOk])
    | [a], hm, sp => simp only [outS]; (open PV.E in simp [getO, Ex.isNo, isTy, dTy, SZ, d_read_saying, z, cI, sp, recvOk])
    | [a, b], hm, sp =>
      have ea := hF a (by have := hm a (by simp); simp at this; omega)
      have eb := hF b (by have := hm b (by simp); simp at this; omega)
      dsimp only
      cases ra : rd a with
      | none =>
        rw [ra] at ea
        simp only [outS, outM] at *
        (open PV.E in simp [getO, Ex.isNo, isTy, dTy, SZ, d_read_saying, z, cI, sp, recvOk, at0, at1, ea])
      | some s =>
        cases rb : rd b with
        | none =>
          rw [ra] at ea
          rw [rb] at eb
          simp only [outS, outM] at *
          (open PV.E in simp [getO, Ex.isNo, isTy, dTy, SZ, d_read_saying, z, cI, sp, recvOk, at0, at1, ea, eb])
        | some t =>
          rw [ra] at ea
          rw [rb] at eb
          simp only [outS, outM] at *
          (open PV.E in simp [getO, Ex.isNo, isTy, dTy, SZ, d_read_saying, z, cI, sp, recvOk, at0, at1, ea, eb, encS])
    | a :: b :: d :: r, hm, sp =>
      have c2 : ¬ ((r.length : Int) + 1 + 1 + 1 = 2) := by omega
      simp only [outS]
      (open PV.E in simp [getO, Ex.isNo, isTy, dTy, SZ, d_read_saying, z, cI, sp, recvOk, c2])
def rdL : List Tx → Option (List Say)
  | [] => some []
  | x :: xs => match rdS x, rdL xs with
    | some s, some ss => some (s :: ss)
    | _, _ => none
theorem rdL_all : ∀ {xs : List Tx} {ss : List Say}, rdL xs = some ss → (∀ x ∈ xs, ∃ s, rdS x = some s) ∧ ss = xs.map fun x => (rdS x).getD (.non, .non)
  | [], ss, h => by cases h; exact ⟨by simp, rfl⟩
  | x :: xs, ss, h => by
    unfold rdL at h
    cases e1 : rdS x with
    | none => rw [e1] at h; cases h
    | some s =>
      cases e2 : rdL xs with
      | none => rw [e1, e2] at h; cases h
      | some us =>
        rw [e1, e2] at h
        cases h
        obtain ⟨h1, h2⟩ := rdL_all e2
        refine ⟨fun y hy => ?_, by rw [h2, List.map_cons, e1]; rfl⟩
        rcases List.mem_cons.mp hy with z | z
        · exact ⟨s, by rw [z]; exact e1⟩
        · exact h1 y z
def rdR (x : Tx) : Option (List Say × Say) := if 3000 < x.length then none else match TL.spl [32, 61, 62, 32] 0 [] x with
  | [_] => (match rdS x with
    | some s => some ([], s)
    | none => none)
  | [a, b] => if 5 < (TL.spl [44, 32] 0 [] a).length then none else (match rdL (TL.spl [44, 32] 0 [] a), rdS b with
    | some ps, some s => some (ps, s)
    | _, _ => none)
  | _ => none
theorem rule_run (F : Fn) (hF : ∀ y : Tx, y.length ≤ 3000 → F 131 [.val (.str y)] = outS (rdS y)) (x : Tx) {ps : List Say} {s : Say} (h : rdR x = some (ps, s)) : runDf F N d_read_rule [.val (.str x)] = .ok (.val (encR ps s)) [] := by
  unfold rdR at h
  by_cases c : 3000 < x.length
  · rw [if_pos c] at h; cases h
  rw [if_neg c] at h
  have z : x.length ≤ 16777216 := by omega
  have cI : ¬ (3000 : Int) < (x.length : Int) := by omega
  have sp : mtD .split (.str x) [.str [32, 61, 62, 32]] = some (.lst ((TL.spl [32, 61, 62, 32] 0 [] x).map .str)) := by
    show (if _ then _ else _) = _
    rw [if_pos ⟨rfl, rfl, by show _ ≤ 16777216; omega⟩]
  have hm := spl_mem [32, 61, 62, 32] x 0 []
  generalize TL.spl [32, 61, 62, 32] 0 [] x = L at *
  match L, hm, sp, h with
  | [], hm, sp, h => cases h
  | [a], hm, sp, h =>
    dsimp only at h
    have e := hF x (by omega)
    cases e1 : rdS x with
    | none => rw [e1] at h; cases h
    | some t =>
      rw [e1] at h e
      cases h
      simp only [outS] at e
      (open PV.E in simp [getO, Ex.isNo, isTy, dTy, SZ, d_read_rule, z, cI, sp, recvOk, e, encR])
  | [a, b], hm, sp, h =>
    dsimp only at h
    have la := hm a (by simp)
    have lb := hm b (by simp)
    simp only [List.length_nil, Nat.zero_add] at la lb
    have sp2 : mtD .split (.str a) [.str [44, 32]] = some (.lst ((TL.spl [44, 32] 0 [] a).map .str)) := by
      show (if _ then _ else _) = _
      rw [if_pos ⟨rfl, rfl, by show _ ≤ 16777216; omega⟩]
    have hm2 := spl_mem [44, 32] a 0 []
    generalize TL.spl [44, 32] 0 [] a = Q at *
    split at h
    · cases h
    · rename_i c5
      cases e1 : rdL Q with
      | none => rw [e1] at h; cases h
      | some us =>
        cases e2 : rdS b with
        | none => rw [e1, e2] at h; cases h
        | some t =>
          rw [e1, e2] at h
          cases h
          have eb := hF b (by omega)
          rw [e2] at eb
          simp only [outS] at eb
          obtain ⟨h1, h2⟩ := rdL_all e1
          have c5I : ¬ (5 : Int) < (Q.length : Int) := by omega
          have hc := comp_map (F := F) (elt := .call 131 [.var 3]) (i := 3) (σ1 := [some (.val (.str x)), some (.val (.lst [.str a, .str b])), some (.val (.lst (Q.map .str))), none]) D.str (fun y => encS ((rdS y).getD (.non, .non))) Q (.inl rfl) (by simp) (by show _ ≤ 16777216; omega) (fun y hy => by
            have e := hF y (by have := hm2 y hy; simp at this; omega)
            obtain ⟨u, hu⟩ := h1 y hy
            rw [hu] at e ⊢
            simp only [outS, Option.getD_some] at e ⊢
            (open PV.E in simp [getO, Ex.isNo, isTy, dTy, SZ, e]))
          have eu : ps.map encS = Q.map fun y => encS ((rdS y).getD (.non, .non)) := by rw [h2, List.map_map]; rfl
          rw [← eu] at hc
          (open PV.E in simp [getO, Ex.isNo, isTy, dTy, SZ, d_read_rule, z, cI, sp, sp2, recvOk, at0, at1, c5I, hc, eb, encR])
  | a :: b :: d :: r, hm, sp, h => cases h
theorem span_app {w r : Tx} (hw : w.all isL = true) (hr : r.takeWhile isL = []) : (w ++ r).takeWhile isL = w ∧ (w ++ r).dropWhile isL = r := by
  have h1 : ∀ x ∈ w, isL x = true := List.all_eq_true.mp hw
  have h2 : (w ++ r).takeWhile isL = w := by rw [List.takeWhile_append_of_pos h1, hr, List.append_nil]
  refine ⟨h2, ?_⟩
  have := List.takeWhile_append_dropWhile (p := isL) (l := w ++ r)
  rw [h2] at this
  exact List.append_cancel_left this
theorem pT_word {m : Nat} {x : Tx} (h1 : x.take 1 ≠ [33]) (h2 : x.take 1 ≠ [40]) : pT m x = pW x := by
  cases m with
  | zero => unfold pT; rw [if_neg (not_or.mpr ⟨h1, h2⟩)]
  | succ m => unfold pT; rw [if_neg h1, if_neg h2]
theorem stop_flat (b : Bool) (ts : List Tm) (r : Tx) : ((shws ts).flatMap (sep b ++ ·) ++ 41 :: r).takeWhile isL = [] := by
  cases ts with
  | nil => rfl
  | cons t ts => cases b <;> rfl
mutual
theorem parse_shw : ∀ (t : Tm), ok nmOk t → ∀ (m : Nat), dep t ≤ m → ∀ r : Tx, r.takeWhile isL = [] → pT m (shw t ++ r) = some (t, r)
  | .non, _, m, _, r, hr => by
    have e := span_app (w := [110, 111, 110, 101]) (by decide) hr
    rw [show shw .non = [110, 111, 110, 101] from by simp [shw], pT_word (by simp) (by simp)]
    unfold pW
    rw [e.1, e.2]; rfl
  | .all, _, m, _, r, hr => by
    have e := span_app (w := [97, 108, 108]) (by decide) hr
    rw [show shw .all = [97, 108, 108] from by simp [shw], pT_word (by simp) (by simp)]
    unfold pW
    rw [e.1, e.2]; rfl
  | .name s, h, m, _, r, hr => by
    have hs : nmOk s := h
    obtain ⟨h1, h2⟩ := ok_isNm hs
    have e := span_app (w := s) h2 hr
    rw [show shw (.name s) = s from by simp [shw]]
    have hc : ∃ c u, s = c :: u := by
      cases s with
      | nil => have := hs.1; simp at this
      | cons c u => exact ⟨c, u, rfl⟩
    obtain ⟨c, u, hcu⟩ := hc
    have b := hs.2.2 c (by rw [hcu]; simp)
    have n1 : (s ++ r).take 1 ≠ [33] := by rw [hcu]; simp; omega
    have n2 : (s ++ r).take 1 ≠ [40] := by rw [hcu]; simp; omega
    rw [pT_word n1 n2]
    unfold pW
    rw [e.1, e.2, if_neg hs.strict.1, if_neg hs.strict.2, if_pos h1]
  | .not t, h, m, hd, r, hr => by
    obtain ⟨m, rfl⟩ : ∃ j, m = j + 1 := ⟨m - 1, by simp [dep] at hd; omega⟩
    have ih := parse_shw t h m (by simp [dep] at hd; omega) r hr
    rw [show shw (.not t) ++ r = 33 :: (shw t ++ r) from by simp [shw]]
    unfold pT
    rw [if_pos (by simp)]
    show (match pT m (shw t ++ r) with | none => none | some p => some (Tm.not p.1, p.2)) = _
    rw [ih]
  | .op b [], h, _, _, _, _ => by have := h.1; simp at this
  | .op b (t :: ts), h, m, hd, r, hr => by
    obtain ⟨m, rfl⟩ : ∃ j, m = j + 1 := ⟨m - 1, by simp [dep] at hd; omega⟩
    have hd' : max (dep t) (deps ts) + 1 ≤ m + 1 := hd
    have stop := stop_flat b ts r
    have ih := parse_shw t h.2.1 m (by omega) _ stop
    have hts : ts ≠ [] := by
      intro z
      rw [z] at h
      have := h.1
      simp at this
    have il := parse_loop b ts h.2.2 m (by omega) r (((shws ts).flatMap (sep b ++ ·) ++ 41 :: r).length + 1) [t] (Nat.lt_succ_self _)
    have et : ((shws ts).flatMap (sep b ++ ·) ++ 41 :: r).take 3 = sep b := by
      cases ts with
      | nil => exact absurd rfl hts
      | cons u us => cases b <;> rfl
    rw [show shw (.op b (t :: ts)) ++ r = 40 :: (shw t ++ ((shws ts).flatMap (sep b ++ ·) ++ 41 :: r)) from by simp [shw, shws, join_flat]]
    unfold pT
    rw [if_neg (by simp), if_pos (by simp)]
    show pP (pT m) (shw t ++ ((shws ts).flatMap (sep b ++ ·) ++ 41 :: r)) = _
    unfold pP
    rw [ih]
    dsimp only
    rw [et, il]
    cases b <;> rfl
theorem parse_loop (b : Bool) : ∀ (ts : List Tm), oks nmOk ts → ∀ (m : Nat), deps ts ≤ m → ∀ (r : Tx) (k : Nat) (acc : List Tm), ((shws ts).flatMap (sep b ++ ·) ++ 41 :: r).length < k →
    loopP (pT m) (sep b) k acc ((shws ts).flatMap (sep b ++ ·) ++ 41 :: r) = some (acc ++ ts, 41 :: r)
  | [], _, m, _, r, k, acc, hk => by
    obtain ⟨k, rfl⟩ : ∃ j, k = j + 1 := ⟨k - 1, by omega⟩
    unfold loopP
    have : ¬ ((shws []).flatMap (sep b ++ ·) ++ 41 :: r).take 3 = sep b := by
      cases b <;> simp [shws, sep]
    rw [if_neg this]
    simp [shws]
  | t :: ts, h, m, hd, r, k, acc, hk => by
    obtain ⟨k, rfl⟩ : ∃ j, k = j + 1 := ⟨k - 1, by omega⟩
    have hd' : max (dep t) (deps ts) ≤ m := hd
    have ih := parse_shw t h.1 m (by omega) _ (stop_flat b ts r)
    have il := parse_loop b ts h.2 m (by omega) r k (acc ++ [t]) (by
      simp only [shws, List.flatMap_cons, List.length_append, sep_len] at hk ⊢
      omega)
    unfold loopP
    have e : (shws (t :: ts)).flatMap (sep b ++ ·) ++ 41 :: r = sep b ++ (shw t ++ ((shws ts).flatMap (sep b ++ ·) ++ 41 :: r)) := by simp [shws]
    rw [e, if_pos (by cases b <;> rfl)]
    have e3 : (sep b ++ (shw t ++ ((shws ts).flatMap (sep b ++ ·) ++ 41 :: r))).drop 3 = shw t ++ ((shws ts).flatMap (sep b ++ ·) ++ 41 :: r) := by cases b <;> rfl
    rw [e3, ih]
    dsimp only
    rw [il]
    simp
end
structure Sm (t : Tm) : Prop where
  o : ok nmOk t
  d : dep t ≤ 20
  l : (shw t).length ≤ 400
  f : lfT t ≤ 60
theorem rd_shw {t : Tm} (h : Sm t) : rd (shw t) = some t := by
  have e := parse_shw t h.o 20 h.d [] rfl
  rw [List.append_nil] at e
  unfold rd
  rw [if_neg (by have := h.l; omega), e]
  dsimp only
  rw [if_neg (not_or.mpr ⟨fun z => z rfl, by have := h.f; omega⟩)]
mutual
theorem shw_signs : ∀ t : Tm, ok nmOk t → ∀ c ∈ shw t, c ≠ 60 ∧ c ≠ 61 ∧ c ≠ 44
  | .non, _, c, h => by simp [shw] at h; omega
  | .all, _, c, h => by simp [shw] at h; omega
  | .name s, h, c, hc => by
    have := (show nmOk s from h).2.2 c (by simpa [shw] using hc)
    omega
  | .not t, h, c, hc => by
    rw [show shw (.not t) = 33 :: shw t from by simp [shw]] at hc
    rcases List.mem_cons.mp hc with z | z
    · omega
    · exact shw_signs t h c z
  | .op b [], h, c, hc => by have := h.1; simp at this
  | .op b (t :: ts), h, c, hc => by
    rw [show shw (.op b (t :: ts)) = 40 :: (shw t ++ ((shws ts).flatMap (sep b ++ ·) ++ [41])) from by simp [shw, shws, join_flat]] at hc
    rcases List.mem_cons.mp hc with z | z
    · omega
    · rcases List.mem_append.mp z with z | z
      · exact shw_signs t h.2.1 c z
      · rcases List.mem_append.mp z with z | z
        · exact shws_signs b ts h.2.2 c z
        · rw [List.mem_singleton.mp z]; omega
theorem shws_signs (b : Bool) : ∀ ts : List Tm, oks nmOk ts → ∀ c ∈ (shws ts).flatMap (sep b ++ ·), c ≠ 60 ∧ c ≠ 61 ∧ c ≠ 44
  | [], _, c, h => by simp [shws] at h
  | t :: ts, h, c, hc => by
    rw [show (shws (t :: ts)).flatMap (sep b ++ ·) = sep b ++ (shw t ++ (shws ts).flatMap (sep b ++ ·)) from by simp [shws]] at hc
    rcases List.mem_append.mp hc with z | z
    · cases b <;> (simp [sep] at z; omega)
    · rcases List.mem_append.mp z with z | z
      · exact shw_signs t h.1 c z
      · exact shws_signs b ts h.2 c z
end
theorem split_say {a b : Tm} (ha : ok nmOk a) (hb : ok nmOk b) : TL.spl [32, 60, 32] 0 [] (shwS (a, b)) = [shw a, shw b] := by
  have n1 : 60 ∉ shw a := fun z => (shw_signs a ha 60 z).1 rfl
  have n2 : 60 ∉ shw b := fun z => (shw_signs b hb 60 z).1 rfl
  show TL.spl [32, 60, 32] 0 [] (shw a ++ ([32, 60, 32] ++ shw b)) = _
  rw [TL.spl_part (by simp) (no_pre (S := [32]) (rest := shw b) (by decide) n1), TL.spl_last (no_preL (S := [32]) n2)]
  simp
structure SmS (s : Say) : Prop where
  a : Sm s.1
  b : Sm s.2
theorem SmS.len {s : Say} (h : SmS s) : (shwS s).length ≤ 803 := by
  have := h.a.l
  have := h.b.l
  simp [shwS]; omega
theorem rdS_shw {s : Say} (h : SmS s) : rdS (shwS s) = some s := by
  have e := split_say h.a.o h.b.o
  unfold rdS
  rw [if_neg (by have := h.len; omega)]
  rw [show shwS s = shwS (s.1, s.2) from rfl, e]
  dsimp only
  rw [rd_shw h.a, rd_shw h.b]
theorem say_signs {s : Say} (h : SmS s) : ∀ c ∈ shwS s, c ≠ 61 ∧ c ≠ 44 := fun c hc => by
  rcases List.mem_append.mp (show c ∈ shw s.1 ++ ([32, 60, 32] ++ shw s.2) from hc) with z | z
  · exact (shw_signs s.1 h.a.o c z).2
  · rcases List.mem_append.mp z with z | z
    · simp at z; omega
    · exact (shw_signs s.2 h.b.o c z).2
theorem rdL_shw : ∀ {ps : List Say}, (∀ p ∈ ps, SmS p) → rdL (ps.map shwS) = some ps
  | [], _ => rfl
  | p :: ps, h => by
    rw [List.map_cons]
    unfold rdL
    rw [rdS_shw (h p (by simp)), rdL_shw fun q hq => h q (List.mem_cons_of_mem _ hq)]
theorem join_signs {S : Tx} (hS : 61 ∉ S) : ∀ {xs : List Tx}, (∀ x ∈ xs, 61 ∉ x) → 61 ∉ TL.joinL S xs
  | [], _ => by simp [TL.joinL]
  | [x], h => h x (by simp)
  | x :: y :: xs, h => by
    show 61 ∉ x ++ (S ++ TL.joinL S (y :: xs))
    intro z
    rcases List.mem_append.mp z with z | z
    · exact h x (by simp) z
    · rcases List.mem_append.mp z with z | z
      · exact hS z
      · exact join_signs hS (fun u hu => h u (List.mem_cons_of_mem _ hu)) z
theorem rdR_shw {ps : List Say} {s : Say} (h : ∀ p ∈ ps, SmS p) (hs : SmS s) (hl : ps.length ≤ 5) (hlen : (shwR ps s).length ≤ 3000) : rdR (shwR ps s) = some (ps, s) := by
  unfold rdR
  rw [if_neg (by omega)]
  have ns : 61 ∉ shwS s := fun z => (say_signs hs 61 z).1 rfl
  cases ps with
  | nil =>
    show (match TL.spl [32, 61, 62, 32] 0 [] (shwS s) with | [_] => _ | [a, b] => _ | _ => _) = _
    rw [TL.spl_last (no_preL (S := [62, 32]) ns)]
    show (match rdS (shwS s) with | some s => some ([], s) | none => none) = _
    rw [rdS_shw hs]
  | cons p ps =>
    have nj : 61 ∉ TL.joinL [44, 32] ((p :: ps).map shwS) := join_signs (by simp) fun x hx => by
      obtain ⟨q, hq, rfl⟩ := List.mem_map.mp hx
      exact fun z => (say_signs (h q hq) 61 z).1 rfl
    have sj : TL.spl [44, 32] 0 [] (TL.joinL [44, 32] ((p :: ps).map shwS)) = (p :: ps).map shwS := TL.spl_join (by simp) fun x hx => by
      obtain ⟨q, hq, rfl⟩ := List.mem_map.mp hx
      exact fun z => (say_signs (h q hq) 44 z).2 rfl
    show (match TL.spl [32, 61, 62, 32] 0 [] (TL.joinL [44, 32] ((p :: ps).map shwS) ++ ([32, 61, 62, 32] ++ shwS s)) with | [_] => _ | [a, b] => _ | _ => _) = _
    rw [TL.spl_part (by simp) (no_pre (S := [62, 32]) (rest := shwS s) (by decide) nj), TL.spl_last (no_preL (S := [62, 32]) ns)]
    simp only [List.nil_append]
    rw [sj, if_neg (by rw [List.length_map]; omega), rdL_shw h, rdS_shw hs]
end TP
set_option maxRecDepth 100000
set_option maxHeartbeats 4000000
set_option pp.maxSteps 600
namespace K06
open PV GV TM TP
open K05 (shw shwS shwR encS encR Say Gt Gs stk_gt rng_r cut_map shown_ok written_ok say_ok wsay_ok shown_rule_ok written_rule_ok)
variable {N : Nat}
theorem rule_fine (Pt : Tm → Prop) (F : Fn) (ns : List Int) (pool : D) (h2 : ∀ i : Int, 0 ≤ i → F 2 [.val (.lst (ns.map .int)), .val (.int i)] = .ok (.val (.int (cell ns i.toNat))) []) (h13 : ∀ cs : List Int, cs.length ≤ 4 → ∃ ts, Stk ts ∧ Pt (whole ts) ∧ F 13 [.val (.lst (cs.map .int)), .val pool] = .ok (.val (.lst (ts.map enc))) [])
    (h14 : ∀ ts, Stk ts → F 14 [.val (.lst (ts.map enc))] = .ok (.val (enc (whole ts))) []) : ∃ (ps : List Say) (s : Say), (∀ x ∈ ps, Gs x ∧ Pt x.1 ∧ Pt x.2) ∧ (Gs s ∧ Pt s.1 ∧ Pt s.2) ∧ ps.length ≤ 5 ∧ runDf F N d__law_rule [.val (.lst (ns.map .int)), .val pool, .val (.int 3)] = .ok (.val (encR ps s)) [] := by
  have q3 := h2 3 (by omega)
  obtain ⟨m, hm, hm'⟩ : ∃ m : Nat, cell ns (3 : Int).toNat % 6 = (m : Int) ∧ m ≤ 5 := by
    have h1 : 0 ≤ cell ns (3 : Int).toNat % 6 := Int.emod_nonneg _ (by omega)
    have h2 : cell ns (3 : Int).toNat % 6 < 6 := Int.emod_lt_of_pos _ (by omega)
    exact ⟨(cell ns (3 : Int).toNat % 6).toNat, by omega, by omega⟩
  generalize cell ns (3 : Int).toNat = c3 at q3 hm
  have r1 := rng_r (2 * m + 2) (by omega) (2 * (m : Int) + 2) (by omega)
  generalize hS : D.lst (ns.map .int) = S at *
  obtain ⟨σ', ⟨us, o5, o7, hul, hug, q⟩, hL⟩ := forLoop_map (f := forStep F N [5] true b__law_rule_1) (fun k : Nat => D.int (k : Nat)) (fun done σ => ∃ (us : List Tm) (o5 o7 : Option O), us.length = done.length ∧ (∀ u ∈ us, Gt u ∧ Pt u) ∧ σ = [some (.val S), some (.val pool), some (.val (.int 3)), some (.val (.int m)), some (.lst (us.map enc)), o5.map (fun o => match o with | .val d => .val d | _ => .val .non), none, o7, none]) (List.range (2 * m + 2)) []
    [some (.val S), some (.val pool), some (.val (.int 3)), some (.val (.int m)), some (.lst []), none, none, none, none] ⟨[], none, none, rfl, by simp, rfl⟩ (fun a k c hk σ ⟨us, o5, o7, hul, hug, q⟩ => by
      subst q
      have hkl : a.length < 2 * m + 2 := by
        have := congrArg List.length hk
        simp at this
        omega
      have r4 := rng_r 4 (by omega) 4 rfl
      have hc := comp_map (F := F) (elt := .call 2 [.var 0, .bin .add (.var 7) (.var 8)]) (i := 8) (σ1 := [some (.val S), some (.val pool), some (.val (.int 3)), some (.val (.int m)), some (.lst (us.map enc)), some (.val (.int k)), none, some (.val (.int (4 + 4 * (k : Int)))), none]) (fun j : Nat => D.int (j : Nat)) (fun j : Nat => D.int (cell ns (4 + 4 * (k : Int) + (j : Int)).toNat)) (List.range 4) (.inl rfl) (by simp) (by simp [SZ]) (fun j hj => by
        have e := h2 (4 + 4 * (k : Int) + (j : Int)) (by omega)
        (open PV.E in simp [getO, Ex.isNo, isTy, dTy, SZ, e]))
      obtain ⟨ts, hts, hpt, e13⟩ := h13 ((List.range 4).map fun j : Nat => cell ns (4 + 4 * (k : Int) + (j : Int)).toNat) (by simp)
      have ecs : ((List.range 4).map fun j : Nat => cell ns (4 + 4 * (k : Int) + (j : Int)).toNat).map D.int = (List.range 4).map fun j : Nat => D.int (cell ns (4 + 4 * (k : Int) + (j : Int)).toNat) := by
        rw [List.map_map]; rfl
      rw [ecs] at e13
      have e14 := h14 ts hts
      generalize ((List.range 4).map fun j : Nat => D.int (cell ns (4 + 4 * (k : Int) + (j : Int)).toNat)) = cs at hc e13
      generalize ((List.range 4).map fun j : Nat => D.int (j : Nat)) = js at hc r4
      have hz : us.length < 16777216 := by omega
      refine ⟨_, ⟨us ++ [whole ts], some (.val (.int k)), some (.val (.int (4 + 4 * (k : Int)))), by simp [hul], fun u hu => ?_, rfl⟩, ?_⟩
      · rcases List.mem_append.mp hu with z | z
        · exact hug u z
        · rw [List.mem_singleton.mp z]; exact ⟨stk_gt hts, hpt⟩
      · (open PV.E in simp [getO, Ex.isNo, isTy, dTy, SZ, b__law_rule_1, r4, hc, e13, e14, hz]))
  rw [List.nil_append, List.length_range] at hul
  have hget : ∀ k, k < 2 * m + 2 → ∃ u, at? (us.map enc) (k : Int) = some (enc u) ∧ (Gt u ∧ Pt u) ∧ us[k]? = some u := fun k hk => by
    have hlt : k < us.length := by omega
    refine ⟨us[k], ?_, hug _ (List.getElem_mem hlt), List.getElem?_eq_getElem hlt⟩
    rw [at_nat, List.getElem?_map, List.getElem?_eq_getElem hlt]
    rfl
  obtain ⟨x, ex, gx, _⟩ := hget (2 * m) (by omega)
  obtain ⟨y, ey, gy, _⟩ := hget (2 * m + 1) (by omega)
  have ex' : at? (us.map enc) (2 * (m : Int)) = some (enc x) := by rw [← ex]; congr 1
  have ey' : at? (us.map enc) (2 * (m : Int) + 1) = some (enc y) := by rw [← ey]; congr 1
  let pr : Nat → Say := fun k => ((us[2 * k]?).getD .all, (us[2 * k + 1]?).getD .all)
  have hpr : ∀ k, k < m → (Gs (pr k) ∧ Pt (pr k).1 ∧ Pt (pr k).2) ∧ at? (us.map enc) (2 * (k : Int)) = some (enc (pr k).1) ∧ at? (us.map enc) (2 * (k : Int) + 1) = some (enc (pr k).2) := fun k hk => by
    obtain ⟨x, ex, gx, gx'⟩ := hget (2 * k) (by omega)
    obtain ⟨y, ey, gy, gy'⟩ := hget (2 * k + 1) (by omega)
    have e1 : (pr k).1 = x := by simp [pr, gx']
    have e2 : (pr k).2 = y := by simp [pr, gy']
    refine ⟨⟨⟨by rw [e1]; exact gx.1, by rw [e2]; exact gy.1⟩, by rw [e1]; exact gx.2, by rw [e2]; exact gy.2⟩, ?_, ?_⟩
    · rw [e1, ← ex]; congr 1
    · rw [e2, ← ey]; congr 1
  subst q
  have h5 : ∃ o, o5.map (fun o => match o with | .val d => O.val d | _ => O.val .non) = o ∧ (o = none ∨ ∃ d, o = some (.val d)) := by
    refine ⟨_, rfl, ?_⟩
    cases o5 with
    | none => exact .inl rfl
    | some o => cases o <;> exact .inr ⟨_, rfl⟩
  obtain ⟨o5', e5, h5'⟩ := h5
  rw [e5] at hL
  have hc := comp_map (F := F) (elt := .tup [.ix (.bor 4) (.bin .mul (.c (.int 2)) (.var 5)), .ix (.bor 4) (.bin .add (.bin .mul (.c (.int 2)) (.var 5)) (.c (.int 1)))]) (i := 5) (σ1 := [some (.val S), some (.val pool), some (.val (.int 3)), some (.val (.int m)), some (.lst (us.map enc)), o5', none, o7, none]) (fun j : Nat => D.int (j : Nat)) (fun j : Nat => encS (pr j)) (List.range m) (by
      rcases h5' with z | ⟨d, z⟩
      · exact .inl (by rw [z]; rfl)
      · exact .inr ⟨d, by rw [z]; rfl⟩) (by simp) (by simp [SZ]; omega) (fun j hj => by
    obtain ⟨_, e1, e2⟩ := hpr j (List.mem_range.mp hj)
    (open PV.E in simp [getO, Ex.isNo, isTy, dTy, SZ, e1, e2, encS]))
  have rm := rng_r m (by omega) (m : Int) rfl
  refine ⟨(List.range m).map pr, (x, y), fun z hz => ?_, ⟨⟨gx.1, gy.1⟩, gx.2, gy.2⟩, by simp; omega, ?_⟩
  · obtain ⟨k, hk, rfl⟩ := List.mem_map.mp hz
    exact (hpr k (List.mem_range.mp hk)).1
  · have en : encR ((List.range m).map pr) (x, y) = .tup [.lst ((List.range m).map fun j => encS (pr j)), .tup [enc x, enc y]] := by
      simp [encR, encS, List.map_map]
    rw [en]
    generalize ((List.range m).map fun j : Nat => D.int (j : Nat)) = js at hc rm
    generalize ((List.range m).map fun j => encS (pr j)) = out at hc
    generalize ((List.range (2 * m + 2)).map fun j : Nat => D.int (j : Nat)) = js2 at hL r1
    (open PV.E in simp [getO, Ex.isNo, isTy, dTy, SZ, d__law_rule, q3, hm, r1, hL, rm, hc, ex', ey'])
def fuel : Nat := 4000
def deep : Nat := 61
theorem lv : Lv Dd := ⟨rfl, rfl, rfl, rfl, rfl, rfl, rfl⟩
theorem shown_at (n : Nat) {t : Tm} (h : Gt t) (hn : 20 ≤ n) : run Dd fuel n 23 [.val (enc t)] = .ok (.val (.str (shw t))) [] := shown_ok rfl n t h.o (by have := h.d; omega) (by have := h.w; omega)
theorem written_at (n : Nat) {t : Tm} (h : Gt t) (hn : 20 ≤ n) : run Dd fuel n 26 [.val (enc t)] = .ok (.val (.str (shw t))) [] := written_ok rfl n t h.o (by have := h.d; omega) (by have := h.w; omega)
theorem sayAt (n : Nat) {s : Say} (h : Gs s) (hn : 20 ≤ n) : run Dd fuel (n + 1) 24 [.val (encS s)] = .ok (.val (.str (shwS s))) [] := say_ok (run Dd fuel n) h (shown_at n h.a hn) (shown_at n h.b hn)
theorem wsayAt (n : Nat) {s : Say} (h : Gs s) (hn : 20 ≤ n) : run Dd fuel (n + 1) 27 [.val (encS s)] = .ok (.val (.str (shwS s))) [] := wsay_ok (run Dd fuel n) h (written_at n h.a hn) (written_at n h.b hn)
theorem read_at (n : Nat) (hn : 43 ≤ n) (y : Tx) (hy : y.length ≤ 3000) : run Dd fuel (n + 1) 130 [.val (.str y)] = outM (rd y) := read_run rfl rfl rfl rfl rfl rfl rfl (by decide) y hy n hn
theorem rsay_at (n : Nat) (hn : 44 ≤ n) (y : Tx) (hy : y.length ≤ 3000) : run Dd fuel (n + 1) 131 [.val (.str y)] = outS (rdS y) := say_run (N := fuel) (run Dd fuel n) (fun y hy => by
  obtain ⟨k, rfl⟩ : ∃ k, n = k + 1 := ⟨n - 1, by omega⟩
  exact read_at k (by omega) y hy) y hy
theorem rrule_at (n : Nat) (hn : 45 ≤ n) (y : Tx) {ps : List Say} {s : Say} (h : rdR y = some (ps, s)) : run Dd fuel (n + 1) 132 [.val (.str y)] = .ok (.val (encR ps s)) [] := rule_run (N := fuel) (run Dd fuel n) (fun y hy => by
  obtain ⟨k, rfl⟩ : ∃ k, n = k + 1 := ⟨n - 1, by omega⟩
  exact rsay_at k (by omega) y hy) y h
theorem encS_pl {s : Say} (h : Gs s) : pl (encS s) = true := by
  have h1 := pl_enc s.1 (by have := h.a.w; omega)
  have h2 := pl_enc s.2 (by have := h.b.w; omega)
  simp [encS, pl, pls, h1, h2]
theorem encS_dep {s : Say} (h : Gs s) : (encS s).dep ≤ 20 := by
  have h1 := dep_enc s.1
  have h2 := dep_enc s.2
  have h3 := h.a.d
  have h4 := h.b.d
  simp [encS, D.dep, D.deps]; omega
theorem list_pl : ∀ ps : List Say, (∀ x ∈ ps, Gs x) → pls (ps.map encS) = true ∧ D.deps (ps.map encS) ≤ 20
  | [], _ => ⟨rfl, by simp [D.deps]⟩
  | p :: ps, h => by
    obtain ⟨h1, h2⟩ := list_pl ps fun x hx => h x (List.mem_cons_of_mem _ hx)
    have h3 := encS_pl (h p (by simp))
    have h4 := encS_dep (h p (by simp))
    exact ⟨by simp [pls, h1, h3], by simp [D.deps]; omega⟩
theorem small {t : Tm} (h : Gt t) (hw : wt t ≤ 330) : TP.Sm t := ⟨h.o, Nat.le_trans h.d (by omega), Nat.le_trans (K05.shw_len t h.o) (by omega), by have := lf_wt t; omega⟩
theorem wt_whole {ts : List Tm} {k : Nat} (h : wts ts ≤ k) : wt (whole ts) ≤ k + 2 := by
  match ts, h with
  | [], h => simp [whole, wt]; omega
  | [t], h => simp [wts] at h; simp [whole]; omega
  | t :: u :: ts, h => simp [whole, wt]; omega
theorem says : PV.Says Dd fuel deep lawId := by
  intro ns hns
  obtain ⟨a, b, c, ha, hb, hc, e11⟩ := lv.pool (N := fuel) 58 ns
  have hcut : ((cut ns (some 3) (some 31))).length ≤ 28 := by
    unfold cut
    rw [show HT.sIx ns.length 0 (some 3) = min 3 ns.length from HT.sIx_nat _ _ 3, show HT.sIx ns.length ns.length (some 31) = min 31 ns.length from HT.sIx_nat _ _ 31]
    rw [List.length_take, List.length_drop]
    omega
  obtain ⟨ts, hts, hw, e13⟩ := lv.stack_fine (N := fuel) 58 (cut ns (some 3) (some 31)) (by omega) ha hb hc
  have e14 := lv.whole (N := fuel) 59 hts
  have gt := stk_gt hts
  have sm := small gt (by have := wt_whole hw; omega)
  obtain ⟨ps, s, hps, hs, hl, e29⟩ := rule_fine (N := fuel) (fun t => wt t ≤ 57) (run Dd fuel 59) ns (.lst [.str a, .str b, .str c]) (fun i hi => lv.cellI 58 ns i hi) (fun cs hcs => by
    obtain ⟨ts, h1, h2, h3⟩ := lv.stack_fine (N := fuel) 57 cs (by omega) ha hb hc
    exact ⟨ts, h1, by have := wt_whole h2; omega, h3⟩) (fun ts hts => lv.whole 58 hts)
  have e29' : run Dd fuel 60 29 [.val (.lst (ns.map .int)), .val (.lst [.str a, .str b, .str c]), .val (.int 3)] = _ := e29
  have sms : ∀ {x : Say}, Gs x ∧ wt x.1 ≤ 57 ∧ wt x.2 ≤ 57 → SmS x := fun h => ⟨small h.1.a (by omega), small h.1.b (by omega)⟩
  have sl : ∀ {x : Say}, Gs x ∧ wt x.1 ≤ 57 ∧ wt x.2 ≤ 57 → (shwS x).length ≤ 117 := fun {x} h => by
    have h1 := K05.shw_len x.1 h.1.a.o
    have h2 := K05.shw_len x.2 h.1.b.o
    simp [shwS]; omega
  have jl : ∀ qs : List Say, (∀ p ∈ qs, (shwS p).length ≤ 117) → (TL.joinL [44, 32] (qs.map shwS)).length ≤ 119 * qs.length := by
    intro qs
    induction qs with
    | nil => simp [TL.joinL]
    | cons p qs ih =>
      intro h
      cases qs with
      | nil =>
        have := h p (by simp)
        simp [TL.joinL]; omega
      | cons q qs =>
        have h1 := h p (by simp)
        have h2 := ih fun x hx => h x (List.mem_cons_of_mem _ hx)
        show (shwS p ++ ([44, 32] ++ TL.joinL [44, 32] ((q :: qs).map shwS))).length ≤ _
        simp only [List.length_append, List.length_cons, List.length_nil] at *
        omega
  have rl : (shwR ps s).length ≤ 3000 := by
    have h2 := sl hs
    cases ps with
    | nil => exact Nat.le_trans h2 (by omega)
    | cons p qs =>
      have h1 := jl (p :: qs) fun x hx => sl (hps x hx)
      show (TL.joinL [44, 32] ((p :: qs).map shwS) ++ ([32, 61, 62, 32] ++ shwS s)).length ≤ _
      simp only [List.length_append, List.length_cons, List.length_nil] at *
      omega
  have r1 := rd_shw sm
  have r2 := rdS_shw (sms hs)
  have r3 := rdR_shw (fun p hp => sms (hps p hp)) (sms hs) hl rl
  have e130 := read_at 59 (by omega) (shw (whole ts)) (by have := sm.l; omega)
  rw [r1] at e130
  have e131 := rsay_at 59 (by omega) (shwS s) (by have := sl hs; omega)
  rw [r2] at e131
  have e132 := rrule_at 59 (by omega) (shwR ps s) r3
  have e23 := shown_at 60 gt (by omega)
  have e26 := written_at 60 gt (by omega)
  have e24 := sayAt 59 hs.1 (by omega)
  have e27 := wsayAt 59 hs.1 (by omega)
  have hps' : ∀ x ∈ ps, Gs x := fun x hx => (hps x hx).1
  have e25 : run Dd fuel 60 25 [.val (encR ps s)] = _ := shown_rule_ok (N := fuel) (run Dd fuel 59) ps s hps' hs.1 (by omega) (fun x hx => sayAt 58 hx (by omega))
  have e28 : run Dd fuel 60 28 [.val (encR ps s)] = _ := written_rule_ok (N := fuel) (run Dd fuel 59) ps s hps' hs.1 (by omega) (fun x hx => wsayAt 58 hx (by omega))
  obtain ⟨lp1, lp2⟩ := list_pl ps hps'
  have e15 := lv.alike (N := fuel) 60 (.lst [.str (shw (whole ts)), .str (shwS s), .str (shwR ps s)]) rfl (by simp [D.dep, D.deps])
  have hpl : pl (.tup [enc (whole ts), encS s, encR ps s]) = true := by
    have h1 := pl_enc (whole ts) (by have := gt.w; omega)
    simp [encR, pl, pls, lp1, encS_pl hs.1, h1]; omega
  have e15' := lv.alike (N := fuel) 60 (.tup [enc (whole ts), encS s, encR ps s]) hpl (by
    have h1 := encS_dep hs.1
    have h2 := dep_enc (whole ts)
    have h3 := gt.d
    simp [encR, D.dep, D.deps]; omega)
  show ∃ os, runDf (run Dd fuel 60) fuel d_law06 _ = _
  refine ⟨[], ?_⟩
  generalize run Dd fuel 60 = F at *
  rw [← cut_map] at e13
  have i0 : at? [D.lst (ps.map encS), encS s] 0 = some (.lst (ps.map encS)) := at0
  have i1 : at? [D.lst (ps.map encS), encS s] 1 = some (encS s) := at1
  simp only [encR, outM, outS] at e29' e25 e28 e15' e130 e131 e132
  (open PV.E in simp [getO, Ex.isNo, isTy, dTy, SZ, d_law06, e11, e13, e14, e29', i0, i1, at0, at1, at2, e130, e131, e132, e23, e24, e25, e26, e27, e28, e15, e15'])
end K06
set_option maxRecDepth 100000
set_option maxHeartbeats 4000000
namespace K06
open PV PySem L2
def top (i : Nat) : Stmt := PySem.Challenge.pw_clashbook_k06_read_there_and_back.main.body.getD i (.Pass ⟨0, 0, 0, 0⟩)
def r_is_name : Row := ⟨1, "is_name", top 6, ["text"], ["text", "sign"], none, "is_name"⟩
def r_is_leaf : Row := ⟨19, "is_leaf", top 7, ["t"], ["t"], none, "is_leaf"⟩
def r_leaves : Row := ⟨108, "leaves", top 8, ["t"], ["t", "part"], none, "leaves"⟩
def r_shown : Row := ⟨23, "shown", top 13, ["t"], ["t", "parts", "part"], none, "shown"⟩
def r_shown_saying : Row := ⟨24, "shown_saying", top 14, ["saying"], ["saying"], none, "shown_saying"⟩
def r_shown_rule : Row := ⟨25, "shown_rule", top 15, ["rule"], ["rule", "premises", "one"], none, "shown_rule"⟩
def r_word_at : Row := ⟨127, "word_at", top 16, ["text", "at"], ["text", "at", "end", "word"], none, "word_at"⟩
def r_parts_at : Row := ⟨128, "parts_at", top 17, ["text", "at", "room"], ["text", "at", "room", "first", "parts", "mark", "found"], none, "parts_at"⟩
def r_term_at : Row := ⟨129, "term_at", top 18, ["text", "at", "room"], ["text", "at", "room", "sign", "found"], none, "term_at"⟩
def r_read : Row := ⟨130, "read", top 19, ["text"], ["text", "found"], none, "read"⟩
def r_read_saying : Row := ⟨131, "read_saying", top 20, ["text"], ["text", "sides"], none, "read_saying"⟩
def r_read_rule : Row := ⟨132, "read_rule", top 21, ["text"], ["text", "halves", "premises", "one"], none, "read_rule"⟩
def r__law_cell_at : Row := ⟨2, "_law_cell_at", top 23, ["script", "k"], ["script", "k"], none, "_law_cell_at"⟩
def r__law_name_by : Row := ⟨10, "_law_name_by", top 24, ["cell", "size"], ["cell", "size", "letters", "made", "rest", "k"], none, "_law_name_by"⟩
def r__law_pool : Row := ⟨11, "_law_pool", top 25, ["script"], ["script", "one", "two", "three", "pool"], none, "_law_pool"⟩
def r__law_leaf : Row := ⟨12, "_law_leaf", top 26, ["cell", "pool"], ["cell", "pool", "which"], none, "_law_leaf"⟩
def r__law_stack : Row := ⟨13, "_law_stack", top 27, ["cells", "pool"], ["cells", "pool", "stack", "deep", "cell", "way", "parts", "low"], none, "_law_stack"⟩
def r__law_whole_term : Row := ⟨14, "_law_whole_term", top 28, ["stack"], ["stack"], none, "_law_whole_term"⟩
def r__law_alike : Row := ⟨15, "_law_alike", top 29, ["found", "due"], ["found", "due", "k"], none, "_law_alike"⟩
def r__law_written : Row := ⟨26, "_law_written", top 30, ["t"], ["t", "mark", "made", "part"], none, "_law_written"⟩
def r__law_written_saying : Row := ⟨27, "_law_written_saying", top 31, ["saying"], ["saying"], none, "_law_written_saying"⟩
def r__law_written_rule : Row := ⟨28, "_law_written_rule", top 32, ["rule"], ["rule", "made", "one"], none, "_law_written_rule"⟩
def r__law_rule : Row := ⟨29, "_law_rule", top 33, ["script", "pool", "at"], ["script", "pool", "at", "size", "some", "k", "premises", "low", "j"], none, "_law_rule"⟩
def r_law : Row := ⟨133, "law", top 34, ["script"], ["script", "pool", "t", "rule", "texts", "found"], none, "law"⟩
def Rs : List Row := [r_is_name, r_is_leaf, r_leaves, r_shown, r_shown_saying, r_shown_rule, r_word_at, r_parts_at, r_term_at, r_read, r_read_saying, r_read_rule, r__law_cell_at, r__law_name_by, r__law_pool, r__law_leaf, r__law_stack, r__law_whole_term, r__law_alike, r__law_written, r__law_written_saying, r__law_written_rule, r__law_rule, r_law]
def T : Tb := ⟨[(1, ("is_name" : Str)), (19, ("is_leaf" : Str)), (108, ("leaves" : Str)), (23, ("shown" : Str)), (24, ("shown_saying" : Str)), (25, ("shown_rule" : Str)), (127, ("word_at" : Str)), (128, ("parts_at" : Str)), (129, ("term_at" : Str)), (130, ("read" : Str)), (131, ("read_saying" : Str)), (132, ("read_rule" : Str)), (2, ("_law_cell_at" : Str)), (10, ("_law_name_by" : Str)), (11, ("_law_pool" : Str)), (12, ("_law_leaf" : Str)), (13, ("_law_stack" : Str)), (14, ("_law_whole_term" : Str)), (15, ("_law_alike" : Str)), (26, ("_law_written" : Str)), (27, ("_law_written_saying" : Str)), (28, ("_law_written_rule" : Str)), (29, ("_law_rule" : Str)), (133, ("law" : Str))], [(135, "NoText")], [("DEEPEST", .int 20), ("LONGEST", .int 8), ("MOST_LEAVES", .int 60), ("MOST_PREMISES", .int 5), ("SHORTEST", .int 1)], fun g => (Dd g).io, [], [], [], []⟩
theorem ck_is_name : r_is_name.ok T Dd = true := by decide +kernel
theorem sc_is_name : FnScope r_is_name.N r_is_name.ps (defScope r_is_name.st) := ⟨rfl, rfl, rfl, by decide +kernel, rfl, by decide +kernel, by decide +kernel⟩
theorem ck_is_leaf : r_is_leaf.ok T Dd = true := by decide +kernel
theorem sc_is_leaf : FnScope r_is_leaf.N r_is_leaf.ps (defScope r_is_leaf.st) := ⟨rfl, rfl, rfl, by decide +kernel, rfl, by decide +kernel, by decide +kernel⟩
theorem ck_leaves : r_leaves.ok T Dd = true := by decide +kernel
theorem sc_leaves : FnScope r_leaves.N r_leaves.ps (defScope r_leaves.st) := ⟨rfl, rfl, rfl, by decide +kernel, rfl, by decide +kernel, by decide +kernel⟩
theorem ck_shown : r_shown.ok T Dd = true := by decide +kernel
theorem sc_shown : FnScope r_shown.N r_shown.ps (defScope r_shown.st) := ⟨rfl, rfl, rfl, by decide +kernel, rfl, by decide +kernel, by decide +kernel⟩
theorem ck_shown_saying : r_shown_saying.ok T Dd = true := by decide +kernel
theorem sc_shown_saying : FnScope r_shown_saying.N r_shown_saying.ps (defScope r_shown_saying.st) := ⟨rfl, rfl, rfl, by decide +kernel, rfl, by decide +kernel, by decide +kernel⟩
theorem ck_shown_rule : r_shown_rule.ok T Dd = true := by decide +kernel
theorem sc_shown_rule : FnScope r_shown_rule.N r_shown_rule.ps (defScope r_shown_rule.st) := ⟨rfl, rfl, rfl, by decide +kernel, rfl, by decide +kernel, by decide +kernel⟩
theorem ck_word_at : r_word_at.ok T Dd = true := by decide +kernel
theorem sc_word_at : FnScope r_word_at.N r_word_at.ps (defScope r_word_at.st) := ⟨rfl, rfl, rfl, by decide +kernel, rfl, by decide +kernel, by decide +kernel⟩
theorem ck_parts_at : r_parts_at.ok T Dd = true := by decide +kernel
theorem sc_parts_at : FnScope r_parts_at.N r_parts_at.ps (defScope r_parts_at.st) := ⟨rfl, rfl, rfl, by decide +kernel, rfl, by decide +kernel, by decide +kernel⟩
theorem ck_term_at : r_term_at.ok T Dd = true := by decide +kernel
theorem sc_term_at : FnScope r_term_at.N r_term_at.ps (defScope r_term_at.st) := ⟨rfl, rfl, rfl, by decide +kernel, rfl, by decide +kernel, by decide +kernel⟩
theorem ck_read : r_read.ok T Dd = true := by decide +kernel
theorem sc_read : FnScope r_read.N r_read.ps (defScope r_read.st) := ⟨rfl, rfl, rfl, by decide +kernel, rfl, by decide +kernel, by decide +kernel⟩
theorem ck_read_saying : r_read_saying.ok T Dd = true := by decide +kernel
theorem sc_read_saying : FnScope r_read_saying.N r_read_saying.ps (defScope r_read_saying.st) := ⟨rfl, rfl, rfl, by decide +kernel, rfl, by decide +kernel, by decide +kernel⟩
theorem ck_read_rule : r_read_rule.ok T Dd = true := by decide +kernel
theorem sc_read_rule : FnScope r_read_rule.N r_read_rule.ps (defScope r_read_rule.st) := ⟨rfl, rfl, rfl, by decide +kernel, rfl, by decide +kernel, by decide +kernel⟩
theorem ck__law_cell_at : r__law_cell_at.ok T Dd = true := by decide +kernel
theorem sc__law_cell_at : FnScope r__law_cell_at.N r__law_cell_at.ps (defScope r__law_cell_at.st) := ⟨rfl, rfl, rfl, by decide +kernel, rfl, by decide +kernel, by decide +kernel⟩
theorem ck__law_name_by : r__law_name_by.ok T Dd = true := by decide +kernel
theorem sc__law_name_by : FnScope r__law_name_by.N r__law_name_by.ps (defScope r__law_name_by.st) := ⟨rfl, rfl, rfl, by decide +kernel, rfl, by decide +kernel, by decide +kernel⟩
theorem ck__law_pool : r__law_pool.ok T Dd = true := by decide +kernel
theorem sc__law_pool : FnScope r__law_pool.N r__law_pool.ps (defScope r__law_pool.st) := ⟨rfl, rfl, rfl, by decide +kernel, rfl, by decide +kernel, by decide +kernel⟩
theorem ck__law_leaf : r__law_leaf.ok T Dd = true := by decide +kernel
theorem sc__law_leaf : FnScope r__law_leaf.N r__law_leaf.ps (defScope r__law_leaf.st) := ⟨rfl, rfl, rfl, by decide +kernel, rfl, by decide +kernel, by decide +kernel⟩
theorem ck__law_stack : r__law_stack.ok T Dd = true := by decide +kernel
theorem sc__law_stack : FnScope r__law_stack.N r__law_stack.ps (defScope r__law_stack.st) := ⟨rfl, rfl, rfl, by decide +kernel, rfl, by decide +kernel, by decide +kernel⟩
theorem ck__law_whole_term : r__law_whole_term.ok T Dd = true := by decide +kernel
theorem sc__law_whole_term : FnScope r__law_whole_term.N r__law_whole_term.ps (defScope r__law_whole_term.st) := ⟨rfl, rfl, rfl, by decide +kernel, rfl, by decide +kernel, by decide +kernel⟩
theorem ck__law_alike : r__law_alike.ok T Dd = true := by decide +kernel
theorem sc__law_alike : FnScope r__law_alike.N r__law_alike.ps (defScope r__law_alike.st) := ⟨rfl, rfl, rfl, by decide +kernel, rfl, by decide +kernel, by decide +kernel⟩
theorem ck__law_written : r__law_written.ok T Dd = true := by decide +kernel
theorem sc__law_written : FnScope r__law_written.N r__law_written.ps (defScope r__law_written.st) := ⟨rfl, rfl, rfl, by decide +kernel, rfl, by decide +kernel, by decide +kernel⟩
theorem ck__law_written_saying : r__law_written_saying.ok T Dd = true := by decide +kernel
theorem sc__law_written_saying : FnScope r__law_written_saying.N r__law_written_saying.ps (defScope r__law_written_saying.st) := ⟨rfl, rfl, rfl, by decide +kernel, rfl, by decide +kernel, by decide +kernel⟩
theorem ck__law_written_rule : r__law_written_rule.ok T Dd = true := by decide +kernel
theorem sc__law_written_rule : FnScope r__law_written_rule.N r__law_written_rule.ps (defScope r__law_written_rule.st) := ⟨rfl, rfl, rfl, by decide +kernel, rfl, by decide +kernel, by decide +kernel⟩
theorem ck__law_rule : r__law_rule.ok T Dd = true := by decide +kernel
theorem sc__law_rule : FnScope r__law_rule.N r__law_rule.ps (defScope r__law_rule.st) := ⟨rfl, rfl, rfl, by decide +kernel, rfl, by decide +kernel, by decide +kernel⟩
theorem ck_law : r_law.ok T Dd = true := by decide +kernel
theorem sc_law : FnScope r_law.N r_law.ps (defScope r_law.st) := ⟨rfl, rfl, rfl, by decide +kernel, rfl, by decide +kernel, by decide +kernel⟩
theorem top_mk {K : PySem.W.Frag} {h : Heap} {mg : Str → Option Value} (X : K.In h) (G : h.Ns mainGlobals mg)
    {f0 : Addr} {od0 an0 : Option Addr} {sl0 : Array (Option Value)} {oc0 kV0 dc0 pm0 cd0 ct0 : Value}
    (a0 : PySem.W.nsIn K mainGlobals "is_name" = some (some (.ref f0))) (l0 : K.lookup f0 = some ⟨oc0, od0, .func (PySem.W.fnOf "is_name" "is_name" (defArgs r_is_name.st) (defBody r_is_name.st) (defScope r_is_name.st) .none kV0 dc0 pm0 an0 cd0 ct0), sl0⟩) (c0 : PySem.W.codeIn K cd0 "is_name" = true) (k0 : PySem.W.keepIn K (.ref f0) = true)
    {f1 : Addr} {od1 an1 : Option Addr} {sl1 : Array (Option Value)} {oc1 kV1 dc1 pm1 cd1 ct1 : Value}
    (a1 : PySem.W.nsIn K mainGlobals "is_leaf" = some (some (.ref f1))) (l1 : K.lookup f1 = some ⟨oc1, od1, .func (PySem.W.fnOf "is_leaf" "is_leaf" (defArgs r_is_leaf.st) (defBody r_is_leaf.st) (defScope r_is_leaf.st) .none kV1 dc1 pm1 an1 cd1 ct1), sl1⟩) (c1 : PySem.W.codeIn K cd1 "is_leaf" = true) (k1 : PySem.W.keepIn K (.ref f1) = true)
    {f2 : Addr} {od2 an2 : Option Addr} {sl2 : Array (Option Value)} {oc2 kV2 dc2 pm2 cd2 ct2 : Value}
    (a2 : PySem.W.nsIn K mainGlobals "leaves" = some (some (.ref f2))) (l2 : K.lookup f2 = some ⟨oc2, od2, .func (PySem.W.fnOf "leaves" "leaves" (defArgs r_leaves.st) (defBody r_leaves.st) (defScope r_leaves.st) .none kV2 dc2 pm2 an2 cd2 ct2), sl2⟩) (c2 : PySem.W.codeIn K cd2 "leaves" = true) (k2 : PySem.W.keepIn K (.ref f2) = true)
    {f3 : Addr} {od3 an3 : Option Addr} {sl3 : Array (Option Value)} {oc3 kV3 dc3 pm3 cd3 ct3 : Value}
    (a3 : PySem.W.nsIn K mainGlobals "shown" = some (some (.ref f3))) (l3 : K.lookup f3 = some ⟨oc3, od3, .func (PySem.W.fnOf "shown" "shown" (defArgs r_shown.st) (defBody r_shown.st) (defScope r_shown.st) .none kV3 dc3 pm3 an3 cd3 ct3), sl3⟩) (c3 : PySem.W.codeIn K cd3 "shown" = true) (k3 : PySem.W.keepIn K (.ref f3) = true)
    {f4 : Addr} {od4 an4 : Option Addr} {sl4 : Array (Option Value)} {oc4 kV4 dc4 pm4 cd4 ct4 : Value}
    (a4 : PySem.W.nsIn K mainGlobals "shown_saying" = some (some (.ref f4))) (l4 : K.lookup f4 = some ⟨oc4, od4, .func (PySem.W.fnOf "shown_saying" "shown_saying" (defArgs r_shown_saying.st) (defBody r_shown_saying.st) (defScope r_shown_saying.st) .none kV4 dc4 pm4 an4 cd4 ct4), sl4⟩) (c4 : PySem.W.codeIn K cd4 "shown_saying" = true) (k4 : PySem.W.keepIn K (.ref f4) = true)
    {f5 : Addr} {od5 an5 : Option Addr} {sl5 : Array (Option Value)} {oc5 kV5 dc5 pm5 cd5 ct5 : Value}
    (a5 : PySem.W.nsIn K mainGlobals "shown_rule" = some (some (.ref f5))) (l5 : K.lookup f5 = some ⟨oc5, od5, .func (PySem.W.fnOf "shown_rule" "shown_rule" (defArgs r_shown_rule.st) (defBody r_shown_rule.st) (defScope r_shown_rule.st) .none kV5 dc5 pm5 an5 cd5 ct5), sl5⟩) (c5 : PySem.W.codeIn K cd5 "shown_rule" = true) (k5 : PySem.W.keepIn K (.ref f5) = true)
    {f6 : Addr} {od6 an6 : Option Addr} {sl6 : Array (Option Value)} {oc6 kV6 dc6 pm6 cd6 ct6 : Value}
    (a6 : PySem.W.nsIn K mainGlobals "word_at" = some (some (.ref f6))) (l6 : K.lookup f6 = some ⟨oc6, od6, .func (PySem.W.fnOf "word_at" "word_at" (defArgs r_word_at.st) (defBody r_word_at.st) (defScope r_word_at.st) .none kV6 dc6 pm6 an6 cd6 ct6), sl6⟩) (c6 : PySem.W.codeIn K cd6 "word_at" = true) (k6 : PySem.W.keepIn K (.ref f6) = true)
    {f7 : Addr} {od7 an7 : Option Addr} {sl7 : Array (Option Value)} {oc7 kV7 dc7 pm7 cd7 ct7 : Value}
    (a7 : PySem.W.nsIn K mainGlobals "parts_at" = some (some (.ref f7))) (l7 : K.lookup f7 = some ⟨oc7, od7, .func (PySem.W.fnOf "parts_at" "parts_at" (defArgs r_parts_at.st) (defBody r_parts_at.st) (defScope r_parts_at.st) .none kV7 dc7 pm7 an7 cd7 ct7), sl7⟩) (c7 : PySem.W.codeIn K cd7 "parts_at" = true) (k7 : PySem.W.keepIn K (.ref f7) = true)
    {f8 : Addr} {od8 an8 : Option Addr} {sl8 : Array (Option Value)} {oc8 kV8 dc8 pm8 cd8 ct8 : Value}
    (a8 : PySem.W.nsIn K mainGlobals "term_at" = some (some (.ref f8))) (l8 : K.lookup f8 = some ⟨oc8, od8, .func (PySem.W.fnOf "term_at" "term_at" (defArgs r_term_at.st) (defBody r_term_at.st) (defScope r_term_at.st) .none kV8 dc8 pm8 an8 cd8 ct8), sl8⟩) (c8 : PySem.W.codeIn K cd8 "term_at" = true) (k8 : PySem.W.keepIn K (.ref f8) = true)
    {f9 : Addr} {od9 an9 : Option Addr} {sl9 : Array (Option Value)} {oc9 kV9 dc9 pm9 cd9 ct9 : Value}
    (a9 : PySem.W.nsIn K mainGlobals "read" = some (some (.ref f9))) (l9 : K.lookup f9 = some ⟨oc9, od9, .func (PySem.W.fnOf "read" "read" (defArgs r_read.st) (defBody r_read.st) (defScope r_read.st) .none kV9 dc9 pm9 an9 cd9 ct9), sl9⟩) (c9 : PySem.W.codeIn K cd9 "read" = true) (k9 : PySem.W.keepIn K (.ref f9) = true)
    {f10 : Addr} {od10 an10 : Option Addr} {sl10 : Array (Option Value)} {oc10 kV10 dc10 pm10 cd10 ct10 : Value}
    (a10 : PySem.W.nsIn K mainGlobals "read_saying" = some (some (.ref f10))) (l10 : K.lookup f10 = some ⟨oc10, od10, .func (PySem.W.fnOf "read_saying" "read_saying" (defArgs r_read_saying.st) (defBody r_read_saying.st) (defScope r_read_saying.st) .none kV10 dc10 pm10 an10 cd10 ct10), sl10⟩) (c10 : PySem.W.codeIn K cd10 "read_saying" = true) (k10 : PySem.W.keepIn K (.ref f10) = true)
    {f11 : Addr} {od11 an11 : Option Addr} {sl11 : Array (Option Value)} {oc11 kV11 dc11 pm11 cd11 ct11 : Value}
    (a11 : PySem.W.nsIn K mainGlobals "read_rule" = some (some (.ref f11))) (l11 : K.lookup f11 = some ⟨oc11, od11, .func (PySem.W.fnOf "read_rule" "read_rule" (defArgs r_read_rule.st) (defBody r_read_rule.st) (defScope r_read_rule.st) .none kV11 dc11 pm11 an11 cd11 ct11), sl11⟩) (c11 : PySem.W.codeIn K cd11 "read_rule" = true) (k11 : PySem.W.keepIn K (.ref f11) = true)
    {f12 : Addr} {od12 an12 : Option Addr} {sl12 : Array (Option Value)} {oc12 kV12 dc12 pm12 cd12 ct12 : Value}
    (a12 : PySem.W.nsIn K mainGlobals "_law_cell_at" = some (some (.ref f12))) (l12 : K.lookup f12 = some ⟨oc12, od12, .func (PySem.W.fnOf "_law_cell_at" "_law_cell_at" (defArgs r__law_cell_at.st) (defBody r__law_cell_at.st) (defScope r__law_cell_at.st) .none kV12 dc12 pm12 an12 cd12 ct12), sl12⟩) (c12 : PySem.W.codeIn K cd12 "_law_cell_at" = true) (k12 : PySem.W.keepIn K (.ref f12) = true)
    {f13 : Addr} {od13 an13 : Option Addr} {sl13 : Array (Option Value)} {oc13 kV13 dc13 pm13 cd13 ct13 : Value}
    (a13 : PySem.W.nsIn K mainGlobals "_law_name_by" = some (some (.ref f13))) (l13 : K.lookup f13 = some ⟨oc13, od13, .func (PySem.W.fnOf "_law_name_by" "_law_name_by" (defArgs r__law_name_by.st) (defBody r__law_name_by.st) (defScope r__law_name_by.st) .none kV13 dc13 pm13 an13 cd13 ct13), sl13⟩) (c13 : PySem.W.codeIn K cd13 "_law_name_by" = true) (k13 : PySem.W.keepIn K (.ref f13) = true)
    {f14 : Addr} {od14 an14 : Option Addr} {sl14 : Array (Option Value)} {oc14 kV14 dc14 pm14 cd14 ct14 : Value}
    (a14 : PySem.W.nsIn K mainGlobals "_law_pool" = some (some (.ref f14))) (l14 : K.lookup f14 = some ⟨oc14, od14, .func (PySem.W.fnOf "_law_pool" "_law_pool" (defArgs r__law_pool.st) (defBody r__law_pool.st) (defScope r__law_pool.st) .none kV14 dc14 pm14 an14 cd14 ct14), sl14⟩) (c14 : PySem.W.codeIn K cd14 "_law_pool" = true) (k14 : PySem.W.keepIn K (.ref f14) = true)
    {f15 : Addr} {od15 an15 : Option Addr} {sl15 : Array (Option Value)} {oc15 kV15 dc15 pm15 cd15 ct15 : Value}
    (a15 : PySem.W.nsIn K mainGlobals "_law_leaf" = some (some (.ref f15))) (l15 : K.lookup f15 = some ⟨oc15, od15, .func (PySem.W.fnOf "_law_leaf" "_law_leaf" (defArgs r__law_leaf.st) (defBody r__law_leaf.st) (defScope r__law_leaf.st) .none kV15 dc15 pm15 an15 cd15 ct15), sl15⟩) (c15 : PySem.W.codeIn K cd15 "_law_leaf" = true) (k15 : PySem.W.keepIn K (.ref f15) = true)
    {f16 : Addr} {od16 an16 : Option Addr} {sl16 : Array (Option Value)} {oc16 kV16 dc16 pm16 cd16 ct16 : Value}
    (a16 : PySem.W.nsIn K mainGlobals "_law_stack" = some (some (.ref f16))) (l16 : K.lookup f16 = some ⟨oc16, od16, .func (PySem.W.fnOf "_law_stack" "_law_stack" (defArgs r__law_stack.st) (defBody r__law_stack.st) (defScope r__law_stack.st) .none kV16 dc16 pm16 an16 cd16 ct16), sl16⟩) (c16 : PySem.W.codeIn K cd16 "_law_stack" = true) (k16 : PySem.W.keepIn K (.ref f16) = true)
    {f17 : Addr} {od17 an17 : Option Addr} {sl17 : Array (Option Value)} {oc17 kV17 dc17 pm17 cd17 ct17 : Value}
    (a17 : PySem.W.nsIn K mainGlobals "_law_whole_term" = some (some (.ref f17))) (l17 : K.lookup f17 = some ⟨oc17, od17, .func (PySem.W.fnOf "_law_whole_term" "_law_whole_term" (defArgs r__law_whole_term.st) (defBody r__law_whole_term.st) (defScope r__law_whole_term.st) .none kV17 dc17 pm17 an17 cd17 ct17), sl17⟩) (c17 : PySem.W.codeIn K cd17 "_law_whole_term" = true) (k17 : PySem.W.keepIn K (.ref f17) = true)
    {f18 : Addr} {od18 an18 : Option Addr} {sl18 : Array (Option Value)} {oc18 kV18 dc18 pm18 cd18 ct18 : Value}
    (a18 : PySem.W.nsIn K mainGlobals "_law_alike" = some (some (.ref f18))) (l18 : K.lookup f18 = some ⟨oc18, od18, .func (PySem.W.fnOf "_law_alike" "_law_alike" (defArgs r__law_alike.st) (defBody r__law_alike.st) (defScope r__law_alike.st) .none kV18 dc18 pm18 an18 cd18 ct18), sl18⟩) (c18 : PySem.W.codeIn K cd18 "_law_alike" = true) (k18 : PySem.W.keepIn K (.ref f18) = true)
    {f19 : Addr} {od19 an19 : Option Addr} {sl19 : Array (Option Value)} {oc19 kV19 dc19 pm19 cd19 ct19 : Value}
    (a19 : PySem.W.nsIn K mainGlobals "_law_written" = some (some (.ref f19))) (l19 : K.lookup f19 = some ⟨oc19, od19, .func (PySem.W.fnOf "_law_written" "_law_written" (defArgs r__law_written.st) (defBody r__law_written.st) (defScope r__law_written.st) .none kV19 dc19 pm19 an19 cd19 ct19), sl19⟩) (c19 : PySem.W.codeIn K cd19 "_law_written" = true) (k19 : PySem.W.keepIn K (.ref f19) = true)
    {f20 : Addr} {od20 an20 : Option Addr} {sl20 : Array (Option Value)} {oc20 kV20 dc20 pm20 cd20 ct20 : Value}
    (a20 : PySem.W.nsIn K mainGlobals "_law_written_saying" = some (some (.ref f20))) (l20 : K.lookup f20 = some ⟨oc20, od20, .func (PySem.W.fnOf "_law_written_saying" "_law_written_saying" (defArgs r__law_written_saying.st) (defBody r__law_written_saying.st) (defScope r__law_written_saying.st) .none kV20 dc20 pm20 an20 cd20 ct20), sl20⟩) (c20 : PySem.W.codeIn K cd20 "_law_written_saying" = true) (k20 : PySem.W.keepIn K (.ref f20) = true)
    {f21 : Addr} {od21 an21 : Option Addr} {sl21 : Array (Option Value)} {oc21 kV21 dc21 pm21 cd21 ct21 : Value}
    (a21 : PySem.W.nsIn K mainGlobals "_law_written_rule" = some (some (.ref f21))) (l21 : K.lookup f21 = some ⟨oc21, od21, .func (PySem.W.fnOf "_law_written_rule" "_law_written_rule" (defArgs r__law_written_rule.st) (defBody r__law_written_rule.st) (defScope r__law_written_rule.st) .none kV21 dc21 pm21 an21 cd21 ct21), sl21⟩) (c21 : PySem.W.codeIn K cd21 "_law_written_rule" = true) (k21 : PySem.W.keepIn K (.ref f21) = true)
    {f22 : Addr} {od22 an22 : Option Addr} {sl22 : Array (Option Value)} {oc22 kV22 dc22 pm22 cd22 ct22 : Value}
    (a22 : PySem.W.nsIn K mainGlobals "_law_rule" = some (some (.ref f22))) (l22 : K.lookup f22 = some ⟨oc22, od22, .func (PySem.W.fnOf "_law_rule" "_law_rule" (defArgs r__law_rule.st) (defBody r__law_rule.st) (defScope r__law_rule.st) .none kV22 dc22 pm22 an22 cd22 ct22), sl22⟩) (c22 : PySem.W.codeIn K cd22 "_law_rule" = true) (k22 : PySem.W.keepIn K (.ref f22) = true)
    {f23 : Addr} {od23 an23 : Option Addr} {sl23 : Array (Option Value)} {oc23 kV23 dc23 pm23 cd23 ct23 : Value}
    (a23 : PySem.W.nsIn K mainGlobals "law" = some (some (.ref f23))) (l23 : K.lookup f23 = some ⟨oc23, od23, .func (PySem.W.fnOf "law" "law" (defArgs r_law.st) (defBody r_law.st) (defScope r_law.st) .none kV23 dc23 pm23 an23 cd23 ct23), sl23⟩) (c23 : PySem.W.codeIn K cd23 "law" = true) (k23 : PySem.W.keepIn K (.ref f23) = true)
    (z_len : PySem.W.nsIn K mainGlobals "len" = some none)
    (z_list : PySem.W.nsIn K mainGlobals "list" = some none)
    (z_tuple : PySem.W.nsIn K mainGlobals "tuple" = some none)
    (z_sorted : PySem.W.nsIn K mainGlobals "sorted" = some none)
    (z_int : PySem.W.nsIn K mainGlobals "int" = some none)
    (z_str : PySem.W.nsIn K mainGlobals "str" = some none)
    (z_min : PySem.W.nsIn K mainGlobals "min" = some none)
    (z_max : PySem.W.nsIn K mainGlobals "max" = some none)
    (z_sum : PySem.W.nsIn K mainGlobals "sum" = some none)
    (z_any : PySem.W.nsIn K mainGlobals "any" = some none)
    (z_all : PySem.W.nsIn K mainGlobals "all" = some none)
    (z_isinstance : PySem.W.nsIn K mainGlobals "isinstance" = some none)
    (z_bool : PySem.W.nsIn K mainGlobals "bool" = some none)
    (z_range : PySem.W.nsIn K mainGlobals "range" = some none)
    (z_enumerate : PySem.W.nsIn K mainGlobals "enumerate" = some none)
    (z_zip : PySem.W.nsIn K mainGlobals "zip" = some none)
    (z_reversed : PySem.W.nsIn K mainGlobals "reversed" = some none)
    (z_set : PySem.W.nsIn K mainGlobals "set" = some none)
    {t0 : Tok} (g0 : PySem.W.nsIn K mainGlobals "DEEPEST" = some (some (.int 20 t0)))
    {t1 : Tok} (g1 : PySem.W.nsIn K mainGlobals "LONGEST" = some (some (.int 8 t1)))
    {t2 : Tok} (g2 : PySem.W.nsIn K mainGlobals "MOST_LEAVES" = some (some (.int 60 t2)))
    {t3 : Tok} (g3 : PySem.W.nsIn K mainGlobals "MOST_PREMISES" = some (some (.int 5 t3)))
    {t4 : Tok} (g4 : PySem.W.nsIn K mainGlobals "SHORTEST" = some (some (.int 1 t4)))
    (eN : PySem.W.specialIn K (.builtin "object.__class__") "__get__" = some (some (.builtin "getset_descriptor.__get__"))) (eT : PySem.W.takesIn K (.builtin "object.__class__") = some true)
    {E_NoText : Addr} (eg_NoText : PySem.W.nsIn K mainGlobals "NoText" = some (some (.ref E_NoText)))
    (ex_NoText : PySem.W.excIn K E_NoText [.type "ValueError", .type "Exception", .type "BaseException", .type "object"] "ValueError.__new__" = true) (ek_NoText : PySem.W.keepIn K (.ref E_NoText) = true) (eb_NoText : PySem.W.subIn K (.ref E_NoText) (.type "BaseException") = some true) (et_NoText : PySem.W.typeIn K (.ref E_NoText) = some (.type "type"))
    (ed_NoText : PySem.W.hasDictIn K E_NoText = true) (ea_NoText : PySem.W.findIn K (.ref E_NoText) "__getattribute__" = some (some (.builtin "BaseException.__getattribute__"))) (ef_NoText : PySem.W.findIn K (.ref E_NoText) "__getattr__" = some none) (ec_NoText : PySem.W.findIn K (.ref E_NoText) "__class__" = some (some (.builtin "object.__class__"))) (em_NoText : PySem.W.mroIn K E_NoText (.type "object") = some true) : Top T Dd Rs K mg (xvOf T.xs K) := by
  refine ⟨fun g x hx => ?_, fun r hr => ?_, fun r hr => ?_, fun x hx => ?_, fun _ => rfl, fun x d hx => ?_, fun k x hx => ?_, fun cc g hx => ?_, fun cc g m hx => ?_, ⟨fun k y hx => ?_, fun x ks hx => ?_, fun x ks hx => ?_⟩⟩
  · simp only [T, List.lookup] at hx
    repeat' split at hx
    all_goals first | (cases hx; done) | (cases hx; rename_i q; have q := beq_iff_eq.mp q; subst q; simp only [Rs, List.mem_cons]; first | exact ⟨r_is_name, by simp, rfl, rfl, rfl⟩ | exact ⟨r_is_leaf, by simp, rfl, rfl, rfl⟩ | exact ⟨r_leaves, by simp, rfl, rfl, rfl⟩ | exact ⟨r_shown, by simp, rfl, rfl, rfl⟩ | exact ⟨r_shown_saying, by simp, rfl, rfl, rfl⟩ | exact ⟨r_shown_rule, by simp, rfl, rfl, rfl⟩ | exact ⟨r_word_at, by simp, rfl, rfl, rfl⟩ | exact ⟨r_parts_at, by simp, rfl, rfl, rfl⟩ | exact ⟨r_term_at, by simp, rfl, rfl, rfl⟩ | exact ⟨r_read, by simp, rfl, rfl, rfl⟩ | exact ⟨r_read_saying, by simp, rfl, rfl, rfl⟩ | exact ⟨r_read_rule, by simp, rfl, rfl, rfl⟩ | exact ⟨r__law_cell_at, by simp, rfl, rfl, rfl⟩ | exact ⟨r__law_name_by, by simp, rfl, rfl, rfl⟩ | exact ⟨r__law_pool, by simp, rfl, rfl, rfl⟩ | exact ⟨r__law_leaf, by simp, rfl, rfl, rfl⟩ | exact ⟨r__law_stack, by simp, rfl, rfl, rfl⟩ | exact ⟨r__law_whole_term, by simp, rfl, rfl, rfl⟩ | exact ⟨r__law_alike, by simp, rfl, rfl, rfl⟩ | exact ⟨r__law_written, by simp, rfl, rfl, rfl⟩ | exact ⟨r__law_written_saying, by simp, rfl, rfl, rfl⟩ | exact ⟨r__law_written_rule, by simp, rfl, rfl, rfl⟩ | exact ⟨r__law_rule, by simp, rfl, rfl, rfl⟩ | exact ⟨r_law, by simp, rfl, rfl, rfl⟩)
  · simp only [Rs, List.mem_cons, List.not_mem_nil, or_false] at hr
    rcases hr with rfl | rfl | rfl | rfl | rfl | rfl | rfl | rfl | rfl | rfl | rfl | rfl | rfl | rfl | rfl | rfl | rfl | rfl | rfl | rfl | rfl | rfl | rfl | rfl
    · exact ⟨⟨f0, _, PySem.W.mg_of X G a0, fun_mk (st := r_is_name.st) l0 c0 k0, fun us hl => match us, hl with | [_], _ => rfl⟩, sc_is_name⟩
    · exact ⟨⟨f1, _, PySem.W.mg_of X G a1, fun_mk (st := r_is_leaf.st) l1 c1 k1, fun us hl => match us, hl with | [_], _ => rfl⟩, sc_is_leaf⟩
    · exact ⟨⟨f2, _, PySem.W.mg_of X G a2, fun_mk (st := r_leaves.st) l2 c2 k2, fun us hl => match us, hl with | [_], _ => rfl⟩, sc_leaves⟩
    · exact ⟨⟨f3, _, PySem.W.mg_of X G a3, fun_mk (st := r_shown.st) l3 c3 k3, fun us hl => match us, hl with | [_], _ => rfl⟩, sc_shown⟩
    · exact ⟨⟨f4, _, PySem.W.mg_of X G a4, fun_mk (st := r_shown_saying.st) l4 c4 k4, fun us hl => match us, hl with | [_], _ => rfl⟩, sc_shown_saying⟩
    · exact ⟨⟨f5, _, PySem.W.mg_of X G a5, fun_mk (st := r_shown_rule.st) l5 c5 k5, fun us hl => match us, hl with | [_], _ => rfl⟩, sc_shown_rule⟩
    · exact ⟨⟨f6, _, PySem.W.mg_of X G a6, fun_mk (st := r_word_at.st) l6 c6 k6, fun us hl => match us, hl with | [_, _], _ => rfl⟩, sc_word_at⟩
    · exact ⟨⟨f7, _, PySem.W.mg_of X G a7, fun_mk (st := r_parts_at.st) l7 c7 k7, fun us hl => match us, hl with | [_, _, _], _ => rfl⟩, sc_parts_at⟩
    · exact ⟨⟨f8, _, PySem.W.mg_of X G a8, fun_mk (st := r_term_at.st) l8 c8 k8, fun us hl => match us, hl with | [_, _, _], _ => rfl⟩, sc_term_at⟩
    · exact ⟨⟨f9, _, PySem.W.mg_of X G a9, fun_mk (st := r_read.st) l9 c9 k9, fun us hl => match us, hl with | [_], _ => rfl⟩, sc_read⟩
    · exact ⟨⟨f10, _, PySem.W.mg_of X G a10, fun_mk (st := r_read_saying.st) l10 c10 k10, fun us hl => match us, hl with | [_], _ => rfl⟩, sc_read_saying⟩
    · exact ⟨⟨f11, _, PySem.W.mg_of X G a11, fun_mk (st := r_read_rule.st) l11 c11 k11, fun us hl => match us, hl with | [_], _ => rfl⟩, sc_read_rule⟩
    · exact ⟨⟨f12, _, PySem.W.mg_of X G a12, fun_mk (st := r__law_cell_at.st) l12 c12 k12, fun us hl => match us, hl with | [_, _], _ => rfl⟩, sc__law_cell_at⟩
    · exact ⟨⟨f13, _, PySem.W.mg_of X G a13, fun_mk (st := r__law_name_by.st) l13 c13 k13, fun us hl => match us, hl with | [_, _], _ => rfl⟩, sc__law_name_by⟩
    · exact ⟨⟨f14, _, PySem.W.mg_of X G a14, fun_mk (st := r__law_pool.st) l14 c14 k14, fun us hl => match us, hl with | [_], _ => rfl⟩, sc__law_pool⟩
    · exact ⟨⟨f15, _, PySem.W.mg_of X G a15, fun_mk (st := r__law_leaf.st) l15 c15 k15, fun us hl => match us, hl with | [_, _], _ => rfl⟩, sc__law_leaf⟩
    · exact ⟨⟨f16, _, PySem.W.mg_of X G a16, fun_mk (st := r__law_stack.st) l16 c16 k16, fun us hl => match us, hl with | [_, _], _ => rfl⟩, sc__law_stack⟩
    · exact ⟨⟨f17, _, PySem.W.mg_of X G a17, fun_mk (st := r__law_whole_term.st) l17 c17 k17, fun us hl => match us, hl with | [_], _ => rfl⟩, sc__law_whole_term⟩
    · exact ⟨⟨f18, _, PySem.W.mg_of X G a18, fun_mk (st := r__law_alike.st) l18 c18 k18, fun us hl => match us, hl with | [_, _], _ => rfl⟩, sc__law_alike⟩
    · exact ⟨⟨f19, _, PySem.W.mg_of X G a19, fun_mk (st := r__law_written.st) l19 c19 k19, fun us hl => match us, hl with | [_], _ => rfl⟩, sc__law_written⟩
    · exact ⟨⟨f20, _, PySem.W.mg_of X G a20, fun_mk (st := r__law_written_saying.st) l20 c20 k20, fun us hl => match us, hl with | [_], _ => rfl⟩, sc__law_written_saying⟩
    · exact ⟨⟨f21, _, PySem.W.mg_of X G a21, fun_mk (st := r__law_written_rule.st) l21 c21 k21, fun us hl => match us, hl with | [_], _ => rfl⟩, sc__law_written_rule⟩
    · exact ⟨⟨f22, _, PySem.W.mg_of X G a22, fun_mk (st := r__law_rule.st) l22 c22 k22, fun us hl => match us, hl with | [_, _, _], _ => rfl⟩, sc__law_rule⟩
    · exact ⟨⟨f23, _, PySem.W.mg_of X G a23, fun_mk (st := r_law.st) l23 c23 k23, fun us hl => match us, hl with | [_], _ => rfl⟩, sc_law⟩
  · simp only [Rs, List.mem_cons, List.not_mem_nil, or_false] at hr
    rcases hr with rfl | rfl | rfl | rfl | rfl | rfl | rfl | rfl | rfl | rfl | rfl | rfl | rfl | rfl | rfl | rfl | rfl | rfl | rfl | rfl | rfl | rfl | rfl | rfl
    · exact ck_is_name
    · exact ck_is_leaf
    · exact ck_leaves
    · exact ck_shown
    · exact ck_shown_saying
    · exact ck_shown_rule
    · exact ck_word_at
    · exact ck_parts_at
    · exact ck_term_at
    · exact ck_read
    · exact ck_read_saying
    · exact ck_read_rule
    · exact ck__law_cell_at
    · exact ck__law_name_by
    · exact ck__law_pool
    · exact ck__law_leaf
    · exact ck__law_stack
    · exact ck__law_whole_term
    · exact ck__law_alike
    · exact ck__law_written
    · exact ck__law_written_saying
    · exact ck__law_written_rule
    · exact ck__law_rule
    · exact ck_law
  · simp only [bltNames, List.mem_cons, List.not_mem_nil, or_false] at hx
    rcases hx with rfl | rfl | rfl | rfl | rfl | rfl | rfl | rfl | rfl | rfl | rfl | rfl | rfl | rfl | rfl | rfl | rfl | rfl
    · exact PySem.W.mg_none_of X G z_len
    · exact PySem.W.mg_none_of X G z_list
    · exact PySem.W.mg_none_of X G z_tuple
    · exact PySem.W.mg_none_of X G z_sorted
    · exact PySem.W.mg_none_of X G z_int
    · exact PySem.W.mg_none_of X G z_str
    · exact PySem.W.mg_none_of X G z_min
    · exact PySem.W.mg_none_of X G z_max
    · exact PySem.W.mg_none_of X G z_sum
    · exact PySem.W.mg_none_of X G z_any
    · exact PySem.W.mg_none_of X G z_all
    · exact PySem.W.mg_none_of X G z_isinstance
    · exact PySem.W.mg_none_of X G z_bool
    · exact PySem.W.mg_none_of X G z_range
    · exact PySem.W.mg_none_of X G z_enumerate
    · exact PySem.W.mg_none_of X G z_zip
    · exact PySem.W.mg_none_of X G z_reversed
    · exact PySem.W.mg_none_of X G z_set
  · simp only [T, List.mem_cons, List.not_mem_nil, or_false, Prod.mk.injEq] at hx
    rcases hx with ⟨rfl, rfl⟩ | ⟨rfl, rfl⟩ | ⟨rfl, rfl⟩ | ⟨rfl, rfl⟩ | ⟨rfl, rfl⟩
    · exact ⟨_, .int 20, PySem.W.mg_of X G g0, ⟨_, rfl⟩, fun _ => .int _⟩
    · exact ⟨_, .int 8, PySem.W.mg_of X G g1, ⟨_, rfl⟩, fun _ => .int _⟩
    · exact ⟨_, .int 60, PySem.W.mg_of X G g2, ⟨_, rfl⟩, fun _ => .int _⟩
    · exact ⟨_, .int 5, PySem.W.mg_of X G g3, ⟨_, rfl⟩, fun _ => .int _⟩
    · exact ⟨_, .int 1, PySem.W.mg_of X G g4, ⟨_, rfl⟩, fun _ => .int _⟩
  · obtain h := xs_mem hx
    simp only [T, List.mem_cons, List.not_mem_nil, or_false, Prod.mk.injEq] at h
    rcases h with ⟨rfl, rfl⟩
    · exact ⟨E_NoText, _, _, _, _, PySem.F.excBase_ValueError, ex_NoText, PySem.W.mg_of X G eg_NoText, ek_NoText, fun X e => raises_own (by rw [e]; exact eb_NoText) (by rw [e]; exact et_NoText), xv_at hx eg_NoText⟩
  · simp only [T, List.mem_cons, List.not_mem_nil, or_false, Prod.mk.injEq] at hx
  · simp only [T, List.mem_cons, List.not_mem_nil, or_false, Prod.mk.injEq] at hx
  · obtain h := xs_mem hx
    simp only [T, List.mem_cons, List.not_mem_nil, or_false, Prod.mk.injEq] at h
    rcases h with ⟨rfl, rfl⟩
    · exact ⟨E_NoText, xv_at hx eg_NoText, ⟨ea_NoText, ef_NoText, eb_NoText, ed_NoText, ec_NoText, eN, eT, em_NoText⟩⟩
  · obtain h := List.contains_iff_mem.mp hx
    simp only [T, List.mem_cons, List.not_mem_nil, or_false, Prod.mk.injEq] at h
  · obtain h := List.contains_iff_mem.mp hx
    simp only [T, List.mem_cons, List.not_mem_nil, or_false, Prod.mk.injEq] at h
end K06
theorem K06.walk {q : PySem.Program} {loose : List PySem.Str} {XP : (PySem.Str → Option PySem.Value) → PySem.Heap → Prop} {YP : PySem.World → PySem.Heap → Prop} {d : PySem.DefRec} {K : PySem.Params → PySem.W.Frag} (hd : d.name = "law") (hdf : d.params.defaults = [])
    (hY : ∀ (w : PySem.World) (h : PySem.Heap), YP w h → (K w.params).In h)
    (F : ∀ (w : PySem.World) (mg : PySem.Str → Option PySem.Value) (h : PySem.Heap), (K w.params).In h → h.Ns PySem.mainGlobals mg → PV.Top K06.T K06.Dd K06.Rs (K w.params) mg (PV.xvOf K06.T.xs (K w.params))) :
    PySem.W.WalkO q loose XP YP (PySem.Challenge.rw_clashbook_k06_read_there_and_back).row.toRowW d [] (fun f vs => PySem.call f vs) :=
  PV.walk (PV.xvOf K06.T.xs) K06.fuel K06.deep K06.r_law (by simp [K06.Rs]) rfl rfl rfl K06.says ⟨rfl, by decide, by decide⟩ rfl hdf hd hY F
open PySem PySem.W PyProof.Rows
set_option maxRecDepth 100000 in
set_option maxHeartbeats 0 in
theorem PySem.Challenge.cw_clashbook_k06_read_there_and_back_holds : PySem.Challenge.rw_clashbook_k06_read_there_and_back.Holds := by
  w_on; o_law; k_head; (case hw => w_witness2)
  k_fill
  refine K06.walk rfl rfl (fun w h Y => PySem.W.kIn_of Y) ?F
  case F =>
    intro w mg h KX G
    refine' K06.top_mk KX G ?qa0 ?ql0 ?qc0 ?qk0 ?qa1 ?ql1 ?qc1 ?qk1 ?qa2 ?ql2 ?qc2 ?qk2 ?qa3 ?ql3 ?qc3 ?qk3 ?qa4 ?ql4 ?qc4 ?qk4 ?qa5 ?ql5 ?qc5 ?qk5 ?qa6 ?ql6 ?qc6 ?qk6 ?qa7 ?ql7 ?qc7 ?qk7 ?qa8 ?ql8 ?qc8 ?qk8 ?qa9 ?ql9 ?qc9 ?qk9 ?qa10 ?ql10 ?qc10 ?qk10 ?qa11 ?ql11 ?qc11 ?qk11 ?qa12 ?ql12 ?qc12 ?qk12 ?qa13 ?ql13 ?qc13 ?qk13 ?qa14 ?ql14 ?qc14 ?qk14 ?qa15 ?ql15 ?qc15 ?qk15 ?qa16 ?ql16 ?qc16 ?qk16 ?qa17 ?ql17 ?qc17 ?qk17 ?qa18 ?ql18 ?qc18 ?qk18 ?qa19 ?ql19 ?qc19 ?qk19 ?qa20 ?ql20 ?qc20 ?qk20 ?qa21 ?ql21 ?qc21 ?qk21 ?qa22 ?ql22 ?qc22 ?qk22 ?qa23 ?ql23 ?qc23 ?qk23 ?qz_len ?qz_list ?qz_tuple ?qz_sorted ?qz_int ?qz_str ?qz_min ?qz_max ?qz_sum ?qz_any ?qz_all ?qz_isinstance ?qz_bool ?qz_range ?qz_enumerate ?qz_zip ?qz_reversed ?qz_set ?qg0 ?qg1 ?qg2 ?qg3 ?qg4 ?qeN ?qeT ?qeg_NoText ?qex_NoText ?qek_NoText ?qeb_NoText ?qet_NoText ?qed_NoText ?qea_NoText ?qef_NoText ?qec_NoText ?qem_NoText
    (case qa0 => k_is); (case ql0 => k_is); (case qc0 => k_is); (case qk0 => k_is); (case qa1 => k_is); (case ql1 => k_is); (case qc1 => k_is); (case qk1 => k_is); (case qa2 => k_is); (case ql2 => k_is); (case qc2 => k_is); (case qk2 => k_is); (case qa3 => k_is); (case ql3 => k_is); (case qc3 => k_is); (case qk3 => k_is); (case qa4 => k_is); (case ql4 => k_is); (case qc4 => k_is); (case qk4 => k_is); (case qa5 => k_is); (case ql5 => k_is); (case qc5 => k_is); (case qk5 => k_is); (case qa6 => k_is); (case ql6 => k_is); (case qc6 => k_is); (case qk6 => k_is); (case qa7 => k_is); (case ql7 => k_is); (case qc7 => k_is); (case qk7 => k_is); (case qa8 => k_is); (case ql8 => k_is); (case qc8 => k_is); (case qk8 => k_is); (case qa9 => k_is); (case ql9 => k_is); (case qc9 => k_is); (case qk9 => k_is); (case qa10 => k_is); (case ql10 => k_is); (case qc10 => k_is); (case qk10 => k_is); (case qa11 => k_is); (case ql11 => k_is); (case qc11 => k_is); (case qk11 => k_is); (case qa12 => k_is); (case ql12 => k_is); (case qc12 => k_is); (case qk12 => k_is); (case qa13 => k_is); (case ql13 => k_is); (case qc13 => k_is); (case qk13 => k_is); (case qa14 => k_is); (case ql14 => k_is); (case qc14 => k_is); (case qk14 => k_is); (case qa15 => k_is); (case ql15 => k_is); (case qc15 => k_is); (case qk15 => k_is); (case qa16 => k_is); (case ql16 => k_is); (case qc16 => k_is); (case qk16 => k_is); (case qa17 => k_is); (case ql17 => k_is); (case qc17 => k_is); (case qk17 => k_is); (case qa18 => k_is); (case ql18 => k_is); (case qc18 => k_is); (case qk18 => k_is); (case qa19 => k_is); (case ql19 => k_is); (case qc19 => k_is); (case qk19 => k_is); (case qa20 => k_is); (case ql20 => k_is); (case qc20 => k_is); (case qk20 => k_is); (case qa21 => k_is); (case ql21 => k_is); (case qc21 => k_is); (case qk21 => k_is); (case qa22 => k_is); (case ql22 => k_is); (case qc22 => k_is); (case qk22 => k_is); (case qa23 => k_is); (case ql23 => k_is); (case qc23 => k_is); (case qk23 => k_is); (case qz_len => k_is); (case qz_list => k_is); (case qz_tuple => k_is); (case qz_sorted => k_is); (case qz_int => k_is); (case qz_str => k_is); (case qz_min => k_is); (case qz_max => k_is); (case qz_sum => k_is); (case qz_any => k_is); (case qz_all => k_is); (case qz_isinstance => k_is); (case qz_bool => k_is); (case qz_range => k_is); (case qz_enumerate => k_is); (case qz_zip => k_is); (case qz_reversed => k_is); (case qz_set => k_is); (case qg0 => k_is); (case qg1 => k_is); (case qg2 => k_is); (case qg3 => k_is); (case qg4 => k_is); (case qeN => k_is); (case qeT => k_is); (case qeg_NoText => k_is); (case qex_NoText => k_exc); (case qek_NoText => k_is); (case qeb_NoText => k_is); (case qet_NoText => k_is); (case qed_NoText => k_is); (case qea_NoText => k_is); (case qef_NoText => k_is); (case qec_NoText => k_is); (case qem_NoText => k_is)
#print axioms PySem.Challenge.cw_clashbook_k06_read_there_and_back_holds
